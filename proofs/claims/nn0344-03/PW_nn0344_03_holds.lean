import PyProof.Rows.All
import OpenK.KLine
import KE.KBits
import OpenK.AllK
import Wide.All
import PySem.Challenge.RW_nn0344_03
set_option Elab.async false
set_option compiler.extract_closed false
-- part: the lemma
section
open PySem PySem.W PyProof.Rows PySem.Calls
set_option maxRecDepth 100000
set_option linter.all false
namespace NN
theorem leftMk {p q : Program} {loose : List Str} {Xt : Shared → Bool} {α : Type} {Yf : Shared → α} {Ya : World → α} {N : Nat} {H₀ H₁ : Params → Heap} {gs₀ gs₁ : Array GenState} {d₀ d₁ : Drawn} {k₀ k₁ : Nat} {m₀ : Nat} {ann : Option Value} {M : Nat} {S : World → OsState → Shared}
    (hS : ∀ w os, S w os = ⟨H₁ w.params, gs₁, d₁, k₁, os⟩)
    (open_ : ∀ w : World, (fencedOpening treeTable p w N).map (fun s => (s.heap, s.gens, s.drawn, s.toks)) = some (H₀ w.params, gs₀, d₀, k₀))
    (size : ∀ w : World, ((H₀ w.params).isNs mainGlobals && gs₀.size == 0, (H₀ w.params).objs.size, (H₀ w.params).nsMap mainGlobals "__annotations__") = (true, m₀, ann))
    (run : ∀ (w : World) (os : OsState), topRun treeTable p w m₀ ann M ⟨H₀ w.params, gs₀, d₀, k₀, os⟩ (topStub p) = some (S w os)) (le : Nat.ble M N = true)
    (l0 : ∀ w : World, (fun os => staticsOk (importedModules p.main.body) (H₀ w.params) (H₁ w.params) && namesBound p (H₁ w.params) && gensDone (S w os) && laidKept (H₀ w.params) (H₁ w.params)) = fun _ => true)
    (l1 : ∀ w : World, (fun os => seen ((recsOf q).map (·.name)) (ownsOf q) [] { S w os with gens := #[] }) = fun _ => expectedOf q)
    (l2 : ∀ w : World, (fun os => (S w os).heap.bltView) = fun _ => bltViewBooted)
    (l3 : ∀ w : World, (fun os => (S w os).heap.keysOk (looseW q loose) ((recsOf q).map (·.name)) ((litsOf q).map (·.1)) ((clssOf q (looseW q loose)).map (·.name)) && (S w os).heap.accountedOkI (importedModules p.main.body) && (S w os).heap.isNs mainGlobals && (S w os).heap.isNs builtinsNs && tablesOk q (S w os).heap && Xt (S w os) && (if true then (S w os).gens.size == 0 else !leftWithCleanup (S w os).gens)) = fun _ => true)
    (l4 : ∀ w : World, (fun os => tabsOk q (S w os)) = fun _ => true)
    (l5 : ∀ w : World, (fun os => pinSeenD q (drecsOf q) (S w os)) = fun _ => pinGoodD (drecsOf q))
    (l6 : ∀ w : World, (fun os => plainSeenE q (looseW q loose) (S w os)) = fun _ => plainGoodE q (looseW q loose))
    (l7 : ∀ w : World, (fun os => plainSeenD q loose (S w os)) = fun _ => plainGoodD q loose)
    (l8 : ∀ w : World, (fun os => wideSeen q (S w os)) = fun _ => wideGood q)
    (l9 : ∀ w : World, (fun os => clsSeenW q loose (S w os)) = fun _ => clsGoodW q loose)
    (l10 : ∀ w : World, (fun os => Yf (S w os)) = fun _ => Ya w) : LeftO p q loose Xt Yf Ya N :=
  LeftO.of_pieces open_ size (fun w os => (run w os).trans (congrArg some (hS w os))) le fun w => by
    funext os
    have e := hS w os
    have k0 := congrFun (l0 w) os
    have k1 := congrFun (l1 w) os
    have k2 := congrFun (l2 w) os
    have k3 := congrFun (l3 w) os
    have k4 := congrFun (l4 w) os
    have k5 := congrFun (l5 w) os
    have k6 := congrFun (l6 w) os
    have k7 := congrFun (l7 w) os
    have k8 := congrFun (l8 w) os
    have k9 := congrFun (l9 w) os
    have k10 := congrFun (l10 w) os
    rw [← e]
    exact looks_pair k0 (looks_pair (looks_pair k1 (looks_pair k2 (looks_pair k3 (looks_pair k4 (looks_pair k5 (looks_pair k6 (looks_pair k7 (looks_pair k8 k9)))))))) k10)
end NN
end

-- part: the data
section
open PySem PySem.W PyProof.Rows PySem.Calls
set_option maxRecDepth 100000
set_option linter.all false
namespace NN

noncomputable def stm (i : Nat) : Stmt := PySem.Challenge.pw_nn0344_03.main.body.getD i default
noncomputable def met (i j : Nat) : Stmt := match stm i with
  | .ClassDef _ _ _ body .. => body.getD j default
  | _ => default
noncomputable def fdOf (st : Stmt) (q : Str) (dV pm cdv : Value) : FuncData := match st with
  | .FunctionDef name args body _ _ _ scope _ _ _ => fnOf name q args body scope dV .none .none pm none cdv .none
  | _ => default
noncomputable def bodyOf (st : Stmt) : List Stmt := match st with
  | .FunctionDef _ _ body .. => body
  | _ => []
noncomputable abbrev a_mask : Addr := 73
noncomputable def st_mask : Stmt := stm 6
noncomputable def fd_mask : FuncData := fdOf st_mask (Str.ofString "mask") .none (.str (Str.ofString "gateloom.vec") 264) (.ref 72)
noncomputable def body_mask : List Stmt := bodyOf st_mask
noncomputable abbrev a_vec : Addr := 81
noncomputable def st_vec : Stmt := stm 7
noncomputable def fd_vec : FuncData := fdOf st_vec (Str.ofString "vec") (.ref 74) (.str (Str.ofString "gateloom.vec") 264) (.ref 80)
noncomputable def body_vec : List Stmt := bodyOf st_vec
noncomputable abbrev a_all_x : Addr := 95
noncomputable def st_all_x : Stmt := stm 9
noncomputable def fd_all_x : FuncData := fdOf st_all_x (Str.ofString "all_x") .none (.str (Str.ofString "gateloom.vec") 264) (.ref 94)
noncomputable def body_all_x : List Stmt := bodyOf st_all_x
noncomputable abbrev a_from_int : Addr := 109
noncomputable def st_from_int : Stmt := stm 11
noncomputable def fd_from_int : FuncData := fdOf st_from_int (Str.ofString "from_int") .none (.str (Str.ofString "gateloom.vec") 264) (.ref 108)
noncomputable def body_from_int : List Stmt := bodyOf st_from_int
noncomputable abbrev a_to_int : Addr := 123
noncomputable def st_to_int : Stmt := stm 13
noncomputable def fd_to_int : FuncData := fdOf st_to_int (Str.ofString "to_int") .none (.str (Str.ofString "gateloom.vec") 264) (.ref 122)
noncomputable def body_to_int : List Stmt := bodyOf st_to_int
noncomputable abbrev a_code : Addr := 130
noncomputable def st_code : Stmt := stm 14
noncomputable def fd_code : FuncData := fdOf st_code (Str.ofString "code") .none (.str (Str.ofString "gateloom.vec") 264) (.ref 129)
noncomputable def body_code : List Stmt := bodyOf st_code
noncomputable abbrev a_extend : Addr := 158
noncomputable def st_extend : Stmt := stm 18
noncomputable def fd_extend : FuncData := fdOf st_extend (Str.ofString "extend") .none (.str (Str.ofString "gateloom.vec") 264) (.ref 157)
noncomputable def body_extend : List Stmt := bodyOf st_extend
noncomputable abbrev a_whole_of : Addr := 480
noncomputable def st_whole_of : Stmt := stm 67
noncomputable def fd_whole_of : FuncData := fdOf st_whole_of (Str.ofString "whole_of") .none (.str (Str.ofString "gateloom.evaluate") 775) (.ref 479)
noncomputable def body_whole_of : List Stmt := bodyOf st_whole_of
noncomputable abbrev a_bits_needed : Addr := 508
noncomputable def st_bits_needed : Stmt := stm 71
noncomputable def fd_bits_needed : FuncData := fdOf st_bits_needed (Str.ofString "bits_needed") .none (.str (Str.ofString "gateloom.evaluate") 775) (.ref 507)
noncomputable def body_bits_needed : List Stmt := bodyOf st_bits_needed
noncomputable abbrev a_system_value_evaluate : Addr := 515
noncomputable def st_system_value_evaluate : Stmt := stm 72
noncomputable def fd_system_value_evaluate : FuncData := fdOf st_system_value_evaluate (Str.ofString "system_value") .none (.str (Str.ofString "gateloom.evaluate") 775) (.ref 514)
noncomputable def body_system_value_evaluate : List Stmt := bodyOf st_system_value_evaluate
noncomputable abbrev a_evaluate : Addr := 520
noncomputable def st_evaluate : Stmt := stm 74
noncomputable def fd_evaluate : FuncData := fdOf st_evaluate (Str.ofString "evaluate") .none (.str (Str.ofString "gateloom.evaluate") 775) (.ref 519)
noncomputable def body_evaluate : List Stmt := bodyOf st_evaluate
noncomputable abbrev a_children : Addr := 875
noncomputable def st_children : Stmt := stm 97
noncomputable def fd_children : FuncData := fdOf st_children (Str.ofString "children") .none (.str (Str.ofString "gateloom.walks") 1432) (.ref 874)
noncomputable def body_children : List Stmt := bodyOf st_children
noncomputable abbrev a_folds : Addr := 990
noncomputable def st_folds : Stmt := stm 116
noncomputable def fd_folds : FuncData := fdOf st_folds (Str.ofString "folds") .none (.str (Str.ofString "gateloom.elabparts") 1557) (.ref 989)
noncomputable def body_folds : List Stmt := bodyOf st_folds
noncomputable abbrev a_folded : Addr := 997
noncomputable def st_folded : Stmt := stm 117
noncomputable def fd_folded : FuncData := fdOf st_folded (Str.ofString "folded") .none (.str (Str.ofString "gateloom.elabparts") 1557) (.ref 996)
noncomputable def body_folded : List Stmt := bodyOf st_folded
noncomputable abbrev a_widen : Addr := 1046
noncomputable def st_widen : Stmt := stm 124
noncomputable def fd_widen : FuncData := fdOf st_widen (Str.ofString "widen") .none (.str (Str.ofString "gateloom.elabparts") 1557) (.ref 1045)
noncomputable def body_widen : List Stmt := bodyOf st_widen
noncomputable abbrev a_number_value : Addr := 1053
noncomputable def st_number_value : Stmt := stm 125
noncomputable def fd_number_value : FuncData := fdOf st_number_value (Str.ofString "number_value") .none (.str (Str.ofString "gateloom.elabparts") 1557) (.ref 1052)
noncomputable def body_number_value : List Stmt := bodyOf st_number_value
noncomputable abbrev a_build : Addr := 1200
noncomputable def st_build : Stmt := stm 148
noncomputable def fd_build : FuncData := fdOf st_build (Str.ofString "build") .none (.str (Str.ofString "gateloom.elabexpr") 1693) (.ref 1199)
noncomputable def body_build : List Stmt := bodyOf st_build
noncomputable abbrev a_self_determined : Addr := 1207
noncomputable def st_self_determined : Stmt := stm 149
noncomputable def fd_self_determined : FuncData := fdOf st_self_determined (Str.ofString "self_determined") .none (.str (Str.ofString "gateloom.elabexpr") 1693) (.ref 1206)
noncomputable def body_self_determined : List Stmt := bodyOf st_self_determined
noncomputable abbrev a_expr_type : Addr := 1179
noncomputable def st_expr_type : Stmt := stm 145
noncomputable def fd_expr_type : FuncData := fdOf st_expr_type (Str.ofString "expr_type") .none (.str (Str.ofString "gateloom.elabexpr") 1693) (.ref 1178)
noncomputable def body_expr_type : List Stmt := bodyOf st_expr_type
noncomputable abbrev a_system_type : Addr := 1130
noncomputable def st_system_type : Stmt := stm 137
noncomputable def fd_system_type : FuncData := fdOf st_system_type (Str.ofString "system_type") .none (.str (Str.ofString "gateloom.elabexpr") 1693) (.ref 1129)
noncomputable def body_system_type : List Stmt := bodyOf st_system_type
noncomputable abbrev a_system_value_elabexpr : Addr := 1137
noncomputable def st_system_value_elabexpr : Stmt := stm 138
noncomputable def fd_system_value_elabexpr : FuncData := fdOf st_system_value_elabexpr (Str.ofString "system_value") .none (.str (Str.ofString "gateloom.elabexpr") 1693) (.ref 1136)
noncomputable def body_system_value_elabexpr : List Stmt := bodyOf st_system_value_elabexpr
noncomputable abbrev a__law_row : Addr := 1242
noncomputable def st__law_row : Stmt := stm 155
noncomputable def fd__law_row : FuncData := fdOf st__law_row (Str.ofString "_law_row") .none (.str (Str.ofString "law_nn0344_03") 1972) (.ref 1241)
noncomputable def body__law_row : List Stmt := bodyOf st__law_row
noncomputable abbrev a__law_next : Addr := 1249
noncomputable def st__law_next : Stmt := stm 156
noncomputable def fd__law_next : FuncData := fdOf st__law_next (Str.ofString "_law_next") .none (.str (Str.ofString "law_nn0344_03") 1972) (.ref 1248)
noncomputable def body__law_next : List Stmt := bodyOf st__law_next
noncomputable abbrev a__law_bits : Addr := 1256
noncomputable def st__law_bits : Stmt := stm 157
noncomputable def fd__law_bits : FuncData := fdOf st__law_bits (Str.ofString "_law_bits") .none (.str (Str.ofString "law_nn0344_03") 1972) (.ref 1255)
noncomputable def body__law_bits : List Stmt := bodyOf st__law_bits
noncomputable abbrev a__law_made : Addr := 1263
noncomputable def st__law_made : Stmt := stm 158
noncomputable def fd__law_made : FuncData := fdOf st__law_made (Str.ofString "_law_made") .none (.str (Str.ofString "law_nn0344_03") 1972) (.ref 1262)
noncomputable def body__law_made : List Stmt := bodyOf st__law_made
noncomputable abbrev a__law_value : Addr := 1268
noncomputable def st__law_value : Stmt := stm 159
noncomputable def fd__law_value : FuncData := fdOf st__law_value (Str.ofString "_law_value") .none (.str (Str.ofString "law_nn0344_03") 1972) (.ref 1267)
noncomputable def body__law_value : List Stmt := bodyOf st__law_value
noncomputable abbrev a__law_enough : Addr := 1275
noncomputable def st__law_enough : Stmt := stm 160
noncomputable def fd__law_enough : FuncData := fdOf st__law_enough (Str.ofString "_law_enough") .none (.str (Str.ofString "law_nn0344_03") 1972) (.ref 1274)
noncomputable def body__law_enough : List Stmt := bodyOf st__law_enough
noncomputable abbrev a__law_told : Addr := 1282
noncomputable def st__law_told : Stmt := stm 161
noncomputable def fd__law_told : FuncData := fdOf st__law_told (Str.ofString "_law_told") .none (.str (Str.ofString "law_nn0344_03") 1972) (.ref 1281)
noncomputable def body__law_told : List Stmt := bodyOf st__law_told
noncomputable abbrev a_law : Addr := 1289
noncomputable def st_law : Stmt := stm 162
noncomputable def fd_law : FuncData := fdOf st_law (Str.ofString "law") .none (.str (Str.ofString "law_nn0344_03") 1972) (.ref 1288)
noncomputable def body_law : List Stmt := bodyOf st_law
noncomputable abbrev c_GateloomError : Addr := 39
noncomputable abbrev c_DesignError : Addr := 52
noncomputable abbrev c_Design : Addr := 607
noncomputable abbrev c_Store : Addr := 649
noncomputable abbrev c_Context : Addr := 692
noncomputable abbrev c_Scope : Addr := 769
noncomputable abbrev a_GateloomError_init : Addr := 36
noncomputable def st_GateloomError_init : Stmt := met 2 0
noncomputable def fd_GateloomError_init : FuncData := fdOf st_GateloomError_init (Str.ofString "GateloomError.__init__") (.ref 29) (.str (Str.ofString "gateloom.errors") 194) (.ref 35)
noncomputable def body_GateloomError_init : List Stmt := bodyOf st_GateloomError_init
noncomputable abbrev a_Design_init : Addr := 562
noncomputable def st_Design_init : Stmt := met 80 0
noncomputable def fd_Design_init : FuncData := fdOf st_Design_init (Str.ofString "Design.__init__") .none (.str (Str.ofString "gateloom.design") 943) (.ref 561)
noncomputable def body_Design_init : List Stmt := bodyOf st_Design_init
noncomputable abbrev a_Design_add_scope : Addr := 576
noncomputable def st_Design_add_scope : Stmt := met 80 2
noncomputable def fd_Design_add_scope : FuncData := fdOf st_Design_add_scope (Str.ofString "Design.add_scope") .none (.str (Str.ofString "gateloom.design") 943) (.ref 575)
noncomputable def body_Design_add_scope : List Stmt := bodyOf st_Design_add_scope
noncomputable abbrev a_Store_init : Addr := 625
noncomputable def st_Store_init : Stmt := met 82 0
noncomputable def fd_Store_init : FuncData := fdOf st_Store_init (Str.ofString "Store.__init__") .none (.str (Str.ofString "gateloom.store") 1044) (.ref 624)
noncomputable def body_Store_init : List Stmt := bodyOf st_Store_init
noncomputable abbrev a_Context_init : Addr := 668
noncomputable def st_Context_init : Stmt := met 83 0
noncomputable def fd_Context_init : FuncData := fdOf st_Context_init (Str.ofString "Context.__init__") (.ref 661) (.str (Str.ofString "gateloom.store") 1044) (.ref 667)
noncomputable def body_Context_init : List Stmt := bodyOf st_Context_init
noncomputable abbrev a_Context_next_random : Addr := 682
noncomputable def st_Context_next_random : Stmt := met 83 2
noncomputable def fd_Context_next_random : FuncData := fdOf st_Context_next_random (Str.ofString "Context.next_random") .none (.str (Str.ofString "gateloom.store") 1044) (.ref 681)
noncomputable def body_Context_next_random : List Stmt := bodyOf st_Context_next_random
noncomputable abbrev a_Scope_init : Addr := 710
noncomputable def st_Scope_init : Stmt := met 85 0
noncomputable def fd_Scope_init : FuncData := fdOf st_Scope_init (Str.ofString "Scope.__init__") .none (.str (Str.ofString "gateloom.scopes") 1171) (.ref 709)
noncomputable def body_Scope_init : List Stmt := bodyOf st_Scope_init
noncomputable def K3 (P : Params) : Frag := [
  (73, { cls := (.type "function"), dict := none, data := .func fd_mask, slots := #[] }),
  (72, { cls := (.type "code"), dict := none, data := .fields #[(.str (Str.ofString "mask") 266), (.str (Str.ofString "mask") 267), (.str (Str.ofString "/claim/cut.py") 268), (.int (16) 0), (.int (1) 0), (.int (0) 0), (.int (0) 0), (.int (3) 0), (.ref 67), (.bool true), (.int (181) 0), (.ref 68), .none, (.ref 69), (.ref 70), (.ref 71), (.int (270) 0), (.int (16) 0), (.str (Str.ofString "/claim/cut.py") 271)], slots := #[] }),
  (81, { cls := (.type "function"), dict := none, data := .func fd_vec, slots := #[] }),
  (80, { cls := (.type "code"), dict := none, data := .fields #[(.str (Str.ofString "vec") 274), (.str (Str.ofString "vec") 275), (.str (Str.ofString "/claim/cut.py") 276), (.int (18) 0), (.int (3) 0), (.int (0) 0), (.int (0) 0), (.int (3) 0), (.ref 75), (.bool true), (.int (181) 0), (.ref 76), .none, (.ref 77), (.ref 78), (.ref 79), (.int (281) 0), (.int (18) 0), (.str (Str.ofString "/claim/cut.py") 282)], slots := #[] }),
  (74, { cls := (.type "tuple"), dict := none, data := .seq #[(.int (0) 273)] 0, slots := #[] }),
  (95, { cls := (.type "function"), dict := none, data := .func fd_all_x, slots := #[] }),
  (94, { cls := (.type "code"), dict := none, data := .fields #[(.str (Str.ofString "all_x") 291), (.str (Str.ofString "all_x") 292), (.str (Str.ofString "/claim/cut.py") 293), (.int (23) 0), (.int (1) 0), (.int (0) 0), (.int (0) 0), (.int (3) 0), (.ref 89), (.bool true), (.int (181) 0), (.ref 90), .none, (.ref 91), (.ref 92), (.ref 93), (.int (296) 0), (.int (23) 0), (.str (Str.ofString "/claim/cut.py") 297)], slots := #[] }),
  (109, { cls := (.type "function"), dict := none, data := .func fd_from_int, slots := #[] }),
  (108, { cls := (.type "code"), dict := none, data := .fields #[(.str (Str.ofString "from_int") 306), (.str (Str.ofString "from_int") 307), (.str (Str.ofString "/claim/cut.py") 308), (.int (28) 0), (.int (2) 0), (.int (0) 0), (.int (0) 0), (.int (3) 0), (.ref 103), (.bool true), (.int (181) 0), (.ref 104), .none, (.ref 105), (.ref 106), (.ref 107), (.int (311) 0), (.int (28) 0), (.str (Str.ofString "/claim/cut.py") 312)], slots := #[] }),
  (123, { cls := (.type "function"), dict := none, data := .func fd_to_int, slots := #[] }),
  (122, { cls := (.type "code"), dict := none, data := .fields #[(.str (Str.ofString "to_int") 321), (.str (Str.ofString "to_int") 322), (.str (Str.ofString "/claim/cut.py") 323), (.int (32) 0), (.int (2) 0), (.int (0) 0), (.int (0) 0), (.int (3) 0), (.ref 117), (.bool true), (.int (181) 0), (.ref 118), .none, (.ref 119), (.ref 120), (.ref 121), (.int (329) 0), (.int (32) 0), (.str (Str.ofString "/claim/cut.py") 330)], slots := #[] }),
  (130, { cls := (.type "function"), dict := none, data := .func fd_code, slots := #[] }),
  (129, { cls := (.type "code"), dict := none, data := .fields #[(.str (Str.ofString "code") 332), (.str (Str.ofString "code") 333), (.str (Str.ofString "/claim/cut.py") 334), (.int (39) 0), (.int (2) 0), (.int (0) 0), (.int (0) 0), (.int (3) 0), (.ref 124), (.bool true), (.int (181) 0), (.ref 125), .none, (.ref 126), (.ref 127), (.ref 128), (.int (337) 0), (.int (39) 0), (.str (Str.ofString "/claim/cut.py") 338)], slots := #[] }),
  (158, { cls := (.type "function"), dict := none, data := .func fd_extend, slots := #[] }),
  (157, { cls := (.type "code"), dict := none, data := .fields #[(.str (Str.ofString "extend") 383), (.str (Str.ofString "extend") 384), (.str (Str.ofString "/claim/cut.py") 385), (.int (72) 0), (.int (3) 0), (.int (0) 0), (.int (0) 0), (.int (3) 0), (.ref 152), (.bool true), (.int (181) 0), (.ref 153), .none, (.ref 154), (.ref 155), (.ref 156), (.int (393) 0), (.int (72) 0), (.str (Str.ofString "/claim/cut.py") 394)], slots := #[] }),
  (480, { cls := (.type "function"), dict := none, data := .func fd_whole_of, slots := #[] }),
  (479, { cls := (.type "code"), dict := none, data := .fields #[(.str (Str.ofString "whole_of") 825), (.str (Str.ofString "whole_of") 826), (.str (Str.ofString "/claim/cut.py") 827), (.int (356) 0), (.int (3) 0), (.int (0) 0), (.int (0) 0), (.int (3) 0), (.ref 474), (.bool true), (.int (181) 0), (.ref 475), .none, (.ref 476), (.ref 477), (.ref 478), (.int (831) 0), (.int (356) 0), (.str (Str.ofString "/claim/cut.py") 832)], slots := #[] }),
  (508, { cls := (.type "function"), dict := none, data := .func fd_bits_needed, slots := #[] }),
  (507, { cls := (.type "code"), dict := none, data := .fields #[(.str (Str.ofString "bits_needed") 864), (.str (Str.ofString "bits_needed") 865), (.str (Str.ofString "/claim/cut.py") 866), (.int (380) 0), (.int (1) 0), (.int (0) 0), (.int (0) 0), (.int (3) 0), (.ref 502), (.bool true), (.int (181) 0), (.ref 503), .none, (.ref 504), (.ref 505), (.ref 506), (.int (869) 0), (.int (380) 0), (.str (Str.ofString "/claim/cut.py") 870)], slots := #[] }),
  (515, { cls := (.type "function"), dict := none, data := .func fd_system_value_evaluate, slots := #[] }),
  (514, { cls := (.type "code"), dict := none, data := .fields #[(.str (Str.ofString "system_value") 872), (.str (Str.ofString "system_value") 873), (.str (Str.ofString "/claim/cut.py") 874), (.int (385) 0), (.int (2) 0), (.int (0) 0), (.int (0) 0), (.int (3) 0), (.ref 509), (.bool true), (.int (181) 0), (.ref 510), .none, (.ref 511), (.ref 512), (.ref 513), (.int (880) 0), (.int (385) 0), (.str (Str.ofString "/claim/cut.py") 881)], slots := #[] }),
  (520, { cls := (.type "function"), dict := none, data := .func fd_evaluate, slots := #[] }),
  (519, { cls := (.type "code"), dict := none, data := .fields #[(.str (Str.ofString "evaluate") 884), (.str (Str.ofString "evaluate") 885), (.str (Str.ofString "/claim/cut.py") 886), (.int (399) 0), (.int (2) 0), (.int (0) 0), (.int (0) 0), (.int (3) 0), (.ref 516), (.bool true), (.int (181) 0), (.ref 517), .none, .none, .none, (.ref 518), (.int (887) 0), (.int (399) 0), (.str (Str.ofString "/claim/cut.py") 888)], slots := #[] }),
  (875, { cls := (.type "function"), dict := none, data := .func fd_children, slots := #[] }),
  (874, { cls := (.type "code"), dict := none, data := .fields #[(.str (Str.ofString "children") 1434), (.str (Str.ofString "children") 1435), (.str (Str.ofString "/claim/cut.py") 1436), (.int (768) 0), (.int (1) 0), (.int (0) 0), (.int (0) 0), (.int (3) 0), (.ref 869), (.bool true), (.int (181) 0), (.ref 870), .none, (.ref 871), (.ref 872), (.ref 873), (.int (1439) 0), (.int (768) 0), (.str (Str.ofString "/claim/cut.py") 1440)], slots := #[] }),
  (990, { cls := (.type "function"), dict := none, data := .func fd_folds, slots := #[] }),
  (989, { cls := (.type "code"), dict := none, data := .fields #[(.str (Str.ofString "folds") 1598), (.str (Str.ofString "folds") 1599), (.str (Str.ofString "/claim/cut.py") 1600), (.int (938) 0), (.int (1) 0), (.int (0) 0), (.int (0) 0), (.int (3) 0), (.ref 984), (.bool true), (.int (181) 0), (.ref 985), .none, (.ref 986), (.ref 987), (.ref 988), (.int (1602) 0), (.int (938) 0), (.str (Str.ofString "/claim/cut.py") 1603)], slots := #[] }),
  (997, { cls := (.type "function"), dict := none, data := .func fd_folded, slots := #[] }),
  (996, { cls := (.type "code"), dict := none, data := .fields #[(.str (Str.ofString "folded") 1605), (.str (Str.ofString "folded") 1606), (.str (Str.ofString "/claim/cut.py") 1607), (.int (942) 0), (.int (1) 0), (.int (0) 0), (.int (0) 0), (.int (3) 0), (.ref 991), (.bool true), (.int (181) 0), (.ref 992), .none, (.ref 993), (.ref 994), (.ref 995), (.int (1610) 0), (.int (942) 0), (.str (Str.ofString "/claim/cut.py") 1611)], slots := #[] }),
  (1046, { cls := (.type "function"), dict := none, data := .func fd_widen, slots := #[] }),
  (1045, { cls := (.type "code"), dict := none, data := .fields #[(.str (Str.ofString "widen") 1660), (.str (Str.ofString "widen") 1661), (.str (Str.ofString "/claim/cut.py") 1662), (.int (970) 0), (.int (3) 0), (.int (0) 0), (.int (0) 0), (.int (3) 0), (.ref 1040), (.bool true), (.int (181) 0), (.ref 1041), .none, (.ref 1042), (.ref 1043), (.ref 1044), (.int (1666) 0), (.int (970) 0), (.str (Str.ofString "/claim/cut.py") 1667)], slots := #[] }),
  (1053, { cls := (.type "function"), dict := none, data := .func fd_number_value, slots := #[] }),
  (1052, { cls := (.type "code"), dict := none, data := .fields #[(.str (Str.ofString "number_value") 1669), (.str (Str.ofString "number_value") 1670), (.str (Str.ofString "/claim/cut.py") 1671), (.int (974) 0), (.int (3) 0), (.int (0) 0), (.int (0) 0), (.int (3) 0), (.ref 1047), (.bool true), (.int (181) 0), (.ref 1048), .none, (.ref 1049), (.ref 1050), (.ref 1051), (.int (1677) 0), (.int (974) 0), (.str (Str.ofString "/claim/cut.py") 1678)], slots := #[] }),
  (1200, { cls := (.type "function"), dict := none, data := .func fd_build, slots := #[] }),
  (1199, { cls := (.type "code"), dict := none, data := .fields #[(.str (Str.ofString "build") 1906), (.str (Str.ofString "build") 1907), (.str (Str.ofString "/claim/cut.py") 1908), (.int (1215) 0), (.int (4) 0), (.int (0) 0), (.int (0) 0), (.int (3) 0), (.ref 1194), (.bool true), (.int (181) 0), (.ref 1195), .none, (.ref 1196), (.ref 1197), (.ref 1198), (.int (1917) 0), (.int (1215) 0), (.str (Str.ofString "/claim/cut.py") 1918)], slots := #[] }),
  (1207, { cls := (.type "function"), dict := none, data := .func fd_self_determined, slots := #[] }),
  (1206, { cls := (.type "code"), dict := none, data := .fields #[(.str (Str.ofString "self_determined") 1920), (.str (Str.ofString "self_determined") 1921), (.str (Str.ofString "/claim/cut.py") 1922), (.int (1238) 0), (.int (2) 0), (.int (0) 0), (.int (0) 0), (.int (3) 0), (.ref 1201), (.bool true), (.int (181) 0), (.ref 1202), .none, (.ref 1203), (.ref 1204), (.ref 1205), (.int (1927) 0), (.int (1238) 0), (.str (Str.ofString "/claim/cut.py") 1928)], slots := #[] }),
  (1179, { cls := (.type "function"), dict := none, data := .func fd_expr_type, slots := #[] }),
  (1178, { cls := (.type "code"), dict := none, data := .fields #[(.str (Str.ofString "expr_type") 1869), (.str (Str.ofString "expr_type") 1870), (.str (Str.ofString "/claim/cut.py") 1871), (.int (1161) 0), (.int (2) 0), (.int (0) 0), (.int (0) 0), (.int (3) 0), (.ref 1173), (.bool true), (.int (181) 0), (.ref 1174), .none, (.ref 1175), (.ref 1176), (.ref 1177), (.int (1876) 0), (.int (1161) 0), (.str (Str.ofString "/claim/cut.py") 1877)], slots := #[] }),
  (1130, { cls := (.type "function"), dict := none, data := .func fd_system_type, slots := #[] }),
  (1129, { cls := (.type "code"), dict := none, data := .fields #[(.str (Str.ofString "system_type") 1796), (.str (Str.ofString "system_type") 1797), (.str (Str.ofString "/claim/cut.py") 1798), (.int (1100) 0), (.int (2) 0), (.int (0) 0), (.int (0) 0), (.int (3) 0), (.ref 1124), (.bool true), (.int (181) 0), (.ref 1125), .none, (.ref 1126), (.ref 1127), (.ref 1128), (.int (1803) 0), (.int (1100) 0), (.str (Str.ofString "/claim/cut.py") 1804)], slots := #[] }),
  (1137, { cls := (.type "function"), dict := none, data := .func fd_system_value_elabexpr, slots := #[] }),
  (1136, { cls := (.type "code"), dict := none, data := .fields #[(.str (Str.ofString "system_value") 1806), (.str (Str.ofString "system_value") 1807), (.str (Str.ofString "/claim/cut.py") 1808), (.int (1118) 0), (.int (2) 0), (.int (0) 0), (.int (0) 0), (.int (3) 0), (.ref 1131), (.bool true), (.int (181) 0), (.ref 1132), .none, (.ref 1133), (.ref 1134), (.ref 1135), (.int (1814) 0), (.int (1118) 0), (.str (Str.ofString "/claim/cut.py") 1815)], slots := #[] }),
  (1242, { cls := (.type "function"), dict := none, data := .func fd__law_row, slots := #[] }),
  (1241, { cls := (.type "code"), dict := none, data := .fields #[(.str (Str.ofString "_law_row") 1974), (.str (Str.ofString "_law_row") 1975), (.str (Str.ofString "/claim/cut.py") 1976), (.int (1261) 0), (.int (1) 0), (.int (0) 0), (.int (0) 0), (.int (3) 0), (.ref 1236), (.bool true), (.int (181) 0), (.ref 1237), .none, (.ref 1238), (.ref 1239), (.ref 1240), (.int (1982) 0), (.int (1261) 0), (.str (Str.ofString "/claim/cut.py") 1983)], slots := #[] }),
  (1249, { cls := (.type "function"), dict := none, data := .func fd__law_next, slots := #[] }),
  (1248, { cls := (.type "code"), dict := none, data := .fields #[(.str (Str.ofString "_law_next") 1985), (.str (Str.ofString "_law_next") 1986), (.str (Str.ofString "/claim/cut.py") 1987), (.int (1274) 0), (.int (1) 0), (.int (0) 0), (.int (0) 0), (.int (3) 0), (.ref 1243), (.bool true), (.int (181) 0), (.ref 1244), .none, (.ref 1245), (.ref 1246), (.ref 1247), (.int (1989) 0), (.int (1274) 0), (.str (Str.ofString "/claim/cut.py") 1990)], slots := #[] }),
  (1256, { cls := (.type "function"), dict := none, data := .func fd__law_bits, slots := #[] }),
  (1255, { cls := (.type "code"), dict := none, data := .fields #[(.str (Str.ofString "_law_bits") 1992), (.str (Str.ofString "_law_bits") 1993), (.str (Str.ofString "/claim/cut.py") 1994), (.int (1276) 0), (.int (2) 0), (.int (0) 0), (.int (0) 0), (.int (3) 0), (.ref 1250), (.bool true), (.int (181) 0), (.ref 1251), .none, (.ref 1252), (.ref 1253), (.ref 1254), (.int (2001) 0), (.int (1276) 0), (.str (Str.ofString "/claim/cut.py") 2002)], slots := #[] }),
  (1263, { cls := (.type "function"), dict := none, data := .func fd__law_made, slots := #[] }),
  (1262, { cls := (.type "code"), dict := none, data := .fields #[(.str (Str.ofString "_law_made") 2004), (.str (Str.ofString "_law_made") 2005), (.str (Str.ofString "/claim/cut.py") 2006), (.int (1284) 0), (.int (1) 0), (.int (0) 0), (.int (0) 0), (.int (3) 0), (.ref 1257), (.bool true), (.int (181) 0), (.ref 1258), .none, (.ref 1259), (.ref 1260), (.ref 1261), (.int (2011) 0), (.int (1284) 0), (.str (Str.ofString "/claim/cut.py") 2012)], slots := #[] }),
  (1268, { cls := (.type "function"), dict := none, data := .func fd__law_value, slots := #[] }),
  (1267, { cls := (.type "code"), dict := none, data := .fields #[(.str (Str.ofString "_law_value") 2014), (.str (Str.ofString "_law_value") 2015), (.str (Str.ofString "/claim/cut.py") 2016), (.int (1291) 0), (.int (1) 0), (.int (0) 0), (.int (0) 0), (.int (3) 0), (.ref 1264), (.bool true), (.int (181) 0), (.ref 1265), .none, .none, .none, (.ref 1266), (.int (2017) 0), (.int (1291) 0), (.str (Str.ofString "/claim/cut.py") 2018)], slots := #[] }),
  (1275, { cls := (.type "function"), dict := none, data := .func fd__law_enough, slots := #[] }),
  (1274, { cls := (.type "code"), dict := none, data := .fields #[(.str (Str.ofString "_law_enough") 2020), (.str (Str.ofString "_law_enough") 2021), (.str (Str.ofString "/claim/cut.py") 2022), (.int (1300) 0), (.int (1) 0), (.int (0) 0), (.int (0) 0), (.int (3) 0), (.ref 1269), (.bool true), (.int (181) 0), (.ref 1270), .none, (.ref 1271), (.ref 1272), (.ref 1273), (.int (2026) 0), (.int (1300) 0), (.str (Str.ofString "/claim/cut.py") 2027)], slots := #[] }),
  (1282, { cls := (.type "function"), dict := none, data := .func fd__law_told, slots := #[] }),
  (1281, { cls := (.type "code"), dict := none, data := .fields #[(.str (Str.ofString "_law_told") 2029), (.str (Str.ofString "_law_told") 2030), (.str (Str.ofString "/claim/cut.py") 2031), (.int (1307) 0), (.int (3) 0), (.int (0) 0), (.int (0) 0), (.int (3) 0), (.ref 1276), (.bool true), (.int (181) 0), (.ref 1277), .none, (.ref 1278), (.ref 1279), (.ref 1280), (.int (2038) 0), (.int (1307) 0), (.str (Str.ofString "/claim/cut.py") 2039)], slots := #[] }),
  (1289, { cls := (.type "function"), dict := none, data := .func fd_law, slots := #[] }),
  (1288, { cls := (.type "code"), dict := none, data := .fields #[(.str (Str.ofString "law") 2041), (.str (Str.ofString "law") 2042), (.str (Str.ofString "/claim/cut.py") 2043), (.int (1313) 0), (.int (1) 0), (.int (0) 0), (.int (0) 0), (.int (3) 0), (.ref 1283), (.bool true), (.int (181) 0), (.ref 1284), .none, (.ref 1285), (.ref 1286), (.ref 1287), (.int (2060) 0), (.int (1313) 0), (.str (Str.ofString "/claim/cut.py") 2061)], slots := #[] }),
  (39, { cls := (.type "type"), dict := none, data := .cls { name := (Str.ofString "GateloomError"), bases := [(.type "Exception")], mro := [(.ref 39), (.type "Exception"), (.type "BaseException"), (.type "object")], ns := 38, qualname := (Str.ofString "GateloomError"), hasDict := true, slotNames := [], subclasses := [(.ref 52), (.ref 64)], abstract := false, collection := none, hasDel := false }, slots := #[(some (.ref 22)), none, (some (.str (Str.ofString "GateloomError") 196)), (some (.str (Str.ofString "GateloomError") 204)), (some (.builtin "Exception.__new__")), (some (.bool true))] }),
  (38, { cls := (.type "dict"), dict := none, data := .dict #[⟨PyData.keyHash P (Str.ofString "__module__"), (.str (Str.ofString "__module__") 203), (.str (Str.ofString "gateloom.errors") 194)⟩, ⟨PyData.keyHash P (Str.ofString "__firstlineno__"), (.str (Str.ofString "__firstlineno__") 207), (.int (5) 206)⟩, ⟨PyData.keyHash P (Str.ofString "__init__"), (.str (Str.ofString "__init__") 220), (.ref 36)⟩, ⟨PyData.keyHash P (Str.ofString "__static_attributes__"), (.str (Str.ofString "__static_attributes__") 224), (.ref 37)⟩, ⟨PyData.keyHash P (Str.ofString "__weakref__"), (.str (Str.ofString "__weakref__") 226), (.ref 40)⟩, ⟨PyData.keyHash P (Str.ofString "__doc__"), (.str (Str.ofString "__doc__") 227), .none⟩] 3, slots := #[] }),
  (52, { cls := (.type "type"), dict := none, data := .cls { name := (Str.ofString "DesignError"), bases := [(.ref 39)], mro := [(.ref 52), (.ref 39), (.type "Exception"), (.type "BaseException"), (.type "object")], ns := 51, qualname := (Str.ofString "DesignError"), hasDict := true, slotNames := [], subclasses := [], abstract := false, collection := none, hasDel := false }, slots := #[(some (.ref 43)), none, (some (.str (Str.ofString "DesignError") 232)), (some (.str (Str.ofString "DesignError") 240)), (some (.builtin "Exception.__new__")), (some (.bool true))] }),
  (51, { cls := (.type "dict"), dict := none, data := .dict #[⟨PyData.keyHash P (Str.ofString "__module__"), (.str (Str.ofString "__module__") 239), (.str (Str.ofString "gateloom.errors") 194)⟩, ⟨PyData.keyHash P (Str.ofString "__firstlineno__"), (.str (Str.ofString "__firstlineno__") 243), (.int (11) 242)⟩, ⟨PyData.keyHash P (Str.ofString "__static_attributes__"), (.str (Str.ofString "__static_attributes__") 244), (.ref 50)⟩, ⟨PyData.keyHash P (Str.ofString "__doc__"), (.str (Str.ofString "__doc__") 245), .none⟩] 2, slots := #[] }),
  (607, { cls := (.type "type"), dict := none, data := .cls { name := (Str.ofString "Design"), bases := [(.type "object")], mro := [(.ref 607), (.type "object")], ns := 606, qualname := (Str.ofString "Design"), hasDict := true, slotNames := [], subclasses := [], abstract := false, collection := none, hasDel := false }, slots := #[none, none, (some (.str (Str.ofString "Design") 945)), (some (.str (Str.ofString "Design") 953)), (some (.builtin "object.__new__")), (some (.bool true))] }),
  (606, { cls := (.type "dict"), dict := none, data := .dict #[⟨PyData.keyHash P (Str.ofString "__module__"), (.str (Str.ofString "__module__") 952), (.str (Str.ofString "gateloom.design") 943)⟩, ⟨PyData.keyHash P (Str.ofString "__firstlineno__"), (.str (Str.ofString "__firstlineno__") 956), (.int (471) 955)⟩, ⟨PyData.keyHash P (Str.ofString "__init__"), (.str (Str.ofString "__init__") 963), (.ref 562)⟩, ⟨PyData.keyHash P (Str.ofString "add_signal"), (.str (Str.ofString "add_signal") 977), (.ref 569)⟩, ⟨PyData.keyHash P (Str.ofString "add_scope"), (.str (Str.ofString "add_scope") 985), (.ref 576)⟩, ⟨PyData.keyHash P (Str.ofString "add_routine"), (.str (Str.ofString "add_routine") 996), (.ref 583)⟩, ⟨PyData.keyHash P (Str.ofString "add_process"), (.str (Str.ofString "add_process") 1007), (.ref 590)⟩, ⟨PyData.keyHash P (Str.ofString "find"), (.str (Str.ofString "find") 1015), (.ref 597)⟩, ⟨PyData.keyHash P (Str.ofString "routine"), (.str (Str.ofString "routine") 1024), (.ref 604)⟩, ⟨PyData.keyHash P (Str.ofString "__static_attributes__"), (.str (Str.ofString "__static_attributes__") 1036), (.ref 605)⟩, ⟨PyData.keyHash P (Str.ofString "__dict__"), (.str (Str.ofString "__dict__") 1038), (.ref 608)⟩, ⟨PyData.keyHash P (Str.ofString "__weakref__"), (.str (Str.ofString "__weakref__") 1040), (.ref 609)⟩, ⟨PyData.keyHash P (Str.ofString "__doc__"), (.str (Str.ofString "__doc__") 1041), .none⟩] 4, slots := #[] }),
  (649, { cls := (.type "type"), dict := none, data := .cls { name := (Str.ofString "Store"), bases := [(.type "object")], mro := [(.ref 649), (.type "object")], ns := 648, qualname := (Str.ofString "Store"), hasDict := true, slotNames := [], subclasses := [], abstract := false, collection := none, hasDel := false }, slots := #[none, none, (some (.str (Str.ofString "Store") 1046)), (some (.str (Str.ofString "Store") 1054)), (some (.builtin "object.__new__")), (some (.bool true))] }),
  (648, { cls := (.type "dict"), dict := none, data := .dict #[⟨PyData.keyHash P (Str.ofString "__module__"), (.str (Str.ofString "__module__") 1053), (.str (Str.ofString "gateloom.store") 1044)⟩, ⟨PyData.keyHash P (Str.ofString "__firstlineno__"), (.str (Str.ofString "__firstlineno__") 1057), (.int (510) 1056)⟩, ⟨PyData.keyHash P (Str.ofString "__init__"), (.str (Str.ofString "__init__") 1065), (.ref 625)⟩, ⟨PyData.keyHash P (Str.ofString "get"), (.str (Str.ofString "get") 1075), (.ref 632)⟩, ⟨PyData.keyHash P (Str.ofString "word"), (.str (Str.ofString "word") 1086), (.ref 639)⟩, ⟨PyData.keyHash P (Str.ofString "set_bits"), (.str (Str.ofString "set_bits") 1099), (.ref 646)⟩, ⟨PyData.keyHash P (Str.ofString "__static_attributes__"), (.str (Str.ofString "__static_attributes__") 1104), (.ref 647)⟩, ⟨PyData.keyHash P (Str.ofString "__dict__"), (.str (Str.ofString "__dict__") 1106), (.ref 650)⟩, ⟨PyData.keyHash P (Str.ofString "__weakref__"), (.str (Str.ofString "__weakref__") 1108), (.ref 651)⟩, ⟨PyData.keyHash P (Str.ofString "__doc__"), (.str (Str.ofString "__doc__") 1109), .none⟩] 4, slots := #[] }),
  (692, { cls := (.type "type"), dict := none, data := .cls { name := (Str.ofString "Context"), bases := [(.type "object")], mro := [(.ref 692), (.type "object")], ns := 691, qualname := (Str.ofString "Context"), hasDict := true, slotNames := [], subclasses := [(.ref 817)], abstract := false, collection := none, hasDel := false }, slots := #[none, none, (some (.str (Str.ofString "Context") 1112)), (some (.str (Str.ofString "Context") 1120)), (some (.builtin "object.__new__")), (some (.bool true))] }),
  (691, { cls := (.type "dict"), dict := none, data := .dict #[⟨PyData.keyHash P (Str.ofString "__module__"), (.str (Str.ofString "__module__") 1119), (.str (Str.ofString "gateloom.store") 1044)⟩, ⟨PyData.keyHash P (Str.ofString "__firstlineno__"), (.str (Str.ofString "__firstlineno__") 1123), (.int (553) 1122)⟩, ⟨PyData.keyHash P (Str.ofString "__init__"), (.str (Str.ofString "__init__") 1134), (.ref 668)⟩, ⟨PyData.keyHash P (Str.ofString "call"), (.str (Str.ofString "call") 1143), (.ref 675)⟩, ⟨PyData.keyHash P (Str.ofString "next_random"), (.str (Str.ofString "next_random") 1151), (.ref 682)⟩, ⟨PyData.keyHash P (Str.ofString "time_vec"), (.str (Str.ofString "time_vec") 1159), (.ref 689)⟩, ⟨PyData.keyHash P (Str.ofString "__static_attributes__"), (.str (Str.ofString "__static_attributes__") 1163), (.ref 690)⟩, ⟨PyData.keyHash P (Str.ofString "__dict__"), (.str (Str.ofString "__dict__") 1165), (.ref 693)⟩, ⟨PyData.keyHash P (Str.ofString "__weakref__"), (.str (Str.ofString "__weakref__") 1167), (.ref 694)⟩, ⟨PyData.keyHash P (Str.ofString "__doc__"), (.str (Str.ofString "__doc__") 1168), .none⟩] 4, slots := #[] }),
  (769, { cls := (.type "type"), dict := none, data := .cls { name := (Str.ofString "Scope"), bases := [(.type "object")], mro := [(.ref 769), (.type "object")], ns := 768, qualname := (Str.ofString "Scope"), hasDict := true, slotNames := [], subclasses := [], abstract := false, collection := none, hasDel := false }, slots := #[none, none, (some (.str (Str.ofString "Scope") 1173)), (some (.str (Str.ofString "Scope") 1181)), (some (.builtin "object.__new__")), (some (.bool true))] }),
  (768, { cls := (.type "dict"), dict := none, data := .dict #[⟨PyData.keyHash P (Str.ofString "__module__"), (.str (Str.ofString "__module__") 1180), (.str (Str.ofString "gateloom.scopes") 1171)⟩, ⟨PyData.keyHash P (Str.ofString "__firstlineno__"), (.str (Str.ofString "__firstlineno__") 1184), (.int (573) 1183)⟩, ⟨PyData.keyHash P (Str.ofString "__init__"), (.str (Str.ofString "__init__") 1195), (.ref 710)⟩, ⟨PyData.keyHash P (Str.ofString "child"), (.str (Str.ofString "child") 1206), (.ref 717)⟩, ⟨PyData.keyHash P (Str.ofString "declare"), (.str (Str.ofString "declare") 1216), (.ref 724)⟩, ⟨PyData.keyHash P (Str.ofString "module_scope"), (.str (Str.ofString "module_scope") 1223), (.ref 731)⟩, ⟨PyData.keyHash P (Str.ofString "lookup"), (.str (Str.ofString "lookup") 1232), (.ref 738)⟩, ⟨PyData.keyHash P (Str.ofString "lookup_routine"), (.str (Str.ofString "lookup_routine") 1242), (.ref 745)⟩, ⟨PyData.keyHash P (Str.ofString "descend"), (.str (Str.ofString "descend") 1253), (.ref 752)⟩, ⟨PyData.keyHash P (Str.ofString "resolve"), (.str (Str.ofString "resolve") 1264), (.ref 759)⟩, ⟨PyData.keyHash P (Str.ofString "answers_to"), (.str (Str.ofString "answers_to") 1272), (.ref 766)⟩, ⟨PyData.keyHash P (Str.ofString "__static_attributes__"), (.str (Str.ofString "__static_attributes__") 1282), (.ref 767)⟩, ⟨PyData.keyHash P (Str.ofString "__dict__"), (.str (Str.ofString "__dict__") 1284), (.ref 770)⟩, ⟨PyData.keyHash P (Str.ofString "__weakref__"), (.str (Str.ofString "__weakref__") 1286), (.ref 771)⟩, ⟨PyData.keyHash P (Str.ofString "__doc__"), (.str (Str.ofString "__doc__") 1287), .none⟩] 4, slots := #[] }),
  (36, { cls := (.type "function"), dict := none, data := .func fd_GateloomError_init, slots := #[] }),
  (35, { cls := (.type "code"), dict := none, data := .fields #[(.str (Str.ofString "__init__") 211), (.str (Str.ofString "GateloomError.__init__") 212), (.str (Str.ofString "/claim/cut.py") 213), (.int (7) 0), (.int (4) 0), (.int (0) 0), (.int (0) 0), (.int (3) 0), (.ref 30), (.bool true), (.int (181) 0), (.ref 31), .none, (.ref 32), (.ref 33), (.ref 34), (.int (218) 0), (.int (7) 0), (.str (Str.ofString "/claim/cut.py") 219)], slots := #[] }),
  (29, { cls := (.type "tuple"), dict := none, data := .seq #[(.int (-1) 209), (.str (Str.ofString "") 210)] 0, slots := #[] }),
  (562, { cls := (.type "function"), dict := none, data := .func fd_Design_init, slots := #[] }),
  (561, { cls := (.type "code"), dict := none, data := .fields #[(.str (Str.ofString "__init__") 957), (.str (Str.ofString "Design.__init__") 958), (.str (Str.ofString "/claim/cut.py") 959), (.int (473) 0), (.int (1) 0), (.int (0) 0), (.int (0) 0), (.int (3) 0), (.ref 556), (.bool true), (.int (181) 0), (.ref 557), .none, (.ref 558), (.ref 559), (.ref 560), (.int (961) 0), (.int (473) 0), (.str (Str.ofString "/claim/cut.py") 962)], slots := #[] }),
  (576, { cls := (.type "function"), dict := none, data := .func fd_Design_add_scope, slots := #[] }),
  (575, { cls := (.type "code"), dict := none, data := .fields #[(.str (Str.ofString "add_scope") 978), (.str (Str.ofString "Design.add_scope") 979), (.str (Str.ofString "/claim/cut.py") 980), (.int (489) 0), (.int (2) 0), (.int (0) 0), (.int (0) 0), (.int (3) 0), (.ref 570), (.bool true), (.int (181) 0), (.ref 571), .none, (.ref 572), (.ref 573), (.ref 574), (.int (983) 0), (.int (489) 0), (.str (Str.ofString "/claim/cut.py") 984)], slots := #[] }),
  (625, { cls := (.type "function"), dict := none, data := .func fd_Store_init, slots := #[] }),
  (624, { cls := (.type "code"), dict := none, data := .fields #[(.str (Str.ofString "__init__") 1058), (.str (Str.ofString "Store.__init__") 1059), (.str (Str.ofString "/claim/cut.py") 1060), (.int (512) 0), (.int (2) 0), (.int (0) 0), (.int (0) 0), (.int (3) 0), (.ref 619), (.bool true), (.int (181) 0), (.ref 620), .none, (.ref 621), (.ref 622), (.ref 623), (.int (1063) 0), (.int (512) 0), (.str (Str.ofString "/claim/cut.py") 1064)], slots := #[] }),
  (668, { cls := (.type "function"), dict := none, data := .func fd_Context_init, slots := #[] }),
  (667, { cls := (.type "code"), dict := none, data := .fields #[(.str (Str.ofString "__init__") 1125), (.str (Str.ofString "Context.__init__") 1126), (.str (Str.ofString "/claim/cut.py") 1127), (.int (555) 0), (.int (4) 0), (.int (0) 0), (.int (0) 0), (.int (3) 0), (.ref 662), (.bool true), (.int (181) 0), (.ref 663), .none, (.ref 664), (.ref 665), (.ref 666), (.int (1132) 0), (.int (555) 0), (.str (Str.ofString "/claim/cut.py") 1133)], slots := #[] }),
  (661, { cls := (.type "tuple"), dict := none, data := .seq #[(.int (0) 1124)] 0, slots := #[] }),
  (682, { cls := (.type "function"), dict := none, data := .func fd_Context_next_random, slots := #[] }),
  (681, { cls := (.type "code"), dict := none, data := .fields #[(.str (Str.ofString "next_random") 1144), (.str (Str.ofString "Context.next_random") 1145), (.str (Str.ofString "/claim/cut.py") 1146), (.int (563) 0), (.int (1) 0), (.int (0) 0), (.int (0) 0), (.int (3) 0), (.ref 676), (.bool true), (.int (181) 0), (.ref 677), .none, (.ref 678), (.ref 679), (.ref 680), (.int (1149) 0), (.int (563) 0), (.str (Str.ofString "/claim/cut.py") 1150)], slots := #[] }),
  (710, { cls := (.type "function"), dict := none, data := .func fd_Scope_init, slots := #[] }),
  (709, { cls := (.type "code"), dict := none, data := .fields #[(.str (Str.ofString "__init__") 1185), (.str (Str.ofString "Scope.__init__") 1186), (.str (Str.ofString "/claim/cut.py") 1187), (.int (575) 0), (.int (5) 0), (.int (0) 0), (.int (0) 0), (.int (3) 0), (.ref 704), (.bool true), (.int (181) 0), (.ref 705), .none, (.ref 706), (.ref 707), (.ref 708), (.int (1193) 0), (.int (575) 0), (.str (Str.ofString "/claim/cut.py") 1194)], slots := #[] })]
noncomputable def G3 : List (Str × Option Value) := [((Str.ofString "mask"), some (.ref 73)), ((Str.ofString "vec"), some (.ref 81)), ((Str.ofString "all_x"), some (.ref 95)), ((Str.ofString "from_int"), some (.ref 109)), ((Str.ofString "to_int"), some (.ref 123)), ((Str.ofString "code"), some (.ref 130)), ((Str.ofString "extend"), some (.ref 158)), ((Str.ofString "whole_of"), some (.ref 480)), ((Str.ofString "bits_needed"), some (.ref 508)), ((Str.ofString "system_value_evaluate"), some (.ref 515)), ((Str.ofString "evaluate"), some (.ref 520)), ((Str.ofString "children"), some (.ref 875)), ((Str.ofString "folds"), some (.ref 990)), ((Str.ofString "folded"), some (.ref 997)), ((Str.ofString "widen"), some (.ref 1046)), ((Str.ofString "number_value"), some (.ref 1053)), ((Str.ofString "build"), some (.ref 1200)), ((Str.ofString "self_determined"), some (.ref 1207)), ((Str.ofString "expr_type"), some (.ref 1179)), ((Str.ofString "system_type"), some (.ref 1130)), ((Str.ofString "system_value_elabexpr"), some (.ref 1137)), ((Str.ofString "_law_row"), some (.ref 1242)), ((Str.ofString "_law_next"), some (.ref 1249)), ((Str.ofString "_law_bits"), some (.ref 1256)), ((Str.ofString "_law_made"), some (.ref 1263)), ((Str.ofString "_law_value"), some (.ref 1268)), ((Str.ofString "_law_enough"), some (.ref 1275)), ((Str.ofString "_law_told"), some (.ref 1282)), ((Str.ofString "law"), some (.ref 1289)), ((Str.ofString "GateloomError"), some (.ref 39)), ((Str.ofString "DesignError"), some (.ref 52)), ((Str.ofString "Design"), some (.ref 607)), ((Str.ofString "Store"), some (.ref 649)), ((Str.ofString "Context"), some (.ref 692)), ((Str.ofString "Scope"), some (.ref 769))] ++ [((Str.ofString "abs"), none), ((Str.ofString "max"), none), ((Str.ofString "min"), none), ((Str.ofString "len"), none), ((Str.ofString "range"), none), ((Str.ofString "tuple"), none), ((Str.ofString "list"), none)]

noncomputable def as3 : List Addr := [73, 72, 81, 80, 74, 95, 94, 109, 108, 123, 122, 130, 129, 158, 157, 480, 479, 508, 507, 515, 514, 520, 519, 875, 874, 990, 989, 997, 996, 1046, 1045, 1053, 1052, 1200, 1199, 1207, 1206, 1179, 1178, 1130, 1129, 1137, 1136, 1242, 1241, 1249, 1248, 1256, 1255, 1263, 1262, 1268, 1267, 1275, 1274, 1282, 1281, 1289, 1288, 39, 38, 52, 51, 607, 606, 649, 648, 692, 691, 769, 768, 36, 35, 29, 562, 561, 576, 575, 625, 624, 668, 667, 661, 682, 681, 710, 709]
theorem as3_ok (P : Params) : as3 = (K3 P).map (·.1) := by rfl
end NN
end

-- part: the objects
section
set_option Elab.async false
set_option compiler.extract_closed false
set_option maxRecDepth 100000
set_option linter.all false
open PySem PySem.W PyProof.Rows PySem.Calls
namespace NN
noncomputable def dE (P : Params) (s : String) (t : Nat) (v : Value) : DictEntry := ⟨PyData.keyHash P (Str.ofString s), .str (Str.ofString s) t, v⟩
noncomputable def insF : BT → Nat → List Obj → BT
  | t, _, [] => t
  | t, n, o :: l => insF (t.ins n o) (n + 1) l
noncomputable def qS (s : String) (t : Nat) : Value := .str (Str.ofString s) t
noncomputable def qI (n : Int) : Value := .int n 0
noncomputable def qV (a : Addr) : Value := .ref a
noncomputable def qT (l : Array Value) : Obj := { cls := .type "tuple", dict := none, data := .seq l 0, slots := #[] }
noncomputable def qF (l : Array Value) : Obj := { cls := .none, dict := none, data := .fields l, slots := #[] }
noncomputable def qC (l : Array Value) : Obj := { cls := .type "code", dict := none, data := .fields l, slots := #[] }
noncomputable def qR (st : Stmt) (q : String) : Obj := { cls := .none, dict := none, data := .func { fdOf st (Str.ofString q) .none .none .none with globals := 0, builtins := 0 }, slots := #[] }
noncomputable def qN (st : Stmt) (q : String) (d m : Value) (c : Addr) : Obj := { cls := .type "function", dict := none, data := .func (fdOf st (Str.ofString q) d m (.ref c)), slots := #[] }
noncomputable def hd_3 (P : Params) : List DictEntry := [dE P "__name__" 165 (qS "law_nn0344_03" 1972), dE P "__doc__" 166 .none, dE P "__package__" 167 .none, dE P "__loader__" 168 (.builtin "__main__.__loader__#opaque"), dE P "__spec__" 169 .none, dE P "__annotations__" 170 (qV 6), dE P "__builtins__" 171 (qV 4), dE P "__file__" 173 (qS "/claim/cut.py" 172), dE P "__cached__" 174 .none, dE P "_wall" 193 (qV 21), dE P "GateloomError" 231 (qV 39), dE P "DesignError" 247 (qV 52), dE P "LimitReached" 263 (qV 64), dE P "mask" 272 (qV 73), dE P "vec" 283 (qV 81), dE P "zeros" 290 (qV 88), dE P "all_x" 298 (qV 95), dE P "all_z" 305 (qV 102), dE P "from_int" 313 (qV 109), dE P "is_known" 320 (qV 116), dE P "to_int" 331 (qV 123), dE P "code" 339 (qV 130), dE P "slice_vec" 355 (qV 137), dE P "put_slice" 371 (qV 144), dE P "concat" 382 (qV 151), dE P "extend" 395 (qV 158), dE P "z_to_x" 402 (qV 165), dE P "truth" 409 (qV 172), dE P "add" 419 (qV 179), dE P "sub" 427 (qV 186), dE P "mul" 435 (qV 193), dE P "neg" 442 (qV 200), dE P "quotient" 451 (qV 207), dE P "div" 462 (qV 214), dE P "mod" 473 (qV 221), dE P "raise_whole" 486 (qV 228), dE P "power" 499 (qV 235), dE P "shift_left" 509 (qV 242), dE P "shift_right" 518 (qV 249), dE P "shift_arith" 533 (qV 256), dE P "ordered" 544 (qV 263), dE P "less" 554 (qV 270), dE P "less_equal" 564 (qV 277), dE P "greater" 573 (qV 284), dE P "greater_equal" 582 (qV 291), dE P "one_bit" 591 (qV 298), dE P "bit_not" 601 (qV 305), dE P "bit_and" 615 (qV 312), dE P "bit_or" 630 (qV 319), dE P "bit_xor" 639 (qV 326), dE P "bit_xnor" 647 (qV 333), dE P "reduce_and" 657 (qV 340), dE P "reduce_nand" 664 (qV 347), dE P "reduce_or" 671 (qV 354), dE P "reduce_nor" 678 (qV 361), dE P "reduce_xor" 687 (qV 368), dE P "reduce_xnor" 694 (qV 375), dE P "logic_not" 701 (qV 382), dE P "logic_and" 709 (qV 389), dE P "logic_or" 717 (qV 396), dE P "equal" 726 (qV 403), dE P "not_equal" 734 (qV 410), dE P "case_equal" 742 (qV 417), dE P "case_not_equal" 750 (qV 424), dE P "matches" 761 (qV 431), dE P "choose" 774 (qV 438), dE P "unary" 784 (qV 445), dE P "arithmetic" 794 (qV 452), dE P "comparison" 804 (qV 459), dE P "bitwise" 813 (qV 466), dE P "binary" 824 (qV 473), dE P "whole_of" 833 (qV 480), dE P "memory_word" 843 (qV 487), dE P "picked" 853 (qV 494), dE P "conditional" 863 (qV 501), dE P "bits_needed" 871 (qV 508), dE P "system_value" 882 (qV 1137), dE P "system_value_evaluate" 883 (qV 515), dE P "evaluate" 889 (qV 520), dE P "locate" 898 (qV 527), dE P "holder_width" 906 (qV 534), dE P "resolve_target" 925 (qV 541), dE P "store_rows" 942 (qV 548), dE P "Design" 1043 (qV 607), dE P "Store" 1111 (qV 649), dE P "Context" 1170 (qV 692), dE P "Scope" 1289 (qV 769), dE P "DEPTH_LIMIT" 1293 (.int (24) 1292), dE P "FunctionContext" 1360 (qV 817), dE P "run_block" 1370 (qV 826), dE P "run_set" 1380 (qV 833), dE P "run_case" 1393 (qV 840), dE P "run_while" 1404 (qV 847), dE P "run_repeat" 1414 (qV 854), dE P "run_for" 1422 (qV 861), dE P "run_statement" 1431 (qV 868), dE P "children" 1441 (qV 875), dE P "subexpressions" 1452 (qV 882), dE P "expr_reads" 1461 (qV 889), dE P "expr_calls" 1470 (qV 896), dE P "target_indexes" 1479 (qV 903), dE P "target_writes" 1488 (qV 910), dE P "stmt_parts" 1494 (qV 915), dE P "substatements" 1505 (qV 922), dE P "stmt_targets" 1511 (qV 927), dE P "stmt_exprs" 1523 (qV 934), dE P "stmt_reads" 1534 (qV 941), dE P "stmt_writes" 1545 (qV 948), dE P "stmt_calls" 1556 (qV 955), dE P "MAX_WIDTH" 1560 (.int (65536) 1559), dE P "last_select" 1569 (qV 962), dE P "is_memory" 1577 (qV 969), dE P "shape" 1587 (qV 976), dE P "read_entry" 1597 (qV 983), dE P "folds" 1604 (qV 990), dE P "folded" 1612 (qV 997), dE P "checked_width" 1620 (qV 1004), dE P "selected" 1629 (qV 1011), dE P "text_vec" 1638 (qV 1018), dE P "inner_join" 1645 (qV 1025), dE P "is_context_operator" 1652 (qV 1032), dE P "is_shift" 1659 (qV 1039), dE P "widen" 1668 (qV 1046), dE P "number_value" 1679 (qV 1053), dE P "is_constant" 1692 (qV 1060), dE P "path_names" 1705 (qV 1067), dE P "entry_of" 1714 (qV 1074), dE P "base_entry" 1724 (qV 1081), dE P "select_width" 1732 (qV 1088), dE P "select_where" 1750 (qV 1095), dE P "named_type" 1760 (qV 1102), dE P "named_value" 1773 (qV 1109), dE P "function_of" 1783 (qV 1116), dE P "call_value" 1795 (qV 1123), dE P "system_type" 1805 (qV 1130), dE P "system_value_elabexpr" 1817 (qV 1137), dE P "joined_parts" 1827 (qV 1144), dE P "copies" 1836 (qV 1151), dE P "joined_width" 1846 (qV 1158), dE P "joined_value" 1857 (qV 1165), dE P "both_types" 1868 (qV 1172), dE P "expr_type" 1878 (qV 1179), dE P "unary_value" 1889 (qV 1186), dE P "binary_value" 1905 (qV 1193), dE P "build" 1919 (qV 1200), dE P "self_determined" 1929 (qV 1207), dE P "sized" 1940 (qV 1214), dE P "constant_vec" 1950 (qV 1221), dE P "constant" 1960 (qV 1228), dE P "whole" 1971 (qV 1235), dE P "_law_row" 1984 (qV 1242), dE P "_law_next" 1991 (qV 1249), dE P "_law_bits" 2003 (qV 1256), dE P "_law_made" 2013 (qV 1263), dE P "_law_value" 2019 (qV 1268), dE P "_law_enough" 2028 (qV 1275), dE P "_law_told" 2040 (qV 1282), dE P "law" 2062 (qV 1289)]
noncomputable def hf_12 : List Value := [(qI 1), (qI 0), (qV 20), (qI 5), (qI 0), (qV 27), (qI 11), (qI 0), (qV 48), (qI 13), (qI 0), (qV 60), (qI 16), (qI 0), (qV 72), (qI 18), (qI 0), (qV 80), (qI 21), (qI 0), (qV 87), (qI 23), (qI 0), (qV 94), (qI 26), (qI 0), (qV 101), (qI 28), (qI 0), (qV 108), (qI 30), (qI 0), (qV 115), (qI 32), (qI 0), (qV 122), (qI 39), (qI 0), (qV 129), (qI 41), (qI 0), (qV 136), (qI 52), (qI 0), (qV 143), (qI 63), (qI 0), (qV 150), (qI 72), (qI 0), (qV 157), (qI 82), (qI 0), (qV 164), (qI 84), (qI 0), (qV 171), (qI 91), (qI 0), (qV 178), (qI 95), (qI 0), (qV 185), (qI 99), (qI 0), (qV 192), (qI 103), (qI 0), (qV 199), (qI 107), (qI 0), (qV 206), (qI 112), (qI 0), (qV 213), (qI 118), (qI 0), (qV 220), (qI 124), (qI 0), (qV 227), (qI 135), (qI 0), (qV 234), (qI 150), (qI 0), (qV 241), (qI 158), (qI 0), (qV 248), (qI 165), (qI 0), (qV 255), (qI 175), (qI 0), (qV 262), (qI 183), (qI 0), (qV 269), (qI 188), (qI 0), (qV 276), (qI 193), (qI 0), (qV 283), (qI 195), (qI 0), (qV 290), (qI 198), (qI 0), (qV 297), (qI 200), (qI 0), (qV 304), (qI 203), (qI 0), (qV 311), (qI 208), (qI 0), (qV 318), (qI 214), (qI 0), (qV 325), (qI 217), (qI 0), (qV 332), (qI 219), (qI 0), (qV 339), (qI 224), (qI 0), (qV 346), (qI 226), (qI 0), (qV 353), (qI 228), (qI 0), (qV 360), (qI 230), (qI 0), (qV 367), (qI 239), (qI 0), (qV 374), (qI 241), (qI 0), (qV 381), (qI 243), (qI 0), (qV 388), (qI 245), (qI 0), (qV 395), (qI 247), (qI 0), (qV 402), (qI 252), (qI 0), (qV 409), (qI 254), (qI 0), (qV 416), (qI 256), (qI 0), (qV 423), (qI 258), (qI 0), (qV 430), (qI 266), (qI 0), (qV 437), (qI 277), (qI 0), (qV 444), (qI 297), (qI 0), (qV 451), (qI 315), (qI 0), (qV 458), (qI 333), (qI 0), (qV 465), (qI 347), (qI 0), (qV 472), (qI 356), (qI 0), (qV 479), (qI 358), (qI 0), (qV 486), (qI 366), (qI 0), (qV 493), (qI 372), (qI 0), (qV 500), (qI 380), (qI 0), (qV 507), (qI 385), (qI 0), (qV 514), (qI 399), (qI 0), (qV 519), (qI 430), (qI 0), (qV 526), (qI 437), (qI 0), (qV 533), (qI 441), (qI 0), (qV 540), (qI 460), (qI 0), (qV 547), (qI 471), (qI 0), (qV 554), (qI 510), (qI 0), (qV 617), (qI 553), (qI 0), (qV 659), (qI 573), (qI 0), (qV 702), (qI 650), (qI 0), (qV 779), (qI 693), (qI 0), (qV 825), (qI 701), (qI 0), (qV 832), (qI 708), (qI 0), (qV 839), (qI 719), (qI 0), (qV 846), (qI 727), (qI 0), (qV 853), (qI 738), (qI 0), (qV 860), (qI 741), (qI 0), (qV 867), (qI 768), (qI 0), (qV 874), (qI 787), (qI 0), (qV 881), (qI 796), (qI 0), (qV 888), (qI 802), (qI 0), (qV 895), (qI 808), (qI 0), (qV 902), (qI 816), (qI 0), (qV 909), (qI 822), (qI 0), (qV 914), (qI 840), (qI 0), (qV 921), (qI 851), (qI 0), (qV 926), (qI 857), (qI 0), (qV 933), (qI 882), (qI 0), (qV 940), (qI 889), (qI 0), (qV 947), (qI 896), (qI 0), (qV 954), (qI 907), (qI 0), (qV 961), (qI 912), (qI 0), (qV 968), (qI 914), (qI 0), (qV 975), (qI 927), (qI 0), (qV 982), (qI 938), (qI 0), (qV 989), (qI 942), (qI 0), (qV 996), (qI 949), (qI 0), (qV 1003), (qI 955), (qI 0), (qV 1010), (qI 959), (qI 0), (qV 1017), (qI 964), (qI 0), (qV 1024), (qI 966), (qI 0), (qV 1031), (qI 968), (qI 0), (qV 1038), (qI 970), (qI 0), (qV 1045), (qI 974), (qI 0), (qV 1052), (qI 978), (qI 0), (qV 1059), (qI 996), (qI 0), (qV 1066), (qI 1003), (qI 0), (qV 1073), (qI 1010), (qI 0), (qV 1080), (qI 1020), (qI 0), (qV 1087), (qI 1026), (qI 0), (qV 1094), (qI 1048), (qI 0), (qV 1101), (qI 1061), (qI 0), (qV 1108), (qI 1080), (qI 0), (qV 1115), (qI 1092), (qI 0), (qV 1122), (qI 1100), (qI 0), (qV 1129), (qI 1118), (qI 0), (qV 1136), (qI 1127), (qI 0), (qV 1143), (qI 1137), (qI 0), (qV 1150), (qI 1142), (qI 0), (qV 1157), (qI 1149), (qI 0), (qV 1164), (qI 1157), (qI 0), (qV 1171), (qI 1161), (qI 0), (qV 1178), (qI 1189), (qI 0), (qV 1185), (qI 1196), (qI 0), (qV 1192), (qI 1215), (qI 0), (qV 1199), (qI 1238), (qI 0), (qV 1206), (qI 1241), (qI 0), (qV 1213), (qI 1244), (qI 0), (qV 1220), (qI 1251), (qI 0), (qV 1227), (qI 1254), (qI 0), (qV 1234), (qI 1261), (qI 0), (qV 1241), (qI 1274), (qI 0), (qV 1248), (qI 1276), (qI 0), (qV 1255), (qI 1284), (qI 0), (qV 1262), (qI 1291), (qI 0), (qV 1267), (qI 1300), (qI 0), (qV 1274), (qI 1307), (qI 0), (qV 1281), (qI 1313), (qI 0), (qV 1288)]
noncomputable def ho_0 : Obj := qT #[]
noncomputable def ho_1 : Obj := { cls := .none, dict := none, data := .fields (hf_12.take 0).toArray, slots := #[] }
noncomputable def ho_2 : Obj := qC #[(qS "<module>" 182), (qS "<module>" 183), (qS "/claim/cut.py" 184), (qI 1), (qI 0), (qI 0), (qI 0), (qI 0), (qV 11), (.bool false), (qI 181), (qV 12), .none, .none, .none, .none, (qI 185), (qI 1), (qS "/claim/cut.py" 186)]
noncomputable def ho_3 : Obj := { cls := (.type "frame"), dict := none, data := .plain, slots := #[(some (qV 13)), (some (qV 3)), (some (qV 3)), none, (some (qS "__main__" 164)), none, (some (qV 0))] }
noncomputable def ho_4 (P : Params) : Obj := { cls := .none, dict := none, data := .dict #[dE P "type.__subclasses__.Exception.0" 228 (qI 39), dE P "type.__subclasses__.Exception.n" 229 (qI 1)] 2, slots := #[] }
noncomputable def ho_5 (P : Params) : Obj := { cls := (.type "dict"), dict := none, data := .dict (((hd_3 P).take 11).set 0 (dE P "__name__" 165 (qS "gateloom.errors" 194))).toArray 11, slots := #[] }
noncomputable def ho_6 : Obj := { cls := .none, dict := none, data := .fields (hf_12.take 6).toArray, slots := #[] }
noncomputable def ho_7 : Obj := qF #[]
noncomputable def ho_8 : Obj := qT #[(qS "k" 190)]
noncomputable def ho_9 : Obj := qR (stm 0) "_wall"
noncomputable def ho_10 : Obj := qC #[(qS "_wall" 187), (qS "_wall" 188), (qS "/claim/cut.py" 189), (qI 1), (qI 1), (qI 0), (qI 0), (qI 3), (qV 15), (.bool true), (qI 181), (qV 16), .none, (qV 17), (qV 18), (qV 19), (qI 191), (qI 1), (qS "/claim/cut.py" 192)]
noncomputable def ho_11 : Obj := qN (stm 0) "_wall" .none (qS "__main__" 164) 20
noncomputable def ho_12 : Obj := qT #[(.type "Exception")]
noncomputable def ho_13 : Obj := { cls := (.type "builtin_function_or_method"), dict := none, data := .fields #[(.builtin "type.__prepare__"), (.type "type")], slots := #[] }
noncomputable def ho_14 (P : Params) : Obj := { cls := (.type "dict"), dict := none, data := .dict #[dE P "__module__" 203 (qS "gateloom.errors" 194), dE P "__qualname__" 205 (qS "GateloomError" 204), dE P "__firstlineno__" 207 (.int (5) 206), dE P "__init__" 220 (qV 36), dE P "__static_attributes__" 224 (qV 37)] 5, slots := #[] }
noncomputable def ho_15 : Obj := qF #[(qI 7), (qI 4), (qV 35)]
noncomputable def ho_16 : Obj := qC #[(qS "GateloomError" 198), (qS "GateloomError" 199), (qS "/claim/cut.py" 200), (qI 5), (qI 0), (qI 0), (qI 0), (qI 0), (qV 25), (.bool false), (qI 181), (qV 26), .none, .none, .none, .none, (qI 201), (qI 5), (qS "/claim/cut.py" 202)]
noncomputable def ho_17 : Obj := { cls := (.type "frame"), dict := none, data := .plain, slots := #[(some (qV 27)), (some (qV 3)), (some (qV 24)), none, (some (qS "gateloom.errors" 194)), none, (some (qV 0))] }
noncomputable def ho_18 : Obj := qT #[(.int (-1) 209), (qS "" 210)]
noncomputable def ho_19 : Obj := qT #[(qS "self" 214), (qS "kind" 215), (qS "at" 216), (qS "detail" 217)]
noncomputable def ho_20 : Obj := qR (met 2 0) "GateloomError.__init__"
noncomputable def ho_21 : Obj := qC #[(qS "__init__" 211), (qS "GateloomError.__init__" 212), (qS "/claim/cut.py" 213), (qI 7), (qI 4), (qI 0), (qI 0), (qI 3), (qV 30), (.bool true), (qI 181), (qV 31), .none, (qV 32), (qV 33), (qV 34), (qI 218), (qI 7), (qS "/claim/cut.py" 219)]
noncomputable def ho_22 : Obj := qN (met 2 0) "GateloomError.__init__" (qV 29) (qS "gateloom.errors" 194) 35
noncomputable def ho_23 : Obj := qT #[(qS "at" 221), (qS "detail" 222), (qS "kind" 223)]
noncomputable def ho_24 (P : Params) : Obj := { cls := (.type "dict"), dict := none, data := .dict #[dE P "__module__" 203 (qS "gateloom.errors" 194), dE P "__firstlineno__" 207 (.int (5) 206), dE P "__init__" 220 (qV 36), dE P "__static_attributes__" 224 (qV 37), dE P "__weakref__" 226 (qV 40), dE P "__doc__" 227 .none] 3, slots := #[] }
noncomputable def ho_25 : Obj := { cls := (.type "type"), dict := none, data := .cls { name := (Str.ofString "GateloomError"), bases := [(.type "Exception")], mro := [(qV 39), (.type "Exception"), (.type "BaseException"), (.type "object")], ns := 38, qualname := (Str.ofString "GateloomError"), hasDict := true, slotNames := [], subclasses := [], abstract := false, collection := none, hasDel := false }, slots := #[(some (qV 22)), none, (some (qS "GateloomError" 196)), (some (qS "GateloomError" 204)), (some (.builtin "Exception.__new__")), (some (.bool true))] }
noncomputable def ho_26 : Obj := { cls := (.type "getset_descriptor"), dict := none, data := .fields #[(qS "__weakref__" 225), (qV 39), (.builtin "ExceptionGroup.__weakref__"), .none], slots := #[] }
noncomputable def ho_27 : Obj := { cls := (.type "super"), dict := none, data := .fields #[(qV 39), (qV 39), (qV 39)], slots := #[] }
noncomputable def ho_28 : Obj := { cls := (.type "builtin_function_or_method"), dict := none, data := .fields #[(.builtin "object.__init_subclass__"), (qV 39)], slots := #[] }
noncomputable def ho_29 (P : Params) : Obj := { cls := (.type "dict"), dict := none, data := .dict (((hd_3 P).take 12).set 0 (dE P "__name__" 165 (qS "gateloom.errors" 194))).toArray 12, slots := #[] }
noncomputable def ho_30 : Obj := { cls := .none, dict := none, data := .fields (hf_12.take 9).toArray, slots := #[] }
noncomputable def ho_31 : Obj := { cls := (.type "type"), dict := none, data := .cls { name := (Str.ofString "GateloomError"), bases := [(.type "Exception")], mro := [(qV 39), (.type "Exception"), (.type "BaseException"), (.type "object")], ns := 38, qualname := (Str.ofString "GateloomError"), hasDict := true, slotNames := [], subclasses := [(qV 52)], abstract := false, collection := none, hasDel := false }, slots := #[(some (qV 22)), none, (some (qS "GateloomError" 196)), (some (qS "GateloomError" 204)), (some (.builtin "Exception.__new__")), (some (.bool true))] }
noncomputable def ho_32 : Obj := qT #[(qV 39)]
noncomputable def ho_33 (P : Params) : Obj := { cls := (.type "dict"), dict := none, data := .dict #[dE P "__module__" 239 (qS "gateloom.errors" 194), dE P "__qualname__" 241 (qS "DesignError" 240), dE P "__firstlineno__" 243 (.int (11) 242), dE P "__static_attributes__" 244 (qV 50)] 4, slots := #[] }
noncomputable def ho_34 : Obj := qC #[(qS "DesignError" 234), (qS "DesignError" 235), (qS "/claim/cut.py" 236), (qI 11), (qI 0), (qI 0), (qI 0), (qI 0), (qV 46), (.bool false), (qI 181), (qV 47), .none, .none, .none, .none, (qI 237), (qI 11), (qS "/claim/cut.py" 238)]
noncomputable def ho_35 : Obj := { cls := (.type "frame"), dict := none, data := .plain, slots := #[(some (qV 48)), (some (qV 3)), (some (qV 45)), none, (some (qS "gateloom.errors" 194)), none, (some (qV 0))] }
noncomputable def ho_36 (P : Params) : Obj := { cls := (.type "dict"), dict := none, data := .dict #[dE P "__module__" 239 (qS "gateloom.errors" 194), dE P "__firstlineno__" 243 (.int (11) 242), dE P "__static_attributes__" 244 (qV 50), dE P "__doc__" 245 .none] 2, slots := #[] }
noncomputable def ho_37 : Obj := { cls := (.type "type"), dict := none, data := .cls { name := (Str.ofString "DesignError"), bases := [(qV 39)], mro := [(qV 52), (qV 39), (.type "Exception"), (.type "BaseException"), (.type "object")], ns := 51, qualname := (Str.ofString "DesignError"), hasDict := true, slotNames := [], subclasses := [], abstract := false, collection := none, hasDel := false }, slots := #[(some (qV 43)), none, (some (qS "DesignError" 232)), (some (qS "DesignError" 240)), (some (.builtin "Exception.__new__")), (some (.bool true))] }
noncomputable def ho_38 : Obj := { cls := (.type "super"), dict := none, data := .fields #[(qV 52), (qV 52), (qV 52)], slots := #[] }
noncomputable def ho_39 : Obj := { cls := (.type "builtin_function_or_method"), dict := none, data := .fields #[(.builtin "object.__init_subclass__"), (qV 52)], slots := #[] }
noncomputable def ho_40 (P : Params) : Obj := { cls := (.type "dict"), dict := none, data := .dict (((hd_3 P).take 18).set 0 (dE P "__name__" 165 (qS "gateloom.vec" 264))).toArray 18, slots := #[] }
noncomputable def ho_41 : Obj := { cls := .none, dict := none, data := .fields (hf_12.take 27).toArray, slots := #[] }
noncomputable def ho_42 : Obj := { cls := (.type "type"), dict := none, data := .cls { name := (Str.ofString "GateloomError"), bases := [(.type "Exception")], mro := [(qV 39), (.type "Exception"), (.type "BaseException"), (.type "object")], ns := 38, qualname := (Str.ofString "GateloomError"), hasDict := true, slotNames := [], subclasses := [(qV 52), (qV 64)], abstract := false, collection := none, hasDel := false }, slots := #[(some (qV 22)), none, (some (qS "GateloomError" 196)), (some (qS "GateloomError" 204)), (some (.builtin "Exception.__new__")), (some (.bool true))] }
noncomputable def ho_43 (P : Params) : Obj := { cls := (.type "dict"), dict := none, data := .dict #[dE P "__module__" 255 (qS "gateloom.errors" 194), dE P "__qualname__" 257 (qS "LimitReached" 256), dE P "__firstlineno__" 259 (.int (13) 258), dE P "__static_attributes__" 260 (qV 62)] 4, slots := #[] }
noncomputable def ho_44 : Obj := qC #[(qS "LimitReached" 250), (qS "LimitReached" 251), (qS "/claim/cut.py" 252), (qI 13), (qI 0), (qI 0), (qI 0), (qI 0), (qV 58), (.bool false), (qI 181), (qV 59), .none, .none, .none, .none, (qI 253), (qI 13), (qS "/claim/cut.py" 254)]
noncomputable def ho_45 : Obj := { cls := (.type "frame"), dict := none, data := .plain, slots := #[(some (qV 60)), (some (qV 3)), (some (qV 57)), none, (some (qS "gateloom.errors" 194)), none, (some (qV 0))] }
noncomputable def ho_46 (P : Params) : Obj := { cls := (.type "dict"), dict := none, data := .dict #[dE P "__module__" 255 (qS "gateloom.errors" 194), dE P "__firstlineno__" 259 (.int (13) 258), dE P "__static_attributes__" 260 (qV 62), dE P "__doc__" 261 .none] 2, slots := #[] }
noncomputable def ho_47 : Obj := { cls := (.type "type"), dict := none, data := .cls { name := (Str.ofString "LimitReached"), bases := [(qV 39)], mro := [(qV 64), (qV 39), (.type "Exception"), (.type "BaseException"), (.type "object")], ns := 63, qualname := (Str.ofString "LimitReached"), hasDict := true, slotNames := [], subclasses := [], abstract := false, collection := none, hasDel := false }, slots := #[(some (qV 55)), none, (some (qS "LimitReached" 248)), (some (qS "LimitReached" 256)), (some (.builtin "Exception.__new__")), (some (.bool true))] }
noncomputable def ho_48 : Obj := { cls := (.type "super"), dict := none, data := .fields #[(qV 64), (qV 64), (qV 64)], slots := #[] }
noncomputable def ho_49 : Obj := { cls := (.type "builtin_function_or_method"), dict := none, data := .fields #[(.builtin "object.__init_subclass__"), (qV 64)], slots := #[] }
noncomputable def ho_50 : Obj := qT #[(qS "w" 269)]
noncomputable def ho_51 : Obj := qR (stm 6) "mask"
noncomputable def ho_52 : Obj := qC #[(qS "mask" 266), (qS "mask" 267), (qS "/claim/cut.py" 268), (qI 16), (qI 1), (qI 0), (qI 0), (qI 3), (qV 67), (.bool true), (qI 181), (qV 68), .none, (qV 69), (qV 70), (qV 71), (qI 270), (qI 16), (qS "/claim/cut.py" 271)]
noncomputable def ho_53 : Obj := qN (stm 6) "mask" .none (qS "gateloom.vec" 264) 72
noncomputable def ho_54 : Obj := qT #[(.int (0) 273)]
noncomputable def ho_55 : Obj := qT #[(qS "w" 277), (qS "a" 278), (qS "b" 279), (qS "full" 280)]
noncomputable def ho_56 : Obj := qR (stm 7) "vec"
noncomputable def ho_57 : Obj := qC #[(qS "vec" 274), (qS "vec" 275), (qS "/claim/cut.py" 276), (qI 18), (qI 3), (qI 0), (qI 0), (qI 3), (qV 75), (.bool true), (qI 181), (qV 76), .none, (qV 77), (qV 78), (qV 79), (qI 281), (qI 18), (qS "/claim/cut.py" 282)]
noncomputable def ho_58 : Obj := qN (stm 7) "vec" (qV 74) (qS "gateloom.vec" 264) 80
noncomputable def ho_59 : Obj := qT #[(qS "w" 287)]
noncomputable def ho_60 : Obj := qR (stm 8) "zeros"
noncomputable def ho_61 : Obj := qC #[(qS "zeros" 284), (qS "zeros" 285), (qS "/claim/cut.py" 286), (qI 21), (qI 1), (qI 0), (qI 0), (qI 3), (qV 82), (.bool true), (qI 181), (qV 83), .none, (qV 84), (qV 85), (qV 86), (qI 288), (qI 21), (qS "/claim/cut.py" 289)]
noncomputable def ho_62 : Obj := qN (stm 8) "zeros" .none (qS "gateloom.vec" 264) 87
noncomputable def ho_63 : Obj := qT #[(qS "w" 294), (qS "full" 295)]
noncomputable def ho_64 : Obj := qR (stm 9) "all_x"
noncomputable def ho_65 : Obj := qC #[(qS "all_x" 291), (qS "all_x" 292), (qS "/claim/cut.py" 293), (qI 23), (qI 1), (qI 0), (qI 0), (qI 3), (qV 89), (.bool true), (qI 181), (qV 90), .none, (qV 91), (qV 92), (qV 93), (qI 296), (qI 23), (qS "/claim/cut.py" 297)]
noncomputable def ho_66 : Obj := qN (stm 9) "all_x" .none (qS "gateloom.vec" 264) 94
noncomputable def ho_67 : Obj := qT #[(qS "w" 302)]
noncomputable def ho_68 : Obj := qR (stm 10) "all_z"
noncomputable def ho_69 : Obj := qC #[(qS "all_z" 299), (qS "all_z" 300), (qS "/claim/cut.py" 301), (qI 26), (qI 1), (qI 0), (qI 0), (qI 3), (qV 96), (.bool true), (qI 181), (qV 97), .none, (qV 98), (qV 99), (qV 100), (qI 303), (qI 26), (qS "/claim/cut.py" 304)]
noncomputable def ho_70 : Obj := qN (stm 10) "all_z" .none (qS "gateloom.vec" 264) 101
noncomputable def ho_71 (P : Params) : Obj := { cls := (.type "dict"), dict := none, data := .dict (((hd_3 P).take 30).set 0 (dE P "__name__" 165 (qS "gateloom.vecarith" 410))).toArray 30, slots := #[] }
noncomputable def ho_72 : Obj := { cls := .none, dict := none, data := .fields (hf_12.take 63).toArray, slots := #[] }
noncomputable def ho_73 : Obj := qT #[(qS "w" 309), (qS "n" 310)]
noncomputable def ho_74 : Obj := qR (stm 11) "from_int"
noncomputable def ho_75 : Obj := qC #[(qS "from_int" 306), (qS "from_int" 307), (qS "/claim/cut.py" 308), (qI 28), (qI 2), (qI 0), (qI 0), (qI 3), (qV 103), (.bool true), (qI 181), (qV 104), .none, (qV 105), (qV 106), (qV 107), (qI 311), (qI 28), (qS "/claim/cut.py" 312)]
noncomputable def ho_76 : Obj := qN (stm 11) "from_int" .none (qS "gateloom.vec" 264) 108
noncomputable def ho_77 : Obj := qT #[(qS "v" 317)]
noncomputable def ho_78 : Obj := qR (stm 12) "is_known"
noncomputable def ho_79 : Obj := qC #[(qS "is_known" 314), (qS "is_known" 315), (qS "/claim/cut.py" 316), (qI 30), (qI 1), (qI 0), (qI 0), (qI 3), (qV 110), (.bool true), (qI 181), (qV 111), .none, (qV 112), (qV 113), (qV 114), (qI 318), (qI 30), (qS "/claim/cut.py" 319)]
noncomputable def ho_80 : Obj := qN (stm 12) "is_known" .none (qS "gateloom.vec" 264) 115
noncomputable def ho_81 : Obj := qT #[(qS "v" 324), (qS "signed" 325), (qS "w" 326), (qS "a" 327), (qS "b" 328)]
noncomputable def ho_82 : Obj := qR (stm 13) "to_int"
noncomputable def ho_83 : Obj := qC #[(qS "to_int" 321), (qS "to_int" 322), (qS "/claim/cut.py" 323), (qI 32), (qI 2), (qI 0), (qI 0), (qI 3), (qV 117), (.bool true), (qI 181), (qV 118), .none, (qV 119), (qV 120), (qV 121), (qI 329), (qI 32), (qS "/claim/cut.py" 330)]
noncomputable def ho_84 : Obj := qN (stm 13) "to_int" .none (qS "gateloom.vec" 264) 122
noncomputable def ho_85 : Obj := qT #[(qS "v" 335), (qS "i" 336)]
noncomputable def ho_86 : Obj := qR (stm 14) "code"
noncomputable def ho_87 : Obj := qC #[(qS "code" 332), (qS "code" 333), (qS "/claim/cut.py" 334), (qI 39), (qI 2), (qI 0), (qI 0), (qI 3), (qV 124), (.bool true), (qI 181), (qV 125), .none, (qV 126), (qV 127), (qV 128), (qI 337), (qI 39), (qS "/claim/cut.py" 338)]
noncomputable def ho_88 : Obj := qN (stm 14) "code" .none (qS "gateloom.vec" 264) 129
noncomputable def ho_89 : Obj := qT #[(qS "v" 343), (qS "lo" 344), (qS "w" 345), (qS "first" 346), (qS "last" 347), (qS "inner" 348), (qS "shift" 349), (qS "outside" 350), (qS "a" 351), (qS "b" 352)]
noncomputable def ho_90 : Obj := qR (stm 15) "slice_vec"
noncomputable def ho_91 : Obj := qC #[(qS "slice_vec" 340), (qS "slice_vec" 341), (qS "/claim/cut.py" 342), (qI 41), (qI 3), (qI 0), (qI 0), (qI 3), (qV 131), (.bool true), (qI 181), (qV 132), .none, (qV 133), (qV 134), (qV 135), (qI 353), (qI 41), (qS "/claim/cut.py" 354)]
noncomputable def ho_92 : Obj := qN (stm 15) "slice_vec" .none (qS "gateloom.vec" 264) 136
noncomputable def ho_93 : Obj := qT #[(qS "v" 359), (qS "lo" 360), (qS "part" 361), (qS "first" 362), (qS "last" 363), (qS "inner" 364), (qS "skip" 365), (qS "keep" 366), (qS "a" 367), (qS "b" 368)]
noncomputable def ho_94 : Obj := qR (stm 16) "put_slice"
noncomputable def ho_95 : Obj := qC #[(qS "put_slice" 356), (qS "put_slice" 357), (qS "/claim/cut.py" 358), (qI 52), (qI 3), (qI 0), (qI 0), (qI 3), (qV 138), (.bool true), (qI 181), (qV 139), .none, (qV 140), (qV 141), (qV 142), (qI 369), (qI 52), (qS "/claim/cut.py" 370)]
noncomputable def ho_96 : Obj := qN (stm 16) "put_slice" .none (qS "gateloom.vec" 264) 143
noncomputable def ho_97 : Obj := qT #[(qS "vs" 375), (qS "w" 376), (qS "a" 377), (qS "b" 378), (qS "v" 379)]
noncomputable def ho_98 : Obj := qR (stm 17) "concat"
noncomputable def ho_99 : Obj := qC #[(qS "concat" 372), (qS "concat" 373), (qS "/claim/cut.py" 374), (qI 63), (qI 1), (qI 0), (qI 0), (qI 3), (qV 145), (.bool true), (qI 181), (qV 146), .none, (qV 147), (qV 148), (qV 149), (qI 380), (qI 63), (qS "/claim/cut.py" 381)]
noncomputable def ho_100 : Obj := qN (stm 17) "concat" .none (qS "gateloom.vec" 264) 150
noncomputable def ho_101 : Obj := qT #[(qS "v" 386), (qS "w" 387), (qS "signed" 388), (qS "fill" 389), (qS "top" 390), (qS "a" 391), (qS "b" 392)]
noncomputable def ho_102 : Obj := qR (stm 18) "extend"
noncomputable def ho_103 : Obj := qC #[(qS "extend" 383), (qS "extend" 384), (qS "/claim/cut.py" 385), (qI 72), (qI 3), (qI 0), (qI 0), (qI 3), (qV 152), (.bool true), (qI 181), (qV 153), .none, (qV 154), (qV 155), (qV 156), (qI 393), (qI 72), (qS "/claim/cut.py" 394)]
noncomputable def ho_104 : Obj := qN (stm 18) "extend" .none (qS "gateloom.vec" 264) 157
noncomputable def ho_105 : Obj := qT #[(qS "v" 399)]
noncomputable def ho_106 : Obj := qR (stm 19) "z_to_x"
noncomputable def ho_107 : Obj := qC #[(qS "z_to_x" 396), (qS "z_to_x" 397), (qS "/claim/cut.py" 398), (qI 82), (qI 1), (qI 0), (qI 0), (qI 3), (qV 159), (.bool true), (qI 181), (qV 160), .none, (qV 161), (qV 162), (qV 163), (qI 400), (qI 82), (qS "/claim/cut.py" 401)]
noncomputable def ho_108 : Obj := qN (stm 19) "z_to_x" .none (qS "gateloom.vec" 264) 164
noncomputable def ho_109 : Obj := qT #[(qS "v" 406)]
noncomputable def ho_110 : Obj := qR (stm 20) "truth"
noncomputable def ho_111 : Obj := qC #[(qS "truth" 403), (qS "truth" 404), (qS "/claim/cut.py" 405), (qI 84), (qI 1), (qI 0), (qI 0), (qI 3), (qV 166), (.bool true), (qI 181), (qV 167), .none, (qV 168), (qV 169), (qV 170), (qI 407), (qI 84), (qS "/claim/cut.py" 408)]
noncomputable def ho_112 : Obj := qN (stm 20) "truth" .none (qS "gateloom.vec" 264) 171
noncomputable def ho_113 : Obj := qT #[(qS "u" 415), (qS "v" 416)]
noncomputable def ho_114 : Obj := qR (stm 22) "add"
noncomputable def ho_115 : Obj := qC #[(qS "add" 412), (qS "add" 413), (qS "/claim/cut.py" 414), (qI 91), (qI 2), (qI 0), (qI 0), (qI 3), (qV 173), (.bool true), (qI 181), (qV 174), .none, (qV 175), (qV 176), (qV 177), (qI 417), (qI 91), (qS "/claim/cut.py" 418)]
noncomputable def ho_116 : Obj := qN (stm 22) "add" .none (qS "gateloom.vecarith" 410) 178
noncomputable def ho_117 : Obj := qT #[(qS "u" 423), (qS "v" 424)]
noncomputable def ho_118 : Obj := qR (stm 23) "sub"
noncomputable def ho_119 : Obj := qC #[(qS "sub" 420), (qS "sub" 421), (qS "/claim/cut.py" 422), (qI 95), (qI 2), (qI 0), (qI 0), (qI 3), (qV 180), (.bool true), (qI 181), (qV 181), .none, (qV 182), (qV 183), (qV 184), (qI 425), (qI 95), (qS "/claim/cut.py" 426)]
noncomputable def ho_120 : Obj := qN (stm 23) "sub" .none (qS "gateloom.vecarith" 410) 185
noncomputable def ho_121 (P : Params) : Obj := { cls := (.type "dict"), dict := none, data := .dict (((hd_3 P).take 42).set 0 (dE P "__name__" 165 (qS "gateloom.vecarith" 410))).toArray 42, slots := #[] }
noncomputable def ho_122 : Obj := { cls := .none, dict := none, data := .fields (hf_12.take 99).toArray, slots := #[] }
noncomputable def ho_123 : Obj := qT #[(qS "u" 431), (qS "v" 432)]
noncomputable def ho_124 : Obj := qR (stm 24) "mul"
noncomputable def ho_125 : Obj := qC #[(qS "mul" 428), (qS "mul" 429), (qS "/claim/cut.py" 430), (qI 99), (qI 2), (qI 0), (qI 0), (qI 3), (qV 187), (.bool true), (qI 181), (qV 188), .none, (qV 189), (qV 190), (qV 191), (qI 433), (qI 99), (qS "/claim/cut.py" 434)]
noncomputable def ho_126 : Obj := qN (stm 24) "mul" .none (qS "gateloom.vecarith" 410) 192
noncomputable def ho_127 : Obj := qT #[(qS "v" 439)]
noncomputable def ho_128 : Obj := qR (stm 25) "neg"
noncomputable def ho_129 : Obj := qC #[(qS "neg" 436), (qS "neg" 437), (qS "/claim/cut.py" 438), (qI 103), (qI 1), (qI 0), (qI 0), (qI 3), (qV 194), (.bool true), (qI 181), (qV 195), .none, (qV 196), (qV 197), (qV 198), (qI 440), (qI 103), (qS "/claim/cut.py" 441)]
noncomputable def ho_130 : Obj := qN (stm 25) "neg" .none (qS "gateloom.vecarith" 410) 199
noncomputable def ho_131 : Obj := qT #[(qS "m" 446), (qS "n" 447), (qS "found" 448)]
noncomputable def ho_132 : Obj := qR (stm 26) "quotient"
noncomputable def ho_133 : Obj := qC #[(qS "quotient" 443), (qS "quotient" 444), (qS "/claim/cut.py" 445), (qI 107), (qI 2), (qI 0), (qI 0), (qI 3), (qV 201), (.bool true), (qI 181), (qV 202), .none, (qV 203), (qV 204), (qV 205), (qI 449), (qI 107), (qS "/claim/cut.py" 450)]
noncomputable def ho_134 : Obj := qN (stm 26) "quotient" .none (qS "gateloom.vecarith" 410) 206
noncomputable def ho_135 : Obj := qT #[(qS "u" 455), (qS "v" 456), (qS "signed" 457), (qS "m" 458), (qS "n" 459)]
noncomputable def ho_136 : Obj := qR (stm 27) "div"
noncomputable def ho_137 : Obj := qC #[(qS "div" 452), (qS "div" 453), (qS "/claim/cut.py" 454), (qI 112), (qI 3), (qI 0), (qI 0), (qI 3), (qV 208), (.bool true), (qI 181), (qV 209), .none, (qV 210), (qV 211), (qV 212), (qI 460), (qI 112), (qS "/claim/cut.py" 461)]
noncomputable def ho_138 : Obj := qN (stm 27) "div" .none (qS "gateloom.vecarith" 410) 213
noncomputable def ho_139 : Obj := qT #[(qS "u" 466), (qS "v" 467), (qS "signed" 468), (qS "m" 469), (qS "n" 470)]
noncomputable def ho_140 : Obj := qR (stm 28) "mod"
noncomputable def ho_141 : Obj := qC #[(qS "mod" 463), (qS "mod" 464), (qS "/claim/cut.py" 465), (qI 118), (qI 3), (qI 0), (qI 0), (qI 3), (qV 215), (.bool true), (qI 181), (qV 216), .none, (qV 217), (qV 218), (qV 219), (qI 471), (qI 118), (qS "/claim/cut.py" 472)]
noncomputable def ho_142 : Obj := qN (stm 28) "mod" .none (qS "gateloom.vecarith" 410) 220
noncomputable def ho_143 : Obj := qT #[(qS "base" 477), (qS "exponent" 478), (qS "w" 479), (qS "full" 480), (qS "result" 481), (qS "square" 482), (qS "rest" 483)]
noncomputable def ho_144 : Obj := qR (stm 29) "raise_whole"
noncomputable def ho_145 : Obj := qC #[(qS "raise_whole" 474), (qS "raise_whole" 475), (qS "/claim/cut.py" 476), (qI 124), (qI 3), (qI 0), (qI 0), (qI 3), (qV 222), (.bool true), (qI 181), (qV 223), .none, (qV 224), (qV 225), (qV 226), (qI 484), (qI 124), (qS "/claim/cut.py" 485)]
noncomputable def ho_146 : Obj := qN (stm 29) "raise_whole" .none (qS "gateloom.vecarith" 410) 227
noncomputable def ho_147 : Obj := qT #[(qS "u" 490), (qS "v" 491), (qS "usigned" 492), (qS "vsigned" 493), (qS "w" 494), (qS "base" 495), (qS "exponent" 496)]
noncomputable def ho_148 : Obj := qR (stm 30) "power"
noncomputable def ho_149 : Obj := qC #[(qS "power" 487), (qS "power" 488), (qS "/claim/cut.py" 489), (qI 135), (qI 4), (qI 0), (qI 0), (qI 3), (qV 229), (.bool true), (qI 181), (qV 230), .none, (qV 231), (qV 232), (qV 233), (qI 497), (qI 135), (qS "/claim/cut.py" 498)]
noncomputable def ho_150 : Obj := qN (stm 30) "power" .none (qS "gateloom.vecarith" 410) 234
noncomputable def ho_151 : Obj := qT #[(qS "u" 503), (qS "n" 504), (qS "w" 505), (qS "full" 506)]
noncomputable def ho_152 : Obj := qR (stm 31) "shift_left"
noncomputable def ho_153 : Obj := qC #[(qS "shift_left" 500), (qS "shift_left" 501), (qS "/claim/cut.py" 502), (qI 150), (qI 2), (qI 0), (qI 0), (qI 3), (qV 236), (.bool true), (qI 181), (qV 237), .none, (qV 238), (qV 239), (qV 240), (qI 507), (qI 150), (qS "/claim/cut.py" 508)]
noncomputable def ho_154 : Obj := qN (stm 31) "shift_left" .none (qS "gateloom.vecarith" 410) 241
noncomputable def ho_155 : Obj := qT #[(qS "u" 513), (qS "n" 514), (qS "w" 515)]
noncomputable def ho_156 : Obj := qR (stm 32) "shift_right"
noncomputable def ho_157 : Obj := qC #[(qS "shift_right" 510), (qS "shift_right" 511), (qS "/claim/cut.py" 512), (qI 158), (qI 2), (qI 0), (qI 0), (qI 3), (qV 243), (.bool true), (qI 181), (qV 244), .none, (qV 245), (qV 246), (qV 247), (qI 516), (qI 158), (qS "/claim/cut.py" 517)]
noncomputable def ho_158 : Obj := qN (stm 32) "shift_right" .none (qS "gateloom.vecarith" 410) 248
noncomputable def ho_159 : Obj := qT #[(qS "u" 522), (qS "n" 523), (qS "signed" 524), (qS "w" 525), (qS "count" 526), (qS "fill" 527), (qS "top" 528), (qS "a" 529), (qS "b" 530)]
noncomputable def ho_160 : Obj := qR (stm 33) "shift_arith"
noncomputable def ho_161 : Obj := qC #[(qS "shift_arith" 519), (qS "shift_arith" 520), (qS "/claim/cut.py" 521), (qI 165), (qI 3), (qI 0), (qI 0), (qI 3), (qV 250), (.bool true), (qI 181), (qV 251), .none, (qV 252), (qV 253), (qV 254), (qI 531), (qI 165), (qS "/claim/cut.py" 532)]
noncomputable def ho_162 : Obj := qN (stm 33) "shift_arith" .none (qS "gateloom.vecarith" 410) 255
noncomputable def ho_163 : Obj := qT #[(qS "u" 537), (qS "v" 538), (qS "signed" 539), (qS "m" 540), (qS "n" 541)]
noncomputable def ho_164 : Obj := qR (stm 34) "ordered"
noncomputable def ho_165 : Obj := qC #[(qS "ordered" 534), (qS "ordered" 535), (qS "/claim/cut.py" 536), (qI 175), (qI 3), (qI 0), (qI 0), (qI 3), (qV 257), (.bool true), (qI 181), (qV 258), .none, (qV 259), (qV 260), (qV 261), (qI 542), (qI 175), (qS "/claim/cut.py" 543)]
noncomputable def ho_166 : Obj := qN (stm 34) "ordered" .none (qS "gateloom.vecarith" 410) 262
noncomputable def ho_167 : Obj := qT #[(qS "u" 548), (qS "v" 549), (qS "signed" 550), (qS "sign" 551)]
noncomputable def ho_168 : Obj := qR (stm 35) "less"
noncomputable def ho_169 : Obj := qC #[(qS "less" 545), (qS "less" 546), (qS "/claim/cut.py" 547), (qI 183), (qI 3), (qI 0), (qI 0), (qI 3), (qV 264), (.bool true), (qI 181), (qV 265), .none, (qV 266), (qV 267), (qV 268), (qI 552), (qI 183), (qS "/claim/cut.py" 553)]
noncomputable def ho_170 : Obj := qN (stm 35) "less" .none (qS "gateloom.vecarith" 410) 269
noncomputable def ho_171 (P : Params) : Obj := { cls := (.type "dict"), dict := none, data := .dict (((hd_3 P).take 54).set 0 (dE P "__name__" 165 (qS "gateloom.vecops" 583))).toArray 54, slots := #[] }
noncomputable def ho_172 : Obj := { cls := .none, dict := none, data := .fields (hf_12.take 135).toArray, slots := #[] }
noncomputable def ho_173 : Obj := qT #[(qS "u" 558), (qS "v" 559), (qS "signed" 560), (qS "sign" 561)]
noncomputable def ho_174 : Obj := qR (stm 36) "less_equal"
noncomputable def ho_175 : Obj := qC #[(qS "less_equal" 555), (qS "less_equal" 556), (qS "/claim/cut.py" 557), (qI 188), (qI 3), (qI 0), (qI 0), (qI 3), (qV 271), (.bool true), (qI 181), (qV 272), .none, (qV 273), (qV 274), (qV 275), (qI 562), (qI 188), (qS "/claim/cut.py" 563)]
noncomputable def ho_176 : Obj := qN (stm 36) "less_equal" .none (qS "gateloom.vecarith" 410) 276
noncomputable def ho_177 : Obj := qT #[(qS "u" 568), (qS "v" 569), (qS "signed" 570)]
noncomputable def ho_178 : Obj := qR (stm 37) "greater"
noncomputable def ho_179 : Obj := qC #[(qS "greater" 565), (qS "greater" 566), (qS "/claim/cut.py" 567), (qI 193), (qI 3), (qI 0), (qI 0), (qI 3), (qV 278), (.bool true), (qI 181), (qV 279), .none, (qV 280), (qV 281), (qV 282), (qI 571), (qI 193), (qS "/claim/cut.py" 572)]
noncomputable def ho_180 : Obj := qN (stm 37) "greater" .none (qS "gateloom.vecarith" 410) 283
noncomputable def ho_181 : Obj := qT #[(qS "u" 577), (qS "v" 578), (qS "signed" 579)]
noncomputable def ho_182 : Obj := qR (stm 38) "greater_equal"
noncomputable def ho_183 : Obj := qC #[(qS "greater_equal" 574), (qS "greater_equal" 575), (qS "/claim/cut.py" 576), (qI 195), (qI 3), (qI 0), (qI 0), (qI 3), (qV 285), (.bool true), (qI 181), (qV 286), .none, (qV 287), (qV 288), (qV 289), (qI 580), (qI 195), (qS "/claim/cut.py" 581)]
noncomputable def ho_184 : Obj := qN (stm 38) "greater_equal" .none (qS "gateloom.vecarith" 410) 290
noncomputable def ho_185 : Obj := qT #[(qS "c" 588)]
noncomputable def ho_186 : Obj := qR (stm 40) "one_bit"
noncomputable def ho_187 : Obj := qC #[(qS "one_bit" 585), (qS "one_bit" 586), (qS "/claim/cut.py" 587), (qI 198), (qI 1), (qI 0), (qI 0), (qI 3), (qV 292), (.bool true), (qI 181), (qV 293), .none, (qV 294), (qV 295), (qV 296), (qI 589), (qI 198), (qS "/claim/cut.py" 590)]
noncomputable def ho_188 : Obj := qN (stm 40) "one_bit" .none (qS "gateloom.vecops" 583) 297
noncomputable def ho_189 : Obj := qT #[(qS "v" 595), (qS "w" 596), (qS "a" 597), (qS "b" 598)]
noncomputable def ho_190 : Obj := qR (stm 41) "bit_not"
noncomputable def ho_191 : Obj := qC #[(qS "bit_not" 592), (qS "bit_not" 593), (qS "/claim/cut.py" 594), (qI 200), (qI 1), (qI 0), (qI 0), (qI 3), (qV 299), (.bool true), (qI 181), (qV 300), .none, (qV 301), (qV 302), (qV 303), (qI 599), (qI 200), (qS "/claim/cut.py" 600)]
noncomputable def ho_192 : Obj := qN (stm 41) "bit_not" .none (qS "gateloom.vecops" 583) 304
noncomputable def ho_193 : Obj := qT #[(qS "u" 605), (qS "v" 606), (qS "w" 607), (qS "a" 608), (qS "b" 609), (qS "c" 610), (qS "d" 611), (qS "both" 612)]
noncomputable def ho_194 : Obj := qR (stm 42) "bit_and"
noncomputable def ho_195 : Obj := qC #[(qS "bit_and" 602), (qS "bit_and" 603), (qS "/claim/cut.py" 604), (qI 203), (qI 2), (qI 0), (qI 0), (qI 3), (qV 306), (.bool true), (qI 181), (qV 307), .none, (qV 308), (qV 309), (qV 310), (qI 613), (qI 203), (qS "/claim/cut.py" 614)]
noncomputable def ho_196 : Obj := qN (stm 42) "bit_and" .none (qS "gateloom.vecops" 583) 311
noncomputable def ho_197 : Obj := qT #[(qS "u" 619), (qS "v" 620), (qS "w" 621), (qS "a" 622), (qS "b" 623), (qS "c" 624), (qS "d" 625), (qS "either" 626), (qS "sure" 627)]
noncomputable def ho_198 : Obj := qR (stm 43) "bit_or"
noncomputable def ho_199 : Obj := qC #[(qS "bit_or" 616), (qS "bit_or" 617), (qS "/claim/cut.py" 618), (qI 208), (qI 2), (qI 0), (qI 0), (qI 3), (qV 313), (.bool true), (qI 181), (qV 314), .none, (qV 315), (qV 316), (qV 317), (qI 628), (qI 208), (qS "/claim/cut.py" 629)]
noncomputable def ho_200 : Obj := qN (stm 43) "bit_or" .none (qS "gateloom.vecops" 583) 318
noncomputable def ho_201 : Obj := qT #[(qS "u" 634), (qS "v" 635), (qS "b" 636)]
noncomputable def ho_202 : Obj := qR (stm 44) "bit_xor"
noncomputable def ho_203 : Obj := qC #[(qS "bit_xor" 631), (qS "bit_xor" 632), (qS "/claim/cut.py" 633), (qI 214), (qI 2), (qI 0), (qI 0), (qI 3), (qV 320), (.bool true), (qI 181), (qV 321), .none, (qV 322), (qV 323), (qV 324), (qI 637), (qI 214), (qS "/claim/cut.py" 638)]
noncomputable def ho_204 : Obj := qN (stm 44) "bit_xor" .none (qS "gateloom.vecops" 583) 325
noncomputable def ho_205 : Obj := qT #[(qS "u" 643), (qS "v" 644)]
noncomputable def ho_206 : Obj := qR (stm 45) "bit_xnor"
noncomputable def ho_207 : Obj := qC #[(qS "bit_xnor" 640), (qS "bit_xnor" 641), (qS "/claim/cut.py" 642), (qI 217), (qI 2), (qI 0), (qI 0), (qI 3), (qV 327), (.bool true), (qI 181), (qV 328), .none, (qV 329), (qV 330), (qV 331), (qI 645), (qI 217), (qS "/claim/cut.py" 646)]
noncomputable def ho_208 : Obj := qN (stm 45) "bit_xnor" .none (qS "gateloom.vecops" 583) 332
noncomputable def ho_209 : Obj := qT #[(qS "v" 651), (qS "w" 652), (qS "a" 653), (qS "b" 654)]
noncomputable def ho_210 : Obj := qR (stm 46) "reduce_and"
noncomputable def ho_211 : Obj := qC #[(qS "reduce_and" 648), (qS "reduce_and" 649), (qS "/claim/cut.py" 650), (qI 219), (qI 1), (qI 0), (qI 0), (qI 3), (qV 334), (.bool true), (qI 181), (qV 335), .none, (qV 336), (qV 337), (qV 338), (qI 655), (qI 219), (qS "/claim/cut.py" 656)]
noncomputable def ho_212 : Obj := qN (stm 46) "reduce_and" .none (qS "gateloom.vecops" 583) 339
noncomputable def ho_213 : Obj := qT #[(qS "v" 661)]
noncomputable def ho_214 : Obj := qR (stm 47) "reduce_nand"
noncomputable def ho_215 : Obj := qC #[(qS "reduce_nand" 658), (qS "reduce_nand" 659), (qS "/claim/cut.py" 660), (qI 224), (qI 1), (qI 0), (qI 0), (qI 3), (qV 341), (.bool true), (qI 181), (qV 342), .none, (qV 343), (qV 344), (qV 345), (qI 662), (qI 224), (qS "/claim/cut.py" 663)]
noncomputable def ho_216 : Obj := qN (stm 47) "reduce_nand" .none (qS "gateloom.vecops" 583) 346
noncomputable def ho_217 : Obj := qT #[(qS "v" 668)]
noncomputable def ho_218 : Obj := qR (stm 48) "reduce_or"
noncomputable def ho_219 : Obj := qC #[(qS "reduce_or" 665), (qS "reduce_or" 666), (qS "/claim/cut.py" 667), (qI 226), (qI 1), (qI 0), (qI 0), (qI 3), (qV 348), (.bool true), (qI 181), (qV 349), .none, (qV 350), (qV 351), (qV 352), (qI 669), (qI 226), (qS "/claim/cut.py" 670)]
noncomputable def ho_220 : Obj := qN (stm 48) "reduce_or" .none (qS "gateloom.vecops" 583) 353
noncomputable def ho_221 (P : Params) : Obj := { cls := (.type "dict"), dict := none, data := .dict (((hd_3 P).take 66).set 0 (dE P "__name__" 165 (qS "gateloom.evaluate" 775))).toArray 66, slots := #[] }
noncomputable def ho_222 : Obj := { cls := .none, dict := none, data := .fields (hf_12.take 171).toArray, slots := #[] }
noncomputable def ho_223 : Obj := qT #[(qS "v" 675)]
noncomputable def ho_224 : Obj := qR (stm 49) "reduce_nor"
noncomputable def ho_225 : Obj := qC #[(qS "reduce_nor" 672), (qS "reduce_nor" 673), (qS "/claim/cut.py" 674), (qI 228), (qI 1), (qI 0), (qI 0), (qI 3), (qV 355), (.bool true), (qI 181), (qV 356), .none, (qV 357), (qV 358), (qV 359), (qI 676), (qI 228), (qS "/claim/cut.py" 677)]
noncomputable def ho_226 : Obj := qN (stm 49) "reduce_nor" .none (qS "gateloom.vecops" 583) 360
noncomputable def ho_227 : Obj := qT #[(qS "v" 682), (qS "parity" 683), (qS "rest" 684)]
noncomputable def ho_228 : Obj := qR (stm 50) "reduce_xor"
noncomputable def ho_229 : Obj := qC #[(qS "reduce_xor" 679), (qS "reduce_xor" 680), (qS "/claim/cut.py" 681), (qI 230), (qI 1), (qI 0), (qI 0), (qI 3), (qV 362), (.bool true), (qI 181), (qV 363), .none, (qV 364), (qV 365), (qV 366), (qI 685), (qI 230), (qS "/claim/cut.py" 686)]
noncomputable def ho_230 : Obj := qN (stm 50) "reduce_xor" .none (qS "gateloom.vecops" 583) 367
noncomputable def ho_231 : Obj := qT #[(qS "v" 691)]
noncomputable def ho_232 : Obj := qR (stm 51) "reduce_xnor"
noncomputable def ho_233 : Obj := qC #[(qS "reduce_xnor" 688), (qS "reduce_xnor" 689), (qS "/claim/cut.py" 690), (qI 239), (qI 1), (qI 0), (qI 0), (qI 3), (qV 369), (.bool true), (qI 181), (qV 370), .none, (qV 371), (qV 372), (qV 373), (qI 692), (qI 239), (qS "/claim/cut.py" 693)]
noncomputable def ho_234 : Obj := qN (stm 51) "reduce_xnor" .none (qS "gateloom.vecops" 583) 374
noncomputable def ho_235 : Obj := qT #[(qS "v" 698)]
noncomputable def ho_236 : Obj := qR (stm 52) "logic_not"
noncomputable def ho_237 : Obj := qC #[(qS "logic_not" 695), (qS "logic_not" 696), (qS "/claim/cut.py" 697), (qI 241), (qI 1), (qI 0), (qI 0), (qI 3), (qV 376), (.bool true), (qI 181), (qV 377), .none, (qV 378), (qV 379), (qV 380), (qI 699), (qI 241), (qS "/claim/cut.py" 700)]
noncomputable def ho_238 : Obj := qN (stm 52) "logic_not" .none (qS "gateloom.vecops" 583) 381
noncomputable def ho_239 : Obj := qT #[(qS "u" 705), (qS "v" 706)]
noncomputable def ho_240 : Obj := qR (stm 53) "logic_and"
noncomputable def ho_241 : Obj := qC #[(qS "logic_and" 702), (qS "logic_and" 703), (qS "/claim/cut.py" 704), (qI 243), (qI 2), (qI 0), (qI 0), (qI 3), (qV 383), (.bool true), (qI 181), (qV 384), .none, (qV 385), (qV 386), (qV 387), (qI 707), (qI 243), (qS "/claim/cut.py" 708)]
noncomputable def ho_242 : Obj := qN (stm 53) "logic_and" .none (qS "gateloom.vecops" 583) 388
noncomputable def ho_243 : Obj := qT #[(qS "u" 713), (qS "v" 714)]
noncomputable def ho_244 : Obj := qR (stm 54) "logic_or"
noncomputable def ho_245 : Obj := qC #[(qS "logic_or" 710), (qS "logic_or" 711), (qS "/claim/cut.py" 712), (qI 245), (qI 2), (qI 0), (qI 0), (qI 3), (qV 390), (.bool true), (qI 181), (qV 391), .none, (qV 392), (qV 393), (qV 394), (qI 715), (qI 245), (qS "/claim/cut.py" 716)]
noncomputable def ho_246 : Obj := qN (stm 54) "logic_or" .none (qS "gateloom.vecops" 583) 395
noncomputable def ho_247 : Obj := qT #[(qS "u" 721), (qS "v" 722), (qS "unknown" 723)]
noncomputable def ho_248 : Obj := qR (stm 55) "equal"
noncomputable def ho_249 : Obj := qC #[(qS "equal" 718), (qS "equal" 719), (qS "/claim/cut.py" 720), (qI 247), (qI 2), (qI 0), (qI 0), (qI 3), (qV 397), (.bool true), (qI 181), (qV 398), .none, (qV 399), (qV 400), (qV 401), (qI 724), (qI 247), (qS "/claim/cut.py" 725)]
noncomputable def ho_250 : Obj := qN (stm 55) "equal" .none (qS "gateloom.vecops" 583) 402
noncomputable def ho_251 : Obj := qT #[(qS "u" 730), (qS "v" 731)]
noncomputable def ho_252 : Obj := qR (stm 56) "not_equal"
noncomputable def ho_253 : Obj := qC #[(qS "not_equal" 727), (qS "not_equal" 728), (qS "/claim/cut.py" 729), (qI 252), (qI 2), (qI 0), (qI 0), (qI 3), (qV 404), (.bool true), (qI 181), (qV 405), .none, (qV 406), (qV 407), (qV 408), (qI 732), (qI 252), (qS "/claim/cut.py" 733)]
noncomputable def ho_254 : Obj := qN (stm 56) "not_equal" .none (qS "gateloom.vecops" 583) 409
noncomputable def ho_255 : Obj := qT #[(qS "u" 738), (qS "v" 739)]
noncomputable def ho_256 : Obj := qR (stm 57) "case_equal"
noncomputable def ho_257 : Obj := qC #[(qS "case_equal" 735), (qS "case_equal" 736), (qS "/claim/cut.py" 737), (qI 254), (qI 2), (qI 0), (qI 0), (qI 3), (qV 411), (.bool true), (qI 181), (qV 412), .none, (qV 413), (qV 414), (qV 415), (qI 740), (qI 254), (qS "/claim/cut.py" 741)]
noncomputable def ho_258 : Obj := qN (stm 57) "case_equal" .none (qS "gateloom.vecops" 583) 416
noncomputable def ho_259 : Obj := qT #[(qS "u" 746), (qS "v" 747)]
noncomputable def ho_260 : Obj := qR (stm 58) "case_not_equal"
noncomputable def ho_261 : Obj := qC #[(qS "case_not_equal" 743), (qS "case_not_equal" 744), (qS "/claim/cut.py" 745), (qI 256), (qI 2), (qI 0), (qI 0), (qI 3), (qV 418), (.bool true), (qI 181), (qV 419), .none, (qV 420), (qV 421), (qV 422), (qI 748), (qI 256), (qS "/claim/cut.py" 749)]
noncomputable def ho_262 : Obj := qN (stm 58) "case_not_equal" .none (qS "gateloom.vecops" 583) 423
noncomputable def ho_263 : Obj := qT #[(qS "kind" 754), (qS "u" 755), (qS "v" 756), (qS "free" 757), (qS "care" 758)]
noncomputable def ho_264 : Obj := qR (stm 59) "matches"
noncomputable def ho_265 : Obj := qC #[(qS "matches" 751), (qS "matches" 752), (qS "/claim/cut.py" 753), (qI 258), (qI 3), (qI 0), (qI 0), (qI 3), (qV 425), (.bool true), (qI 181), (qV 426), .none, (qV 427), (qV 428), (qV 429), (qI 759), (qI 258), (qS "/claim/cut.py" 760)]
noncomputable def ho_266 : Obj := qN (stm 59) "matches" .none (qS "gateloom.vecops" 583) 430
noncomputable def ho_267 : Obj := qT #[(qS "c" 765), (qS "t" 766), (qS "f" 767), (qS "found" 768), (qS "w" 769), (qS "same" 770), (qS "unknown" 771)]
noncomputable def ho_268 : Obj := qR (stm 60) "choose"
noncomputable def ho_269 : Obj := qC #[(qS "choose" 762), (qS "choose" 763), (qS "/claim/cut.py" 764), (qI 266), (qI 3), (qI 0), (qI 0), (qI 3), (qV 432), (.bool true), (qI 181), (qV 433), .none, (qV 434), (qV 435), (qV 436), (qI 772), (qI 266), (qS "/claim/cut.py" 773)]
noncomputable def ho_270 : Obj := qN (stm 60) "choose" .none (qS "gateloom.vecops" 583) 437
noncomputable def ho_271 (P : Params) : Obj := { cls := (.type "dict"), dict := none, data := .dict ((((hd_3 P).take 79).set 0 (dE P "__name__" 165 (qS "gateloom.evaluate" 775))).set 76 (dE P "system_value" 882 (qV 515))).toArray 79, slots := #[] }
noncomputable def ho_272 : Obj := { cls := .none, dict := none, data := .fields (hf_12.take 207).toArray, slots := #[] }
noncomputable def ho_273 : Obj := qT #[(qS "op" 780), (qS "u" 781)]
noncomputable def ho_274 : Obj := qR (stm 62) "unary"
noncomputable def ho_275 : Obj := qC #[(qS "unary" 777), (qS "unary" 778), (qS "/claim/cut.py" 779), (qI 277), (qI 2), (qI 0), (qI 0), (qI 3), (qV 439), (.bool true), (qI 181), (qV 440), .none, (qV 441), (qV 442), (qV 443), (qI 782), (qI 277), (qS "/claim/cut.py" 783)]
noncomputable def ho_276 : Obj := qN (stm 62) "unary" .none (qS "gateloom.evaluate" 775) 444
noncomputable def ho_277 : Obj := qT #[(qS "op" 788), (qS "u" 789), (qS "v" 790), (qS "signed" 791)]
noncomputable def ho_278 : Obj := qR (stm 63) "arithmetic"
noncomputable def ho_279 : Obj := qC #[(qS "arithmetic" 785), (qS "arithmetic" 786), (qS "/claim/cut.py" 787), (qI 297), (qI 4), (qI 0), (qI 0), (qI 3), (qV 446), (.bool true), (qI 181), (qV 447), .none, (qV 448), (qV 449), (qV 450), (qI 792), (qI 297), (qS "/claim/cut.py" 793)]
noncomputable def ho_280 : Obj := qN (stm 63) "arithmetic" .none (qS "gateloom.evaluate" 775) 451
noncomputable def ho_281 : Obj := qT #[(qS "op" 798), (qS "u" 799), (qS "v" 800), (qS "signed" 801)]
noncomputable def ho_282 : Obj := qR (stm 64) "comparison"
noncomputable def ho_283 : Obj := qC #[(qS "comparison" 795), (qS "comparison" 796), (qS "/claim/cut.py" 797), (qI 315), (qI 4), (qI 0), (qI 0), (qI 3), (qV 453), (.bool true), (qI 181), (qV 454), .none, (qV 455), (qV 456), (qV 457), (qI 802), (qI 315), (qS "/claim/cut.py" 803)]
noncomputable def ho_284 : Obj := qN (stm 64) "comparison" .none (qS "gateloom.evaluate" 775) 458
noncomputable def ho_285 : Obj := qT #[(qS "op" 808), (qS "u" 809), (qS "v" 810)]
noncomputable def ho_286 : Obj := qR (stm 65) "bitwise"
noncomputable def ho_287 : Obj := qC #[(qS "bitwise" 805), (qS "bitwise" 806), (qS "/claim/cut.py" 807), (qI 333), (qI 3), (qI 0), (qI 0), (qI 3), (qV 460), (.bool true), (qI 181), (qV 461), .none, (qV 462), (qV 463), (qV 464), (qI 811), (qI 333), (qS "/claim/cut.py" 812)]
noncomputable def ho_288 : Obj := qN (stm 65) "bitwise" .none (qS "gateloom.evaluate" 775) 465
noncomputable def ho_289 : Obj := qT #[(qS "op" 817), (qS "u" 818), (qS "v" 819), (qS "signed" 820), (qS "value" 821)]
noncomputable def ho_290 : Obj := qR (stm 66) "binary"
noncomputable def ho_291 : Obj := qC #[(qS "binary" 814), (qS "binary" 815), (qS "/claim/cut.py" 816), (qI 347), (qI 4), (qI 0), (qI 0), (qI 3), (qV 467), (.bool true), (qI 181), (qV 468), .none, (qV 469), (qV 470), (qV 471), (qI 822), (qI 347), (qS "/claim/cut.py" 823)]
noncomputable def ho_292 : Obj := qN (stm 66) "binary" .none (qS "gateloom.evaluate" 775) 472
noncomputable def ho_293 : Obj := qT #[(qS "e" 828), (qS "signed" 829), (qS "ctx" 830)]
noncomputable def ho_294 : Obj := qR (stm 67) "whole_of"
noncomputable def ho_295 : Obj := qC #[(qS "whole_of" 825), (qS "whole_of" 826), (qS "/claim/cut.py" 827), (qI 356), (qI 3), (qI 0), (qI 0), (qI 3), (qV 474), (.bool true), (qI 181), (qV 475), .none, (qV 476), (qV 477), (qV 478), (qI 831), (qI 356), (qS "/claim/cut.py" 832)]
noncomputable def ho_296 : Obj := qN (stm 67) "whole_of" .none (qS "gateloom.evaluate" 775) 479
noncomputable def ho_297 : Obj := qT #[(qS "e" 837), (qS "ctx" 838), (qS "index" 839), (qS "place" 840)]
noncomputable def ho_298 : Obj := qR (stm 68) "memory_word"
noncomputable def ho_299 : Obj := qC #[(qS "memory_word" 834), (qS "memory_word" 835), (qS "/claim/cut.py" 836), (qI 358), (qI 2), (qI 0), (qI 0), (qI 3), (qV 481), (.bool true), (qI 181), (qV 482), .none, (qV 483), (qV 484), (qV 485), (qI 841), (qI 358), (qS "/claim/cut.py" 842)]
noncomputable def ho_300 : Obj := qN (stm 68) "memory_word" .none (qS "gateloom.evaluate" 775) 486
noncomputable def ho_301 : Obj := qT #[(qS "e" 847), (qS "ctx" 848), (qS "value" 849), (qS "index" 850)]
noncomputable def ho_302 : Obj := qR (stm 69) "picked"
noncomputable def ho_303 : Obj := qC #[(qS "picked" 844), (qS "picked" 845), (qS "/claim/cut.py" 846), (qI 366), (qI 2), (qI 0), (qI 0), (qI 3), (qV 488), (.bool true), (qI 181), (qV 489), .none, (qV 490), (qV 491), (qV 492), (qI 851), (qI 366), (qS "/claim/cut.py" 852)]
noncomputable def ho_304 : Obj := qN (stm 69) "picked" .none (qS "gateloom.evaluate" 775) 493
noncomputable def ho_305 : Obj := qT #[(qS "e" 857), (qS "ctx" 858), (qS "condition" 859), (qS "known" 860)]
noncomputable def ho_306 : Obj := qR (stm 70) "conditional"
noncomputable def ho_307 : Obj := qC #[(qS "conditional" 854), (qS "conditional" 855), (qS "/claim/cut.py" 856), (qI 372), (qI 2), (qI 0), (qI 0), (qI 3), (qV 495), (.bool true), (qI 181), (qV 496), .none, (qV 497), (qV 498), (qV 499), (qI 861), (qI 372), (qS "/claim/cut.py" 862)]
noncomputable def ho_308 : Obj := qN (stm 70) "conditional" .none (qS "gateloom.evaluate" 775) 500
noncomputable def ho_309 : Obj := qT #[(qS "n" 867), (qS "k" 868)]
noncomputable def ho_310 : Obj := qR (stm 71) "bits_needed"
noncomputable def ho_311 : Obj := qC #[(qS "bits_needed" 864), (qS "bits_needed" 865), (qS "/claim/cut.py" 866), (qI 380), (qI 1), (qI 0), (qI 0), (qI 3), (qV 502), (.bool true), (qI 181), (qV 503), .none, (qV 504), (qV 505), (qV 506), (qI 869), (qI 380), (qS "/claim/cut.py" 870)]
noncomputable def ho_312 : Obj := qN (stm 71) "bits_needed" .none (qS "gateloom.evaluate" 775) 507
noncomputable def ho_313 : Obj := qT #[(qS "e" 875), (qS "ctx" 876), (qS "w" 877), (qS "name" 878), (qS "n" 879)]
noncomputable def ho_314 : Obj := qR (stm 72) "system_value"
noncomputable def ho_315 : Obj := qC #[(qS "system_value" 872), (qS "system_value" 873), (qS "/claim/cut.py" 874), (qI 385), (qI 2), (qI 0), (qI 0), (qI 3), (qV 509), (.bool true), (qI 181), (qV 510), .none, (qV 511), (qV 512), (qV 513), (qI 880), (qI 385), (qS "/claim/cut.py" 881)]
noncomputable def ho_316 : Obj := qN (stm 72) "system_value" .none (qS "gateloom.evaluate" 775) 514
noncomputable def ho_317 : Obj := qR (stm 74) "evaluate"
noncomputable def ho_318 : Obj := qC #[(qS "evaluate" 884), (qS "evaluate" 885), (qS "/claim/cut.py" 886), (qI 399), (qI 2), (qI 0), (qI 0), (qI 3), (qV 516), (.bool true), (qI 181), (qV 517), .none, .none, .none, (qV 518), (qI 887), (qI 399), (qS "/claim/cut.py" 888)]
noncomputable def ho_319 : Obj := qN (stm 74) "evaluate" .none (qS "gateloom.evaluate" 775) 519
noncomputable def ho_320 (P : Params) : Obj := { cls := (.type "dict"), dict := none, data := .dict ((((hd_3 P).take 83).set 0 (dE P "__name__" 165 (qS "gateloom.design" 943))).set 76 (dE P "system_value" 882 (qV 515))).toArray 83, slots := #[] }
noncomputable def ho_321 : Obj := { cls := .none, dict := none, data := .fields (hf_12.take 219).toArray, slots := #[] }
noncomputable def ho_322 : Obj := qT #[(qS "where" 893), (qS "ctx" 894), (qS "index" 895)]
noncomputable def ho_323 : Obj := qR (stm 75) "locate"
noncomputable def ho_324 : Obj := qC #[(qS "locate" 890), (qS "locate" 891), (qS "/claim/cut.py" 892), (qI 430), (qI 2), (qI 0), (qI 0), (qI 3), (qV 521), (.bool true), (qI 181), (qV 522), .none, (qV 523), (qV 524), (qV 525), (qI 896), (qI 430), (qS "/claim/cut.py" 897)]
noncomputable def ho_325 : Obj := qN (stm 75) "locate" .none (qS "gateloom.evaluate" 775) 526
noncomputable def ho_326 : Obj := qT #[(qS "part" 902), (qS "ctx" 903)]
noncomputable def ho_327 : Obj := qR (stm 76) "holder_width"
noncomputable def ho_328 : Obj := qC #[(qS "holder_width" 899), (qS "holder_width" 900), (qS "/claim/cut.py" 901), (qI 437), (qI 2), (qI 0), (qI 0), (qI 3), (qV 528), (.bool true), (qI 181), (qV 529), .none, (qV 530), (qV 531), (qV 532), (qI 904), (qI 437), (qS "/claim/cut.py" 905)]
noncomputable def ho_329 : Obj := qN (stm 76) "holder_width" .none (qS "gateloom.evaluate" 775) 533
noncomputable def ho_330 : Obj := qT #[(qS "lv" 910), (qS "ctx" 911), (qS "rows" 912), (qS "take" 913), (qS "part" 914), (qS "kind" 915), (qS "w" 916), (qS "ref" 917), (qS "word" 918), (qS "where" 919), (qS "place" 920), (qS "index" 921), (qS "lo" 922)]
noncomputable def ho_331 : Obj := qR (stm 77) "resolve_target"
noncomputable def ho_332 : Obj := qC #[(qS "resolve_target" 907), (qS "resolve_target" 908), (qS "/claim/cut.py" 909), (qI 441), (qI 2), (qI 0), (qI 0), (qI 3), (qV 535), (.bool true), (qI 181), (qV 536), .none, (qV 537), (qV 538), (qV 539), (qI 923), (qI 441), (qS "/claim/cut.py" 924)]
noncomputable def ho_333 : Obj := qN (stm 77) "resolve_target" .none (qS "gateloom.evaluate" 775) 540
noncomputable def ho_334 : Obj := qT #[(qS "rows" 929), (qS "value" 930), (qS "ctx" 931), (qS "changed" 932), (qS "kind" 933), (qS "ref" 934), (qS "place" 935), (qS "lo" 936), (qS "w" 937), (qS "take" 938), (qS "piece" 939)]
noncomputable def ho_335 : Obj := qR (stm 78) "store_rows"
noncomputable def ho_336 : Obj := qC #[(qS "store_rows" 926), (qS "store_rows" 927), (qS "/claim/cut.py" 928), (qI 460), (qI 3), (qI 0), (qI 0), (qI 3), (qV 542), (.bool true), (qI 181), (qV 543), .none, (qV 544), (qV 545), (qV 546), (qI 940), (qI 460), (qS "/claim/cut.py" 941)]
noncomputable def ho_337 : Obj := qN (stm 78) "store_rows" .none (qS "gateloom.evaluate" 775) 547
noncomputable def ho_338 (P : Params) : Obj := { cls := (.type "dict"), dict := none, data := .dict ((((hd_3 P).take 84).set 0 (dE P "__name__" 165 (qS "gateloom.design" 943))).set 76 (dE P "system_value" 882 (qV 515))).toArray 84, slots := #[] }
noncomputable def ho_339 : Obj := { cls := .none, dict := none, data := .fields (hf_12.take 222).toArray, slots := #[] }
noncomputable def ho_340 (P : Params) : Obj := { cls := (.type "dict"), dict := none, data := .dict #[dE P "__module__" 952 (qS "gateloom.design" 943), dE P "__qualname__" 954 (qS "Design" 953), dE P "__firstlineno__" 956 (.int (471) 955), dE P "__init__" 963 (qV 562), dE P "add_signal" 977 (qV 569), dE P "add_scope" 985 (qV 576), dE P "add_routine" 996 (qV 583), dE P "add_process" 1007 (qV 590), dE P "find" 1015 (qV 597), dE P "routine" 1024 (qV 604), dE P "__static_attributes__" 1036 (qV 605)] 11, slots := #[] }
noncomputable def ho_341 : Obj := qF #[(qI 473), (qI 4), (qV 561), (qI 486), (qI 4), (qV 568), (qI 489), (qI 4), (qV 575), (qI 493), (qI 4), (qV 582), (qI 496), (qI 4), (qV 589), (qI 499), (qI 4), (qV 596), (qI 502), (qI 4), (qV 603)]
noncomputable def ho_342 : Obj := qC #[(qS "Design" 947), (qS "Design" 948), (qS "/claim/cut.py" 949), (qI 471), (qI 0), (qI 0), (qI 0), (qI 0), (qV 552), (.bool false), (qI 181), (qV 553), .none, .none, .none, .none, (qI 950), (qI 471), (qS "/claim/cut.py" 951)]
noncomputable def ho_343 : Obj := { cls := (.type "frame"), dict := none, data := .plain, slots := #[(some (qV 554)), (some (qV 3)), (some (qV 551)), none, (some (qS "gateloom.design" 943)), none, (some (qV 0))] }
noncomputable def ho_344 : Obj := qT #[(qS "self" 960)]
noncomputable def ho_345 : Obj := qR (met 80 0) "Design.__init__"
noncomputable def ho_346 : Obj := qC #[(qS "__init__" 957), (qS "Design.__init__" 958), (qS "/claim/cut.py" 959), (qI 473), (qI 1), (qI 0), (qI 0), (qI 3), (qV 556), (.bool true), (qI 181), (qV 557), .none, (qV 558), (qV 559), (qV 560), (qI 961), (qI 473), (qS "/claim/cut.py" 962)]
noncomputable def ho_347 : Obj := qN (met 80 0) "Design.__init__" .none (qS "gateloom.design" 943) 561
noncomputable def ho_348 : Obj := qT #[(qS "self" 967), (qS "path" 968), (qS "kind" 969), (qS "width" 970), (qS "signed" 971), (qS "msb" 972), (qS "lsb" 973), (qS "at" 974)]
noncomputable def ho_349 : Obj := qR (met 80 1) "Design.add_signal"
noncomputable def ho_350 : Obj := qC #[(qS "add_signal" 964), (qS "Design.add_signal" 965), (qS "/claim/cut.py" 966), (qI 486), (qI 8), (qI 0), (qI 0), (qI 3), (qV 563), (.bool true), (qI 181), (qV 564), .none, (qV 565), (qV 566), (qV 567), (qI 975), (qI 486), (qS "/claim/cut.py" 976)]
noncomputable def ho_351 : Obj := qN (met 80 1) "Design.add_signal" .none (qS "gateloom.design" 943) 568
noncomputable def ho_352 : Obj := qT #[(qS "self" 981), (qS "path" 982)]
noncomputable def ho_353 : Obj := qR (met 80 2) "Design.add_scope"
noncomputable def ho_354 : Obj := qC #[(qS "add_scope" 978), (qS "Design.add_scope" 979), (qS "/claim/cut.py" 980), (qI 489), (qI 2), (qI 0), (qI 0), (qI 3), (qV 570), (.bool true), (qI 181), (qV 571), .none, (qV 572), (qV 573), (qV 574), (qI 983), (qI 489), (qS "/claim/cut.py" 984)]
noncomputable def ho_355 : Obj := qN (met 80 2) "Design.add_scope" .none (qS "gateloom.design" 943) 575
noncomputable def ho_356 : Obj := qT #[(qS "self" 989), (qS "path" 990), (qS "is_function" 991), (qS "automatic" 992), (qS "at" 993)]
noncomputable def ho_357 : Obj := qR (met 80 3) "Design.add_routine"
noncomputable def ho_358 : Obj := qC #[(qS "add_routine" 986), (qS "Design.add_routine" 987), (qS "/claim/cut.py" 988), (qI 493), (qI 5), (qI 0), (qI 0), (qI 3), (qV 577), (.bool true), (qI 181), (qV 578), .none, (qV 579), (qV 580), (qV 581), (qI 994), (qI 493), (qS "/claim/cut.py" 995)]
noncomputable def ho_359 : Obj := qN (met 80 3) "Design.add_routine" .none (qS "gateloom.design" 943) 582
noncomputable def ho_360 : Obj := qT #[(qS "self" 1000), (qS "kind" 1001), (qS "body" 1002), (qS "path" 1003), (qS "at" 1004)]
noncomputable def ho_361 : Obj := qR (met 80 4) "Design.add_process"
noncomputable def ho_362 : Obj := qC #[(qS "add_process" 997), (qS "Design.add_process" 998), (qS "/claim/cut.py" 999), (qI 496), (qI 5), (qI 0), (qI 0), (qI 3), (qV 584), (.bool true), (qI 181), (qV 585), .none, (qV 586), (qV 587), (qV 588), (qI 1005), (qI 496), (qS "/claim/cut.py" 1006)]
noncomputable def ho_363 : Obj := qN (met 80 4) "Design.add_process" .none (qS "gateloom.design" 943) 589
noncomputable def ho_364 : Obj := qT #[(qS "self" 1011), (qS "path" 1012)]
noncomputable def ho_365 : Obj := qR (met 80 5) "Design.find"
noncomputable def ho_366 : Obj := qC #[(qS "find" 1008), (qS "Design.find" 1009), (qS "/claim/cut.py" 1010), (qI 499), (qI 2), (qI 0), (qI 0), (qI 3), (qV 591), (.bool true), (qI 181), (qV 592), .none, (qV 593), (qV 594), (qV 595), (qI 1013), (qI 499), (qS "/claim/cut.py" 1014)]
noncomputable def ho_367 : Obj := qN (met 80 5) "Design.find" .none (qS "gateloom.design" 943) 596
noncomputable def ho_368 : Obj := qT #[(qS "self" 1019), (qS "n" 1020), (qS "routine" 1021)]
noncomputable def ho_369 : Obj := qR (met 80 6) "Design.routine"
noncomputable def ho_370 : Obj := qC #[(qS "routine" 1016), (qS "Design.routine" 1017), (qS "/claim/cut.py" 1018), (qI 502), (qI 2), (qI 0), (qI 0), (qI 3), (qV 598), (.bool true), (qI 181), (qV 599), .none, (qV 600), (qV 601), (qV 602), (qI 1022), (qI 502), (qS "/claim/cut.py" 1023)]
noncomputable def ho_371 : Obj := qN (met 80 6) "Design.routine" .none (qS "gateloom.design" 943) 603
noncomputable def ho_372 : Obj := qT #[(qS "assigns" 1025), (qS "by_path" 1026), (qS "gates" 1027), (qS "maker" 1028), (qS "ports" 1029), (qS "processes" 1030), (qS "routines" 1031), (qS "scopes" 1032), (qS "signals" 1033), (qS "tops" 1034), (qS "udps" 1035)]
noncomputable def ho_373 (P : Params) : Obj := { cls := (.type "dict"), dict := none, data := .dict #[dE P "__module__" 952 (qS "gateloom.design" 943), dE P "__firstlineno__" 956 (.int (471) 955), dE P "__init__" 963 (qV 562), dE P "add_signal" 977 (qV 569), dE P "add_scope" 985 (qV 576), dE P "add_routine" 996 (qV 583), dE P "add_process" 1007 (qV 590), dE P "find" 1015 (qV 597), dE P "routine" 1024 (qV 604), dE P "__static_attributes__" 1036 (qV 605), dE P "__dict__" 1038 (qV 608), dE P "__weakref__" 1040 (qV 609), dE P "__doc__" 1041 .none] 4, slots := #[] }
noncomputable def ho_374 : Obj := { cls := (.type "type"), dict := none, data := .cls { name := (Str.ofString "Design"), bases := [(.type "object")], mro := [(qV 607), (.type "object")], ns := 606, qualname := (Str.ofString "Design"), hasDict := true, slotNames := [], subclasses := [], abstract := false, collection := none, hasDel := false }, slots := #[none, none, (some (qS "Design" 945)), (some (qS "Design" 953)), (some (.builtin "object.__new__")), (some (.bool true))] }
noncomputable def ho_375 : Obj := { cls := (.type "getset_descriptor"), dict := none, data := .fields #[(qS "__dict__" 1037), (qV 607), (.builtin "function.__dict__"), (.builtin "function.__dict__#set")], slots := #[] }
noncomputable def ho_376 : Obj := { cls := (.type "getset_descriptor"), dict := none, data := .fields #[(qS "__weakref__" 1039), (qV 607), (.builtin "ExceptionGroup.__weakref__"), .none], slots := #[] }
noncomputable def ho_377 : Obj := { cls := (.type "super"), dict := none, data := .fields #[(qV 607), (qV 607), (qV 607)], slots := #[] }
noncomputable def ho_378 : Obj := { cls := (.type "builtin_function_or_method"), dict := none, data := .fields #[(.builtin "object.__init_subclass__"), (qV 607)], slots := #[] }
noncomputable def ho_379 (P : Params) : Obj := { cls := (.type "dict"), dict := none, data := .dict ((((hd_3 P).take 85).set 0 (dE P "__name__" 165 (qS "gateloom.store" 1044))).set 76 (dE P "system_value" 882 (qV 515))).toArray 85, slots := #[] }
noncomputable def ho_380 : Obj := { cls := .none, dict := none, data := .fields (hf_12.take 225).toArray, slots := #[] }
noncomputable def ho_381 (P : Params) : Obj := { cls := (.type "dict"), dict := none, data := .dict #[dE P "__module__" 1053 (qS "gateloom.store" 1044), dE P "__qualname__" 1055 (qS "Store" 1054), dE P "__firstlineno__" 1057 (.int (510) 1056), dE P "__init__" 1065 (qV 625), dE P "get" 1075 (qV 632), dE P "word" 1086 (qV 639), dE P "set_bits" 1099 (qV 646), dE P "__static_attributes__" 1104 (qV 647)] 8, slots := #[] }
noncomputable def ho_382 : Obj := qF #[(qI 512), (qI 4), (qV 624), (qI 518), (qI 4), (qV 631), (qI 527), (qI 4), (qV 638), (qI 535), (qI 4), (qV 645)]
noncomputable def ho_383 : Obj := qC #[(qS "Store" 1048), (qS "Store" 1049), (qS "/claim/cut.py" 1050), (qI 510), (qI 0), (qI 0), (qI 0), (qI 0), (qV 615), (.bool false), (qI 181), (qV 616), .none, .none, .none, .none, (qI 1051), (qI 510), (qS "/claim/cut.py" 1052)]
noncomputable def ho_384 : Obj := { cls := (.type "frame"), dict := none, data := .plain, slots := #[(some (qV 617)), (some (qV 3)), (some (qV 614)), none, (some (qS "gateloom.store" 1044)), none, (some (qV 0))] }
noncomputable def ho_385 : Obj := qT #[(qS "self" 1061), (qS "signals" 1062)]
noncomputable def ho_386 : Obj := qR (met 82 0) "Store.__init__"
noncomputable def ho_387 : Obj := qC #[(qS "__init__" 1058), (qS "Store.__init__" 1059), (qS "/claim/cut.py" 1060), (qI 512), (qI 2), (qI 0), (qI 0), (qI 3), (qV 619), (.bool true), (qI 181), (qV 620), .none, (qV 621), (qV 622), (qV 623), (qI 1063), (qI 512), (qS "/claim/cut.py" 1064)]
noncomputable def ho_388 : Obj := qN (met 82 0) "Store.__init__" .none (qS "gateloom.store" 1044) 624
noncomputable def ho_389 : Obj := qT #[(qS "self" 1069), (qS "key" 1070), (qS "value" 1071), (qS "signal" 1072)]
noncomputable def ho_390 : Obj := qR (met 82 1) "Store.get"
noncomputable def ho_391 : Obj := qC #[(qS "get" 1066), (qS "Store.get" 1067), (qS "/claim/cut.py" 1068), (qI 518), (qI 2), (qI 0), (qI 0), (qI 3), (qV 626), (.bool true), (qI 181), (qV 627), .none, (qV 628), (qV 629), (qV 630), (qI 1073), (qI 518), (qS "/claim/cut.py" 1074)]
noncomputable def ho_392 : Obj := qN (met 82 1) "Store.get" .none (qS "gateloom.store" 1044) 631
noncomputable def ho_393 : Obj := qT #[(qS "self" 1079), (qS "key" 1080), (qS "place" 1081), (qS "words" 1082), (qS "value" 1083)]
noncomputable def ho_394 : Obj := qR (met 82 2) "Store.word"
noncomputable def ho_395 : Obj := qC #[(qS "word" 1076), (qS "Store.word" 1077), (qS "/claim/cut.py" 1078), (qI 527), (qI 3), (qI 0), (qI 0), (qI 3), (qV 633), (.bool true), (qI 181), (qV 634), .none, (qV 635), (qV 636), (qV 637), (qI 1084), (qI 527), (qS "/claim/cut.py" 1085)]
noncomputable def ho_396 : Obj := qN (met 82 2) "Store.word" .none (qS "gateloom.store" 1044) 638
noncomputable def ho_397 : Obj := qT #[(qS "self" 1090), (qS "key" 1091), (qS "place" 1092), (qS "lo" 1093), (qS "value" 1094), (qS "old" 1095), (qS "new" 1096)]
noncomputable def ho_398 : Obj := qR (met 82 3) "Store.set_bits"
noncomputable def ho_399 : Obj := qC #[(qS "set_bits" 1087), (qS "Store.set_bits" 1088), (qS "/claim/cut.py" 1089), (qI 535), (qI 5), (qI 0), (qI 0), (qI 3), (qV 640), (.bool true), (qI 181), (qV 641), .none, (qV 642), (qV 643), (qV 644), (qI 1097), (qI 535), (qS "/claim/cut.py" 1098)]
noncomputable def ho_400 : Obj := qN (met 82 3) "Store.set_bits" .none (qS "gateloom.store" 1044) 645
noncomputable def ho_401 : Obj := qT #[(qS "memories" 1100), (qS "random_seed" 1101), (qS "signals" 1102), (qS "values" 1103)]
noncomputable def ho_402 (P : Params) : Obj := { cls := (.type "dict"), dict := none, data := .dict #[dE P "__module__" 1053 (qS "gateloom.store" 1044), dE P "__firstlineno__" 1057 (.int (510) 1056), dE P "__init__" 1065 (qV 625), dE P "get" 1075 (qV 632), dE P "word" 1086 (qV 639), dE P "set_bits" 1099 (qV 646), dE P "__static_attributes__" 1104 (qV 647), dE P "__dict__" 1106 (qV 650), dE P "__weakref__" 1108 (qV 651), dE P "__doc__" 1109 .none] 4, slots := #[] }
noncomputable def ho_403 : Obj := { cls := (.type "type"), dict := none, data := .cls { name := (Str.ofString "Store"), bases := [(.type "object")], mro := [(qV 649), (.type "object")], ns := 648, qualname := (Str.ofString "Store"), hasDict := true, slotNames := [], subclasses := [], abstract := false, collection := none, hasDel := false }, slots := #[none, none, (some (qS "Store" 1046)), (some (qS "Store" 1054)), (some (.builtin "object.__new__")), (some (.bool true))] }
noncomputable def ho_404 : Obj := { cls := (.type "getset_descriptor"), dict := none, data := .fields #[(qS "__dict__" 1105), (qV 649), (.builtin "function.__dict__"), (.builtin "function.__dict__#set")], slots := #[] }
noncomputable def ho_405 : Obj := { cls := (.type "getset_descriptor"), dict := none, data := .fields #[(qS "__weakref__" 1107), (qV 649), (.builtin "ExceptionGroup.__weakref__"), .none], slots := #[] }
noncomputable def ho_406 : Obj := { cls := (.type "super"), dict := none, data := .fields #[(qV 649), (qV 649), (qV 649)], slots := #[] }
noncomputable def ho_407 : Obj := { cls := (.type "builtin_function_or_method"), dict := none, data := .fields #[(.builtin "object.__init_subclass__"), (qV 649)], slots := #[] }
noncomputable def ho_408 (P : Params) : Obj := { cls := (.type "dict"), dict := none, data := .dict ((((hd_3 P).take 86).set 0 (dE P "__name__" 165 (qS "gateloom.scopes" 1171))).set 76 (dE P "system_value" 882 (qV 515))).toArray 86, slots := #[] }
noncomputable def ho_409 : Obj := { cls := .none, dict := none, data := .fields (hf_12.take 228).toArray, slots := #[] }
noncomputable def ho_410 (P : Params) : Obj := { cls := (.type "dict"), dict := none, data := .dict #[dE P "__module__" 1119 (qS "gateloom.store" 1044), dE P "__qualname__" 1121 (qS "Context" 1120), dE P "__firstlineno__" 1123 (.int (553) 1122), dE P "__init__" 1134 (qV 668), dE P "call" 1143 (qV 675), dE P "next_random" 1151 (qV 682), dE P "time_vec" 1159 (qV 689), dE P "__static_attributes__" 1163 (qV 690)] 8, slots := #[] }
noncomputable def ho_411 : Obj := qF #[(qI 555), (qI 4), (qV 667), (qI 560), (qI 4), (qV 674), (qI 563), (qI 4), (qV 681), (qI 570), (qI 4), (qV 688)]
noncomputable def ho_412 : Obj := qC #[(qS "Context" 1114), (qS "Context" 1115), (qS "/claim/cut.py" 1116), (qI 553), (qI 0), (qI 0), (qI 0), (qI 0), (qV 657), (.bool false), (qI 181), (qV 658), .none, .none, .none, .none, (qI 1117), (qI 553), (qS "/claim/cut.py" 1118)]
noncomputable def ho_413 : Obj := { cls := (.type "frame"), dict := none, data := .plain, slots := #[(some (qV 659)), (some (qV 3)), (some (qV 656)), none, (some (qS "gateloom.store" 1044)), none, (some (qV 0))] }
noncomputable def ho_414 : Obj := qT #[(.int (0) 1124)]
noncomputable def ho_415 : Obj := qT #[(qS "self" 1128), (qS "store" 1129), (qS "frame" 1130), (qS "now" 1131)]
noncomputable def ho_416 : Obj := qR (met 83 0) "Context.__init__"
noncomputable def ho_417 : Obj := qC #[(qS "__init__" 1125), (qS "Context.__init__" 1126), (qS "/claim/cut.py" 1127), (qI 555), (qI 4), (qI 0), (qI 0), (qI 3), (qV 662), (.bool true), (qI 181), (qV 663), .none, (qV 664), (qV 665), (qV 666), (qI 1132), (qI 555), (qS "/claim/cut.py" 1133)]
noncomputable def ho_418 : Obj := qN (met 83 0) "Context.__init__" (qV 661) (qS "gateloom.store" 1044) 667
noncomputable def ho_419 : Obj := qT #[(qS "self" 1138), (qS "number" 1139), (qS "args" 1140)]
noncomputable def ho_420 : Obj := qR (met 83 1) "Context.call"
noncomputable def ho_421 : Obj := qC #[(qS "call" 1135), (qS "Context.call" 1136), (qS "/claim/cut.py" 1137), (qI 560), (qI 3), (qI 0), (qI 0), (qI 3), (qV 669), (.bool true), (qI 181), (qV 670), .none, (qV 671), (qV 672), (qV 673), (qI 1141), (qI 560), (qS "/claim/cut.py" 1142)]
noncomputable def ho_422 : Obj := qN (met 83 1) "Context.call" .none (qS "gateloom.store" 1044) 674
noncomputable def ho_423 : Obj := qT #[(qS "self" 1147), (qS "seed" 1148)]
noncomputable def ho_424 : Obj := qR (met 83 2) "Context.next_random"
noncomputable def ho_425 : Obj := qC #[(qS "next_random" 1144), (qS "Context.next_random" 1145), (qS "/claim/cut.py" 1146), (qI 563), (qI 1), (qI 0), (qI 0), (qI 3), (qV 676), (.bool true), (qI 181), (qV 677), .none, (qV 678), (qV 679), (qV 680), (qI 1149), (qI 563), (qS "/claim/cut.py" 1150)]
noncomputable def ho_426 : Obj := qN (met 83 2) "Context.next_random" .none (qS "gateloom.store" 1044) 681
noncomputable def ho_427 : Obj := qT #[(qS "self" 1155), (qS "width" 1156)]
noncomputable def ho_428 : Obj := qR (met 83 3) "Context.time_vec"
noncomputable def ho_429 : Obj := qC #[(qS "time_vec" 1152), (qS "Context.time_vec" 1153), (qS "/claim/cut.py" 1154), (qI 570), (qI 2), (qI 0), (qI 0), (qI 3), (qV 683), (.bool true), (qI 181), (qV 684), .none, (qV 685), (qV 686), (qV 687), (qI 1157), (qI 570), (qS "/claim/cut.py" 1158)]
noncomputable def ho_430 : Obj := qN (met 83 3) "Context.time_vec" .none (qS "gateloom.store" 1044) 688
noncomputable def ho_431 : Obj := qT #[(qS "frame" 1160), (qS "now" 1161), (qS "store" 1162)]
noncomputable def ho_432 (P : Params) : Obj := { cls := (.type "dict"), dict := none, data := .dict #[dE P "__module__" 1119 (qS "gateloom.store" 1044), dE P "__firstlineno__" 1123 (.int (553) 1122), dE P "__init__" 1134 (qV 668), dE P "call" 1143 (qV 675), dE P "next_random" 1151 (qV 682), dE P "time_vec" 1159 (qV 689), dE P "__static_attributes__" 1163 (qV 690), dE P "__dict__" 1165 (qV 693), dE P "__weakref__" 1167 (qV 694), dE P "__doc__" 1168 .none] 4, slots := #[] }
noncomputable def ho_433 : Obj := { cls := (.type "type"), dict := none, data := .cls { name := (Str.ofString "Context"), bases := [(.type "object")], mro := [(qV 692), (.type "object")], ns := 691, qualname := (Str.ofString "Context"), hasDict := true, slotNames := [], subclasses := [], abstract := false, collection := none, hasDel := false }, slots := #[none, none, (some (qS "Context" 1112)), (some (qS "Context" 1120)), (some (.builtin "object.__new__")), (some (.bool true))] }
noncomputable def ho_434 : Obj := { cls := (.type "getset_descriptor"), dict := none, data := .fields #[(qS "__dict__" 1164), (qV 692), (.builtin "function.__dict__"), (.builtin "function.__dict__#set")], slots := #[] }
noncomputable def ho_435 : Obj := { cls := (.type "getset_descriptor"), dict := none, data := .fields #[(qS "__weakref__" 1166), (qV 692), (.builtin "ExceptionGroup.__weakref__"), .none], slots := #[] }
noncomputable def ho_436 : Obj := { cls := (.type "super"), dict := none, data := .fields #[(qV 692), (qV 692), (qV 692)], slots := #[] }
noncomputable def ho_437 : Obj := { cls := (.type "builtin_function_or_method"), dict := none, data := .fields #[(.builtin "object.__init_subclass__"), (qV 692)], slots := #[] }
noncomputable def ho_438 (P : Params) : Obj := { cls := (.type "dict"), dict := none, data := .dict ((((hd_3 P).take 87).set 0 (dE P "__name__" 165 (qS "gateloom.scopes" 1171))).set 76 (dE P "system_value" 882 (qV 515))).toArray 87, slots := #[] }
noncomputable def ho_439 : Obj := { cls := .none, dict := none, data := .fields (hf_12.take 231).toArray, slots := #[] }
noncomputable def ho_440 (P : Params) : Obj := { cls := (.type "dict"), dict := none, data := .dict #[dE P "__module__" 1180 (qS "gateloom.scopes" 1171), dE P "__qualname__" 1182 (qS "Scope" 1181), dE P "__firstlineno__" 1184 (.int (573) 1183), dE P "__init__" 1195 (qV 710), dE P "child" 1206 (qV 717), dE P "declare" 1216 (qV 724), dE P "module_scope" 1223 (qV 731), dE P "lookup" 1232 (qV 738), dE P "lookup_routine" 1242 (qV 745), dE P "descend" 1253 (qV 752), dE P "resolve" 1264 (qV 759), dE P "answers_to" 1272 (qV 766), dE P "__static_attributes__" 1282 (qV 767)] 13, slots := #[] }
noncomputable def ho_441 : Obj := qF #[(qI 575), (qI 4), (qV 709), (qI 589), (qI 4), (qV 716), (qI 594), (qI 4), (qV 723), (qI 599), (qI 4), (qV 730), (qI 602), (qI 4), (qV 737), (qI 612), (qI 4), (qV 744), (qI 623), (qI 4), (qV 751), (qI 635), (qI 4), (qV 758), (qI 646), (qI 4), (qV 765)]
noncomputable def ho_442 : Obj := qC #[(qS "Scope" 1175), (qS "Scope" 1176), (qS "/claim/cut.py" 1177), (qI 573), (qI 0), (qI 0), (qI 0), (qI 0), (qV 700), (.bool false), (qI 181), (qV 701), .none, .none, .none, .none, (qI 1178), (qI 573), (qS "/claim/cut.py" 1179)]
noncomputable def ho_443 : Obj := { cls := (.type "frame"), dict := none, data := .plain, slots := #[(some (qV 702)), (some (qV 3)), (some (qV 699)), none, (some (qS "gateloom.scopes" 1171)), none, (some (qV 0))] }
noncomputable def ho_444 : Obj := qT #[(qS "self" 1188), (qS "design" 1189), (qS "name" 1190), (qS "parent" 1191), (qS "kind" 1192)]
noncomputable def ho_445 : Obj := qR (met 85 0) "Scope.__init__"
noncomputable def ho_446 : Obj := qC #[(qS "__init__" 1185), (qS "Scope.__init__" 1186), (qS "/claim/cut.py" 1187), (qI 575), (qI 5), (qI 0), (qI 0), (qI 3), (qV 704), (.bool true), (qI 181), (qV 705), .none, (qV 706), (qV 707), (qV 708), (qI 1193), (qI 575), (qS "/claim/cut.py" 1194)]
noncomputable def ho_447 : Obj := qN (met 85 0) "Scope.__init__" .none (qS "gateloom.scopes" 1171) 709
noncomputable def ho_448 : Obj := qT #[(qS "self" 1199), (qS "name" 1200), (qS "kind" 1201), (qS "at" 1202), (qS "inner" 1203)]
noncomputable def ho_449 : Obj := qR (met 85 1) "Scope.child"
noncomputable def ho_450 : Obj := qC #[(qS "child" 1196), (qS "Scope.child" 1197), (qS "/claim/cut.py" 1198), (qI 589), (qI 4), (qI 0), (qI 0), (qI 3), (qV 711), (.bool true), (qI 181), (qV 712), .none, (qV 713), (qV 714), (qV 715), (qI 1204), (qI 589), (qS "/claim/cut.py" 1205)]
noncomputable def ho_451 : Obj := qN (met 85 1) "Scope.child" .none (qS "gateloom.scopes" 1171) 716
noncomputable def ho_452 : Obj := qT #[(qS "self" 1210), (qS "name" 1211), (qS "entry" 1212), (qS "at" 1213)]
noncomputable def ho_453 : Obj := qR (met 85 2) "Scope.declare"
noncomputable def ho_454 : Obj := qC #[(qS "declare" 1207), (qS "Scope.declare" 1208), (qS "/claim/cut.py" 1209), (qI 594), (qI 4), (qI 0), (qI 0), (qI 3), (qV 718), (.bool true), (qI 181), (qV 719), .none, (qV 720), (qV 721), (qV 722), (qI 1214), (qI 594), (qS "/claim/cut.py" 1215)]
noncomputable def ho_455 : Obj := qN (met 85 2) "Scope.declare" .none (qS "gateloom.scopes" 1171) 723
noncomputable def ho_456 : Obj := qT #[(qS "self" 1220)]
noncomputable def ho_457 : Obj := qR (met 85 3) "Scope.module_scope"
noncomputable def ho_458 : Obj := qC #[(qS "module_scope" 1217), (qS "Scope.module_scope" 1218), (qS "/claim/cut.py" 1219), (qI 599), (qI 1), (qI 0), (qI 0), (qI 3), (qV 725), (.bool true), (qI 181), (qV 726), .none, (qV 727), (qV 728), (qV 729), (qI 1221), (qI 599), (qS "/claim/cut.py" 1222)]
noncomputable def ho_459 : Obj := qN (met 85 3) "Scope.module_scope" .none (qS "gateloom.scopes" 1171) 730
noncomputable def ho_460 : Obj := qT #[(qS "self" 1227), (qS "name" 1228), (qS "scope" 1229)]
noncomputable def ho_461 : Obj := qR (met 85 4) "Scope.lookup"
noncomputable def ho_462 : Obj := qC #[(qS "lookup" 1224), (qS "Scope.lookup" 1225), (qS "/claim/cut.py" 1226), (qI 602), (qI 2), (qI 0), (qI 0), (qI 3), (qV 732), (.bool true), (qI 181), (qV 733), .none, (qV 734), (qV 735), (qV 736), (qI 1230), (qI 602), (qS "/claim/cut.py" 1231)]
noncomputable def ho_463 : Obj := qN (met 85 4) "Scope.lookup" .none (qS "gateloom.scopes" 1171) 737
noncomputable def ho_464 : Obj := qT #[(qS "self" 1236), (qS "name" 1237), (qS "scope" 1238), (qS "entry" 1239)]
noncomputable def ho_465 : Obj := qR (met 85 5) "Scope.lookup_routine"
noncomputable def ho_466 : Obj := qC #[(qS "lookup_routine" 1233), (qS "Scope.lookup_routine" 1234), (qS "/claim/cut.py" 1235), (qI 612), (qI 2), (qI 0), (qI 0), (qI 3), (qV 739), (.bool true), (qI 181), (qV 740), .none, (qV 741), (qV 742), (qV 743), (qI 1240), (qI 612), (qS "/claim/cut.py" 1241)]
noncomputable def ho_467 : Obj := qN (met 85 5) "Scope.lookup_routine" .none (qS "gateloom.scopes" 1171) 744
noncomputable def ho_468 : Obj := qT #[(qS "self" 1246), (qS "parts" 1247), (qS "scope" 1248), (qS "entry" 1249), (qS "name" 1250)]
noncomputable def ho_469 : Obj := qR (met 85 6) "Scope.descend"
noncomputable def ho_470 : Obj := qC #[(qS "descend" 1243), (qS "Scope.descend" 1244), (qS "/claim/cut.py" 1245), (qI 623), (qI 2), (qI 0), (qI 0), (qI 3), (qV 746), (.bool true), (qI 181), (qV 747), .none, (qV 748), (qV 749), (qV 750), (qI 1251), (qI 623), (qS "/claim/cut.py" 1252)]
noncomputable def ho_471 : Obj := qN (met 85 6) "Scope.descend" .none (qS "gateloom.scopes" 1171) 751
noncomputable def ho_472 : Obj := qT #[(qS "self" 1257), (qS "parts" 1258), (qS "at" 1259), (qS "scope" 1260), (qS "entry" 1261)]
noncomputable def ho_473 : Obj := qR (met 85 7) "Scope.resolve"
noncomputable def ho_474 : Obj := qC #[(qS "resolve" 1254), (qS "Scope.resolve" 1255), (qS "/claim/cut.py" 1256), (qI 635), (qI 3), (qI 0), (qI 0), (qI 3), (qV 753), (.bool true), (qI 181), (qV 754), .none, (qV 755), (qV 756), (qV 757), (qI 1262), (qI 635), (qS "/claim/cut.py" 1263)]
noncomputable def ho_475 : Obj := qN (met 85 7) "Scope.resolve" .none (qS "gateloom.scopes" 1171) 758
noncomputable def ho_476 : Obj := qT #[(qS "self" 1268), (qS "name" 1269)]
noncomputable def ho_477 : Obj := qR (met 85 8) "Scope.answers_to"
noncomputable def ho_478 : Obj := qC #[(qS "answers_to" 1265), (qS "Scope.answers_to" 1266), (qS "/claim/cut.py" 1267), (qI 646), (qI 2), (qI 0), (qI 0), (qI 3), (qV 760), (.bool true), (qI 181), (qV 761), .none, (qV 762), (qV 763), (qV 764), (qI 1270), (qI 646), (qS "/claim/cut.py" 1271)]
noncomputable def ho_479 : Obj := qN (met 85 8) "Scope.answers_to" .none (qS "gateloom.scopes" 1171) 765
noncomputable def ho_480 : Obj := qT #[(qS "design" 1273), (qS "entries" 1274), (qS "kind" 1275), (qS "module_name" 1276), (qS "name" 1277), (qS "nettype" 1278), (qS "number" 1279), (qS "parent" 1280), (qS "path" 1281)]
noncomputable def ho_481 (P : Params) : Obj := { cls := (.type "dict"), dict := none, data := .dict #[dE P "__module__" 1180 (qS "gateloom.scopes" 1171), dE P "__firstlineno__" 1184 (.int (573) 1183), dE P "__init__" 1195 (qV 710), dE P "child" 1206 (qV 717), dE P "declare" 1216 (qV 724), dE P "module_scope" 1223 (qV 731), dE P "lookup" 1232 (qV 738), dE P "lookup_routine" 1242 (qV 745), dE P "descend" 1253 (qV 752), dE P "resolve" 1264 (qV 759), dE P "answers_to" 1272 (qV 766), dE P "__static_attributes__" 1282 (qV 767), dE P "__dict__" 1284 (qV 770), dE P "__weakref__" 1286 (qV 771), dE P "__doc__" 1287 .none] 4, slots := #[] }
noncomputable def ho_482 : Obj := { cls := (.type "type"), dict := none, data := .cls { name := (Str.ofString "Scope"), bases := [(.type "object")], mro := [(qV 769), (.type "object")], ns := 768, qualname := (Str.ofString "Scope"), hasDict := true, slotNames := [], subclasses := [], abstract := false, collection := none, hasDel := false }, slots := #[none, none, (some (qS "Scope" 1173)), (some (qS "Scope" 1181)), (some (.builtin "object.__new__")), (some (.bool true))] }
noncomputable def ho_483 : Obj := { cls := (.type "getset_descriptor"), dict := none, data := .fields #[(qS "__dict__" 1283), (qV 769), (.builtin "function.__dict__"), (.builtin "function.__dict__#set")], slots := #[] }
noncomputable def ho_484 : Obj := { cls := (.type "getset_descriptor"), dict := none, data := .fields #[(qS "__weakref__" 1285), (qV 769), (.builtin "ExceptionGroup.__weakref__"), .none], slots := #[] }
noncomputable def ho_485 : Obj := { cls := (.type "super"), dict := none, data := .fields #[(qV 769), (qV 769), (qV 769)], slots := #[] }
noncomputable def ho_486 : Obj := { cls := (.type "builtin_function_or_method"), dict := none, data := .fields #[(.builtin "object.__init_subclass__"), (qV 769)], slots := #[] }
noncomputable def ho_487 (P : Params) : Obj := { cls := (.type "dict"), dict := none, data := .dict ((((hd_3 P).take 89).set 0 (dE P "__name__" 165 (qS "gateloom.funcs" 1290))).set 76 (dE P "system_value" 882 (qV 515))).toArray 89, slots := #[] }
noncomputable def ho_488 : Obj := { cls := .none, dict := none, data := .fields (hf_12.take 234).toArray, slots := #[] }
noncomputable def ho_489 : Obj := { cls := (.type "type"), dict := none, data := .cls { name := (Str.ofString "Context"), bases := [(.type "object")], mro := [(qV 692), (.type "object")], ns := 691, qualname := (Str.ofString "Context"), hasDict := true, slotNames := [], subclasses := [(qV 817)], abstract := false, collection := none, hasDel := false }, slots := #[none, none, (some (qS "Context" 1112)), (some (qS "Context" 1120)), (some (.builtin "object.__new__")), (some (.bool true))] }
noncomputable def ho_490 : Obj := qT #[(qV 692)]
noncomputable def ho_491 (P : Params) : Obj := { cls := (.type "dict"), dict := none, data := .dict #[dE P "__module__" 1301 (qS "gateloom.funcs" 1290), dE P "__qualname__" 1303 (qS "FunctionContext" 1302), dE P "__firstlineno__" 1305 (.int (650) 1304), dE P "__init__" 1318 (qV 788), dE P "call" 1330 (qV 795), dE P "new_frame" 1336 (qV 800), dE P "burn" 1343 (qV 807), dE P "is_true" 1351 (qV 814), dE P "__static_attributes__" 1357 (qV 815)] 9, slots := #[] }
noncomputable def ho_492 : Obj := qF #[(qI 652), (qI 4), (qV 787), (qI 659), (qI 4), (qV 794), (qI 674), (qI 4), (qV 799), (qI 686), (qI 4), (qV 806), (qI 691), (qI 4), (qV 813)]
noncomputable def ho_493 : Obj := qC #[(qS "FunctionContext" 1296), (qS "FunctionContext" 1297), (qS "/claim/cut.py" 1298), (qI 650), (qI 0), (qI 0), (qI 0), (qI 0), (qV 777), (.bool false), (qI 181), (qV 778), .none, .none, .none, .none, (qI 1299), (qI 650), (qS "/claim/cut.py" 1300)]
noncomputable def ho_494 : Obj := { cls := (.type "frame"), dict := none, data := .plain, slots := #[(some (qV 779)), (some (qV 3)), (some (qV 776)), none, (some (qS "gateloom.funcs" 1290)), none, (some (qV 0))] }
noncomputable def ho_495 : Obj := qT #[(.int (10000) 1306)]
noncomputable def ho_496 : Obj := qT #[(qS "self" 1310), (qS "design" 1311), (qS "store" 1312), (qS "frame" 1313), (qS "now" 1314), (qS "fuel" 1315)]
noncomputable def ho_497 : Obj := qR (met 88 0) "FunctionContext.__init__"
noncomputable def ho_498 : Obj := qC #[(qS "__init__" 1307), (qS "FunctionContext.__init__" 1308), (qS "/claim/cut.py" 1309), (qI 652), (qI 6), (qI 0), (qI 0), (qI 3), (qV 782), (.bool true), (qI 181), (qV 783), .none, (qV 784), (qV 785), (qV 786), (qI 1316), (qI 652), (qS "/claim/cut.py" 1317)]
noncomputable def ho_499 : Obj := qN (met 88 0) "FunctionContext.__init__" (qV 781) (qS "gateloom.funcs" 1290) 787
noncomputable def ho_500 : Obj := qT #[(qS "self" 1322), (qS "number" 1323), (qS "args" 1324), (qS "routine" 1325), (qS "caller" 1326), (qS "value" 1327)]
noncomputable def ho_501 : Obj := qR (met 88 1) "FunctionContext.call"
noncomputable def ho_502 : Obj := qC #[(qS "call" 1319), (qS "FunctionContext.call" 1320), (qS "/claim/cut.py" 1321), (qI 659), (qI 3), (qI 0), (qI 0), (qI 3), (qV 789), (.bool true), (qI 181), (qV 790), .none, (qV 791), (qV 792), (qV 793), (qI 1328), (qI 659), (qS "/claim/cut.py" 1329)]
noncomputable def ho_503 : Obj := qN (met 88 1) "FunctionContext.call" .none (qS "gateloom.funcs" 1290) 794
noncomputable def ho_504 : Obj := qR (met 88 2) "FunctionContext.new_frame"
noncomputable def ho_505 : Obj := qC #[(qS "new_frame" 1331), (qS "FunctionContext.new_frame" 1332), (qS "/claim/cut.py" 1333), (qI 674), (qI 3), (qI 0), (qI 0), (qI 3), (qV 796), (.bool true), (qI 181), (qV 797), .none, .none, .none, (qV 798), (qI 1334), (qI 674), (qS "/claim/cut.py" 1335)]
noncomputable def ho_506 : Obj := qN (met 88 2) "FunctionContext.new_frame" .none (qS "gateloom.funcs" 1290) 799
noncomputable def ho_507 : Obj := qT #[(qS "self" 1340)]
noncomputable def ho_508 : Obj := qR (met 88 3) "FunctionContext.burn"
noncomputable def ho_509 : Obj := qC #[(qS "burn" 1337), (qS "FunctionContext.burn" 1338), (qS "/claim/cut.py" 1339), (qI 686), (qI 1), (qI 0), (qI 0), (qI 3), (qV 801), (.bool true), (qI 181), (qV 802), .none, (qV 803), (qV 804), (qV 805), (qI 1341), (qI 686), (qS "/claim/cut.py" 1342)]
noncomputable def ho_510 : Obj := qN (met 88 3) "FunctionContext.burn" .none (qS "gateloom.funcs" 1290) 806
noncomputable def ho_511 : Obj := qT #[(qS "self" 1347), (qS "e" 1348)]
noncomputable def ho_512 : Obj := qR (met 88 4) "FunctionContext.is_true"
noncomputable def ho_513 : Obj := qC #[(qS "is_true" 1344), (qS "FunctionContext.is_true" 1345), (qS "/claim/cut.py" 1346), (qI 691), (qI 2), (qI 0), (qI 0), (qI 3), (qV 808), (.bool true), (qI 181), (qV 809), .none, (qV 810), (qV 811), (qV 812), (qI 1349), (qI 691), (qS "/claim/cut.py" 1350)]
noncomputable def ho_514 : Obj := qN (met 88 4) "FunctionContext.is_true" .none (qS "gateloom.funcs" 1290) 813
noncomputable def ho_515 : Obj := qT #[(qS "depth" 1352), (qS "design" 1353), (qS "frame" 1354), (qS "fuel" 1355), (qS "written" 1356)]
noncomputable def ho_516 (P : Params) : Obj := { cls := (.type "dict"), dict := none, data := .dict #[dE P "__module__" 1301 (qS "gateloom.funcs" 1290), dE P "__firstlineno__" 1305 (.int (650) 1304), dE P "__init__" 1318 (qV 788), dE P "call" 1330 (qV 795), dE P "new_frame" 1336 (qV 800), dE P "burn" 1343 (qV 807), dE P "is_true" 1351 (qV 814), dE P "__static_attributes__" 1357 (qV 815), dE P "__doc__" 1358 .none] 2, slots := #[] }
noncomputable def ho_517 : Obj := { cls := (.type "type"), dict := none, data := .cls { name := (Str.ofString "FunctionContext"), bases := [(qV 692)], mro := [(qV 817), (qV 692), (.type "object")], ns := 816, qualname := (Str.ofString "FunctionContext"), hasDict := true, slotNames := [], subclasses := [], abstract := false, collection := none, hasDel := false }, slots := #[(some (qV 774)), none, (some (qS "FunctionContext" 1294)), (some (qS "FunctionContext" 1302)), (some (.builtin "object.__new__")), (some (.bool true))] }
noncomputable def ho_518 : Obj := { cls := (.type "super"), dict := none, data := .fields #[(qV 817), (qV 817), (qV 817)], slots := #[] }
noncomputable def ho_519 : Obj := { cls := (.type "builtin_function_or_method"), dict := none, data := .fields #[(.builtin "object.__init_subclass__"), (qV 817)], slots := #[] }
noncomputable def ho_520 (P : Params) : Obj := { cls := (.type "dict"), dict := none, data := .dict ((((hd_3 P).take 101).set 0 (dE P "__name__" 165 (qS "gateloom.walks" 1432))).set 76 (dE P "system_value" 882 (qV 515))).toArray 101, slots := #[] }
noncomputable def ho_521 : Obj := { cls := .none, dict := none, data := .fields (hf_12.take 270).toArray, slots := #[] }
noncomputable def ho_522 : Obj := qT #[(qS "s" 1364), (qS "ctx" 1365), (qS "inner" 1366), (qS "disabled" 1367)]
noncomputable def ho_523 : Obj := qR (stm 89) "run_block"
noncomputable def ho_524 : Obj := qC #[(qS "run_block" 1361), (qS "run_block" 1362), (qS "/claim/cut.py" 1363), (qI 693), (qI 2), (qI 0), (qI 0), (qI 3), (qV 820), (.bool true), (qI 181), (qV 821), .none, (qV 822), (qV 823), (qV 824), (qI 1368), (qI 693), (qS "/claim/cut.py" 1369)]
noncomputable def ho_525 : Obj := qN (stm 89) "run_block" .none (qS "gateloom.funcs" 1290) 825
noncomputable def ho_526 : Obj := qT #[(qS "s" 1374), (qS "ctx" 1375), (qS "value" 1376), (qS "key" 1377)]
noncomputable def ho_527 : Obj := qR (stm 90) "run_set"
noncomputable def ho_528 : Obj := qC #[(qS "run_set" 1371), (qS "run_set" 1372), (qS "/claim/cut.py" 1373), (qI 701), (qI 2), (qI 0), (qI 0), (qI 3), (qV 827), (.bool true), (qI 181), (qV 828), .none, (qV 829), (qV 830), (qV 831), (qI 1378), (qI 701), (qS "/claim/cut.py" 1379)]
noncomputable def ho_529 : Obj := qN (stm 90) "run_set" .none (qS "gateloom.funcs" 1290) 832
noncomputable def ho_530 : Obj := qT #[(qS "s" 1384), (qS "ctx" 1385), (qS "value" 1386), (qS "default" 1387), (qS "labels" 1388), (qS "inner" 1389), (qS "label" 1390)]
noncomputable def ho_531 : Obj := qR (stm 91) "run_case"
noncomputable def ho_532 : Obj := qC #[(qS "run_case" 1381), (qS "run_case" 1382), (qS "/claim/cut.py" 1383), (qI 708), (qI 2), (qI 0), (qI 0), (qI 3), (qV 834), (.bool true), (qI 181), (qV 835), .none, (qV 836), (qV 837), (qV 838), (qI 1391), (qI 708), (qS "/claim/cut.py" 1392)]
noncomputable def ho_533 : Obj := qN (stm 91) "run_case" .none (qS "gateloom.funcs" 1290) 839
noncomputable def ho_534 : Obj := qT #[(qS "condition" 1397), (qS "body" 1398), (qS "step" 1399), (qS "ctx" 1400), (qS "disabled" 1401)]
noncomputable def ho_535 : Obj := qR (stm 92) "run_while"
noncomputable def ho_536 : Obj := qC #[(qS "run_while" 1394), (qS "run_while" 1395), (qS "/claim/cut.py" 1396), (qI 719), (qI 4), (qI 0), (qI 0), (qI 3), (qV 841), (.bool true), (qI 181), (qV 842), .none, (qV 843), (qV 844), (qV 845), (qI 1402), (qI 719), (qS "/claim/cut.py" 1403)]
noncomputable def ho_537 : Obj := qN (stm 92) "run_while" .none (qS "gateloom.funcs" 1290) 846
noncomputable def ho_538 : Obj := qT #[(qS "s" 1408), (qS "ctx" 1409), (qS "count" 1410), (qS "disabled" 1411)]
noncomputable def ho_539 : Obj := qR (stm 93) "run_repeat"
noncomputable def ho_540 : Obj := qC #[(qS "run_repeat" 1405), (qS "run_repeat" 1406), (qS "/claim/cut.py" 1407), (qI 727), (qI 2), (qI 0), (qI 0), (qI 3), (qV 848), (.bool true), (qI 181), (qV 849), .none, (qV 850), (qV 851), (qV 852), (qI 1412), (qI 727), (qS "/claim/cut.py" 1413)]
noncomputable def ho_541 : Obj := qN (stm 93) "run_repeat" .none (qS "gateloom.funcs" 1290) 853
noncomputable def ho_542 : Obj := qT #[(qS "s" 1418), (qS "ctx" 1419)]
noncomputable def ho_543 : Obj := qR (stm 94) "run_for"
noncomputable def ho_544 : Obj := qC #[(qS "run_for" 1415), (qS "run_for" 1416), (qS "/claim/cut.py" 1417), (qI 738), (qI 2), (qI 0), (qI 0), (qI 3), (qV 855), (.bool true), (qI 181), (qV 856), .none, (qV 857), (qV 858), (qV 859), (qI 1420), (qI 738), (qS "/claim/cut.py" 1421)]
noncomputable def ho_545 : Obj := qN (stm 94) "run_for" .none (qS "gateloom.funcs" 1290) 860
noncomputable def ho_546 : Obj := qT #[(qS "s" 1426), (qS "ctx" 1427), (qS "tag" 1428)]
noncomputable def ho_547 : Obj := qR (stm 95) "run_statement"
noncomputable def ho_548 : Obj := qC #[(qS "run_statement" 1423), (qS "run_statement" 1424), (qS "/claim/cut.py" 1425), (qI 741), (qI 2), (qI 0), (qI 0), (qI 3), (qV 862), (.bool true), (qI 181), (qV 863), .none, (qV 864), (qV 865), (qV 866), (qI 1429), (qI 741), (qS "/claim/cut.py" 1430)]
noncomputable def ho_549 : Obj := qN (stm 95) "run_statement" .none (qS "gateloom.funcs" 1290) 867
noncomputable def ho_550 : Obj := qT #[(qS "e" 1437), (qS "tag" 1438)]
noncomputable def ho_551 : Obj := qR (stm 97) "children"
noncomputable def ho_552 : Obj := qC #[(qS "children" 1434), (qS "children" 1435), (qS "/claim/cut.py" 1436), (qI 768), (qI 1), (qI 0), (qI 0), (qI 3), (qV 869), (.bool true), (qI 181), (qV 870), .none, (qV 871), (qV 872), (qV 873), (qI 1439), (qI 768), (qS "/claim/cut.py" 1440)]
noncomputable def ho_553 : Obj := qN (stm 97) "children" .none (qS "gateloom.walks" 1432) 874
noncomputable def ho_554 : Obj := qT #[(qS "e" 1445), (qS "found" 1446), (qS "stack" 1447), (qS "node" 1448), (qS "part" 1449)]
noncomputable def ho_555 : Obj := qR (stm 98) "subexpressions"
noncomputable def ho_556 : Obj := qC #[(qS "subexpressions" 1442), (qS "subexpressions" 1443), (qS "/claim/cut.py" 1444), (qI 787), (qI 1), (qI 0), (qI 0), (qI 3), (qV 876), (.bool true), (qI 181), (qV 877), .none, (qV 878), (qV 879), (qV 880), (qI 1450), (qI 787), (qS "/claim/cut.py" 1451)]
noncomputable def ho_557 : Obj := qN (stm 98) "subexpressions" .none (qS "gateloom.walks" 1432) 881
noncomputable def ho_558 : Obj := qT #[(qS "e" 1456), (qS "keys" 1457), (qS "node" 1458)]
noncomputable def ho_559 : Obj := qR (stm 99) "expr_reads"
noncomputable def ho_560 : Obj := qC #[(qS "expr_reads" 1453), (qS "expr_reads" 1454), (qS "/claim/cut.py" 1455), (qI 796), (qI 1), (qI 0), (qI 0), (qI 3), (qV 883), (.bool true), (qI 181), (qV 884), .none, (qV 885), (qV 886), (qV 887), (qI 1459), (qI 796), (qS "/claim/cut.py" 1460)]
noncomputable def ho_561 : Obj := qN (stm 99) "expr_reads" .none (qS "gateloom.walks" 1432) 888
noncomputable def ho_562 : Obj := qT #[(qS "e" 1465), (qS "numbers" 1466), (qS "node" 1467)]
noncomputable def ho_563 : Obj := qR (stm 100) "expr_calls"
noncomputable def ho_564 : Obj := qC #[(qS "expr_calls" 1462), (qS "expr_calls" 1463), (qS "/claim/cut.py" 1464), (qI 802), (qI 1), (qI 0), (qI 0), (qI 3), (qV 890), (.bool true), (qI 181), (qV 891), .none, (qV 892), (qV 893), (qV 894), (qI 1468), (qI 802), (qS "/claim/cut.py" 1469)]
noncomputable def ho_565 : Obj := qN (stm 100) "expr_calls" .none (qS "gateloom.walks" 1432) 895
noncomputable def ho_566 : Obj := qT #[(qS "lv" 1474), (qS "found" 1475), (qS "part" 1476)]
noncomputable def ho_567 : Obj := qR (stm 101) "target_indexes"
noncomputable def ho_568 : Obj := qC #[(qS "target_indexes" 1471), (qS "target_indexes" 1472), (qS "/claim/cut.py" 1473), (qI 808), (qI 1), (qI 0), (qI 0), (qI 3), (qV 897), (.bool true), (qI 181), (qV 898), .none, (qV 899), (qV 900), (qV 901), (qI 1477), (qI 808), (qS "/claim/cut.py" 1478)]
noncomputable def ho_569 : Obj := qN (stm 101) "target_indexes" .none (qS "gateloom.walks" 1432) 902
noncomputable def ho_570 (P : Params) : Obj := { cls := (.type "dict"), dict := none, data := .dict ((((hd_3 P).take 114).set 0 (dE P "__name__" 165 (qS "gateloom.elabparts" 1557))).set 76 (dE P "system_value" 882 (qV 515))).toArray 114, slots := #[] }
noncomputable def ho_571 : Obj := { cls := .none, dict := none, data := .fields (hf_12.take 306).toArray, slots := #[] }
noncomputable def ho_572 : Obj := qT #[(qS "lv" 1483), (qS "keys" 1484), (qS "part" 1485)]
noncomputable def ho_573 : Obj := qR (stm 102) "target_writes"
noncomputable def ho_574 : Obj := qC #[(qS "target_writes" 1480), (qS "target_writes" 1481), (qS "/claim/cut.py" 1482), (qI 816), (qI 1), (qI 0), (qI 0), (qI 3), (qV 904), (.bool true), (qI 181), (qV 905), .none, (qV 906), (qV 907), (qV 908), (qI 1486), (qI 816), (qS "/claim/cut.py" 1487)]
noncomputable def ho_575 : Obj := qN (stm 102) "target_writes" .none (qS "gateloom.walks" 1432) 909
noncomputable def ho_576 : Obj := qR (stm 103) "stmt_parts"
noncomputable def ho_577 : Obj := qC #[(qS "stmt_parts" 1489), (qS "stmt_parts" 1490), (qS "/claim/cut.py" 1491), (qI 822), (qI 1), (qI 0), (qI 0), (qI 3), (qV 911), (.bool true), (qI 181), (qV 912), .none, .none, .none, (qV 913), (qI 1492), (qI 822), (qS "/claim/cut.py" 1493)]
noncomputable def ho_578 : Obj := qN (stm 103) "stmt_parts" .none (qS "gateloom.walks" 1432) 914
noncomputable def ho_579 : Obj := qT #[(qS "s" 1498), (qS "found" 1499), (qS "stack" 1500), (qS "node" 1501), (qS "part" 1502)]
noncomputable def ho_580 : Obj := qR (stm 104) "substatements"
noncomputable def ho_581 : Obj := qC #[(qS "substatements" 1495), (qS "substatements" 1496), (qS "/claim/cut.py" 1497), (qI 840), (qI 1), (qI 0), (qI 0), (qI 3), (qV 916), (.bool true), (qI 181), (qV 917), .none, (qV 918), (qV 919), (qV 920), (qI 1503), (qI 840), (qS "/claim/cut.py" 1504)]
noncomputable def ho_582 : Obj := qN (stm 104) "substatements" .none (qS "gateloom.walks" 1432) 921
noncomputable def ho_583 : Obj := qR (stm 105) "stmt_targets"
noncomputable def ho_584 : Obj := qC #[(qS "stmt_targets" 1506), (qS "stmt_targets" 1507), (qS "/claim/cut.py" 1508), (qI 851), (qI 1), (qI 0), (qI 0), (qI 3), (qV 923), (.bool true), (qI 181), (qV 924), .none, .none, .none, (qV 925), (qI 1509), (qI 851), (qS "/claim/cut.py" 1510)]
noncomputable def ho_585 : Obj := qN (stm 105) "stmt_targets" .none (qS "gateloom.walks" 1432) 926
noncomputable def ho_586 : Obj := qT #[(qS "s" 1515), (qS "tag" 1516), (qS "found" 1517), (qS "row" 1518), (qS "arg" 1519), (qS "lv" 1520)]
noncomputable def ho_587 : Obj := qR (stm 106) "stmt_exprs"
noncomputable def ho_588 : Obj := qC #[(qS "stmt_exprs" 1512), (qS "stmt_exprs" 1513), (qS "/claim/cut.py" 1514), (qI 857), (qI 1), (qI 0), (qI 0), (qI 3), (qV 928), (.bool true), (qI 181), (qV 929), .none, (qV 930), (qV 931), (qV 932), (qI 1521), (qI 857), (qS "/claim/cut.py" 1522)]
noncomputable def ho_589 : Obj := qN (stm 106) "stmt_exprs" .none (qS "gateloom.walks" 1432) 933
noncomputable def ho_590 : Obj := qT #[(qS "s" 1527), (qS "keys" 1528), (qS "node" 1529), (qS "e" 1530), (qS "key" 1531)]
noncomputable def ho_591 : Obj := qR (stm 107) "stmt_reads"
noncomputable def ho_592 : Obj := qC #[(qS "stmt_reads" 1524), (qS "stmt_reads" 1525), (qS "/claim/cut.py" 1526), (qI 882), (qI 1), (qI 0), (qI 0), (qI 3), (qV 935), (.bool true), (qI 181), (qV 936), .none, (qV 937), (qV 938), (qV 939), (qI 1532), (qI 882), (qS "/claim/cut.py" 1533)]
noncomputable def ho_593 : Obj := qN (stm 107) "stmt_reads" .none (qS "gateloom.walks" 1432) 940
noncomputable def ho_594 : Obj := qT #[(qS "s" 1538), (qS "keys" 1539), (qS "node" 1540), (qS "lv" 1541), (qS "key" 1542)]
noncomputable def ho_595 : Obj := qR (stm 108) "stmt_writes"
noncomputable def ho_596 : Obj := qC #[(qS "stmt_writes" 1535), (qS "stmt_writes" 1536), (qS "/claim/cut.py" 1537), (qI 889), (qI 1), (qI 0), (qI 0), (qI 3), (qV 942), (.bool true), (qI 181), (qV 943), .none, (qV 944), (qV 945), (qV 946), (qI 1543), (qI 889), (qS "/claim/cut.py" 1544)]
noncomputable def ho_597 : Obj := qN (stm 108) "stmt_writes" .none (qS "gateloom.walks" 1432) 947
noncomputable def ho_598 : Obj := qT #[(qS "s" 1549), (qS "numbers" 1550), (qS "node" 1551), (qS "e" 1552), (qS "number" 1553)]
noncomputable def ho_599 : Obj := qR (stm 109) "stmt_calls"
noncomputable def ho_600 : Obj := qC #[(qS "stmt_calls" 1546), (qS "stmt_calls" 1547), (qS "/claim/cut.py" 1548), (qI 896), (qI 1), (qI 0), (qI 0), (qI 3), (qV 949), (.bool true), (qI 181), (qV 950), .none, (qV 951), (qV 952), (qV 953), (qI 1554), (qI 896), (qS "/claim/cut.py" 1555)]
noncomputable def ho_601 : Obj := qN (stm 109) "stmt_calls" .none (qS "gateloom.walks" 1432) 954
noncomputable def ho_602 : Obj := qT #[(qS "e" 1564), (qS "name" 1565), (qS "index" 1566)]
noncomputable def ho_603 : Obj := qR (stm 112) "last_select"
noncomputable def ho_604 : Obj := qC #[(qS "last_select" 1561), (qS "last_select" 1562), (qS "/claim/cut.py" 1563), (qI 907), (qI 1), (qI 0), (qI 0), (qI 3), (qV 956), (.bool true), (qI 181), (qV 957), .none, (qV 958), (qV 959), (qV 960), (qI 1567), (qI 907), (qS "/claim/cut.py" 1568)]
noncomputable def ho_605 : Obj := qN (stm 112) "last_select" .none (qS "gateloom.elabparts" 1557) 961
noncomputable def ho_606 : Obj := qT #[(qS "scope" 1573), (qS "entry" 1574)]
noncomputable def ho_607 : Obj := qR (stm 113) "is_memory"
noncomputable def ho_608 : Obj := qC #[(qS "is_memory" 1570), (qS "is_memory" 1571), (qS "/claim/cut.py" 1572), (qI 912), (qI 2), (qI 0), (qI 0), (qI 3), (qV 963), (.bool true), (qI 181), (qV 964), .none, (qV 965), (qV 966), (qV 967), (qI 1575), (qI 912), (qS "/claim/cut.py" 1576)]
noncomputable def ho_609 : Obj := qN (stm 113) "is_memory" .none (qS "gateloom.elabparts" 1557) 968
noncomputable def ho_610 : Obj := qT #[(qS "scope" 1581), (qS "entry" 1582), (qS "at" 1583), (qS "signal" 1584)]
noncomputable def ho_611 : Obj := qR (stm 114) "shape"
noncomputable def ho_612 : Obj := qC #[(qS "shape" 1578), (qS "shape" 1579), (qS "/claim/cut.py" 1580), (qI 914), (qI 3), (qI 0), (qI 0), (qI 3), (qV 970), (.bool true), (qI 181), (qV 971), .none, (qV 972), (qV 973), (qV 974), (qI 1585), (qI 914), (qS "/claim/cut.py" 1586)]
noncomputable def ho_613 : Obj := qN (stm 114) "shape" .none (qS "gateloom.elabparts" 1557) 975
noncomputable def ho_614 : Obj := qT #[(qS "scope" 1591), (qS "entry" 1592), (qS "word" 1593), (qS "width" 1594)]
noncomputable def ho_615 : Obj := qR (stm 115) "read_entry"
noncomputable def ho_616 : Obj := qC #[(qS "read_entry" 1588), (qS "read_entry" 1589), (qS "/claim/cut.py" 1590), (qI 927), (qI 3), (qI 0), (qI 0), (qI 3), (qV 977), (.bool true), (qI 181), (qV 978), .none, (qV 979), (qV 980), (qV 981), (qI 1595), (qI 927), (qS "/claim/cut.py" 1596)]
noncomputable def ho_617 : Obj := qN (stm 115) "read_entry" .none (qS "gateloom.elabparts" 1557) 982
noncomputable def ho_618 (P : Params) : Obj := { cls := (.type "dict"), dict := none, data := .dict ((((hd_3 P).take 126).set 0 (dE P "__name__" 165 (qS "gateloom.elabexpr" 1693))).set 76 (dE P "system_value" 882 (qV 515))).toArray 126, slots := #[] }
noncomputable def ho_619 : Obj := { cls := .none, dict := none, data := .fields (hf_12.take 342).toArray, slots := #[] }
noncomputable def ho_620 : Obj := qT #[(qS "e" 1601)]
noncomputable def ho_621 : Obj := qR (stm 116) "folds"
noncomputable def ho_622 : Obj := qC #[(qS "folds" 1598), (qS "folds" 1599), (qS "/claim/cut.py" 1600), (qI 938), (qI 1), (qI 0), (qI 0), (qI 3), (qV 984), (.bool true), (qI 181), (qV 985), .none, (qV 986), (qV 987), (qV 988), (qI 1602), (qI 938), (qS "/claim/cut.py" 1603)]
noncomputable def ho_623 : Obj := qN (stm 116) "folds" .none (qS "gateloom.elabparts" 1557) 989
noncomputable def ho_624 : Obj := qT #[(qS "e" 1608), (qS "part" 1609)]
noncomputable def ho_625 : Obj := qR (stm 117) "folded"
noncomputable def ho_626 : Obj := qC #[(qS "folded" 1605), (qS "folded" 1606), (qS "/claim/cut.py" 1607), (qI 942), (qI 1), (qI 0), (qI 0), (qI 3), (qV 991), (.bool true), (qI 181), (qV 992), .none, (qV 993), (qV 994), (qV 995), (qI 1610), (qI 942), (qS "/claim/cut.py" 1611)]
noncomputable def ho_627 : Obj := qN (stm 117) "folded" .none (qS "gateloom.elabparts" 1557) 996
noncomputable def ho_628 : Obj := qT #[(qS "width" 1616), (qS "at" 1617)]
noncomputable def ho_629 : Obj := qR (stm 118) "checked_width"
noncomputable def ho_630 : Obj := qC #[(qS "checked_width" 1613), (qS "checked_width" 1614), (qS "/claim/cut.py" 1615), (qI 949), (qI 2), (qI 0), (qI 0), (qI 3), (qV 998), (.bool true), (qI 181), (qV 999), .none, (qV 1000), (qV 1001), (qV 1002), (qI 1618), (qI 949), (qS "/claim/cut.py" 1619)]
noncomputable def ho_631 : Obj := qN (stm 118) "checked_width" .none (qS "gateloom.elabparts" 1557) 1003
noncomputable def ho_632 : Obj := qT #[(qS "value" 1624), (qS "width" 1625), (qS "where" 1626)]
noncomputable def ho_633 : Obj := qR (stm 119) "selected"
noncomputable def ho_634 : Obj := qC #[(qS "selected" 1621), (qS "selected" 1622), (qS "/claim/cut.py" 1623), (qI 955), (qI 3), (qI 0), (qI 0), (qI 3), (qV 1005), (.bool true), (qI 181), (qV 1006), .none, (qV 1007), (qV 1008), (qV 1009), (qI 1627), (qI 955), (qS "/claim/cut.py" 1628)]
noncomputable def ho_635 : Obj := qN (stm 119) "selected" .none (qS "gateloom.elabparts" 1557) 1010
noncomputable def ho_636 : Obj := qT #[(qS "text" 1633), (qS "value" 1634), (qS "sign" 1635)]
noncomputable def ho_637 : Obj := qR (stm 120) "text_vec"
noncomputable def ho_638 : Obj := qC #[(qS "text_vec" 1630), (qS "text_vec" 1631), (qS "/claim/cut.py" 1632), (qI 959), (qI 1), (qI 0), (qI 0), (qI 3), (qV 1012), (.bool true), (qI 181), (qV 1013), .none, (qV 1014), (qV 1015), (qV 1016), (qI 1636), (qI 959), (qS "/claim/cut.py" 1637)]
noncomputable def ho_639 : Obj := qN (stm 120) "text_vec" .none (qS "gateloom.elabparts" 1557) 1017
noncomputable def ho_640 : Obj := qT #[(qS "e" 1642)]
noncomputable def ho_641 : Obj := qR (stm 121) "inner_join"
noncomputable def ho_642 : Obj := qC #[(qS "inner_join" 1639), (qS "inner_join" 1640), (qS "/claim/cut.py" 1641), (qI 964), (qI 1), (qI 0), (qI 0), (qI 3), (qV 1019), (.bool true), (qI 181), (qV 1020), .none, (qV 1021), (qV 1022), (qV 1023), (qI 1643), (qI 964), (qS "/claim/cut.py" 1644)]
noncomputable def ho_643 : Obj := qN (stm 121) "inner_join" .none (qS "gateloom.elabparts" 1557) 1024
noncomputable def ho_644 : Obj := qT #[(qS "op" 1649)]
noncomputable def ho_645 : Obj := qR (stm 122) "is_context_operator"
noncomputable def ho_646 : Obj := qC #[(qS "is_context_operator" 1646), (qS "is_context_operator" 1647), (qS "/claim/cut.py" 1648), (qI 966), (qI 1), (qI 0), (qI 0), (qI 3), (qV 1026), (.bool true), (qI 181), (qV 1027), .none, (qV 1028), (qV 1029), (qV 1030), (qI 1650), (qI 966), (qS "/claim/cut.py" 1651)]
noncomputable def ho_647 : Obj := qN (stm 122) "is_context_operator" .none (qS "gateloom.elabparts" 1557) 1031
noncomputable def ho_648 : Obj := qT #[(qS "op" 1656)]
noncomputable def ho_649 : Obj := qR (stm 123) "is_shift"
noncomputable def ho_650 : Obj := qC #[(qS "is_shift" 1653), (qS "is_shift" 1654), (qS "/claim/cut.py" 1655), (qI 968), (qI 1), (qI 0), (qI 0), (qI 3), (qV 1033), (.bool true), (qI 181), (qV 1034), .none, (qV 1035), (qV 1036), (qV 1037), (qI 1657), (qI 968), (qS "/claim/cut.py" 1658)]
noncomputable def ho_651 : Obj := qN (stm 123) "is_shift" .none (qS "gateloom.elabparts" 1557) 1038
noncomputable def ho_652 : Obj := qT #[(qS "value" 1663), (qS "w" 1664), (qS "signed" 1665)]
noncomputable def ho_653 : Obj := qR (stm 124) "widen"
noncomputable def ho_654 : Obj := qC #[(qS "widen" 1660), (qS "widen" 1661), (qS "/claim/cut.py" 1662), (qI 970), (qI 3), (qI 0), (qI 0), (qI 3), (qV 1040), (.bool true), (qI 181), (qV 1041), .none, (qV 1042), (qV 1043), (qV 1044), (qI 1666), (qI 970), (qS "/claim/cut.py" 1667)]
noncomputable def ho_655 : Obj := qN (stm 124) "widen" .none (qS "gateloom.elabparts" 1557) 1045
noncomputable def ho_656 : Obj := qT #[(qS "e" 1672), (qS "w" 1673), (qS "signed" 1674), (qS "number" 1675), (qS "fill" 1676)]
noncomputable def ho_657 : Obj := qR (stm 125) "number_value"
noncomputable def ho_658 : Obj := qC #[(qS "number_value" 1669), (qS "number_value" 1670), (qS "/claim/cut.py" 1671), (qI 974), (qI 3), (qI 0), (qI 0), (qI 3), (qV 1047), (.bool true), (qI 181), (qV 1048), .none, (qV 1049), (qV 1050), (qV 1051), (qI 1677), (qI 974), (qS "/claim/cut.py" 1678)]
noncomputable def ho_659 : Obj := qN (stm 125) "number_value" .none (qS "gateloom.elabparts" 1557) 1052
noncomputable def ho_660 : Obj := qT #[(qS "design" 1683), (qS "e" 1684), (qS "node" 1685), (qS "numbers" 1686), (qS "seen" 1687), (qS "n" 1688), (qS "body" 1689)]
noncomputable def ho_661 : Obj := qR (stm 126) "is_constant"
noncomputable def ho_662 : Obj := qC #[(qS "is_constant" 1680), (qS "is_constant" 1681), (qS "/claim/cut.py" 1682), (qI 978), (qI 2), (qI 0), (qI 0), (qI 3), (qV 1054), (.bool true), (qI 181), (qV 1055), .none, (qV 1056), (qV 1057), (qV 1058), (qI 1690), (qI 978), (qS "/claim/cut.py" 1691)]
noncomputable def ho_663 : Obj := qN (stm 126) "is_constant" .none (qS "gateloom.elabparts" 1557) 1059
noncomputable def ho_664 : Obj := qT #[(qS "scope" 1698), (qS "e" 1699), (qS "names" 1700), (qS "name" 1701), (qS "index" 1702)]
noncomputable def ho_665 : Obj := qR (stm 128) "path_names"
noncomputable def ho_666 : Obj := qC #[(qS "path_names" 1695), (qS "path_names" 1696), (qS "/claim/cut.py" 1697), (qI 996), (qI 2), (qI 0), (qI 0), (qI 3), (qV 1061), (.bool true), (qI 181), (qV 1062), .none, (qV 1063), (qV 1064), (qV 1065), (qI 1703), (qI 996), (qS "/claim/cut.py" 1704)]
noncomputable def ho_667 : Obj := qN (stm 128) "path_names" .none (qS "gateloom.elabexpr" 1693) 1066
noncomputable def ho_668 (P : Params) : Obj := { cls := (.type "dict"), dict := none, data := .dict (((hd_3 P).take 137).set 0 (dE P "__name__" 165 (qS "gateloom.elabexpr" 1693))).toArray 137, slots := #[] }
noncomputable def ho_669 : Obj := { cls := .none, dict := none, data := .fields (hf_12.take 375).toArray, slots := #[] }
noncomputable def ho_670 : Obj := qT #[(qS "scope" 1709), (qS "e" 1710), (qS "entry" 1711)]
noncomputable def ho_671 : Obj := qR (stm 129) "entry_of"
noncomputable def ho_672 : Obj := qC #[(qS "entry_of" 1706), (qS "entry_of" 1707), (qS "/claim/cut.py" 1708), (qI 1003), (qI 2), (qI 0), (qI 0), (qI 3), (qV 1068), (.bool true), (qI 181), (qV 1069), .none, (qV 1070), (qV 1071), (qV 1072), (qI 1712), (qI 1003), (qS "/claim/cut.py" 1713)]
noncomputable def ho_673 : Obj := qN (stm 129) "entry_of" .none (qS "gateloom.elabexpr" 1693) 1073
noncomputable def ho_674 : Obj := qT #[(qS "scope" 1718), (qS "e" 1719), (qS "entry" 1720), (qS "inner" 1721)]
noncomputable def ho_675 : Obj := qR (stm 130) "base_entry"
noncomputable def ho_676 : Obj := qC #[(qS "base_entry" 1715), (qS "base_entry" 1716), (qS "/claim/cut.py" 1717), (qI 1010), (qI 2), (qI 0), (qI 0), (qI 3), (qV 1075), (.bool true), (qI 181), (qV 1076), .none, (qV 1077), (qV 1078), (qV 1079), (qI 1722), (qI 1010), (qS "/claim/cut.py" 1723)]
noncomputable def ho_677 : Obj := qN (stm 130) "base_entry" .none (qS "gateloom.elabexpr" 1693) 1080
noncomputable def ho_678 : Obj := qT #[(qS "scope" 1728), (qS "e" 1729)]
noncomputable def ho_679 : Obj := qR (stm 131) "select_width"
noncomputable def ho_680 : Obj := qC #[(qS "select_width" 1725), (qS "select_width" 1726), (qS "/claim/cut.py" 1727), (qI 1020), (qI 2), (qI 0), (qI 0), (qI 3), (qV 1082), (.bool true), (qI 181), (qV 1083), .none, (qV 1084), (qV 1085), (qV 1086), (qI 1730), (qI 1020), (qS "/claim/cut.py" 1731)]
noncomputable def ho_681 : Obj := qN (stm 131) "select_width" .none (qS "gateloom.elabexpr" 1693) 1087
noncomputable def ho_682 : Obj := qT #[(qS "scope" 1736), (qS "e" 1737), (qS "form" 1738), (qS "msb" 1739), (qS "lsb" 1740), (qS "step" 1741), (qS "left" 1742), (qS "right" 1743), (qS "width" 1744), (qS "base" 1745), (qS "index" 1746), (qS "signed" 1747)]
noncomputable def ho_683 : Obj := qR (stm 132) "select_where"
noncomputable def ho_684 : Obj := qC #[(qS "select_where" 1733), (qS "select_where" 1734), (qS "/claim/cut.py" 1735), (qI 1026), (qI 3), (qI 0), (qI 0), (qI 3), (qV 1089), (.bool true), (qI 181), (qV 1090), .none, (qV 1091), (qV 1092), (qV 1093), (qI 1748), (qI 1026), (qS "/claim/cut.py" 1749)]
noncomputable def ho_685 : Obj := qN (stm 132) "select_where" .none (qS "gateloom.elabexpr" 1693) 1094
noncomputable def ho_686 : Obj := qT #[(qS "scope" 1754), (qS "e" 1755), (qS "entry" 1756), (qS "inner" 1757)]
noncomputable def ho_687 : Obj := qR (stm 133) "named_type"
noncomputable def ho_688 : Obj := qC #[(qS "named_type" 1751), (qS "named_type" 1752), (qS "/claim/cut.py" 1753), (qI 1048), (qI 2), (qI 0), (qI 0), (qI 3), (qV 1096), (.bool true), (qI 181), (qV 1097), .none, (qV 1098), (qV 1099), (qV 1100), (qI 1758), (qI 1048), (qS "/claim/cut.py" 1759)]
noncomputable def ho_689 : Obj := qN (stm 133) "named_type" .none (qS "gateloom.elabexpr" 1693) 1101
noncomputable def ho_690 : Obj := qT #[(qS "scope" 1764), (qS "e" 1765), (qS "entry" 1766), (qS "inner" 1767), (qS "form" 1768), (qS "word" 1769), (qS "where" 1770)]
noncomputable def ho_691 : Obj := qR (stm 134) "named_value"
noncomputable def ho_692 : Obj := qC #[(qS "named_value" 1761), (qS "named_value" 1762), (qS "/claim/cut.py" 1763), (qI 1061), (qI 2), (qI 0), (qI 0), (qI 3), (qV 1103), (.bool true), (qI 181), (qV 1104), .none, (qV 1105), (qV 1106), (qV 1107), (qI 1771), (qI 1061), (qS "/claim/cut.py" 1772)]
noncomputable def ho_693 : Obj := qN (stm 134) "named_value" .none (qS "gateloom.elabexpr" 1693) 1108
noncomputable def ho_694 : Obj := qT #[(qS "scope" 1777), (qS "e" 1778), (qS "entry" 1779), (qS "routine" 1780)]
noncomputable def ho_695 : Obj := qR (stm 135) "function_of"
noncomputable def ho_696 : Obj := qC #[(qS "function_of" 1774), (qS "function_of" 1775), (qS "/claim/cut.py" 1776), (qI 1080), (qI 2), (qI 0), (qI 0), (qI 3), (qV 1110), (.bool true), (qI 181), (qV 1111), .none, (qV 1112), (qV 1113), (qV 1114), (qI 1781), (qI 1080), (qS "/claim/cut.py" 1782)]
noncomputable def ho_697 : Obj := qN (stm 135) "function_of" .none (qS "gateloom.elabexpr" 1693) 1115
noncomputable def ho_698 : Obj := qT #[(qS "scope" 1787), (qS "e" 1788), (qS "routine" 1789), (qS "args" 1790), (qS "at" 1791), (qS "port" 1792)]
noncomputable def ho_699 : Obj := qR (stm 136) "call_value"
noncomputable def ho_700 : Obj := qC #[(qS "call_value" 1784), (qS "call_value" 1785), (qS "/claim/cut.py" 1786), (qI 1092), (qI 2), (qI 0), (qI 0), (qI 3), (qV 1117), (.bool true), (qI 181), (qV 1118), .none, (qV 1119), (qV 1120), (qV 1121), (qI 1793), (qI 1092), (qS "/claim/cut.py" 1794)]
noncomputable def ho_701 : Obj := qN (stm 136) "call_value" .none (qS "gateloom.elabexpr" 1693) 1122
noncomputable def ho_702 : Obj := qT #[(qS "scope" 1799), (qS "e" 1800), (qS "name" 1801), (qS "count" 1802)]
noncomputable def ho_703 : Obj := qR (stm 137) "system_type"
noncomputable def ho_704 : Obj := qC #[(qS "system_type" 1796), (qS "system_type" 1797), (qS "/claim/cut.py" 1798), (qI 1100), (qI 2), (qI 0), (qI 0), (qI 3), (qV 1124), (.bool true), (qI 181), (qV 1125), .none, (qV 1126), (qV 1127), (qV 1128), (qI 1803), (qI 1100), (qS "/claim/cut.py" 1804)]
noncomputable def ho_705 : Obj := qN (stm 137) "system_type" .none (qS "gateloom.elabexpr" 1693) 1129
noncomputable def ho_706 : Obj := qT #[(qS "scope" 1809), (qS "e" 1810), (qS "width" 1811), (qS "args" 1812), (qS "arg" 1813)]
noncomputable def ho_707 : Obj := qR (stm 138) "system_value"
noncomputable def ho_708 : Obj := qC #[(qS "system_value" 1806), (qS "system_value" 1807), (qS "/claim/cut.py" 1808), (qI 1118), (qI 2), (qI 0), (qI 0), (qI 3), (qV 1131), (.bool true), (qI 181), (qV 1132), .none, (qV 1133), (qV 1134), (qV 1135), (qI 1814), (qI 1118), (qS "/claim/cut.py" 1815)]
noncomputable def ho_709 : Obj := qN (stm 138) "system_value" .none (qS "gateloom.elabexpr" 1693) 1136
noncomputable def ho_710 : Obj := qT #[(qS "scope" 1821), (qS "e" 1822), (qS "parts" 1823), (qS "part" 1824)]
noncomputable def ho_711 : Obj := qR (stm 140) "joined_parts"
noncomputable def ho_712 : Obj := qC #[(qS "joined_parts" 1818), (qS "joined_parts" 1819), (qS "/claim/cut.py" 1820), (qI 1127), (qI 2), (qI 0), (qI 0), (qI 3), (qV 1138), (.bool true), (qI 181), (qV 1139), .none, (qV 1140), (qV 1141), (qV 1142), (qI 1825), (qI 1127), (qS "/claim/cut.py" 1826)]
noncomputable def ho_713 : Obj := qN (stm 140) "joined_parts" .none (qS "gateloom.elabexpr" 1693) 1143
noncomputable def ho_714 (P : Params) : Obj := { cls := (.type "dict"), dict := none, data := .dict (((hd_3 P).take 149).set 0 (dE P "__name__" 165 (qS "gateloom.elabexpr" 1693))).toArray 149, slots := #[] }
noncomputable def ho_715 : Obj := { cls := .none, dict := none, data := .fields (hf_12.take 411).toArray, slots := #[] }
noncomputable def ho_716 : Obj := qT #[(qS "scope" 1831), (qS "e" 1832), (qS "n" 1833)]
noncomputable def ho_717 : Obj := qR (stm 141) "copies"
noncomputable def ho_718 : Obj := qC #[(qS "copies" 1828), (qS "copies" 1829), (qS "/claim/cut.py" 1830), (qI 1137), (qI 2), (qI 0), (qI 0), (qI 3), (qV 1145), (.bool true), (qI 181), (qV 1146), .none, (qV 1147), (qV 1148), (qV 1149), (qI 1834), (qI 1137), (qS "/claim/cut.py" 1835)]
noncomputable def ho_719 : Obj := qN (stm 141) "copies" .none (qS "gateloom.elabexpr" 1693) 1150
noncomputable def ho_720 : Obj := qT #[(qS "scope" 1840), (qS "e" 1841), (qS "width" 1842), (qS "part" 1843)]
noncomputable def ho_721 : Obj := qR (stm 142) "joined_width"
noncomputable def ho_722 : Obj := qC #[(qS "joined_width" 1837), (qS "joined_width" 1838), (qS "/claim/cut.py" 1839), (qI 1142), (qI 2), (qI 0), (qI 0), (qI 3), (qV 1152), (.bool true), (qI 181), (qV 1153), .none, (qV 1154), (qV 1155), (qV 1156), (qI 1844), (qI 1142), (qS "/claim/cut.py" 1845)]
noncomputable def ho_723 : Obj := qN (stm 142) "joined_width" .none (qS "gateloom.elabexpr" 1693) 1157
noncomputable def ho_724 : Obj := qT #[(qS "scope" 1850), (qS "e" 1851), (qS "width" 1852), (qS "parts" 1853), (qS "part" 1854)]
noncomputable def ho_725 : Obj := qR (stm 143) "joined_value"
noncomputable def ho_726 : Obj := qC #[(qS "joined_value" 1847), (qS "joined_value" 1848), (qS "/claim/cut.py" 1849), (qI 1149), (qI 2), (qI 0), (qI 0), (qI 3), (qV 1159), (.bool true), (qI 181), (qV 1160), .none, (qV 1161), (qV 1162), (qV 1163), (qI 1855), (qI 1149), (qS "/claim/cut.py" 1856)]
noncomputable def ho_727 : Obj := qN (stm 143) "joined_value" .none (qS "gateloom.elabexpr" 1693) 1164
noncomputable def ho_728 : Obj := qT #[(qS "scope" 1861), (qS "left" 1862), (qS "right" 1863), (qS "one" 1864), (qS "other" 1865)]
noncomputable def ho_729 : Obj := qR (stm 144) "both_types"
noncomputable def ho_730 : Obj := qC #[(qS "both_types" 1858), (qS "both_types" 1859), (qS "/claim/cut.py" 1860), (qI 1157), (qI 3), (qI 0), (qI 0), (qI 3), (qV 1166), (.bool true), (qI 181), (qV 1167), .none, (qV 1168), (qV 1169), (qV 1170), (qI 1866), (qI 1157), (qS "/claim/cut.py" 1867)]
noncomputable def ho_731 : Obj := qN (stm 144) "both_types" .none (qS "gateloom.elabexpr" 1693) 1171
noncomputable def ho_732 : Obj := qT #[(qS "scope" 1872), (qS "e" 1873), (qS "tag" 1874), (qS "routine" 1875)]
noncomputable def ho_733 : Obj := qR (stm 145) "expr_type"
noncomputable def ho_734 : Obj := qC #[(qS "expr_type" 1869), (qS "expr_type" 1870), (qS "/claim/cut.py" 1871), (qI 1161), (qI 2), (qI 0), (qI 0), (qI 3), (qV 1173), (.bool true), (qI 181), (qV 1174), .none, (qV 1175), (qV 1176), (qV 1177), (qI 1876), (qI 1161), (qS "/claim/cut.py" 1877)]
noncomputable def ho_735 : Obj := qN (stm 145) "expr_type" .none (qS "gateloom.elabexpr" 1693) 1178
noncomputable def ho_736 : Obj := qT #[(qS "scope" 1882), (qS "e" 1883), (qS "w" 1884), (qS "signed" 1885), (qS "op" 1886)]
noncomputable def ho_737 : Obj := qR (stm 146) "unary_value"
noncomputable def ho_738 : Obj := qC #[(qS "unary_value" 1879), (qS "unary_value" 1880), (qS "/claim/cut.py" 1881), (qI 1189), (qI 4), (qI 0), (qI 0), (qI 3), (qV 1180), (.bool true), (qI 181), (qV 1181), .none, (qV 1182), (qV 1183), (qV 1184), (qI 1887), (qI 1189), (qS "/claim/cut.py" 1888)]
noncomputable def ho_739 : Obj := qN (stm 146) "unary_value" .none (qS "gateloom.elabexpr" 1693) 1185
noncomputable def ho_740 : Obj := qT #[(qS "scope" 1893), (qS "e" 1894), (qS "w" 1895), (qS "signed" 1896), (qS "op" 1897), (qS "left" 1898), (qS "right" 1899), (qS "right_signed" 1900), (qS "width" 1901), (qS "both" 1902)]
noncomputable def ho_741 : Obj := qR (stm 147) "binary_value"
noncomputable def ho_742 : Obj := qC #[(qS "binary_value" 1890), (qS "binary_value" 1891), (qS "/claim/cut.py" 1892), (qI 1196), (qI 4), (qI 0), (qI 0), (qI 3), (qV 1187), (.bool true), (qI 181), (qV 1188), .none, (qV 1189), (qV 1190), (qV 1191), (qI 1903), (qI 1196), (qS "/claim/cut.py" 1904)]
noncomputable def ho_743 : Obj := qN (stm 147) "binary_value" .none (qS "gateloom.elabexpr" 1693) 1192
noncomputable def ho_744 : Obj := qT #[(qS "scope" 1909), (qS "e" 1910), (qS "w" 1911), (qS "signed" 1912), (qS "tag" 1913), (qS "test" 1914), (qS "then" 1915), (qS "value" 1916)]
noncomputable def ho_745 : Obj := qR (stm 148) "build"
noncomputable def ho_746 : Obj := qC #[(qS "build" 1906), (qS "build" 1907), (qS "/claim/cut.py" 1908), (qI 1215), (qI 4), (qI 0), (qI 0), (qI 3), (qV 1194), (.bool true), (qI 181), (qV 1195), .none, (qV 1196), (qV 1197), (qV 1198), (qI 1917), (qI 1215), (qS "/claim/cut.py" 1918)]
noncomputable def ho_747 : Obj := qN (stm 148) "build" .none (qS "gateloom.elabexpr" 1693) 1199
noncomputable def ho_748 : Obj := qT #[(qS "scope" 1923), (qS "e" 1924), (qS "width" 1925), (qS "signed" 1926)]
noncomputable def ho_749 : Obj := qR (stm 149) "self_determined"
noncomputable def ho_750 : Obj := qC #[(qS "self_determined" 1920), (qS "self_determined" 1921), (qS "/claim/cut.py" 1922), (qI 1238), (qI 2), (qI 0), (qI 0), (qI 3), (qV 1201), (.bool true), (qI 181), (qV 1202), .none, (qV 1203), (qV 1204), (qV 1205), (qI 1927), (qI 1238), (qS "/claim/cut.py" 1928)]
noncomputable def ho_751 : Obj := qN (stm 149) "self_determined" .none (qS "gateloom.elabexpr" 1693) 1206
noncomputable def ho_752 : Obj := qT #[(qS "scope" 1933), (qS "e" 1934), (qS "w" 1935), (qS "width" 1936), (qS "signed" 1937)]
noncomputable def ho_753 : Obj := qR (stm 150) "sized"
noncomputable def ho_754 : Obj := qC #[(qS "sized" 1930), (qS "sized" 1931), (qS "/claim/cut.py" 1932), (qI 1241), (qI 3), (qI 0), (qI 0), (qI 3), (qV 1208), (.bool true), (qI 181), (qV 1209), .none, (qV 1210), (qV 1211), (qV 1212), (qI 1938), (qI 1241), (qS "/claim/cut.py" 1939)]
noncomputable def ho_755 : Obj := qN (stm 150) "sized" .none (qS "gateloom.elabexpr" 1693) 1213
noncomputable def ho_756 : Obj := qT #[(qS "scope" 1944), (qS "value" 1945), (qS "at" 1946), (qS "store" 1947)]
noncomputable def ho_757 : Obj := qR (stm 151) "constant_vec"
noncomputable def ho_758 : Obj := qC #[(qS "constant_vec" 1941), (qS "constant_vec" 1942), (qS "/claim/cut.py" 1943), (qI 1244), (qI 3), (qI 0), (qI 0), (qI 3), (qV 1215), (.bool true), (qI 181), (qV 1216), .none, (qV 1217), (qV 1218), (qV 1219), (qI 1948), (qI 1244), (qS "/claim/cut.py" 1949)]
noncomputable def ho_759 : Obj := qN (stm 151) "constant_vec" .none (qS "gateloom.elabexpr" 1693) 1220
noncomputable def ho_760 : Obj := qT #[(qS "scope" 1954), (qS "e" 1955), (qS "value" 1956), (qS "signed" 1957)]
noncomputable def ho_761 : Obj := qR (stm 152) "constant"
noncomputable def ho_762 : Obj := qC #[(qS "constant" 1951), (qS "constant" 1952), (qS "/claim/cut.py" 1953), (qI 1251), (qI 2), (qI 0), (qI 0), (qI 3), (qV 1222), (.bool true), (qI 181), (qV 1223), .none, (qV 1224), (qV 1225), (qV 1226), (qI 1958), (qI 1251), (qS "/claim/cut.py" 1959)]
noncomputable def ho_763 : Obj := qN (stm 152) "constant" .none (qS "gateloom.elabexpr" 1693) 1227
noncomputable def ho_764 (P : Params) : Obj := { cls := (.type "dict"), dict := none, data := .dict ((hd_3 P).take 158).toArray 158, slots := #[] }
noncomputable def ho_765 : Obj := { cls := .none, dict := none, data := .fields (hf_12.take 438).toArray, slots := #[] }
noncomputable def ho_766 : Obj := qT #[(qS "scope" 1964), (qS "e" 1965), (qS "value" 1966), (qS "signed" 1967), (qS "number" 1968)]
noncomputable def ho_767 : Obj := qR (stm 153) "whole"
noncomputable def ho_768 : Obj := qC #[(qS "whole" 1961), (qS "whole" 1962), (qS "/claim/cut.py" 1963), (qI 1254), (qI 2), (qI 0), (qI 0), (qI 3), (qV 1229), (.bool true), (qI 181), (qV 1230), .none, (qV 1231), (qV 1232), (qV 1233), (qI 1969), (qI 1254), (qS "/claim/cut.py" 1970)]
noncomputable def ho_769 : Obj := qN (stm 153) "whole" .none (qS "gateloom.elabexpr" 1693) 1234
noncomputable def ho_770 : Obj := qT #[(qS "script" 1977), (qS "row" 1978), (qS "cell" 1979), (qS "number" 1980), (qS "turn" 1981)]
noncomputable def ho_771 : Obj := qR (stm 155) "_law_row"
noncomputable def ho_772 : Obj := qC #[(qS "_law_row" 1974), (qS "_law_row" 1975), (qS "/claim/cut.py" 1976), (qI 1261), (qI 1), (qI 0), (qI 0), (qI 3), (qV 1236), (.bool true), (qI 181), (qV 1237), .none, (qV 1238), (qV 1239), (qV 1240), (qI 1982), (qI 1261), (qS "/claim/cut.py" 1983)]
noncomputable def ho_773 : Obj := qN (stm 155) "_law_row" .none (qS "law_nn0344_03" 1972) 1241
noncomputable def ho_774 : Obj := qT #[(qS "row" 1988)]
noncomputable def ho_775 : Obj := qR (stm 156) "_law_next"
noncomputable def ho_776 : Obj := qC #[(qS "_law_next" 1985), (qS "_law_next" 1986), (qS "/claim/cut.py" 1987), (qI 1274), (qI 1), (qI 0), (qI 0), (qI 3), (qV 1243), (.bool true), (qI 181), (qV 1244), .none, (qV 1245), (qV 1246), (qV 1247), (qI 1989), (qI 1274), (qS "/claim/cut.py" 1990)]
noncomputable def ho_777 : Obj := qN (stm 156) "_law_next" .none (qS "law_nn0344_03" 1972) 1248
noncomputable def ho_778 : Obj := qT #[(qS "row" 1995), (qS "wide" 1996), (qS "bits" 1997), (qS "turn" 1998), (qS "number" 1999), (qS "step" 2000)]
noncomputable def ho_779 : Obj := qR (stm 157) "_law_bits"
noncomputable def ho_780 : Obj := qC #[(qS "_law_bits" 1992), (qS "_law_bits" 1993), (qS "/claim/cut.py" 1994), (qI 1276), (qI 2), (qI 0), (qI 0), (qI 3), (qV 1250), (.bool true), (qI 181), (qV 1251), .none, (qV 1252), (qV 1253), (qV 1254), (qI 2001), (qI 1276), (qS "/claim/cut.py" 2002)]
noncomputable def ho_781 : Obj := qN (stm 157) "_law_bits" .none (qS "law_nn0344_03" 1972) 1255
noncomputable def ho_782 : Obj := qT #[(qS "bits" 2007), (qS "low" 2008), (qS "high" 2009), (qS "spot" 2010)]
noncomputable def ho_783 : Obj := qR (stm 158) "_law_made"
noncomputable def ho_784 : Obj := qC #[(qS "_law_made" 2004), (qS "_law_made" 2005), (qS "/claim/cut.py" 2006), (qI 1284), (qI 1), (qI 0), (qI 0), (qI 3), (qV 1257), (.bool true), (qI 181), (qV 1258), .none, (qV 1259), (qV 1260), (qV 1261), (qI 2011), (qI 1284), (qS "/claim/cut.py" 2012)]
noncomputable def ho_785 : Obj := qN (stm 158) "_law_made" .none (qS "law_nn0344_03" 1972) 1262
noncomputable def ho_786 : Obj := qR (stm 159) "_law_value"
noncomputable def ho_787 : Obj := qC #[(qS "_law_value" 2014), (qS "_law_value" 2015), (qS "/claim/cut.py" 2016), (qI 1291), (qI 1), (qI 0), (qI 0), (qI 3), (qV 1264), (.bool true), (qI 181), (qV 1265), .none, .none, .none, (qV 1266), (qI 2017), (qI 1291), (qS "/claim/cut.py" 2018)]
noncomputable def ho_788 : Obj := qN (stm 159) "_law_value" .none (qS "law_nn0344_03" 1972) 1267
noncomputable def ho_789 : Obj := qT #[(qS "figure" 2023), (qS "many" 2024), (qS "told" 2025)]
noncomputable def ho_790 : Obj := qR (stm 160) "_law_enough"
noncomputable def ho_791 : Obj := qC #[(qS "_law_enough" 2020), (qS "_law_enough" 2021), (qS "/claim/cut.py" 2022), (qI 1300), (qI 1), (qI 0), (qI 0), (qI 3), (qV 1269), (.bool true), (qI 181), (qV 1270), .none, (qV 1271), (qV 1272), (qV 1273), (qI 2026), (qI 1300), (qS "/claim/cut.py" 2027)]
noncomputable def ho_792 : Obj := qN (stm 160) "_law_enough" .none (qS "law_nn0344_03" 1972) 1274
noncomputable def ho_793 : Obj := qT #[(qS "scope" 2032), (qS "e" 2033), (qS "ctx" 2034), (qS "made" 2035), (qS "signed" 2036), (qS "error" 2037)]
noncomputable def ho_794 : Obj := qR (stm 161) "_law_told"
noncomputable def ho_795 : Obj := qC #[(qS "_law_told" 2029), (qS "_law_told" 2030), (qS "/claim/cut.py" 2031), (qI 1307), (qI 3), (qI 0), (qI 0), (qI 3), (qV 1276), (.bool true), (qI 181), (qV 1277), .none, (qV 1278), (qV 1279), (qV 1280), (qI 2038), (qI 1307), (qS "/claim/cut.py" 2039)]
noncomputable def ho_796 : Obj := qN (stm 161) "_law_told" .none (qS "law_nn0344_03" 1972) 1281
noncomputable def ho_797 : Obj := qT #[(qS "script" 2044), (qS "row" 2045), (qS "bits" 2046), (qS "now" 2047), (qS "wide" 2048), (qS "scope" 2049), (qS "ctx" 2050), (qS "v" 2051), (qS "due" 2052), (qS "number" 2053), (qS "seed" 2054), (qS "other" 2055), (qS "turn" 2056), (qS "figure" 2057), (qS "name" 2058), (qS "count" 2059)]
noncomputable def ho_798 : Obj := qR (stm 162) "law"
noncomputable def ho_799 : Obj := qC #[(qS "law" 2041), (qS "law" 2042), (qS "/claim/cut.py" 2043), (qI 1313), (qI 1), (qI 0), (qI 0), (qI 3), (qV 1283), (.bool true), (qI 181), (qV 1284), .none, (qV 1285), (qV 1286), (qV 1287), (qI 2060), (qI 1313), (qS "/claim/cut.py" 2061)]
noncomputable def ho_800 : Obj := qN (stm 162) "law" .none (qS "law_nn0344_03" 1972) 1288
noncomputable def tr_0 (P : Params) : BT := insF .nil 0 [boot_o_0 P, boot_o_1 P, boot_o_2 P, boot_o_3 P, boot_o_4 P, boot_o_5 P, boot_o_6 P, boot_o_7 P, boot_o_8 P, boot_o_9 P, boot_o_10 P, ho_0, ho_1, ho_2, ho_3]
noncomputable def tr_1 (P : Params) : BT := insF ((((tr_0 P).ins 2 (ho_4 P)).ins 3 (ho_5 P)).ins 12 (ho_6)) 15 [ho_0, ho_7, ho_8, ho_0, ho_9, ho_10, ho_11, ho_12, ho_13, ho_14 P, ho_0, ho_15, ho_16, ho_17, ho_18, ho_0, ho_7, ho_19, ho_0, ho_20, ho_21, ho_22, ho_23, ho_24 P, ho_25, ho_26, ho_27, ho_28]
noncomputable def tr_2 (P : Params) : BT := insF ((((tr_1 P).ins 3 (ho_29 P)).ins 12 (ho_30)).ins 39 (ho_31)) 43 [ho_32, ho_13, ho_33 P, ho_0, ho_7, ho_34, ho_35, ho_0, ho_36 P, ho_37, ho_38, ho_39]
noncomputable def tr_3 (P : Params) : BT := insF ((((tr_2 P).ins 3 (ho_40 P)).ins 12 (ho_41)).ins 39 (ho_42)) 55 [ho_32, ho_13, ho_43 P, ho_0, ho_7, ho_44, ho_45, ho_0, ho_46 P, ho_47, ho_48, ho_49, ho_0, ho_7, ho_50, ho_0, ho_51, ho_52, ho_53, ho_54, ho_0, ho_7, ho_55, ho_0, ho_56, ho_57, ho_58, ho_0, ho_7, ho_59, ho_0, ho_60, ho_61, ho_62, ho_0, ho_7, ho_63, ho_0, ho_64, ho_65, ho_66, ho_0, ho_7, ho_67, ho_0, ho_68, ho_69, ho_70]
noncomputable def tr_4 (P : Params) : BT := insF (((tr_3 P).ins 3 (ho_71 P)).ins 12 (ho_72)) 103 [ho_0, ho_7, ho_73, ho_0, ho_74, ho_75, ho_76, ho_0, ho_7, ho_77, ho_0, ho_78, ho_79, ho_80, ho_0, ho_7, ho_81, ho_0, ho_82, ho_83, ho_84, ho_0, ho_7, ho_85, ho_0, ho_86, ho_87, ho_88, ho_0, ho_7, ho_89, ho_0, ho_90, ho_91, ho_92, ho_0, ho_7, ho_93, ho_0, ho_94, ho_95, ho_96, ho_0, ho_7, ho_97, ho_0, ho_98, ho_99, ho_100, ho_0, ho_7, ho_101, ho_0, ho_102, ho_103, ho_104, ho_0, ho_7, ho_105, ho_0, ho_106, ho_107, ho_108, ho_0, ho_7, ho_109, ho_0, ho_110, ho_111, ho_112, ho_0, ho_7, ho_113, ho_0, ho_114, ho_115, ho_116, ho_0, ho_7, ho_117, ho_0, ho_118, ho_119, ho_120]
noncomputable def tr_5 (P : Params) : BT := insF (((tr_4 P).ins 3 (ho_121 P)).ins 12 (ho_122)) 187 [ho_0, ho_7, ho_123, ho_0, ho_124, ho_125, ho_126, ho_0, ho_7, ho_127, ho_0, ho_128, ho_129, ho_130, ho_0, ho_7, ho_131, ho_0, ho_132, ho_133, ho_134, ho_0, ho_7, ho_135, ho_0, ho_136, ho_137, ho_138, ho_0, ho_7, ho_139, ho_0, ho_140, ho_141, ho_142, ho_0, ho_7, ho_143, ho_0, ho_144, ho_145, ho_146, ho_0, ho_7, ho_147, ho_0, ho_148, ho_149, ho_150, ho_0, ho_7, ho_151, ho_0, ho_152, ho_153, ho_154, ho_0, ho_7, ho_155, ho_0, ho_156, ho_157, ho_158, ho_0, ho_7, ho_159, ho_0, ho_160, ho_161, ho_162, ho_0, ho_7, ho_163, ho_0, ho_164, ho_165, ho_166, ho_0, ho_7, ho_167, ho_0, ho_168, ho_169, ho_170]
noncomputable def tr_6 (P : Params) : BT := insF (((tr_5 P).ins 3 (ho_171 P)).ins 12 (ho_172)) 271 [ho_0, ho_7, ho_173, ho_0, ho_174, ho_175, ho_176, ho_0, ho_7, ho_177, ho_0, ho_178, ho_179, ho_180, ho_0, ho_7, ho_181, ho_0, ho_182, ho_183, ho_184, ho_0, ho_7, ho_185, ho_0, ho_186, ho_187, ho_188, ho_0, ho_7, ho_189, ho_0, ho_190, ho_191, ho_192, ho_0, ho_7, ho_193, ho_0, ho_194, ho_195, ho_196, ho_0, ho_7, ho_197, ho_0, ho_198, ho_199, ho_200, ho_0, ho_7, ho_201, ho_0, ho_202, ho_203, ho_204, ho_0, ho_7, ho_205, ho_0, ho_206, ho_207, ho_208, ho_0, ho_7, ho_209, ho_0, ho_210, ho_211, ho_212, ho_0, ho_7, ho_213, ho_0, ho_214, ho_215, ho_216, ho_0, ho_7, ho_217, ho_0, ho_218, ho_219, ho_220]
noncomputable def tr_7 (P : Params) : BT := insF (((tr_6 P).ins 3 (ho_221 P)).ins 12 (ho_222)) 355 [ho_0, ho_7, ho_223, ho_0, ho_224, ho_225, ho_226, ho_0, ho_7, ho_227, ho_0, ho_228, ho_229, ho_230, ho_0, ho_7, ho_231, ho_0, ho_232, ho_233, ho_234, ho_0, ho_7, ho_235, ho_0, ho_236, ho_237, ho_238, ho_0, ho_7, ho_239, ho_0, ho_240, ho_241, ho_242, ho_0, ho_7, ho_243, ho_0, ho_244, ho_245, ho_246, ho_0, ho_7, ho_247, ho_0, ho_248, ho_249, ho_250, ho_0, ho_7, ho_251, ho_0, ho_252, ho_253, ho_254, ho_0, ho_7, ho_255, ho_0, ho_256, ho_257, ho_258, ho_0, ho_7, ho_259, ho_0, ho_260, ho_261, ho_262, ho_0, ho_7, ho_263, ho_0, ho_264, ho_265, ho_266, ho_0, ho_7, ho_267, ho_0, ho_268, ho_269, ho_270]
noncomputable def tr_8 (P : Params) : BT := insF (((tr_7 P).ins 3 (ho_271 P)).ins 12 (ho_272)) 439 [ho_0, ho_7, ho_273, ho_0, ho_274, ho_275, ho_276, ho_0, ho_7, ho_277, ho_0, ho_278, ho_279, ho_280, ho_0, ho_7, ho_281, ho_0, ho_282, ho_283, ho_284, ho_0, ho_7, ho_285, ho_0, ho_286, ho_287, ho_288, ho_0, ho_7, ho_289, ho_0, ho_290, ho_291, ho_292, ho_0, ho_7, ho_293, ho_0, ho_294, ho_295, ho_296, ho_0, ho_7, ho_297, ho_0, ho_298, ho_299, ho_300, ho_0, ho_7, ho_301, ho_0, ho_302, ho_303, ho_304, ho_0, ho_7, ho_305, ho_0, ho_306, ho_307, ho_308, ho_0, ho_7, ho_309, ho_0, ho_310, ho_311, ho_312, ho_0, ho_7, ho_313, ho_0, ho_314, ho_315, ho_316, ho_0, ho_7, ho_317, ho_318, ho_319]
noncomputable def tr_9 (P : Params) : BT := insF (((tr_8 P).ins 3 (ho_320 P)).ins 12 (ho_321)) 521 [ho_0, ho_7, ho_322, ho_0, ho_323, ho_324, ho_325, ho_0, ho_7, ho_326, ho_0, ho_327, ho_328, ho_329, ho_0, ho_7, ho_330, ho_0, ho_331, ho_332, ho_333, ho_0, ho_7, ho_334, ho_0, ho_335, ho_336, ho_337]
noncomputable def tr_10 (P : Params) : BT := insF (((tr_9 P).ins 3 (ho_338 P)).ins 12 (ho_339)) 549 [ho_0, ho_13, ho_340 P, ho_0, ho_341, ho_342, ho_343, ho_0, ho_7, ho_344, ho_0, ho_345, ho_346, ho_347, ho_0, ho_7, ho_348, ho_0, ho_349, ho_350, ho_351, ho_0, ho_7, ho_352, ho_0, ho_353, ho_354, ho_355, ho_0, ho_7, ho_356, ho_0, ho_357, ho_358, ho_359, ho_0, ho_7, ho_360, ho_0, ho_361, ho_362, ho_363, ho_0, ho_7, ho_364, ho_0, ho_365, ho_366, ho_367, ho_0, ho_7, ho_368, ho_0, ho_369, ho_370, ho_371, ho_372, ho_373 P, ho_374, ho_375, ho_376, ho_377, ho_378]
noncomputable def tr_11 (P : Params) : BT := insF (((tr_10 P).ins 3 (ho_379 P)).ins 12 (ho_380)) 612 [ho_0, ho_13, ho_381 P, ho_0, ho_382, ho_383, ho_384, ho_0, ho_7, ho_385, ho_0, ho_386, ho_387, ho_388, ho_0, ho_7, ho_389, ho_0, ho_390, ho_391, ho_392, ho_0, ho_7, ho_393, ho_0, ho_394, ho_395, ho_396, ho_0, ho_7, ho_397, ho_0, ho_398, ho_399, ho_400, ho_401, ho_402 P, ho_403, ho_404, ho_405, ho_406, ho_407]
noncomputable def tr_12 (P : Params) : BT := insF (((tr_11 P).ins 3 (ho_408 P)).ins 12 (ho_409)) 654 [ho_0, ho_13, ho_410 P, ho_0, ho_411, ho_412, ho_413, ho_414, ho_0, ho_7, ho_415, ho_0, ho_416, ho_417, ho_418, ho_0, ho_7, ho_419, ho_0, ho_420, ho_421, ho_422, ho_0, ho_7, ho_423, ho_0, ho_424, ho_425, ho_426, ho_0, ho_7, ho_427, ho_0, ho_428, ho_429, ho_430, ho_431, ho_432 P, ho_433, ho_434, ho_435, ho_436, ho_437]
noncomputable def tr_13 (P : Params) : BT := insF (((tr_12 P).ins 3 (ho_438 P)).ins 12 (ho_439)) 697 [ho_0, ho_13, ho_440 P, ho_0, ho_441, ho_442, ho_443, ho_0, ho_7, ho_444, ho_0, ho_445, ho_446, ho_447, ho_0, ho_7, ho_448, ho_0, ho_449, ho_450, ho_451, ho_0, ho_7, ho_452, ho_0, ho_453, ho_454, ho_455, ho_0, ho_7, ho_456, ho_0, ho_457, ho_458, ho_459, ho_0, ho_7, ho_460, ho_0, ho_461, ho_462, ho_463, ho_0, ho_7, ho_464, ho_0, ho_465, ho_466, ho_467, ho_0, ho_7, ho_468, ho_0, ho_469, ho_470, ho_471, ho_0, ho_7, ho_472, ho_0, ho_473, ho_474, ho_475, ho_0, ho_7, ho_476, ho_0, ho_477, ho_478, ho_479, ho_480, ho_481 P, ho_482, ho_483, ho_484, ho_485, ho_486]
noncomputable def tr_14 (P : Params) : BT := insF ((((tr_13 P).ins 3 (ho_487 P)).ins 12 (ho_488)).ins 692 (ho_489)) 774 [ho_490, ho_13, ho_491 P, ho_0, ho_492, ho_493, ho_494, ho_495, ho_0, ho_7, ho_496, ho_0, ho_497, ho_498, ho_499, ho_0, ho_7, ho_500, ho_0, ho_501, ho_502, ho_503, ho_0, ho_7, ho_504, ho_505, ho_506, ho_0, ho_7, ho_507, ho_0, ho_508, ho_509, ho_510, ho_0, ho_7, ho_511, ho_0, ho_512, ho_513, ho_514, ho_515, ho_516 P, ho_517, ho_518, ho_519]
noncomputable def tr_15 (P : Params) : BT := insF (((tr_14 P).ins 3 (ho_520 P)).ins 12 (ho_521)) 820 [ho_0, ho_7, ho_522, ho_0, ho_523, ho_524, ho_525, ho_0, ho_7, ho_526, ho_0, ho_527, ho_528, ho_529, ho_0, ho_7, ho_530, ho_0, ho_531, ho_532, ho_533, ho_0, ho_7, ho_534, ho_0, ho_535, ho_536, ho_537, ho_0, ho_7, ho_538, ho_0, ho_539, ho_540, ho_541, ho_0, ho_7, ho_542, ho_0, ho_543, ho_544, ho_545, ho_0, ho_7, ho_546, ho_0, ho_547, ho_548, ho_549, ho_0, ho_7, ho_550, ho_0, ho_551, ho_552, ho_553, ho_0, ho_7, ho_554, ho_0, ho_555, ho_556, ho_557, ho_0, ho_7, ho_558, ho_0, ho_559, ho_560, ho_561, ho_0, ho_7, ho_562, ho_0, ho_563, ho_564, ho_565, ho_0, ho_7, ho_566, ho_0, ho_567, ho_568, ho_569]
noncomputable def tr_16 (P : Params) : BT := insF (((tr_15 P).ins 3 (ho_570 P)).ins 12 (ho_571)) 904 [ho_0, ho_7, ho_572, ho_0, ho_573, ho_574, ho_575, ho_0, ho_7, ho_576, ho_577, ho_578, ho_0, ho_7, ho_579, ho_0, ho_580, ho_581, ho_582, ho_0, ho_7, ho_583, ho_584, ho_585, ho_0, ho_7, ho_586, ho_0, ho_587, ho_588, ho_589, ho_0, ho_7, ho_590, ho_0, ho_591, ho_592, ho_593, ho_0, ho_7, ho_594, ho_0, ho_595, ho_596, ho_597, ho_0, ho_7, ho_598, ho_0, ho_599, ho_600, ho_601, ho_0, ho_7, ho_602, ho_0, ho_603, ho_604, ho_605, ho_0, ho_7, ho_606, ho_0, ho_607, ho_608, ho_609, ho_0, ho_7, ho_610, ho_0, ho_611, ho_612, ho_613, ho_0, ho_7, ho_614, ho_0, ho_615, ho_616, ho_617]
noncomputable def tr_17 (P : Params) : BT := insF (((tr_16 P).ins 3 (ho_618 P)).ins 12 (ho_619)) 984 [ho_0, ho_7, ho_620, ho_0, ho_621, ho_622, ho_623, ho_0, ho_7, ho_624, ho_0, ho_625, ho_626, ho_627, ho_0, ho_7, ho_628, ho_0, ho_629, ho_630, ho_631, ho_0, ho_7, ho_632, ho_0, ho_633, ho_634, ho_635, ho_0, ho_7, ho_636, ho_0, ho_637, ho_638, ho_639, ho_0, ho_7, ho_640, ho_0, ho_641, ho_642, ho_643, ho_0, ho_7, ho_644, ho_0, ho_645, ho_646, ho_647, ho_0, ho_7, ho_648, ho_0, ho_649, ho_650, ho_651, ho_0, ho_7, ho_652, ho_0, ho_653, ho_654, ho_655, ho_0, ho_7, ho_656, ho_0, ho_657, ho_658, ho_659, ho_0, ho_7, ho_660, ho_0, ho_661, ho_662, ho_663, ho_0, ho_7, ho_664, ho_0, ho_665, ho_666, ho_667]
noncomputable def tr_18 (P : Params) : BT := insF (((tr_17 P).ins 3 (ho_668 P)).ins 12 (ho_669)) 1068 [ho_0, ho_7, ho_670, ho_0, ho_671, ho_672, ho_673, ho_0, ho_7, ho_674, ho_0, ho_675, ho_676, ho_677, ho_0, ho_7, ho_678, ho_0, ho_679, ho_680, ho_681, ho_0, ho_7, ho_682, ho_0, ho_683, ho_684, ho_685, ho_0, ho_7, ho_686, ho_0, ho_687, ho_688, ho_689, ho_0, ho_7, ho_690, ho_0, ho_691, ho_692, ho_693, ho_0, ho_7, ho_694, ho_0, ho_695, ho_696, ho_697, ho_0, ho_7, ho_698, ho_0, ho_699, ho_700, ho_701, ho_0, ho_7, ho_702, ho_0, ho_703, ho_704, ho_705, ho_0, ho_7, ho_706, ho_0, ho_707, ho_708, ho_709, ho_0, ho_7, ho_710, ho_0, ho_711, ho_712, ho_713]
noncomputable def tr_19 (P : Params) : BT := insF (((tr_18 P).ins 3 (ho_714 P)).ins 12 (ho_715)) 1145 [ho_0, ho_7, ho_716, ho_0, ho_717, ho_718, ho_719, ho_0, ho_7, ho_720, ho_0, ho_721, ho_722, ho_723, ho_0, ho_7, ho_724, ho_0, ho_725, ho_726, ho_727, ho_0, ho_7, ho_728, ho_0, ho_729, ho_730, ho_731, ho_0, ho_7, ho_732, ho_0, ho_733, ho_734, ho_735, ho_0, ho_7, ho_736, ho_0, ho_737, ho_738, ho_739, ho_0, ho_7, ho_740, ho_0, ho_741, ho_742, ho_743, ho_0, ho_7, ho_744, ho_0, ho_745, ho_746, ho_747, ho_0, ho_7, ho_748, ho_0, ho_749, ho_750, ho_751, ho_0, ho_7, ho_752, ho_0, ho_753, ho_754, ho_755, ho_0, ho_7, ho_756, ho_0, ho_757, ho_758, ho_759, ho_0, ho_7, ho_760, ho_0, ho_761, ho_762, ho_763]
noncomputable def tr_20 (P : Params) : BT := insF (((tr_19 P).ins 3 (ho_764 P)).ins 12 (ho_765)) 1229 [ho_0, ho_7, ho_766, ho_0, ho_767, ho_768, ho_769, ho_0, ho_7, ho_770, ho_0, ho_771, ho_772, ho_773, ho_0, ho_7, ho_774, ho_0, ho_775, ho_776, ho_777, ho_0, ho_7, ho_778, ho_0, ho_779, ho_780, ho_781, ho_0, ho_7, ho_782, ho_0, ho_783, ho_784, ho_785, ho_0, ho_7, ho_786, ho_787, ho_788, ho_0, ho_7, ho_789, ho_0, ho_790, ho_791, ho_792, ho_0, ho_7, ho_793, ho_0, ho_794, ho_795, ho_796, ho_0, ho_7, ho_797, ho_0, ho_798, ho_799, ho_800]
noncomputable def hEnv : Env := { scope := PySem.Challenge.pw_nn0344_03.main.scope, locals := mainNs, globals := mainNs, cells := [], code := .ref 13, frame := some 14 }
noncomputable def hB : List Stmt := behindTheImports PySem.Challenge.pw_nn0344_03
noncomputable abbrev hC : Code := .body hB hEnv
noncomputable abbrev hL : Life := ⟨[], [], [], 0, [], [], false, #[], [], 0, false, false, false, 0, [2000, 10, 10], false, 0, true, [], [], 0, false⟩
noncomputable abbrev hT_0 (w : World) (os : OsState) : SharedT := ⟨tr_0 w.params, 15, hL, Array.mk [], ⟨0, 0, 0, 0⟩, 187, os⟩
noncomputable abbrev hT_1 (w : World) (os : OsState) : SharedT := ⟨tr_1 w.params, 43, hL, Array.mk [], ⟨0, 0, 0, 0⟩, 232, os⟩
noncomputable abbrev hT_2 (w : World) (os : OsState) : SharedT := ⟨tr_2 w.params, 55, hL, Array.mk [], ⟨0, 0, 0, 0⟩, 248, os⟩
noncomputable abbrev hT_3 (w : World) (os : OsState) : SharedT := ⟨tr_3 w.params, 103, hL, Array.mk [], ⟨0, 0, 0, 0⟩, 306, os⟩
noncomputable abbrev hT_4 (w : World) (os : OsState) : SharedT := ⟨tr_4 w.params, 187, hL, Array.mk [], ⟨0, 0, 0, 0⟩, 428, os⟩
noncomputable abbrev hT_5 (w : World) (os : OsState) : SharedT := ⟨tr_5 w.params, 271, hL, Array.mk [], ⟨0, 0, 0, 0⟩, 555, os⟩
noncomputable abbrev hT_6 (w : World) (os : OsState) : SharedT := ⟨tr_6 w.params, 355, hL, Array.mk [], ⟨0, 0, 0, 0⟩, 672, os⟩
noncomputable abbrev hT_7 (w : World) (os : OsState) : SharedT := ⟨tr_7 w.params, 439, hL, Array.mk [], ⟨0, 0, 0, 0⟩, 777, os⟩
noncomputable abbrev hT_8 (w : World) (os : OsState) : SharedT := ⟨tr_8 w.params, 521, hL, Array.mk [], ⟨0, 0, 0, 0⟩, 890, os⟩
noncomputable abbrev hT_9 (w : World) (os : OsState) : SharedT := ⟨tr_9 w.params, 549, hL, Array.mk [], ⟨0, 0, 0, 0⟩, 945, os⟩
noncomputable abbrev hT_10 (w : World) (os : OsState) : SharedT := ⟨tr_10 w.params, 612, hL, Array.mk [], ⟨0, 0, 0, 0⟩, 1044, os⟩
noncomputable abbrev hT_11 (w : World) (os : OsState) : SharedT := ⟨tr_11 w.params, 654, hL, Array.mk [], ⟨0, 0, 0, 0⟩, 1112, os⟩
noncomputable abbrev hT_12 (w : World) (os : OsState) : SharedT := ⟨tr_12 w.params, 697, hL, Array.mk [], ⟨0, 0, 0, 0⟩, 1173, os⟩
noncomputable abbrev hT_13 (w : World) (os : OsState) : SharedT := ⟨tr_13 w.params, 774, hL, Array.mk [], ⟨0, 0, 0, 0⟩, 1290, os⟩
noncomputable abbrev hT_14 (w : World) (os : OsState) : SharedT := ⟨tr_14 w.params, 820, hL, Array.mk [], ⟨0, 0, 0, 0⟩, 1361, os⟩
noncomputable abbrev hT_15 (w : World) (os : OsState) : SharedT := ⟨tr_15 w.params, 904, hL, Array.mk [], ⟨0, 0, 0, 0⟩, 1480, os⟩
noncomputable abbrev hT_16 (w : World) (os : OsState) : SharedT := ⟨tr_16 w.params, 984, hL, Array.mk [], ⟨0, 0, 0, 0⟩, 1598, os⟩
noncomputable abbrev hT_17 (w : World) (os : OsState) : SharedT := ⟨tr_17 w.params, 1068, hL, Array.mk [], ⟨0, 0, 0, 0⟩, 1706, os⟩
noncomputable abbrev hT_18 (w : World) (os : OsState) : SharedT := ⟨tr_18 w.params, 1145, hL, Array.mk [], ⟨0, 0, 0, 0⟩, 1828, os⟩
noncomputable abbrev hT_19 (w : World) (os : OsState) : SharedT := ⟨tr_19 w.params, 1229, hL, Array.mk [], ⟨0, 0, 0, 0⟩, 1961, os⟩
noncomputable abbrev hT_20 (w : World) (os : OsState) : SharedT := ⟨tr_20 w.params, 1290, hL, Array.mk [], ⟨0, 0, 0, 0⟩, 2063, os⟩
noncomputable def hS_0 : List Stmt := (hB.drop 0).take 3
noncomputable def hS_1 : List Stmt := (hB.drop 3).take 1
noncomputable def hS_2 : List Stmt := (hB.drop 4).take 7
noncomputable def hS_3 : List Stmt := (hB.drop 11).take 13
noncomputable def hS_4 : List Stmt := (hB.drop 24).take 12
noncomputable def hS_5 : List Stmt := (hB.drop 36).take 13
noncomputable def hS_6 : List Stmt := (hB.drop 49).take 13
noncomputable def hS_7 : List Stmt := (hB.drop 62).take 13
noncomputable def hS_8 : List Stmt := (hB.drop 75).take 5
noncomputable def hS_9 : List Stmt := (hB.drop 80).take 1
noncomputable def hS_10 : List Stmt := (hB.drop 81).take 2
noncomputable def hS_11 : List Stmt := (hB.drop 83).take 2
noncomputable def hS_12 : List Stmt := (hB.drop 85).take 1
noncomputable def hS_13 : List Stmt := (hB.drop 86).take 3
noncomputable def hS_14 : List Stmt := (hB.drop 89).take 13
noncomputable def hS_15 : List Stmt := (hB.drop 102).take 14
noncomputable def hS_16 : List Stmt := (hB.drop 116).take 13
noncomputable def hS_17 : List Stmt := (hB.drop 129).take 12
noncomputable def hS_18 : List Stmt := (hB.drop 141).take 12
noncomputable def hS_19 : List Stmt := (hB.drop 153).take 10
theorem hp_pre (w : World) : (fun os => topGo treeTable PySem.Challenge.pw_nn0344_03 w 11 (some (.ref 6)) 12 ⟨boot_heap w.params, Array.mk [], boot_drawn, boot_toks, os⟩ (topStub PySem.Challenge.pw_nn0344_03)) = fun os => some ((hT_0 w os).abs, ⟨denote treeTable hC, hC, ⟨0, 0, 0, 0⟩, [topFrame ⟨0, 0, 0, 0⟩]⟩) := by
  rw [PySem.W.Fast.te15667345088766844465, PySem.W.Fast.te14364793385576792824, PySem.W.Fast.te11892475500146522536]; kernel_rfl
theorem hp_block (w : World) : (fun os => segRun treeTable PySem.Challenge.pw_nn0344_03 w 11 (some (.ref 6)) 1 1 (hT_0 w os).abs (blockOf hB hEnv hC ⟨0, 0, 0, 0⟩ [topFrame ⟨0, 0, 0, 0⟩])) = fun os => some (.next, (hT_0 w os).abs, hC, ⟨0, 0, 0, 0⟩) := by
  rw [PySem.W.Fast.te14374325043358763698, PySem.W.Fast.te14364793385576792824]; kernel_rfl
theorem hp_0 (w : World) : (fun os => segRunT treeTable PySem.Challenge.pw_nn0344_03 w 11 (some (.ref 6)) 1 279 (hT_0 w os) (piecesOf hS_0 hEnv hC ⟨0, 0, 0, 0⟩ [topFrame ⟨0, 0, 0, 0⟩])) = fun os => some (.next, hT_1 w os, hC, ⟨5, 0, 10, 28⟩) := by
  rw [PySem.W.Fast.te10110043849684766642, PySem.W.Fast.te14364793385576792824]; kernel_rfl
theorem hp_1 (w : World) : (fun os => segRunT treeTable PySem.Challenge.pw_nn0344_03 w 11 (some (.ref 6)) 1 214 (hT_1 w os) (piecesOf hS_1 hEnv hC ⟨5, 0, 10, 28⟩ [topFrame ⟨0, 0, 0, 0⟩])) = fun os => some (.next, hT_2 w os, hC, ⟨11, 0, 12, 8⟩) := by
  rw [PySem.W.Fast.te10110043849684766642, PySem.W.Fast.te14364793385576792824]; kernel_rfl
theorem hp_2 (w : World) : (fun os => segRunT treeTable PySem.Challenge.pw_nn0344_03 w 11 (some (.ref 6)) 1 374 (hT_2 w os) (piecesOf hS_2 hEnv hC ⟨11, 0, 12, 8⟩ [topFrame ⟨0, 0, 0, 0⟩])) = fun os => some (.next, hT_3 w os, hC, ⟨26, 0, 27, 26⟩) := by
  rw [PySem.W.Fast.te10110043849684766642, PySem.W.Fast.te14364793385576792824]; kernel_rfl
theorem hp_3 (w : World) : (fun os => segRunT treeTable PySem.Challenge.pw_nn0344_03 w 11 (some (.ref 6)) 1 394 (hT_3 w os) (piecesOf hS_3 hEnv hC ⟨26, 0, 27, 26⟩ [topFrame ⟨0, 0, 0, 0⟩])) = fun os => some (.next, hT_4 w os, hC, ⟨95, 0, 98, 38⟩) := by
  rw [PySem.W.Fast.te10110043849684766642, PySem.W.Fast.te14364793385576792824]; kernel_rfl
theorem hp_4 (w : World) : (fun os => segRunT treeTable PySem.Challenge.pw_nn0344_03 w 11 (some (.ref 6)) 1 392 (hT_4 w os) (piecesOf hS_4 hEnv hC ⟨95, 0, 98, 38⟩ [topFrame ⟨0, 0, 0, 0⟩])) = fun os => some (.next, hT_5 w os, hC, ⟨183, 0, 187, 39⟩) := by
  rw [PySem.W.Fast.te10110043849684766642, PySem.W.Fast.te14364793385576792824]; kernel_rfl
theorem hp_5 (w : World) : (fun os => segRunT treeTable PySem.Challenge.pw_nn0344_03 w 11 (some (.ref 6)) 1 389 (hT_5 w os) (piecesOf hS_5 hEnv hC ⟨183, 0, 187, 39⟩ [topFrame ⟨0, 0, 0, 0⟩])) = fun os => some (.next, hT_6 w os, hC, ⟨226, 0, 227, 28⟩) := by
  rw [PySem.W.Fast.te10110043849684766642, PySem.W.Fast.te14364793385576792824]; kernel_rfl
theorem hp_6 (w : World) : (fun os => segRunT treeTable PySem.Challenge.pw_nn0344_03 w 11 (some (.ref 6)) 1 377 (hT_6 w os) (piecesOf hS_6 hEnv hC ⟨226, 0, 227, 28⟩ [topFrame ⟨0, 0, 0, 0⟩])) = fun os => some (.next, hT_7 w os, hC, ⟨276, 0, 276, 8⟩) := by
  rw [PySem.W.Fast.te10110043849684766642, PySem.W.Fast.te14364793385576792824]; kernel_rfl
theorem hp_7 (w : World) : (fun os => segRunT treeTable PySem.Challenge.pw_nn0344_03 w 11 (some (.ref 6)) 1 385 (hT_7 w os) (piecesOf hS_7 hEnv hC ⟨276, 0, 276, 8⟩ [topFrame ⟨0, 0, 0, 0⟩])) = fun os => some (.next, hT_8 w os, hC, ⟨399, 0, 429, 52⟩) := by
  rw [PySem.W.Fast.te10110043849684766642, PySem.W.Fast.te14364793385576792824]; kernel_rfl
theorem hp_8 (w : World) : (fun os => segRunT treeTable PySem.Challenge.pw_nn0344_03 w 11 (some (.ref 6)) 1 151 (hT_8 w os) (piecesOf hS_8 hEnv hC ⟨399, 0, 429, 52⟩ [topFrame ⟨0, 0, 0, 0⟩])) = fun os => some (.next, hT_9 w os, hC, ⟨470, 0, 470, 8⟩) := by
  rw [PySem.W.Fast.te10110043849684766642, PySem.W.Fast.te14364793385576792824]; kernel_rfl
theorem hp_9 (w : World) : (fun os => segRunT treeTable PySem.Challenge.pw_nn0344_03 w 11 (some (.ref 6)) 1 437 (hT_9 w os) (piecesOf hS_9 hEnv hC ⟨470, 0, 470, 8⟩ [topFrame ⟨0, 0, 0, 0⟩])) = fun os => some (.next, hT_10 w os, hC, ⟨471, 0, 508, 22⟩) := by
  rw [PySem.W.Fast.te10110043849684766642, PySem.W.Fast.te14364793385576792824]; kernel_rfl
theorem hp_10 (w : World) : (fun os => segRunT treeTable PySem.Challenge.pw_nn0344_03 w 11 (some (.ref 6)) 1 341 (hT_10 w os) (piecesOf hS_10 hEnv hC ⟨471, 0, 508, 22⟩ [topFrame ⟨0, 0, 0, 0⟩])) = fun os => some (.next, hT_11 w os, hC, ⟨510, 0, 552, 19⟩) := by
  rw [PySem.W.Fast.te10110043849684766642, PySem.W.Fast.te14364793385576792824]; kernel_rfl
theorem hp_11 (w : World) : (fun os => segRunT treeTable PySem.Challenge.pw_nn0344_03 w 11 (some (.ref 6)) 1 335 (hT_11 w os) (piecesOf hS_11 hEnv hC ⟨510, 0, 552, 19⟩ [topFrame ⟨0, 0, 0, 0⟩])) = fun os => some (.next, hT_12 w os, hC, ⟨572, 0, 572, 8⟩) := by
  rw [PySem.W.Fast.te10110043849684766642, PySem.W.Fast.te14364793385576792824]; kernel_rfl
theorem hp_12 (w : World) : (fun os => segRunT treeTable PySem.Challenge.pw_nn0344_03 w 11 (some (.ref 6)) 1 503 (hT_12 w os) (piecesOf hS_12 hEnv hC ⟨572, 0, 572, 8⟩ [topFrame ⟨0, 0, 0, 0⟩])) = fun os => some (.next, hT_13 w os, hC, ⟨573, 0, 647, 88⟩) := by
  rw [PySem.W.Fast.te10110043849684766642, PySem.W.Fast.te14364793385576792824]; kernel_rfl
theorem hp_13 (w : World) : (fun os => segRunT treeTable PySem.Challenge.pw_nn0344_03 w 11 (some (.ref 6)) 1 401 (hT_13 w os) (piecesOf hS_13 hEnv hC ⟨573, 0, 647, 88⟩ [topFrame ⟨0, 0, 0, 0⟩])) = fun os => some (.next, hT_14 w os, hC, ⟨650, 0, 692, 44⟩) := by
  rw [PySem.W.Fast.te10110043849684766642, PySem.W.Fast.te14364793385576792824]; kernel_rfl
theorem hp_14 (w : World) : (fun os => segRunT treeTable PySem.Challenge.pw_nn0344_03 w 11 (some (.ref 6)) 1 391 (hT_14 w os) (piecesOf hS_14 hEnv hC ⟨650, 0, 692, 44⟩ [topFrame ⟨0, 0, 0, 0⟩])) = fun os => some (.next, hT_15 w os, hC, ⟨808, 0, 815, 16⟩) := by
  rw [PySem.W.Fast.te10110043849684766642, PySem.W.Fast.te14364793385576792824]; kernel_rfl
theorem hp_15 (w : World) : (fun os => segRunT treeTable PySem.Challenge.pw_nn0344_03 w 11 (some (.ref 6)) 1 393 (hT_15 w os) (piecesOf hS_15 hEnv hC ⟨808, 0, 815, 16⟩ [topFrame ⟨0, 0, 0, 0⟩])) = fun os => some (.next, hT_16 w os, hC, ⟨927, 0, 937, 46⟩) := by
  rw [PySem.W.Fast.te10110043849684766642, PySem.W.Fast.te14364793385576792824]; kernel_rfl
theorem hp_16 (w : World) : (fun os => segRunT treeTable PySem.Challenge.pw_nn0344_03 w 11 (some (.ref 6)) 1 380 (hT_16 w os) (piecesOf hS_16 hEnv hC ⟨927, 0, 937, 46⟩ [topFrame ⟨0, 0, 0, 0⟩])) = fun os => some (.next, hT_17 w os, hC, ⟨996, 0, 1002, 16⟩) := by
  rw [PySem.W.Fast.te10110043849684766642, PySem.W.Fast.te14364793385576792824]; kernel_rfl
theorem hp_17 (w : World) : (fun os => segRunT treeTable PySem.Challenge.pw_nn0344_03 w 11 (some (.ref 6)) 1 374 (hT_17 w os) (piecesOf hS_17 hEnv hC ⟨996, 0, 1002, 16⟩ [topFrame ⟨0, 0, 0, 0⟩])) = fun os => some (.next, hT_18 w os, hC, ⟨1127, 0, 1136, 16⟩) := by
  rw [PySem.W.Fast.te10110043849684766642, PySem.W.Fast.te14364793385576792824]; kernel_rfl
theorem hp_18 (w : World) : (fun os => segRunT treeTable PySem.Challenge.pw_nn0344_03 w 11 (some (.ref 6)) 1 398 (hT_18 w os) (piecesOf hS_18 hEnv hC ⟨1127, 0, 1136, 16⟩ [topFrame ⟨0, 0, 0, 0⟩])) = fun os => some (.next, hT_19 w os, hC, ⟨1251, 0, 1253, 53⟩) := by
  rw [PySem.W.Fast.te10110043849684766642, PySem.W.Fast.te14364793385576792824]; kernel_rfl
theorem hp_19 (w : World) : (fun os => segRunT treeTable PySem.Challenge.pw_nn0344_03 w 11 (some (.ref 6)) 1 306 (hT_19 w os) (piecesOf hS_19 hEnv hC ⟨1251, 0, 1253, 53⟩ [topFrame ⟨0, 0, 0, 0⟩])) = fun os => some (.next, hT_20 w os, hC, ⟨1313, 0, 1343, 89⟩) := by
  rw [PySem.W.Fast.te10110043849684766642, PySem.W.Fast.te14364793385576792824]; kernel_rfl
theorem hp_fin (w : World) : (fun os => topRun treeTable PySem.Challenge.pw_nn0344_03 w 11 (some (.ref 6)) 2 (hT_20 w os).abs ⟨doneF .next, hC, ⟨1313, 0, 1343, 89⟩, [topFrame ⟨0, 0, 0, 0⟩]⟩) = fun os => some (hT_20 w os).abs := by
  rw [PySem.W.Fast.te14082659384304107361, PySem.W.Fast.te14364793385576792824]; kernel_rfl
theorem hB_eq : hB = hS_0 ++ (hS_1 ++ (hS_2 ++ (hS_3 ++ (hS_4 ++ (hS_5 ++ (hS_6 ++ (hS_7 ++ (hS_8 ++ (hS_9 ++ (hS_10 ++ (hS_11 ++ (hS_12 ++ (hS_13 ++ (hS_14 ++ (hS_15 ++ (hS_16 ++ (hS_17 ++ (hS_18 ++ (hS_19 ++ ([])))))))))))))))))))) := by kernel_rfl
theorem hp_rest (w : World) (os : OsState) : topRun treeTable PySem.Challenge.pw_nn0344_03 w 11 (some (.ref 6)) (279 + (214 + (374 + (394 + (392 + (389 + (377 + (385 + (151 + (437 + (341 + (335 + (503 + (401 + (391 + (393 + (380 + (374 + (398 + (306 + (2))))))))))))))))))))) (hT_0 w os).abs (restOf hB hEnv hC ⟨0, 0, 0, 0⟩ [topFrame ⟨0, 0, 0, 0⟩]) = some (hT_20 w os).abs :=
  (congrArg (fun b => topRun treeTable PySem.Challenge.pw_nn0344_03 w 11 (some (.ref 6)) (279 + (214 + (374 + (394 + (392 + (389 + (377 + (385 + (151 + (437 + (341 + (335 + (503 + (401 + (391 + (393 + (380 + (374 + (398 + (306 + (2))))))))))))))))))))) (hT_0 w os).abs (restOf b hEnv hC ⟨0, 0, 0, 0⟩ [topFrame ⟨0, 0, 0, 0⟩]) = some (hT_20 w os).abs) hB_eq).mpr (piece_app (segRun_of (congrFun (hp_0 w) os)) (piece_app (segRun_of (congrFun (hp_1 w) os)) (piece_app (segRun_of (congrFun (hp_2 w) os)) (piece_app (segRun_of (congrFun (hp_3 w) os)) (piece_app (segRun_of (congrFun (hp_4 w) os)) (piece_app (segRun_of (congrFun (hp_5 w) os)) (piece_app (segRun_of (congrFun (hp_6 w) os)) (piece_app (segRun_of (congrFun (hp_7 w) os)) (piece_app (segRun_of (congrFun (hp_8 w) os)) (piece_app (segRun_of (congrFun (hp_9 w) os)) (piece_app (segRun_of (congrFun (hp_10 w) os)) (piece_app (segRun_of (congrFun (hp_11 w) os)) (piece_app (segRun_of (congrFun (hp_12 w) os)) (piece_app (segRun_of (congrFun (hp_13 w) os)) (piece_app (segRun_of (congrFun (hp_14 w) os)) (piece_app (segRun_of (congrFun (hp_15 w) os)) (piece_app (segRun_of (congrFun (hp_16 w) os)) (piece_app (segRun_of (congrFun (hp_17 w) os)) (piece_app (segRun_of (congrFun (hp_18 w) os)) (piece_app (segRun_of (congrFun (hp_19 w) os)) (congrFun (hp_fin w) os)))))))))))))))))))))
theorem hp_run (w : World) (os : OsState) : topRun treeTable PySem.Challenge.pw_nn0344_03 w 11 (some (.ref 6)) (12 + (1 + (279 + (214 + (374 + (394 + (392 + (389 + (377 + (385 + (151 + (437 + (341 + (335 + (503 + (401 + (391 + (393 + (380 + (374 + (398 + (306 + (2))))))))))))))))))))))) ⟨boot_heap w.params, Array.mk [], boot_drawn, boot_toks, os⟩ (topStub PySem.Challenge.pw_nn0344_03) = some (hT_20 w os).abs :=
  go_top (congrFun (hp_pre w) os) (piece_block (congrFun (hp_block w) os) (hp_rest w os))
end NN
end

-- part: well said
section
set_option maxRecDepth 100000
set_option Elab.async false
set_option compiler.extract_closed false
set_option maxHeartbeats 0
open PySem PySem.W PyProof.Rows PySem.Calls
namespace NN
local macro_rules | `(tactic| walk_at "t") => `(tactic| (
  try rw [PySem.W.Fast.te11788848310118352699]
  try rw [PySem.W.Fast.te2368527892694137696]
  try rw [PySem.W.Fast.te9807087744658564304]
  try rw [PySem.W.Fast.te12862048085361865435]
  try rw [PySem.W.Fast.te8377067652309620493]
  try rw [PySem.W.R.allR_eq]
  try rw [PySem.W.Fast.te18344453789297297638]
  try rw [PySem.W.Fast.te3471404346716756564]
  try rw [PySem.W.Fast.sDec_eq]
  try rw [PySem.W.Fast.te14412699480532031325]
  try rw [PySem.W.Fast.te8326940854005059898]
  try rw [PySem.W.Fast.te5923862056798008813]
  try rw [PySem.W.Fast.te17691160309236699985]
  try rw [PySem.W.R.filterR_eq]
  try rw [PySem.W.Fast.te13343964577679436407]
  try rw [PySem.W.Fast.te17119622794617984870]
  try rw [PySem.W.Fast.te17868728402115742887]
  try rw [PySem.W.Fast.te9706382859710513879]
  try rw [PySem.W.S.strDecS_eq]
  try rw [PySem.W.Fast.te2357444279172408678]
  try rw [PySem.W.R.mapR_eq]
  try rw [PySem.W.Fast.te4857012375875476094]
  try rw [PySem.W.Fast.named_eq]
  try rw [PySem.W.Fast.te13582783067957832011]
  try rw [PySem.W.Fast.te5318747976498570220]
  try rw [PySem.W.Fast.te4579403493507170074]
  try rw [PySem.W.R.anyR_eq]
  try rw [PySem.W.Fast.te4274047373036748609]
  try rw [PySem.W.Fast.te12749700546528644094]
  try rw [PySem.W.Fast.te10501279942588096481]
  try rw [PySem.W.Fast.te8179353310426384613]
  try rw [PySem.W.Fast.te797321630700447069]
  try rw [PySem.W.Fast.te9572597257264208301]
  try rw [PySem.W.Fast.te9558739934217749035]
  try rw [PySem.W.Fast.te16286561074155671207]
  try rw [PySem.W.Fast.te6984425678791042302]
  try rw [PySem.W.Fast.te17095254045102204799]
  try rw [PySem.W.Fast.te12879404354523853263]
  try rw [PySem.W.Fast.te482687673346738481]
  try rw [PySem.W.Fast.te10792542408131684335]
  try rw [PySem.W.Fast.te7723801398212525404]))
theorem said3 : OpenLaw.wellSaid PySem.Challenge.rw_nn0344_03 = true := by
  unfold OpenLaw.wellSaid OpenRow.wellSaid OpenRow.partSaid looksOpen
  repeat' (with_reducible refine look_both ?_ ?_)
  all_goals (walk_at "t"; decide +kernel)
end NN
end

-- part: the head
section
open PySem PySem.W PyProof.Rows PySem.Calls
set_option maxRecDepth 100000
set_option linter.all false
set_option maxHeartbeats 0
namespace NN
noncomputable def qv : Program := view PySem.Challenge.pw_nn0344_03 [162]
noncomputable def looseN : List Str := (PySem.Challenge.pw_nn0344_03.boundNames).filter fun n => !(n == ("law" : Str))
noncomputable def frO (ob : Obj) : Bool := match ob.data with
  | .dict .. => !(ob.cls == .type "frame")
  | _ => true
noncomputable def yf (s : Shared) : List (Option Obj) × List (Option Value) × Bool := (as3.map s.heap.get?, G3.map fun p => s.heap.nsMap mainGlobals p.1, s.heap.objs.toList.all frO)
noncomputable def ya (w : World) : List (Option Obj) × List (Option Value) × Bool := ((K3 w.params).map fun p => some p.2, G3.map fun p => p.2, true)

noncomputable abbrev hH1 (P : Params) : Heap := absHeap (tr_20 P) 1290 hL
noncomputable abbrev hS1 (w : World) (os : OsState) : Shared := ⟨hH1 w.params, Array.mk [], ⟨0, 0, 0, 0⟩, 2063, os⟩
theorem hl_0 (w : World) : (fun os => staticsOk (importedModules PySem.Challenge.pw_nn0344_03.main.body) (boot_heap w.params) (hH1 w.params) && namesBound PySem.Challenge.pw_nn0344_03 (hH1 w.params) && gensDone (hS1 w os) && laidKept (boot_heap w.params) (hH1 w.params)) = fun _ => true := by
  rw [PySem.W.Fast.te5923862056798008813]; kernel_rfl
theorem hl_1 (w : World) : (fun os => seen ((recsOf qv).map (·.name)) (ownsOf qv) [] { hS1 w os with gens := #[] }) = fun _ => expectedOf qv := by
  rw [PySem.W.Fast.te5160383126252970620, PySem.W.R.mapR_eq, PySem.W.Fast.te3399658132070893891, PySem.W.Fast.te5991557255702980513]; kernel_rfl
theorem hl_2 (w : World) : (fun os => (hS1 w os).heap.bltView) = fun _ => bltViewBooted := by
  kernel_rfl
theorem hl_3 (w : World) : (fun os => (hS1 w os).heap.keysOk (looseW qv looseN) ((recsOf qv).map (·.name)) ((litsOf qv).map (·.1)) ((clssOf qv (looseW qv looseN)).map (·.name)) && (hS1 w os).heap.accountedOkI (importedModules PySem.Challenge.pw_nn0344_03.main.body) && (hS1 w os).heap.isNs mainGlobals && (hS1 w os).heap.isNs builtinsNs && tablesOk qv (hS1 w os).heap && (fun _ => true) (hS1 w os) && (if true then (hS1 w os).gens.size == 0 else !leftWithCleanup (hS1 w os).gens)) = fun _ => true := by
  rw [PySem.W.Fast.te10880121769531294198, PySem.W.Fast.te821141287760084731, PySem.W.Fast.te3399658132070893891, PySem.W.Fast.te7409074990110511671, PySem.W.Fast.te13664370479719496447, PySem.W.Fast.te14722251495701143533, PySem.W.Fast.te5923862056798008813, PySem.W.Fast.te10994771534591457954]; kernel_rfl
theorem hl_4 (w : World) : (fun os => tabsOk qv (hS1 w os)) = fun _ => true := by
  rw [PySem.W.Fast.te479339242167458305]; kernel_rfl
theorem hl_5 (w : World) : (fun os => pinSeenD qv (drecsOf qv) (hS1 w os)) = fun _ => pinGoodD (drecsOf qv) := by
  rw [PySem.W.Fast.te16090120013241838585, PySem.W.Fast.te3247288618530077131]; kernel_rfl
theorem hl_6 (w : World) : (fun os => plainSeenE qv (looseW qv looseN) (hS1 w os)) = fun _ => plainGoodE qv (looseW qv looseN) := by
  rw [PySem.W.Fast.te2386780881361962483, PySem.W.Fast.te821141287760084731]; kernel_rfl
theorem hl_7 (w : World) : (fun os => plainSeenD qv looseN (hS1 w os)) = fun _ => plainGoodD qv looseN := by
  rw [PySem.W.Fast.te11698064438423848299]; kernel_rfl
theorem hl_8 (w : World) : (fun os => wideSeen qv (hS1 w os)) = fun _ => wideGood qv := by
  rw [PySem.W.Fast.te7317090234206586261]; kernel_rfl
theorem hl_9 (w : World) : (fun os => clsSeenW qv looseN (hS1 w os)) = fun _ => clsGoodW qv looseN := by
  rw [PySem.W.Fast.te7369524293546568484]; kernel_rfl
theorem hl_10 (w : World) : (fun os => yf (hS1 w os)) = fun _ => ya w := by
  kernel_rfl
theorem hl_size (w : World) : ((boot_heap w.params).isNs mainGlobals && (Array.mk [] : Array GenState).size == 0, (boot_heap w.params).objs.size, (boot_heap w.params).nsMap mainGlobals "__annotations__") = (true, 11, some (.ref 6)) := by
  rw [PySem.W.Fast.te8920871248978507458]; kernel_rfl
theorem hl_open (w : World) : (fencedOpening treeTable PySem.Challenge.pw_nn0344_03 w 15000).map (fun s => (s.heap, s.gens, s.drawn, s.toks)) = some (boot_heap w.params, Array.mk [], boot_drawn, boot_toks) :=
  boot_open (by kernel_rfl) (by kernel_rfl) (fun s => by kernel_rfl) w
theorem hT_abs (w : World) (os : OsState) : (hT_20 w os).abs = hS1 w os := by kernel_rfl
theorem left3 : LeftO PySem.Challenge.pw_nn0344_03 qv looseN (fun _ => true) yf ya 15000 := by
  refine leftMk (p := PySem.Challenge.pw_nn0344_03) (q := qv) (loose := looseN) (Xt := fun _ => true) (Yf := yf) (Ya := ya) (N := 15000) (S := hS1) (H₀ := boot_heap) (H₁ := hH1) (gs₀ := Array.mk []) (gs₁ := Array.mk []) (d₀ := boot_drawn) (d₁ := ⟨0, 0, 0, 0⟩) (k₀ := boot_toks) (k₁ := 2063) (m₀ := 11) (ann := some (.ref 6)) (M := (12 + (1 + (279 + (214 + (374 + (394 + (392 + (389 + (377 + (385 + (151 + (437 + (341 + (335 + (503 + (401 + (391 + (393 + (380 + (374 + (398 + (306 + (2)))))))))))))))))))))))) ?a ?b ?c ?d ?e ?l0 ?l1 ?l2 ?l3 ?l4 ?l5 ?l6 ?l7 ?l8 ?l9 ?l10
  case a => exact fun _ _ => rfl
  case b => exact hl_open
  case c => exact hl_size
  case d => exact fun w os => (hp_run w os).trans (congrArg some (hT_abs w os))
  case e => decide +kernel
  case l0 => exact hl_0
  case l1 => exact hl_1
  case l2 => exact hl_2
  case l3 => exact hl_3
  case l4 => exact hl_4
  case l5 => exact hl_5
  case l6 => exact hl_6
  case l7 => exact hl_7
  case l8 => exact hl_8
  case l9 => exact hl_9
  case l10 => exact hl_10
theorem head3 (call : ∀ (d : DefRec) (kwd : List (Str × Expr)), d.name = Str.ofString "law" → WalkX qv looseN (fun _ _ => True) yf ya PySem.Challenge.rw_nn0344_03.row.toRowW d kwd (fun f vs => PySem.call f vs)) : PySem.Challenge.rw_nn0344_03.Holds := by
  w_on
  refine holds_law said3 fun ws => ?_
  refine holds_openX (q := qv) (loose := looseN) (Xt := fun _ => true) (XP := fun _ _ => True) (Yf := yf) (Ya := ya) (N := 15000) left3 (fun _ _ => trivial) (fun _ _ _ _ _ => trivial) (by rfl) (by rfl) (by rfl) (fun s e => recFacts_nil rfl) (by rfl) ws (by decide +kernel) ⟨rfl, rfl, rfl, rfl, rfl, by decide +kernel⟩ ?hw ?hc
  case hw => w_witness2
  exact call _ _ rfl
end NN
end

-- part: NN1
section
open PySem PySem.W PyProof.Rows PySem.Calls
set_option maxRecDepth 100000
set_option linter.all false
namespace NN

inductive V where
  | none | bool (b : Bool) | int (i : Int) | str (x : Str) | tup (vs : List V) | ptr (a : Addr) | obj (a C dx : Addr) | rng (lo hi : Int) | raw (v : Value)
  deriving Inhabited

mutual
inductive VR (h : Heap) : V → Value → Prop
  | none : VR h .none .none
  | bool (b) : VR h (.bool b) (.bool b)
  | int (i t) : VR h (.int i) (.int i t)
  | str (x t) : VR h (.str x) (.str x t)
  | tup {vs ws a n} : IsT h a ws.toArray n → VRs h vs ws → VR h (.tup vs) (.ref a)
  | ptr (a) : VR h (.ptr a) (.ref a)
  | obj {a C dx ob} : h.get? a = some ob → ob.cls = .ref C → ob.data = .plain → ob.dict = some dx → VR h (.obj a C dx) (.ref a)
  | rng {lo hi a t u v} : h.get? a = some { cls := .type "range", dict := none, data := .fields #[.int lo t, .int hi u, .int 1 v], slots := #[] } → VR h (.rng lo hi) (.ref a)
  | raw (v) : VR h (.raw v) v
inductive VRs (h : Heap) : List V → List Value → Prop
  | nil : VRs h [] []
  | cons {x xs v vs} : VR h x v → VRs h xs vs → VRs h (x :: xs) (v :: vs)
end

theorem VRs.length {h : Heap} : ∀ {xs : List V} {vs : List Value}, VRs h xs vs → xs.length = vs.length
  | [], [], .nil => rfl
  | _ :: _, _ :: _, .cons _ r => by simp [r.length]
theorem VRs.get {h : Heap} : ∀ {xs : List V} {vs : List Value}, VRs h xs vs → ∀ {i : Nat} {x : V}, xs[i]? = some x → ∃ v, vs[i]? = some v ∧ VR h x v
  | _ :: _, _ :: _, .cons a _, 0, x, e => by simp at e; subst e; exact ⟨_, rfl, a⟩
  | _ :: _, _ :: _, .cons _ r, i + 1, x, e => by simp at e; simpa using r.get e
theorem VRs.append {h : Heap} : ∀ {xs ys : List V} {vs ws : List Value}, VRs h xs vs → VRs h ys ws → VRs h (xs ++ ys) (vs ++ ws)
  | _, _, _, _, .nil, r => r
  | _, _, _, _, .cons a r, r' => .cons a (r.append r')
theorem VRs.reverse {h : Heap} : ∀ {xs : List V} {vs : List Value}, VRs h xs vs → VRs h xs.reverse vs.reverse
  | _, _, .nil => .nil
  | _, _, .cons a r => by rw [List.reverse_cons, List.reverse_cons]; exact r.reverse.append (.cons a .nil)
theorem VRs.take {h : Heap} : ∀ {xs : List V} {vs : List Value}, VRs h xs vs → ∀ n, VRs h (xs.take n) (vs.take n)
  | _, _, .nil, n => by simpa using .nil
  | _, _, .cons a r, 0 => .nil
  | _, _, .cons a r, n + 1 => .cons a (r.take n)
theorem VRs.drop {h : Heap} : ∀ {xs : List V} {vs : List Value}, VRs h xs vs → ∀ n, VRs h (xs.drop n) (vs.drop n)
  | _, _, .nil, n => by simpa using .nil
  | _, _, .cons a r, 0 => .cons a r
  | _, _, .cons a r, n + 1 => r.drop n

inductive MO where
  | lst (xs : List V)
  | sd (l : List (Str × V))
  | nd (l : List (Int × V))
  | exo (C : Addr) (d : Option Addr)

inductive SEs (P : Params) (h : Heap) : List (Str × V) → List DictEntry → Prop
  | nil : SEs P h [] []
  | cons {k x l t v es} : VR h x v → SEs P h l es → SEs P h ((k, x) :: l) (⟨PyData.keyHash P k, .str k t, v⟩ :: es)
inductive NEs (h : Heap) : List (Int × V) → List DictEntry → Prop
  | nil : NEs h [] []
  | cons {k x l t v es} : VR h x v → NEs h l es → NEs h ((k, x) :: l) (⟨hashInt k, .int k t, v⟩ :: es)

abbrev dictO (es : List DictEntry) (n : Nat) : Obj := { cls := .type "dict", data := .dict es.toArray n }

abbrev listO (ws : List Value) (n : Nat) : Obj := { cls := .type "list", dict := none, data := .seq ws.toArray n, slots := #[] }

inductive MOR (P : Params) (h : Heap) : MO → Obj → Prop
  | lst {xs ws n} : VRs h xs ws → MOR P h (.lst xs) (listO ws n)
  | sd {l es n} : SEs P h l es → MOR P h (.sd l) (dictO es n)
  | nd {l es n} : NEs h l es → MOR P h (.nd l) (dictO es n)
  | exo {C d ob vs a0} : ob.cls = .ref C → ob.dict = d → ob.data = .fields vs → vs[0]? = some a0 → vs[1]? = some .none → MOR P h (.exo C d) ob

theorem MOR.shape {P : Params} {h : Heap} {m : MO} {o : Obj} (x : MOR P h m o) : (o.cls = .type "list" ∧ ∃ ws n, o.data = .seq ws n) ∨ (o.cls = .type "dict" ∧ ∃ es n, o.data = .dict es n) ∨ ∃ C vs, o.cls = .ref C ∧ o.data = .fields vs := by
  cases x with
  | lst r => exact .inl ⟨rfl, _, _, rfl⟩
  | sd r => exact .inr (.inl ⟨rfl, _, _, rfl⟩)
  | nd r => exact .inr (.inl ⟨rfl, _, _, rfl⟩)
  | exo a b c d e => exact .inr (.inr ⟨_, _, a, c⟩)

noncomputable def St := Addr → Option MO
noncomputable def St.nil : St := fun _ => none
noncomputable def St.set (st : St) (a : Addr) (m : MO) : St := fun b => if b = a then some m else st b
noncomputable def St.get (st : St) (a : Addr) : Option MO := st a
@[simp] theorem St.set_same (st : St) (a : Addr) (m : MO) : (st.set a m) a = some m := by simp [St.set]
theorem St.set_ne (st : St) {a b : Addr} (m : MO) (h : b ≠ a) : (st.set a m) b = st b := by simp [St.set, h]

noncomputable def Holds (P : Params) (st : St) (h : Heap) : Prop := ∀ a m, st a = some m → ∃ o, h.get? a = some o ∧ MOR P h m o

noncomputable def KO (o o' : Obj) : Prop := o' = o ∨ ((o.cls = .type "frame" ∧ ∃ es n, o.data = .dict es n) ∧ o'.cls = o.cls ∧ o'.data = o.data)
theorem KO.refl (o : Obj) : KO o o := .inl rfl
theorem KO.trans {a b c : Obj} (x : KO a b) (y : KO b c) : KO a c := by
  rcases x with rfl | ⟨x1, x2, x3⟩
  · exact y
  · rcases y with rfl | ⟨_, y2, y3⟩
    · exact .inr ⟨x1, x2, x3⟩
    · exact .inr ⟨x1, y2.trans x2, y3.trans x3⟩
theorem KO.cls {a b : Obj} (x : KO a b) : b.cls = a.cls := by rcases x with rfl | ⟨_, x2, _⟩ <;> first | rfl | exact x2
theorem KO.data {a b : Obj} (x : KO a b) : b.data = a.data := by rcases x with rfl | ⟨_, _, x3⟩ <;> first | rfl | exact x3
theorem KO.eq {a b : Obj} (x : KO a b) (h : a.cls ≠ .type "frame") : b = a := by rcases x with rfl | ⟨h', _, _⟩ <;> first | rfl | exact absurd h'.1 h

/-- an own object of the frame stays what it is -/
noncomputable def OO (o o' : Obj) : Prop := o'.cls = o.cls ∧ ((∃ es n, o.data = .dict es n) → ∃ es n, o'.data = .dict es n) ∧ ((∃ v, o.data = .cell v) → ∃ v, o'.data = .cell v)
theorem OO.refl (o : Obj) : OO o o := ⟨rfl, id, id⟩
theorem OO.trans {a b c : Obj} (x : OO a b) (y : OO b c) : OO a c := ⟨y.1.trans x.1, fun h => y.2.1 (x.2.1 h), fun h => y.2.2 (x.2.2 h)⟩
theorem KO.oo {a b : Obj} (x : KO a b) : OO a b := ⟨x.cls, fun ⟨es, n, h⟩ => ⟨es, n, x.data.trans h⟩, fun ⟨v, h⟩ => ⟨v, x.data.trans h⟩⟩

structure Step (P : Params) (F : Addr → Prop) (st : St) (s : Shared) (st' : St) (s' : Shared) : Prop where
  holds : Holds P st' s'.heap
  sub : ∀ a, st' a ≠ none → st a ≠ none ∨ s.heap.get? a = none
  ext : ∀ b o, ¬ F b → st b = none → s.heap.get? b = some o → ∃ o', s'.heap.get? b = some o' ∧ KO o o'
  own : ∀ b o, F b → st b = none → s.heap.get? b = some o → ∃ o', s'.heap.get? b = some o' ∧ OO o o'
  mono : ∀ b, (s.heap.get? b).isSome = true → (s'.heap.get? b).isSome = true
  gens : s'.gens = s.gens
  os : s'.os = s.os

noncomputable def noF : Addr → Prop := fun _ => False

section
variable {P : Params} {F : Addr → Prop} {st st₁ st₂ : St} {s s₁ s₂ : Shared}
theorem Step.still (x : Step P F st s st₁ s₁) {b : Addr} {o : Obj} (hb : st b = none) (ho : s.heap.get? b = some o) : st₁ b = none := by
  cases q : st₁ b with
  | none => rfl
  | some m =>
    rcases x.sub b (by rw [q]; simp) with h | h
    · exact absurd hb h
    · rw [ho] at h; cases h
theorem Step.trans (x : Step P F st s st₁ s₁) (y : Step P F st₁ s₁ st₂ s₂) : Step P F st s st₂ s₂ where
  holds := y.holds
  sub a h := by
    rcases y.sub a h with h | h
    · exact x.sub a h
    · right
      cases q : s.heap.get? a with
      | none => rfl
      | some o => have := x.mono a (by rw [q]; rfl); rw [h] at this; cases this
  ext b o hf hb ho := by
    obtain ⟨o₁, h1, k1⟩ := x.ext b o hf hb ho
    obtain ⟨o₂, h2, k2⟩ := y.ext b o₁ hf (x.still hb ho) h1
    exact ⟨o₂, h2, k1.trans k2⟩
  own b o hf hb ho := by
    obtain ⟨o₁, h1, k1⟩ := x.own b o hf hb ho
    obtain ⟨o₂, h2, k2⟩ := y.own b o₁ hf (x.still hb ho) h1
    exact ⟨o₂, h2, k1.trans k2⟩
  mono b h := y.mono b (x.mono b h)
  gens := y.gens.trans x.gens
  os := y.os.trans x.os
theorem Step.weak (x : Step P noF st s st₁ s₁) : Step P F st s st₁ s₁ := ⟨x.holds, x.sub, fun b o _ => x.ext b o (fun h => h), fun b o _ hb ho => let ⟨o', h, k⟩ := x.ext b o (fun h => h) hb ho; ⟨o', h, k.oo⟩, x.mono, x.gens, x.os⟩
theorem Step.toks (h : Holds P st s.heap) (t : Nat) : Step P F st s st { s with toks := t } := ⟨h, fun _ h => .inl h, fun _ o _ _ ho => ⟨o, ho, .refl o⟩, fun _ o _ _ ho => ⟨o, ho, .refl o⟩, fun _ h => h, rfl, rfl⟩
theorem Step.refl (h : Holds P st s.heap) : Step P F st s st s := Step.toks h _
/-- forgetting entries -/
noncomputable def St.le (a b : St) : Prop := ∀ x, a x = none ∨ a x = b x
theorem Step.forget (x : Step P F st s st₁ s₁) (h : St.le st₂ st₁) : Step P F st s st₂ s₁ := by
  refine ⟨fun a m e => ?_, fun a e => ?_, x.ext, x.own, x.mono, x.gens, x.os⟩
  · rcases h a with q | q
    · rw [q] at e; cases e
    · exact x.holds a m (q ▸ e)
  · rcases h a with q | q
    · exact absurd q e
    · exact x.sub a (q ▸ e)
end

/-! keeping of values -/
section
variable {P : Params} {h h' : Heap} {st : St}
theorem tup_not_st (H : Holds P st h) {a : Addr} {ws : Array Value} {n : Nat} (x : IsT h a ws n) : st a = none := by
  cases q : st a with
  | none => rfl
  | some m =>
    obtain ⟨o, ho, hm⟩ := H a m q
    have e : o = _ := Option.some.inj (ho.symm.trans x)
    have e := congrArg Obj.cls e
    rcases hm.shape with ⟨q, _⟩ | ⟨q, _⟩ | ⟨C, vs, q, _⟩ <;> (rw [q] at e; simp at e)
theorem inst_not_st (H : Holds P st h) {a : Addr} {ob : Obj} (x : h.get? a = some ob) (hd : ob.data = .plain) : st a = none := by
  cases q : st a with
  | none => rfl
  | some m =>
    obtain ⟨o, ho, hm⟩ := H a m q
    rw [ho] at x; cases x
    rcases hm.shape with ⟨_, _, _, q⟩ | ⟨_, _, _, q⟩ | ⟨_, _, _, q⟩ <;> (rw [q] at hd; cases hd)

theorem rec_not_st (H : Holds P st h) {a : Addr} {ob : Obj} {vs : Array Value} {T : String} (x : h.get? a = some ob) (hc : ob.cls = .type T) (hd : ob.data = .fields vs) : st a = none := by
  cases q : st a with
  | none => rfl
  | some m =>
    obtain ⟨o, ho, hm⟩ := H a m q
    rw [ho] at x; cases x
    rcases hm.shape with ⟨_, _, _, q⟩ | ⟨_, _, _, q⟩ | ⟨_, _, q, _⟩
    · rw [q] at hd; cases hd
    · rw [q] at hd; cases hd
    · rw [q] at hc; cases hc

noncomputable def KpD (D : Addr → Prop) (h h' : Heap) : Prop := ∀ b o, ¬ D b → h.get? b = some o → ∃ o', h'.get? b = some o' ∧ KO o o'
/-- what may change is no tuple and no instance -/
structure DOk (D : Addr → Prop) (h : Heap) : Prop where
  tup : ∀ a ws n, IsT h a ws n → ¬ D a
  rng : ∀ a ob vs, h.get? a = some ob → ob.cls = .type "range" → ob.data = .fields vs → ¬ D a
  obj : ∀ a ob, h.get? a = some ob → ob.data = .plain → (∃ C, ob.cls = .ref C) → ¬ D a
/-- what values ask of a change -/
structure KpV (h h' : Heap) : Prop where
  tup : ∀ a ws n, IsT h a ws n → IsT h' a ws n
  rng : ∀ a ob vs, h.get? a = some ob → ob.cls = .type "range" → ob.data = .fields vs → h'.get? a = some ob
  obj : ∀ a ob, h.get? a = some ob → ob.data = .plain → (∃ C, ob.cls = .ref C) → h'.get? a = some ob
mutual
theorem VR.keepV (K : KpV h h') : ∀ {x : V} {v : Value}, VR h x v → VR h' x v
  | _, _, .none => .none
  | _, _, .bool b => .bool b
  | _, _, .int i t => .int i t
  | _, _, .str x t => .str x t
  | _, _, .tup a r => .tup (K.tup _ _ _ a) (VRs.keepV K r)
  | _, _, .ptr a => .ptr a
  | _, _, .obj e hc hn hd => .obj (K.obj _ _ e hn ⟨_, hc⟩) hc hn hd
  | _, _, .rng e => .rng (K.rng _ _ _ e rfl rfl)
  | _, _, .raw v => .raw v
theorem VRs.keepV (K : KpV h h') : ∀ {xs : List V} {vs : List Value}, VRs h xs vs → VRs h' xs vs
  | _, _, .nil => .nil
  | _, _, .cons a r => .cons (VR.keepV K a) (VRs.keepV K r)
end
theorem SEs.keepV (K : KpV h h') : ∀ {l : List (Str × V)} {es : List DictEntry}, SEs P h l es → SEs P h' l es
  | _, _, .nil => .nil
  | _, _, .cons a r => .cons (a.keepV K) (r.keepV K)
theorem NEs.keepV (K : KpV h h') : ∀ {l : List (Int × V)} {es : List DictEntry}, NEs h l es → NEs h' l es
  | _, _, .nil => .nil
  | _, _, .cons a r => .cons (a.keepV K) (r.keepV K)
theorem MOR.keepV (K : KpV h h') {m : MO} {o : Obj} (x : MOR P h m o) : MOR P h' m o := by
  cases x with
  | lst r => exact .lst (r.keepV K)
  | sd r => exact .sd (r.keepV K)
  | nd r => exact .nd (r.keepV K)
  | exo a b c d e => exact .exo a b c d e
theorem KpV.of {D : Addr → Prop} (H : DOk D h) (K : KpD D h h') : KpV h h' where
  tup a ws n x := by
    obtain ⟨o', ho', k⟩ := K _ _ (H.tup _ _ _ x) x
    have := k.eq (by simp)
    subst this
    exact ho'
  rng a ob vs x hc hd := by
    obtain ⟨o', ho', k⟩ := K _ _ (H.rng _ _ _ x hc hd) x
    have := k.eq (by rw [hc]; simp)
    subst this
    exact ho'
  obj a ob x hn hC := by
    obtain ⟨o', ho', k⟩ := K _ _ (H.obj _ _ x hn hC) x
    obtain ⟨C, hc⟩ := hC
    have := k.eq (by rw [hc]; intro q; cases q)
    subst this
    exact ho'
theorem VR.keepD {D : Addr → Prop} (H : DOk D h) (K : KpD D h h') {x : V} {v : Value} (r : VR h x v) : VR h' x v := r.keepV (.of H K)
theorem VRs.keepD {D : Addr → Prop} (H : DOk D h) (K : KpD D h h') {xs : List V} {vs : List Value} (r : VRs h xs vs) : VRs h' xs vs := r.keepV (.of H K)
theorem MOR.keepD {D : Addr → Prop} (H : DOk D h) (K : KpD D h h') {m : MO} {o : Obj} (x : MOR P h m o) : MOR P h' m o := x.keepV (.of H K)
noncomputable def Kp (st : St) (h h' : Heap) : Prop := ∀ b o, st b = none → h.get? b = some o → ∃ o', h'.get? b = some o' ∧ KO o o'
theorem Kp.d (K : Kp st h h') : KpD (fun b => st b ≠ none) h h' := fun b o hb ho => K b o (Classical.byContradiction hb) ho
theorem DOk.ofSt (H : Holds P st h) : DOk (fun b => st b ≠ none) h := ⟨fun a ws n x q => q (tup_not_st H x), fun a ob vs x hc hd q => q (rec_not_st H x hc hd), fun a ob x hd _ q => q (inst_not_st H x hd)⟩
theorem VR.keep (H : Holds P st h) (K : Kp st h h') {x : V} {v : Value} (r : VR h x v) : VR h' x v := r.keepD (.ofSt H) K.d
theorem VRs.keep (H : Holds P st h) (K : Kp st h h') {xs : List V} {vs : List Value} (r : VRs h xs vs) : VRs h' xs vs := r.keepD (.ofSt H) K.d
theorem MOR.keep (H : Holds P st h) (K : Kp st h h') {m : MO} {o : Obj} (x : MOR P h m o) : MOR P h' m o := x.keepD (.ofSt H) K.d
theorem Step.kp {st₁ : St} {s s₁ : Shared} (x : Step P noF st s st₁ s₁) : Kp st s.heap s₁.heap := fun b o hb ho => x.ext b o (fun h => h) hb ho

end
end NN
end

-- part: NN2
section
open PySem PySem.W PyProof.Rows PySem.Calls
set_option maxRecDepth 100000
set_option linter.all false
namespace NN

/-- the world: program, world, the written part K, the globals -/
structure Wo where
  prog : Program
  w : World
  K : Frag
  mg : Str → Option Value
  mb : Str → Option Value

structure Wo.In (o : Wo) (h : Heap) : Prop where
  k : o.K.In h
  g : h.Ns mainGlobals o.mg
  b : h.Ns builtinsNs o.mb
  bi : ∀ x : Str, x ≠ "__name__" → o.mb x = bootBuiltins x
  nolimit : h.NoLimit

abbrev Wo.M (o : Wo) : Model := model o.prog o.w
abbrev Wo.P (o : Wo) : Params := o.w.params

/-- the addresses that belong to the world -/
noncomputable def Wo.ad (o : Wo) (a : Addr) : Prop := (∃ ob, o.K.lookup a = some ob) ∨ a = mainGlobals ∨ a = builtinsNs ∨ a = cStatics

noncomputable def FrOk (fs : List Env) (h : Heap) : Prop := ∀ env ∈ fs, env.scope.kind ≠ .module ∧ ∃ L o, env.frame = some L ∧ h.get? L = some o ∧ o.cls = .type "frame" ∧ ∃ es n, o.data = .dict es n

/-- the surroundings of an operation -/
structure Kx where
  A : Around
  fs : List Env
  n : Nat

structure KxOk (k : Kx) : Prop where
  fr : k.A.frames = some k.fs
  depth : k.A.depth + k.n < recursionLimit
  units : k.A.units + 5 * k.n + 40 < cLine
  handled : k.A.handled = none

structure SI (o : Wo) (k : Kx) (st : St) (s : Shared) : Prop where
  ok : KxOk k
  wd : o.In s.heap
  fs : FrOk k.fs s.heap
  hs : Holds o.P st s.heap
  sep : ∀ a, o.ad a → st a = none

structure Cx where
  k : Kx
  env : Env

structure CxOk (c : Cx) : Prop where
  kind : c.env.scope.kind = .function
  glob : c.env.globals = mainGlobals
  blt : c.env.builtins = builtinsNs

noncomputable def LocF := Str → Option V
noncomputable def LocF.nil : LocF := fun _ => none
noncomputable def LocF.set (l : LocF) (x : Str) (v : V) : LocF := fun y => if y = x then some v else l y
theorem LocF.set_same (l : LocF) (x : Str) (v : V) : (l.set x v) x = some v := by simp [LocF.set]
structure LocR (env : Env) (loc : LocF) (h : Heap) : Prop where
  ns : ∃ m, h.Ns env.locals m ∧ ∀ x v, loc x = some v → (env.kindOf x = some .local ∧ ∃ u, m x = some u ∧ VR h v u) ∨
      ((env.kindOf x = some .cell ∨ env.kindOf x = some .free) ∧ (x == ("__classdict__" : Str)) = false ∧ ∃ a u, env.cells.lookup x = some a ∧ h.IsCell a (some u) ∧ VR h v u)
  cells : ∀ x a, env.cells.lookup x = some a → ∃ u, h.IsCell a u
  apart : env.cells.Pairwise fun x y => x.2 ≠ y.2

theorem LocR.nil {env : Env} {loc : LocF} {h : Heap} (x : LocR env loc h) : LocR env LocF.nil h := ⟨let ⟨m, hm, _⟩ := x.ns; ⟨m, hm, fun _ _ e => nomatch e⟩, x.cells, x.apart⟩

/-- the frame's own objects -/
noncomputable def own (c : Cx) (a : Addr) : Prop := a = c.env.locals ∨ ∃ x, (x, a) ∈ c.env.cells

structure OwnT (c : Cx) (h : Heap) : Prop where
  ex : ∀ b, own c b → ∃ o T, h.get? b = some o ∧ o.cls = .type T ∧ ((∃ es n, o.data = .dict es n) ∨ ∃ v, o.data = .cell v)

structure Inv (o : Wo) (c : Cx) (loc : LocF) (st : St) (s : Shared) : Prop where
  cx : CxOk c
  si : SI o c.k st s
  lc : LocR c.env loc s.heap
  ow : OwnT c s.heap
  ost : ∀ a, own c a → st a = none
  oad : ∀ a, own c a → ¬ o.ad a
theorem Inv.loc {o : Wo} {c : Cx} {loc : LocF} {st : St} {s : Shared} (I : Inv o c loc st s) : st c.env.locals = none := I.ost _ (.inl rfl)
theorem Inv.cel {o : Wo} {c : Cx} {loc : LocF} {st : St} {s : Shared} (I : Inv o c loc st s) : ∀ x a, (x, a) ∈ c.env.cells → st a = none := fun x a h => I.ost _ (.inr ⟨x, h⟩)

/-! keeping -/
section
variable {o : Wo} {env : Env} {st st' : St} {s s' : Shared} {h h' : Heap} {loc : LocF} {P : Params}
theorem ns_keep {a : Addr} {m : Str → Option Value} (K : Kp st h h') (ha : st a = none) (x : h.Ns a m) : h'.Ns a m := by
  obtain ⟨ob, es, ep, ho, hd, r⟩ := x
  obtain ⟨o', ho', k⟩ := K a ob ha ho
  exact ⟨o', es, ep, ho', k.data.trans hd, r⟩
theorem cell_keep {a : Addr} {v : Option Value} (K : Kp st h h') (ha : st a = none) (x : h.IsCell a v) : h'.IsCell a v := by
  obtain ⟨ob, ho, hd⟩ := x
  obtain ⟨o', ho', k⟩ := K a ob ha ho
  exact ⟨o', ho', k.data.trans hd⟩
/-- no object of K is a frame -/
noncomputable def KNoFrame (K : Frag) : Prop := ∀ a ob, K.lookup a = some ob → ob.cls ≠ .type "frame"

theorem In.keep (hK : KNoFrame o.K) (K : Kp st h h') (sep : ∀ a, o.ad a → st a = none) (x : o.In h) : o.In h' where
  k := fun a ob e => by
    obtain ⟨o', ho', k⟩ := K a ob (sep a (.inl ⟨ob, e⟩)) (x.k a ob e)
    rw [k.eq (hK a ob e)] at ho'
    exact ho'
  g := ns_keep K (sep _ (.inr (.inl rfl))) x.g
  b := ns_keep K (sep _ (.inr (.inr (.inl rfl)))) x.b
  bi := x.bi
  nolimit := by
    obtain ⟨mc, h1, h2⟩ := x.nolimit
    exact ⟨mc, ns_keep K (sep _ (.inr (.inr (.inr rfl)))) h1, h2⟩

theorem FrOk.not_st {fs : List Env} (H : Holds P st h) (x : FrOk fs h) {env : Env} (he : env ∈ fs) {L : Addr} (hL : env.frame = some L) : st L = none := by
  obtain ⟨_, L', ob, hf, ho, hc, _⟩ := x env he
  rw [hL] at hf; cases hf
  cases q : st L with
  | none => rfl
  | some m =>
    obtain ⟨o', ho', hm⟩ := H L m q
    rw [ho] at ho'; cases ho'
    rcases hm.shape with ⟨q, _⟩ | ⟨q, _⟩ | ⟨C, vs, q, _⟩ <;> (rw [q] at hc; simp at hc)
theorem FrOk.keep {fs : List Env} (H : Holds P st h) (K : Kp st h h') (x : FrOk fs h) : FrOk fs h' := fun env he => by
  have hn := fun L hL => FrOk.not_st H x he (L := L) hL
  obtain ⟨hk, L, ob, hf, ho, hc, es, n, hd⟩ := x env he
  obtain ⟨o', ho', k⟩ := K L ob (hn L hf) ho
  exact ⟨hk, L, o', hf, ho', k.cls.trans hc, es, n, k.data.trans hd⟩

theorem LocR.keep (H : Holds P st h) (K : Kp st h h') (hl : st env.locals = none) (hc : ∀ x a, (x, a) ∈ env.cells → st a = none) (x : LocR env loc h) : LocR env loc h' where
  ns := by
    obtain ⟨m, hm, q⟩ := x.ns
    refine ⟨m, ns_keep K hl hm, fun y v e => ?_⟩
    rcases q y v e with ⟨a, u, b, r⟩ | ⟨a, a', c', u, b, d, r⟩
    · exact .inl ⟨a, u, b, r.keep H K⟩
    · exact .inr ⟨a, a', c', u, b, cell_keep K (hc _ _ (mem_of_lookup b)) d, r.keep H K⟩
  cells y a e := by
    obtain ⟨u, q⟩ := x.cells y a e
    exact ⟨u, cell_keep K (hc _ _ (mem_of_lookup e)) q⟩
  apart := x.apart

theorem none_of_sub {a : Addr} (sub : ∀ a, st' a ≠ none → st a ≠ none ∨ h.get? a = none) (h1 : st a = none) (h2 : (h.get? a).isSome = true) : st' a = none := by
  cases q : st' a with
  | none => rfl
  | some m =>
    rcases sub a (by rw [q]; simp) with h | h
    · exact absurd h1 h
    · rw [h] at h2; cases h2

theorem Ns.isSome {a : Addr} {m : Str → Option Value} (x : h.Ns a m) : (h.get? a).isSome = true := by
  obtain ⟨_, _, _, ho, _⟩ := x; rw [ho]; rfl
theorem In.ex (x : o.In h) {a : Addr} (ha : o.ad a) : (h.get? a).isSome = true := by
  rcases ha with ⟨ob, e⟩ | rfl | rfl | rfl
  · rw [x.k a ob e]; rfl
  · exact Ns.isSome x.g
  · exact Ns.isSome x.b
  · obtain ⟨mc, h1, _⟩ := x.nolimit; exact Ns.isSome h1

end

/-- a world that is fit -/
class WoOk (o : Wo) : Prop where
  noFrame : KNoFrame o.K

section
variable {o : Wo} [W : WoOk o] {k : Kx} {c : Cx} {st st' : St} {s s' : Shared} {loc : LocF}
theorem SI.step (S : SI o k st s) (x : Step o.P noF st s st' s') : SI o k st' s' :=
  have K := x.kp
  ⟨S.ok, In.keep W.noFrame K S.sep S.wd, S.fs.keep S.hs K, x.holds, fun a ha => none_of_sub x.sub (S.sep a ha) (In.ex S.wd ha)⟩
theorem OwnT.step {F : Addr → Prop} (W : OwnT c s.heap) (hst : ∀ a, own c a → st a = none) (x : Step o.P F st s st' s') : OwnT c s'.heap := ⟨fun b hb => by
  obtain ⟨ob, T, h1, h2, h3⟩ := W.ex b hb
  have : ∃ o', s'.heap.get? b = some o' ∧ OO ob o' := by
    by_cases hf : F b
    · exact x.own b ob hf (hst b hb) h1
    · obtain ⟨o', h, k⟩ := x.ext b ob hf (hst b hb) h1
      exact ⟨o', h, k.oo⟩
  obtain ⟨o', h, k1, k2, k3⟩ := this
  exact ⟨o', T, h, k1.trans h2, h3.imp k2 k3⟩⟩
theorem Inv.step (I : Inv o c loc st s) (x : Step o.P noF st s st' s') : Inv o c loc st' s' := by
  have K := x.kp
  have L' := LocR.keep I.si.hs K I.loc I.cel I.lc
  refine ⟨I.cx, I.si.step x, L', I.ow.step I.ost x, fun a ha => ?_, I.oad⟩
  obtain ⟨ob, T, h1, _⟩ := I.ow.ex a ha
  exact x.still (I.ost a ha) h1

/-- over a step that may change the frame's own objects -/
theorem FrOk.stepF {F : Addr → Prop} {fs : List Env} (H : Holds o.P st s.heap) (x : Step o.P F st s st' s') (y : FrOk fs s.heap) : FrOk fs s'.heap := fun env he => by
  have hn := fun L hL => FrOk.not_st H y he (L := L) hL
  obtain ⟨hk, L, ob, hf, ho, hc, es, n, hd⟩ := y env he
  by_cases hF : F L
  · obtain ⟨o', ho', k1, k2, _⟩ := x.own L ob hF (hn L hf) ho
    obtain ⟨es', n', hd'⟩ := k2 ⟨es, n, hd⟩
    exact ⟨hk, L, o', hf, ho', k1.trans hc, es', n', hd'⟩
  · obtain ⟨o', ho', k⟩ := x.ext L ob hF (hn L hf) ho
    exact ⟨hk, L, o', hf, ho', k.cls.trans hc, es, n, k.data.trans hd⟩
theorem Inv.stepF {loc' : LocF} (I : Inv o c loc st s) (x : Step o.P (own c) st s st' s') (L' : LocR c.env loc' s'.heap) : Inv o c loc' st' s' := by
  have ad : ∀ a, o.ad a → ∀ ob, s.heap.get? a = some ob → ∃ o', s'.heap.get? a = some o' ∧ KO ob o' := fun a ha ob hob => x.ext a ob (fun q => I.oad a q ha) (I.si.sep a ha) hob
  have nk : ∀ {a : Addr} {m : Str → Option Value}, o.ad a → s.heap.Ns a m → s'.heap.Ns a m := fun {a m} ha ⟨ob, es, ep, h1, h2, r⟩ => by
    obtain ⟨o', h, k⟩ := ad a ha ob h1
    exact ⟨o', es, ep, h, k.data.trans h2, r⟩
  refine ⟨I.cx, ⟨I.si.ok, ⟨fun a ob e => ?_, nk (.inr (.inl rfl)) I.si.wd.g, nk (.inr (.inr (.inl rfl))) I.si.wd.b, I.si.wd.bi, ?_⟩, I.si.fs.stepF I.si.hs x, x.holds, fun a ha => ?_⟩, L', I.ow.step I.ost x, fun a ha => ?_, I.oad⟩
  · obtain ⟨o', h, k⟩ := ad a (.inl ⟨ob, e⟩) ob (I.si.wd.k a ob e)
    rw [k.eq (W.noFrame a ob e)] at h
    exact h
  · obtain ⟨mc, h1, h2⟩ := I.si.wd.nolimit
    exact ⟨mc, nk (.inr (.inr (.inr rfl))) h1, h2⟩
  · exact none_of_sub x.sub (I.si.sep a ha) (In.ex I.si.wd ha)
  · obtain ⟨ob, T, h1, _⟩ := I.ow.ex a ha
    exact x.still (I.ost a ha) h1

theorem DOk.own (I : Inv o c loc st s) : DOk (fun b => st b ≠ none ∨ own c b) s.heap where
  tup a ws n x q := by
    rcases q with q | q
    · exact q (tup_not_st I.si.hs x)
    · obtain ⟨ob, T, h1, h2, h3⟩ := I.ow.ex a q
      have e : ob = _ := Option.some.inj (h1.symm.trans x)
      subst e
      rcases h3 with ⟨es, n, h3⟩ | ⟨v, h3⟩ <;> cases h3
  rng a ob vs x hc hd q := by
    rcases q with q | q
    · exact q (rec_not_st I.si.hs x hc hd)
    · obtain ⟨ob', T, h1, h2, h3⟩ := I.ow.ex a q
      rw [x] at h1; cases h1
      rcases h3 with ⟨es, n, h3⟩ | ⟨v, h3⟩ <;> (rw [hd] at h3; cases h3)
  obj a ob x hd hC q := by
    rcases q with q | q
    · exact q (inst_not_st I.si.hs x hd)
    · obtain ⟨ob', T, h1, h2, h3⟩ := I.ow.ex a q
      rw [x] at h1; cases h1
      obtain ⟨C, hc⟩ := hC
      rw [hc] at h2; cases h2
theorem Step.kpd {F : Addr → Prop} (x : Step o.P F st s st' s') : KpD (fun b => st b ≠ none ∨ F b) s.heap s'.heap := fun b ob hb hob =>
  x.ext b ob (fun q => hb (.inr q)) (Classical.byContradiction fun q => hb (.inl q)) hob
theorem VR.stepF (I : Inv o c loc st s) (x : Step o.P (own c) st s st' s') {a : V} {v : Value} (r : VR s.heap a v) : VR s'.heap a v := r.keepD (DOk.own I) x.kpd
theorem VRs.stepF (I : Inv o c loc st s) (x : Step o.P (own c) st s st' s') {a : List V} {v : List Value} (r : VRs s.heap a v) : VRs s'.heap a v := r.keepD (DOk.own I) x.kpd
end
end NN
end

-- part: NN3
section
open PySem PySem.W PyProof.Rows PySem.Calls
set_option maxRecDepth 100000
set_option linter.all false
namespace NN

structure Exc where
  C : Addr
  at' : List (Str × V)

structure Flying (P : Params) (fl : Option Addr) (st' : St) (h0 h : Heap) (x : Exc) (e : Addr) : Prop where
  ex : ∃ dx oe vs a0 es n, h.get? e = some oe ∧ oe.cls = .ref x.C ∧ oe.dict = some dx ∧ oe.data = .fields vs ∧ vs[0]? = some a0 ∧
    h.get? dx = some (dictO es n) ∧ SEs P h x.at' es ∧ h0.get? e = none ∧ h0.get? dx = none ∧ (st' dx = none ∧ st' e = none) ∧
    (vs[1]? = some .none ∨ ∃ T oT ts, vs[1]? = some (.ref T) ∧ T ≠ e ∧ h0.get? T = none ∧ h.get? T = some oT ∧ oT.data = .fields ts ∧ (ts[3]? = some .none ∨ ∃ L, fl = some L ∧ ts[3]? = some (rawInt L)) ∧ oT.cls = .type "traceback")

theorem Flying.weak {P : Params} {fl : Option Addr} {st' : St} {h0 h : Heap} {x : Exc} {e : Addr} (f : Flying P none st' h0 h x e) : Flying P fl st' h0 h x e := by
  obtain ⟨dx, oe, vs, a0, es, n, b1, b2, b3, b4, b5, b6, b7, b8, b9, b10, b11⟩ := f
  refine ⟨dx, oe, vs, a0, es, n, b1, b2, b3, b4, b5, b6, b7, b8, b9, b10, b11.imp id fun ⟨T, oT, ts, c1, c2, c3, c4, c5, c6, c7⟩ => ⟨T, oT, ts, c1, c2, c3, c4, c5, ?_, c7⟩⟩
  rcases c6 with c6 | ⟨L, d, _⟩
  · exact .inl c6
  · cases d

/-- what a value's post says -/
noncomputable def PV (o : Wo) (st : St) (s : Shared) (Q : V → St → Prop) : Value → Shared → Prop := fun v s' => ∃ r st', VR s'.heap r v ∧ Step o.P noF st s st' s' ∧ Q r st'
noncomputable def PB (o : Wo) (st : St) (s : Shared) (Q : Bool → St → Prop) : Bool → Shared → Prop := fun b s' => ∃ st', Step o.P noF st s st' s' ∧ Q b st'
noncomputable def PVs (o : Wo) (st : St) (s : Shared) (Q : List V → St → Prop) : List Value → Shared → Prop := fun v s' => ∃ r st', VRs s'.heap r v ∧ Step o.P noF st s st' s' ∧ Q r st'
noncomputable def PXg (o : Wo) (F : Addr → Prop) (G : Heap → Prop) (fl : Option Addr) (st : St) (s : Shared) (X : Exc → St → Prop) : Value → Shared → Prop := fun ev s' => ∃ x st' e, ev = .ref e ∧ Flying o.P fl st' s.heap s'.heap x e ∧ Step o.P F st s st' s' ∧ G s'.heap ∧ X x st'
abbrev PX (o : Wo) (F : Addr → Prop) (st : St) (s : Shared) (X : Exc → St → Prop) : Value → Shared → Prop := PXg o F (fun _ => True) none st s X

section
variable {o : Wo} {F : Addr → Prop} {st st₁ : St} {s s₁ s' : Shared}
theorem none_of_mono {F : Addr → Prop} (x : Step o.P F st s st₁ s₁) {a : Addr} (h : s₁.heap.get? a = none) : s.heap.get? a = none := by
  cases q : s.heap.get? a with
  | none => rfl
  | some o => have := x.mono a (by rw [q]; rfl); rw [h] at this; cases this
theorem PV.trans {Q : V → St → Prop} {v : Value} (x : Step o.P noF st s st₁ s₁) (h : PV o st₁ s₁ Q v s') : PV o st s Q v s' :=
  let ⟨r, st', a, b, c⟩ := h; ⟨r, st', a, x.trans b, c⟩
theorem PB.trans {Q : Bool → St → Prop} {v : Bool} (x : Step o.P noF st s st₁ s₁) (h : PB o st₁ s₁ Q v s') : PB o st s Q v s' :=
  let ⟨st', b, c⟩ := h; ⟨st', x.trans b, c⟩
theorem PXg.trans {fl : Option Addr} {G : Heap → Prop} {X : Exc → St → Prop} {v : Value} (x : Step o.P F st s st₁ s₁) (h : PXg o F G fl st₁ s₁ X v s') : PXg o F G fl st s X v s' := by
  obtain ⟨y, st', e, a, ⟨dx, oe, vs, a0, es, n, b1, b2, b3, b4, b5, b6, b7, b8, b9, b10, b11⟩, c, g, d⟩ := h
  refine ⟨y, st', e, a, ⟨dx, oe, vs, a0, es, n, b1, b2, b3, b4, b5, b6, b7, none_of_mono x b8, none_of_mono x b9, b10, ?_⟩, x.trans c, g, d⟩
  rcases b11 with q | ⟨T, oT, ts, c1, c2, c3, c4⟩
  · exact .inl q
  · exact .inr ⟨T, oT, ts, c1, c2, none_of_mono x c3, c4⟩
theorem PXg.drop {fl : Option Addr} {G : Heap → Prop} {X : Exc → St → Prop} {v : Value} (h : PXg o F G fl st s X v s') : PXg o F (fun _ => True) fl st s X v s' :=
  let ⟨y, st', e, a, b, c, g, d⟩ := h; ⟨y, st', e, a, b, c, trivial, d⟩
theorem PV.mono {Q Q' : V → St → Prop} {v : Value} (h : PV o st s Q v s') (q : ∀ r st', Q r st' → Q' r st') : PV o st s Q' v s' :=
  let ⟨r, st', a, b, c⟩ := h; ⟨r, st', a, b, q _ _ c⟩
theorem PXg.mono {fl : Option Addr} {G : Heap → Prop} {X X' : Exc → St → Prop} {v : Value} (h : PXg o F G fl st s X v s') (q : ∀ r st', X r st' → X' r st') : PXg o F G fl st s X' v s' :=
  let ⟨y, st', e, a, b, c, g, d⟩ := h; ⟨y, st', e, a, b, c, g, q _ _ d⟩
end

/-! the triples -/
noncomputable def EV (o : Wo) (c : Cx) (loc : LocF) (st : St) (e : Expr) (Q : V → St → Prop) (X : Exc → St → Prop) : Prop :=
  ∀ s, Inv o c loc st s → wpAny o.M c.k.A (eval e c.env) (PV o st s Q) (PX o noF st s X) s
noncomputable def EVs (o : Wo) (c : Cx) (loc : LocF) (st : St) (pos : Pos) (es : List Expr) (Q : List V → St → Prop) (X : Exc → St → Prop) : Prop :=
  ∀ s, Inv o c loc st s → wpAny o.M c.k.A (spliced (backTo pos (starEach es c.env))) (PVs o st s Q) (PX o noF st s X) s
noncomputable def TR (o : Wo) (c : Cx) (loc : LocF) (st : St) (e : Expr) (Q : Bool → St → Prop) (X : Exc → St → Prop) : Prop :=
  ∀ s, Inv o c loc st s → wpAny o.M c.k.A (isTrue e c.env (eval e c.env)) (PB o st s Q) (PX o noF st s X) s
noncomputable def OPB (o : Wo) (k : Kx) (st : St) (op : Operator) (a b : V) (Q : V → St → Prop) (X : Exc → St → Prop) : Prop :=
  ∀ s va vb, SI o k st s → VR s.heap a va → VR s.heap b vb → wpAny o.M k.A (binaryOp op va vb) (PV o st s Q) (PX o noF st s X) s
noncomputable def OPI (o : Wo) (k : Kx) (st : St) (op : Operator) (a b : V) (Q : V → St → Prop) (X : Exc → St → Prop) : Prop :=
  ∀ s va vb, SI o k st s → VR s.heap a va → VR s.heap b vb → wpAny o.M k.A (inplaceOp op va vb) (PV o st s Q) (PX o noF st s X) s
noncomputable def OPU (o : Wo) (k : Kx) (st : St) (op : UnaryOp) (a : V) (Q : V → St → Prop) (X : Exc → St → Prop) : Prop :=
  ∀ s va, SI o k st s → VR s.heap a va → wpAny o.M k.A (unaryOp op va) (PV o st s Q) (PX o noF st s X) s
noncomputable def CMP (o : Wo) (k : Kx) (st : St) (op : CmpOp) (a b : V) (Q : V → St → Prop) (X : Exc → St → Prop) : Prop :=
  ∀ s va vb, SI o k st s → VR s.heap a va → VR s.heap b vb → wpAny o.M k.A (compareOp op va vb) (PV o st s Q) (PX o noF st s X) s
noncomputable def TRV (o : Wo) (k : Kx) (st : St) (a : V) (Q : Bool → St → Prop) (X : Exc → St → Prop) : Prop :=
  ∀ s va, SI o k st s → VR s.heap a va → wpAny o.M k.A (truthy va) (PB o st s Q) (PX o noF st s X) s
noncomputable def CALL (o : Wo) (k : Kx) (st : St) (f : Value) (as : List V) (Q : V → St → Prop) (X : Exc → St → Prop) : Prop :=
  ∀ s vs, SI o k st s → VRs s.heap as vs → wpAny o.M k.A (call f vs []) (PV o st s Q) (PX o noF st s X) s

noncomputable def RV (o : Wo) (st : St) (s : Shared) (Q : V → St → Prop) (X : Exc → St → Prop) : Result → Shared → Prop := fun r s' => match r with
  | .ok (.ret v) => PV o st s Q v s'
  | .ok _ => False
  | .error e => PX o noF st s X e s'
/-- a call, as code -/
noncomputable def CALLC (o : Wo) (k : Kx) (st : St) (f : Value) (as : List V) (Q : V → St → Prop) (X : Exc → St → Prop) : Prop :=
  ∀ s vs, SI o k st s → VRs s.heap as vs → codeAny o.M k.A (.call f ⟨vs, []⟩) (RV o st s Q X) s
theorem CALLC.call {o : Wo} {k : Kx} {st : St} {f : Value} {as : List V} {Q : V → St → Prop} {X : Exc → St → Prop} (h : CALLC o k st f as Q X) : CALL o k st f as Q X := fun s vs S r => wpAny_call (h s vs S r)

section
variable {o : Wo} [W : WoOk o] {c : Cx} {k : Kx} {loc : LocF} {st : St} {Q : V → St → Prop} {X : Exc → St → Prop}

theorem ev_name {x : Str} {pos : Pos} {v : V} (hx : loc x = some v) (hd : (x == ("__debug__" : Str)) = false) (h : Q v st) : EV o c loc st (.Name x pos) Q X := fun s I => by
  obtain ⟨m, hm, q⟩ := I.lc.ns
  have fin : ∀ u, VR s.heap v u → PV o st s Q u s := fun u r => ⟨v, st, r, Step.refl I.si.hs, h⟩
  rcases q x v hx with ⟨hl, u, hu, r⟩ | ⟨hl, hn, a, u, ha, hc, r⟩
  · exact wpAny_Name (wpAny_loadName_local I.cx.kind hl hm hu (fin u r)) hd
  · rcases hl with hl | hl
    · exact wpAny_Name (wpAny_loadName_cell I.cx.kind hl ha hc (fin u r)) hd
    · exact wpAny_Name (wpAny_loadName_free I.cx.kind hl ha hc (fin u r) hn) hd

theorem ev_glob {x : Str} {pos : Pos} {v : Value} (hk : c.env.kindOf x = some .globalImplicit) (hx : o.mg x = some v) (hd : (x == ("__debug__" : Str)) = false) (h : Q (.raw v) st) :
    EV o c loc st (.Name x pos) Q X := fun s I =>
  Name_function_global I.cx.kind hk (loadGlobal_global (by rw [I.cx.glob]; exact I.si.wd.g) hx ⟨.raw v, st, .raw v, Step.refl I.si.hs, h⟩) hd
theorem ev_blt {x : Str} {pos : Pos} {v : Value} (hk : c.env.kindOf x = some .globalImplicit) (hx : o.mg x = none) (hv : bootBuiltins x = some v) (hn : x ≠ "__name__") (hd : (x == ("__debug__" : Str)) = false) (h : Q (.raw v) st) :
    EV o c loc st (.Name x pos) Q X := fun s I =>
  Name_function_global I.cx.kind hk (loadGlobal_builtin (by rw [I.cx.glob]; exact I.si.wd.g) hx (by rw [I.cx.blt]; exact I.si.wd.b) ((I.si.wd.bi x hn).trans hv) ⟨.raw v, st, .raw v, Step.refl I.si.hs, h⟩) hd

theorem ev_int {i : Int} {k : Nat} {pos : Pos} (h : Q (.int i) st) : EV o c loc st (.Constant (.int i) k pos) Q X := fun s I =>
  wpAny_Constant_int ⟨.int i, st, .int _ _, Step.toks I.si.hs _, h⟩
theorem ev_str {x : Str} {k : Nat} {pos : Pos} (h : Q (.str x) st) : EV o c loc st (.Constant (.str x) k pos) Q X := fun s I =>
  Constant_str ⟨.str x, st, .str _ _, Step.toks I.si.hs _, h⟩
theorem ev_bool {b : Bool} {k : Nat} {pos : Pos} (h : Q (.bool b) st) : EV o c loc st (.Constant (.bool b) k pos) Q X := fun s I =>
  show wpAny _ _ (pure (Value.bool b)) _ _ s from wpAny_pure ⟨.bool b, st, .bool _, Step.refl I.si.hs, h⟩
theorem ev_none {k : Nat} {pos : Pos} (h : Q .none st) : EV o c loc st (.Constant .none k pos) Q X := fun s I =>
  show wpAny _ _ (pure Value.none) _ _ s from wpAny_pure ⟨.none, st, .none, Step.refl I.si.hs, h⟩

theorem ev_bin {l r : Expr} {op : Operator} {pos : Pos} (h : EV o c loc st l (fun a st₁ => EV o c loc st₁ r (fun b st₂ => OPB o c.k st₂ op a b Q X) X) X) : EV o c loc st (.BinOp l op r pos) Q X := fun s I => by
  refine wpAny_BinOp (wpAny_mono (h s I) (fun va s₁ p => ?_) fun _ _ p => p)
  obtain ⟨a, st₁, ra, S₁, q₁⟩ := p
  have I₁ := I.step S₁
  refine wpAny_mono (q₁ s₁ I₁) (fun vb s₂ p => ?_) fun _ _ p => p.trans S₁
  obtain ⟨b, st₂, rb, S₂, q₂⟩ := p
  have I₂ := I₁.step S₂
  exact wpAny_mono (q₂ s₂ va vb I₂.si (ra.keep I₁.si.hs S₂.kp) rb) (fun _ _ p => p.trans (S₁.trans S₂)) fun _ _ p => p.trans (S₁.trans S₂)
end
end NN
end

-- part: NN4
section
open PySem PySem.W PyProof.Rows PySem.Calls
set_option maxRecDepth 100000
set_option linter.all false
namespace NN

/-! heap steps -/
section
variable {P : Params} {F : Addr → Prop} {st : St} {s : Shared} {h : Heap}
theorem Kp.push (ob : Obj) : Kp st h (h.push ob) := fun b o _ ho => ⟨o, Heap.get?_push_of_some _ ho, .refl o⟩
theorem Holds.push (H : Holds P st h) (ob : Obj) : Holds P st (h.push ob) := fun a m e => by
  obtain ⟨o, ho, hm⟩ := H a m e
  exact ⟨o, Heap.get?_push_of_some _ ho, hm.keep H (Kp.push ob)⟩
theorem Step.push (H : Holds P st s.heap) (ob : Obj) (t : Nat) : Step P F st s st { s with heap := s.heap.push ob, toks := t } where
  holds := H.push ob
  sub _ h := .inl h
  ext b o _ _ ho := ⟨o, Heap.get?_push_of_some _ ho, .refl o⟩
  own b o _ _ ho := ⟨o, Heap.get?_push_of_some _ ho, .refl o⟩
  mono b h := by
    obtain ⟨o, ho⟩ := Option.isSome_iff_exists.mp h
    rw [show ({ s with heap := s.heap.push ob, toks := t } : Shared).heap = s.heap.push ob from rfl, Heap.get?_push_of_some _ ho]; rfl
  gens := rfl
  os := rfl
theorem size_none (H : Holds P st h) : st h.objs.size = none := by
  cases q : st h.objs.size with
  | none => rfl
  | some m => obtain ⟨o, ho, _⟩ := H _ m q; exact absurd (Heap.lt_size ho) (Nat.lt_irrefl _)
theorem Step.alloc (H : Holds P st s.heap) (ob : Obj) (m : MO) (hf : ob.isFreed = false) (hm : MOR P s.heap m ob) (t : Nat) :
    Step P F st s (st.set s.heap.objs.size m) { s with heap := s.heap.push ob, toks := t } where
  holds := fun a m' e => by
    unfold St.set at e
    split at e
    · rename_i q; cases e; subst q
      exact ⟨ob, Heap.get?_push_size _ hf, hm.keep H (Kp.push ob)⟩
    · exact (H.push ob) a m' e
  sub a e := by
    unfold St.set at e
    split at e
    · rename_i q; subst q; exact .inr (Heap.get?_none_of_le (Nat.le_refl _))
    · exact .inl e
  ext b o _ _ ho := ⟨o, Heap.get?_push_of_some _ ho, .refl o⟩
  own b o _ _ ho := ⟨o, Heap.get?_push_of_some _ ho, .refl o⟩
  mono b h := by
    obtain ⟨o, ho⟩ := Option.isSome_iff_exists.mp h
    rw [show ({ s with heap := s.heap.push ob, toks := t } : Shared).heap = s.heap.push ob from rfl, Heap.get?_push_of_some _ ho]; rfl
  gens := rfl
  os := rfl

/-- an object of the state changed -/
theorem Step.upd {a : Addr} {m : MO} {ob : Obj} {h' : Heap} (H : Holds P st s.heap) (ha : st a ≠ none) (hs : Heap.SameBut a s.heap h') (ho : h'.get? a = some ob) (hm : ∀ hh, Kp st s.heap hh → MOR P hh m ob) (t : Nat) :
    Step P F st s (st.set a m) { s with heap := h', toks := t } := by
  have K : Kp st s.heap h' := fun b o hb hob => ⟨o, (hs.2 b (by intro q; subst q; exact ha hb)).trans hob, .refl o⟩
  refine ⟨fun b m' e => ?_, fun b e => ?_, fun b o _ hb hob => K b o hb hob, fun b o _ hb hob => let ⟨o', h, k⟩ := K b o hb hob; ⟨o', h, k.oo⟩, fun b e => ?_, rfl, rfl⟩
  · unfold St.set at e
    split at e
    · rename_i q; cases e; subst q
      exact ⟨ob, ho, hm _ K⟩
    · rename_i q
      obtain ⟨o, h1, h2⟩ := H b m' e
      exact ⟨o, (hs.2 b q).trans h1, h2.keep H K⟩
  · unfold St.set at e
    split at e
    · rename_i q; subst q; exact .inl ha
    · exact .inl e
  · by_cases q : b = a
    · subst q; rw [show ({ s with heap := h', toks := t } : Shared).heap = h' from rfl, ho]; rfl
    · rw [show ({ s with heap := h', toks := t } : Shared).heap = h' from rfl, hs.2 b q]; exact e
end

section
variable {o : Wo} {k : Kx} {st : St} {Q : V → St → Prop} {X : Exc → St → Prop}

theorem pv_toks {s : Shared} {v : V} {u : Value} {t : Nat} (S : SI o k st s) (r : VR s.heap v u) (h : Q v st) : PV o st s Q u { s with toks := t } := ⟨v, st, r, Step.toks S.hs _, h⟩
theorem pv_here {s : Shared} {v : V} {u : Value} (S : SI o k st s) (r : VR s.heap v u) (h : Q v st) : PV o st s Q u s := ⟨v, st, r, Step.refl S.hs, h⟩

/-! ints -/
section
variable {i j : Int}
theorem opb_add (h : Q (.int (i + j)) st) : OPB o k st .Add (.int i) (.int j) Q X := fun s va vb S ra rb => by cases ra; cases rb; exact add_int (pv_toks S (.int _ _) h)
theorem opb_sub (h : Q (.int (i - j)) st) : OPB o k st .Sub (.int i) (.int j) Q X := fun s va vb S ra rb => by cases ra; cases rb; exact sub_int (pv_toks S (.int _ _) h)
theorem opb_mul (hm : IntMulOk i j) (h : Q (.int (i * j)) st) : OPB o k st .Mult (.int i) (.int j) Q X := fun s va vb S ra rb => by cases ra; cases rb; exact mul_int (pv_toks S (.int _ _) h) hm
theorem opb_fdiv (hj : j ≠ 0) (hs : j.natAbs.log2 < 9000) (h : Q (.int (i.fdiv j)) st) : OPB o k st .FloorDiv (.int i) (.int j) Q X := fun s va vb S ra rb => by
  cases ra; cases rb; exact floordiv_int hj (pv_toks S (.int _ _) h) (.inl (PyProof.noPylong_of_log2 hs))
theorem opb_mod (hj : j ≠ 0) (h : Q (.int (i.fmod j)) st) : OPB o k st .Mod (.int i) (.int j) Q X := fun s va vb S ra rb => by cases ra; cases rb; exact mod_int' hj (pv_toks S (.int _ _) h)
theorem opb_pow (hj : 0 ≤ j) (hs : (Builtin.Int.intBits i : Int) * j ≤ 2 ^ 27) (h : Q (.int (i ^ j.toNat)) st) : OPB o k st .Pow (.int i) (.int j) Q X := fun s va vb S ra rb => by
  cases ra; cases rb; exact pow_int hj hs (pv_toks S (.int _ _) h)
theorem opb_shl (hj : 0 ≤ j) (hs : (Builtin.Int.intBits i : Int) + j ≤ 2 ^ 27) (h : Q (.int (i * 2 ^ j.toNat)) st) : OPB o k st .LShift (.int i) (.int j) Q X := fun s va vb S ra rb => by
  cases ra; cases rb; exact lshift_int hj hs (pv_toks S (.int _ _) h)
theorem opb_and (h : Q (.int (Builtin.bitAnd i j)) st) : OPB o k st .BitAnd (.int i) (.int j) Q X := fun s va vb S ra rb => by cases ra; cases rb; exact and_int (pv_toks S (.int _ _) h)
theorem opi_add (h : Q (.int (i + j)) st) : OPI o k st .Add (.int i) (.int j) Q X := fun s va vb S ra rb => by cases ra; cases rb; exact iadd_int (pv_toks S (.int _ _) h)
theorem opu_neg (h : Q (.int (-i)) st) : OPU o k st .USub (.int i) Q X := fun s va S ra => by cases ra; exact PyProof.Rows.neg_int (pv_toks S (.int _ _) h)
theorem cmp_lt (h : Q (.bool (decide (i < j))) st) : CMP o k st .Lt (.int i) (.int j) Q X := fun s va vb S ra rb => by cases ra; cases rb; exact lt_int (pv_here S (.bool _) h)
theorem cmp_le (h : Q (.bool (decide (i ≤ j))) st) : CMP o k st .LtE (.int i) (.int j) Q X := fun s va vb S ra rb => by cases ra; cases rb; exact le_int (pv_here S (.bool _) h)
theorem cmp_gt (h : Q (.bool (decide (j < i))) st) : CMP o k st .Gt (.int i) (.int j) Q X := fun s va vb S ra rb => by cases ra; cases rb; exact gt_int (pv_here S (.bool _) h)
theorem cmp_ge (h : Q (.bool (decide (j ≤ i))) st) : CMP o k st .GtE (.int i) (.int j) Q X := fun s va vb S ra rb => by cases ra; cases rb; exact ge_int (pv_here S (.bool _) h)
theorem cmp_eq_int (h : Q (.bool (i == j)) st) : CMP o k st .Eq (.int i) (.int j) Q X := fun s va vb S ra rb => by cases ra; cases rb; exact eq_int (pv_here S (.bool _) h)
theorem cmp_ne_int (h : Q (.bool (i != j)) st) : CMP o k st .NotEq (.int i) (.int j) Q X := fun s va vb S ra rb => by cases ra; cases rb; exact ne_int (pv_here S (.bool _) h)
end
theorem cmp_eq_str {x y : Str} (h : Q (.bool (x == y)) st) : CMP o k st .Eq (.str x) (.str y) Q X := fun s va vb S ra rb => by cases ra; cases rb; exact eq_str (pv_here S (.bool _) h)
theorem cmp_ne_str {x y : Str} (h : Q (.bool (x != y)) st) : CMP o k st .NotEq (.str x) (.str y) Q X := fun s va vb S ra rb => by cases ra; cases rb; exact ne_str (pv_here S (.bool _) h)

noncomputable def V.isNone : V → Bool | .none => true | .raw .none => true | _ => false
theorem VR.isNone {h : Heap} {a : V} {v : Value} (r : VR h a v) : (v == Value.none) = a.isNone := by
  cases r <;> first | rfl | (cases v <;> rfl)
theorem cmp_is_none {a : V} (h : Q (.bool a.isNone) st) : CMP o k st .Is a .none Q X := fun s va vb S ra rb => by
  cases rb; exact PySem.is_none (pv_here S (by rw [ra.isNone]; exact .bool _) h)
theorem cmp_isnot_none {a : V} (h : Q (.bool (!a.isNone)) st) : CMP o k st .IsNot a .none Q X := fun s va vb S ra rb => by
  cases rb; exact PySem.isNot_none (pv_here S (by rw [ra.isNone]; exact .bool _) h)

/-! data -/
mutual
noncomputable def V.py : V → Option PyData
  | .none => some .none
  | .bool b => some (.bool b)
  | .int i => some (.int i)
  | .str x => some (.str x)
  | .tup vs => (V.pys vs).map .tuple
  | .ptr _ | .obj .. | .rng .. | .raw _ => Option.none
noncomputable def V.pys : List V → Option (List PyData)
  | [] => some []
  | x :: xs => match V.py x, V.pys xs with
    | some d, some ds => some (d :: ds)
    | _, _ => Option.none
end
mutual
theorem VR.reads {h : Heap} : ∀ {a : V} {v : Value} {d : PyData}, VR h a v → a.py = some d → ∃ as, Reads h v d as
  | _, _, _, .none, e => by simp [V.py] at e; subst e; exact ⟨_, .none⟩
  | _, _, _, .bool b, e => by simp [V.py] at e; subst e; exact ⟨_, .bool b⟩
  | _, _, _, .int i t, e => by simp [V.py] at e; subst e; exact ⟨_, .int i t⟩
  | _, _, _, .str x t, e => by simp [V.py] at e; subst e; exact ⟨_, .str x t⟩
  | _, _, _, .tup ht r, e => by
    simp only [V.py, Option.map_eq_some_iff] at e
    obtain ⟨ds, hds, rfl⟩ := e
    obtain ⟨as, ra⟩ := VRs.reads r hds
    exact ⟨as, .tuple ht rfl rfl (by simpa using ra)⟩
  | _, _, _, .ptr a, e => by simp [V.py] at e
  | _, _, _, .obj .., e => by simp [V.py] at e
  | _, _, _, .rng .., e => by simp [V.py] at e
  | _, _, _, .raw v, e => by simp [V.py] at e
theorem VRs.reads {h : Heap} : ∀ {xs : List V} {vs : List Value} {ds : List PyData}, VRs h xs vs → V.pys xs = some ds → ∃ as, ReadsAll h vs ds as
  | _, _, _, .nil, e => by simp [V.pys] at e; subst e; exact ⟨_, .nil⟩
  | x :: xs, _, _, .cons a r, e => by
    unfold V.pys at e
    split at e
    · rename_i d ds h1 h2
      cases e
      obtain ⟨as, ra⟩ := VR.reads a h1
      obtain ⟨bs, rb⟩ := VRs.reads r h2
      exact ⟨_, .cons ra rb⟩
    · cases e
end
theorem units_room {k : Kx} (h : KxOk k) {n : Nat} (hn : n ≤ 30) : k.A.units + n < cLine := by have := h.units; omega
theorem cmp_ne {a b : V} {da db : PyData} (ha : a.py = some da) (hb : b.py = some db) (la : da.canLay0 = true) (lb : db.canLay0 = true) (hd : min da.depth db.depth ≤ 30) (h : Q (.bool (!PyData.eqv da db)) st) :
    CMP o k st .NotEq a b Q X := fun s va vb S ra rb => by
  obtain ⟨_, r1⟩ := ra.reads ha
  obtain ⟨_, r2⟩ := rb.reads hb
  exact SeqAt.compareNe_reads r1 r2 la lb (units_room S.ok hd) (pv_here S (.bool _) h)

/-! tuples and lists -/
theorem opb_add_tup {xs ys : List V} (hz : xs.length + ys.length ≤ sizeLine) (h : Q (.tup (xs ++ ys)) st) : OPB o k st .Add (.tup xs) (.tup ys) Q X := fun s va vb S ra rb => by
  cases ra with
  | tup ht r1 =>
  cases rb with
  | tup hb r2 =>
  rename_i ws a n us b m
  have l1 := r1.length
  have l2 := r2.length
  by_cases hv : xs = []
  · subst hv
    cases r1
    exact concat_meets ⟨_, ht, rfl⟩ ⟨_, hb, rfl⟩ noFill_tuple_add seq_tuple_add PySem.F.slot_tuple_add PySem.F.entry_tuple_add (PySem.F.args_tuple_add_2 _ _)
      (tuple_addW0 a b _ _ n m none none #[] #[] (by simp)) ⟨ht, hb, pv_here S (.tup hb r2) (by simpa using h)⟩
  · by_cases hw : ys = []
    · subst hw
      cases r2
      exact concat_meets ⟨_, ht, rfl⟩ ⟨_, hb, rfl⟩ noFill_tuple_add seq_tuple_add PySem.F.slot_tuple_add PySem.F.entry_tuple_add (PySem.F.args_tuple_add_2 _ _)
        (tuple_addW1 a b _ _ n m none none #[] #[] (by cases r1 <;> simp at hv ⊢) (by simp)) ⟨ht, hb, pv_here S (.tup ht r1) (by simpa using h)⟩
    · refine concat_meets ⟨_, ht, rfl⟩ ⟨_, hb, rfl⟩ noFill_tuple_add seq_tuple_add PySem.F.slot_tuple_add PySem.F.entry_tuple_add (PySem.F.args_tuple_add_2 _ _)
        (tuple_addW2 a b _ _ n m none none #[] #[] (by cases r1 <;> simp at hv ⊢) (by cases r2 <;> simp at hw ⊢) (by rw [List.size_toArray, List.size_toArray, ← l1, ← l2]; exact hz)) ⟨ht, hb, ?_⟩
      rw [show ws.toArray ++ us.toArray = (ws ++ us).toArray by simp]
      exact ⟨.tup (xs ++ ys), st, .tup (IsT.new _ _) ((r1.append r2).keep S.hs (Kp.push _)), Step.push S.hs _ s.toks, h⟩
end
end NN
end

-- part: NN5
section
open PySem PySem.W PyProof.Rows PySem.Calls
set_option maxRecDepth 100000
set_option linter.all false
namespace NN

section
open Sem (wp wp_bind' wp_cmd_ask wp_pure' wp_cmd_mkText wp_loadPart_of wp_cmd_updatePart)
theorem wp_nsSetC (M : Model) (Γ : Ctx) (E : Value → Pos → Shared → Prop) (p : Pos) (s : Shared) {a : Addr} {m : Str → Option Value} (hn : s.heap.Ns a m) (name : Str) (v : Value) (Q : Unit → Pos → Shared → Prop)
    (hQ : ∀ h', h'.Ns a (fun x => if x = name then some v else m x) → Heap.SameBut a s.heap h' → (∀ ob, s.heap.get? a = some ob → ∃ ob', h'.get? a = some ob' ∧ OO ob ob') →
      Q () p { s with heap := h', toks := s.toks + 1 }) : wp M Γ (nsSet a name v) Q E p s := by
  have hn' := hn
  obtain ⟨o, es, ep, ho, hd, hk, hm⟩ := hn
  have key := Sem.wp_nsSet M Γ E p s hn' name v (fun _ p' s' => ∀ hC : (∀ ob, s.heap.get? a = some ob → ∃ ob', s'.heap.get? a = some ob' ∧ OO ob ob'), Q () p' s') (fun h' h1 h2 hC => hQ h' h1 h2 hC)
  simp only [nsSet, strHash, wp_bind', wp_cmd_ask, wp_pure', wp_cmd_mkText] at key ⊢
  rw [wp_loadPart_of M Γ E p { s with toks := s.toks + 1 } (o := o) _ ho] at key ⊢
  have hany : es.any (·.refKey) = false := by
    rw [Array.any_eq_false']; intro e he; obtain ⟨n, t, h⟩ := hk e he; simp [DictEntry.refKey, h]
  simp only [hd, aRefKeyMayBeTheName_eq, aRefKeyMayBeTheNameByArray, hany, Bool.and_false, Bool.false_eq_true, if_false, wp_cmd_updatePart] at key ⊢
  refine ⟨key.1, key.2 ?_⟩
  intro ob hob
  rw [ho] at hob; cases hob
  have hd' : ∃ es' ep', (Obj.putName name (PyData.keyHash M.w.params name) (.str name s.toks) v o).data = .dict es' ep' ∧ (Obj.putName name (PyData.keyHash M.w.params name) (.str name s.toks) v o).cls = o.cls := by
    obtain ⟨c, d, dt, sl⟩ := o
    subst hd
    cases hi : es.findIdx? (·.key.isStr name) with
    | some i => exact ⟨_, _, (by simp only [Obj.putName_eq, Obj.putNameByArray, hi] <;> rfl), by simp only [Obj.putName_eq, Obj.putNameByArray, hi]⟩
    | none => exact ⟨_, _, (by simp only [Obj.putName_eq, Obj.putNameByArray, hi] <;> rfl), by simp only [Obj.putName_eq, Obj.putNameByArray, hi]⟩
  obtain ⟨es', ep', e1, e2⟩ := hd'
  refine ⟨_, Heap.get?_update_self _ ho (Obj.isFreed_of_dict e1), e2, fun _ => ⟨_, _, e1⟩, fun ⟨v, q⟩ => ?_⟩
  rw [hd] at q; cases q
end
theorem wpAny_nsSetC {M : Model} {A : Around} {E : Value → Shared → Prop} {s : Shared} {a : Addr} {m : Str → Option Value} {name : Str} {v : Value} {Q : Unit → Shared → Prop} (hn : s.heap.Ns a m)
    (h : ∀ h', h'.Ns a (fun x => if x = name then some v else m x) → Heap.SameBut a s.heap h' → (∀ ob, s.heap.get? a = some ob → ∃ ob', h'.get? a = some ob' ∧ OO ob ob') → Q () { s with heap := h', toks := s.toks + 1 }) :
    wpAny M A (nsSet a name v) Q E s := fun Γ p _ => wp_nsSetC M Γ _ p s hn name v _ h

theorem wpAny_cellSetC {M : Model} {A : Around} {E : Value → Shared → Prop} {s : Shared} {c : Addr} {v₀ v : Option Value} {Q : Unit → Shared → Prop} (hc : s.heap.IsCell c v₀)
    (h : ∀ h', h'.IsCell c v → Heap.SameBut c s.heap h' → (∀ ob, s.heap.get? c = some ob → ∃ ob', h'.get? c = some ob' ∧ OO ob ob') → Q () { s with heap := h' }) : wpAny M A (cellSet c v) Q E s := by
  obtain ⟨o, ho, hd⟩ := hc
  unfold cellSet
  refine wpAny_bind (wpAny_load ho ?_)
  rw [hd]
  refine wpAny_update ho (h _ ⟨{ o with data := .cell v }, Heap.get?_update_self _ ho rfl, rfl⟩ (Heap.SameBut.update ..) fun ob hob => ?_)
  rw [ho] at hob; cases hob
  exact ⟨{ o with data := .cell v }, Heap.get?_update_self _ ho rfl, rfl, fun ⟨_, _, q⟩ => by (rw [hd] at q; cases q), fun _ => ⟨_, rfl⟩⟩

/-! flows -/
inductive Fl where
  | next | brk | cont
  | ret (v : V)
inductive FlR (h : Heap) : Fl → Flow → Prop
  | next : FlR h .next .next
  | brk : FlR h .brk .brk
  | cont : FlR h .cont .cont
  | ret {v u} : VR h v u → FlR h (.ret v) (.ret u)

noncomputable def PF (o : Wo) (c : Cx) (st : St) (s : Shared) (Q : Fl → LocF → St → Prop) : Flow → Shared → Prop := fun f s' =>
  ∃ fl loc' st', FlR s'.heap fl f ∧ Step o.P (own c) st s st' s' ∧ LocR c.env loc' s'.heap ∧ Q fl loc' st'
noncomputable def PU (o : Wo) (c : Cx) (st : St) (s : Shared) (Q : LocF → St → Prop) : Unit → Shared → Prop := fun _ s' =>
  ∃ loc' st', Step o.P (own c) st s st' s' ∧ LocR c.env loc' s'.heap ∧ Q loc' st'

/-- what a statement's exception leaves -/
abbrev PXO (o : Wo) (c : Cx) (st : St) (s : Shared) (X : Exc → St → Prop) : Value → Shared → Prop := PXg o (own c) (LocR c.env LocF.nil) (some c.env.locals) st s X

noncomputable def EX (o : Wo) (c : Cx) (loc : LocF) (st : St) (e : Stmt) (Q : Fl → LocF → St → Prop) (X : Exc → St → Prop) : Prop :=
  ∀ s, Inv o c loc st s → wpAny o.M c.k.A (exec e c.env) (PF o c st s Q) (PXO o c st s X) s
noncomputable def EXS (o : Wo) (c : Cx) (loc : LocF) (st : St) (es : List Stmt) (Q : Fl → LocF → St → Prop) (X : Exc → St → Prop) : Prop :=
  ∀ s, Inv o c loc st s → wpAny o.M c.k.A (execs es c.env) (PF o c st s Q) (PXO o c st s X) s
/-- a store into a target -/
noncomputable def ASG (o : Wo) (c : Cx) (loc : LocF) (st : St) (t : Expr) (v : V) (Q : LocF → St → Prop) (X : Exc → St → Prop) : Prop :=
  ∀ s u, Inv o c loc st s → VR s.heap v u → wpAny o.M c.k.A (assign t c.env u) (PU o c st s Q) (PXO o c st s X) s

section
variable {o : Wo} {c : Cx} {st st₁ : St} {s s₁ s' : Shared}
theorem PF.trans {Q : Fl → LocF → St → Prop} {f : Flow} (x : Step o.P (own c) st s st₁ s₁) (h : PF o c st₁ s₁ Q f s') : PF o c st s Q f s' :=
  let ⟨fl, l, st', a, b, d, e⟩ := h; ⟨fl, l, st', a, x.trans b, d, e⟩
theorem PU.trans {Q : LocF → St → Prop} {f : Unit} (x : Step o.P (own c) st s st₁ s₁) (h : PU o c st₁ s₁ Q f s') : PU o c st s Q f s' :=
  let ⟨l, st', b, d, e⟩ := h; ⟨l, st', x.trans b, d, e⟩
end

/-- a name that can be stored -/
noncomputable def storable (env : Env) (x : Str) : Bool := env.kindOf x == some .local || (env.kindOf x == some .cell && (env.cells.lookup x).isSome && !(x == ("__classdict__" : Str)))

theorem storeName_R {o : Wo} [WoOk o] {c : Cx} {A : Around} {loc : LocF} {st : St} {s : Shared} {x : Str} {v : V} {u : Value} {Q : Unit → Shared → Prop} {E : Value → Shared → Prop} (I : Inv o c loc st s) (r : VR s.heap v u) (hx : storable c.env x = true)
    (h : ∀ h' t, Step o.P (own c) st s st { s with heap := h', toks := t } → LocR c.env (loc.set x v) h' → Q () { s with heap := h', toks := t }) :
    wpAny o.M A (storeName c.env x u) Q E s := by
  -- what a change of one own object keeps
  have gen : ∀ (L : Addr) (h' : Heap), own c L → Heap.SameBut L s.heap h' → (∀ ob, s.heap.get? L = some ob → ∃ ob', h'.get? L = some ob' ∧ OO ob ob') → ∀ t, Step o.P (own c) st s st { s with heap := h', toks := t } := by
    intro L h' hL sb oo t
    have K : KpD (fun b => st b ≠ none ∨ own c b) s.heap h' := fun b ob hb hob => ⟨ob, (sb.2 b (by intro q; subst q; exact hb (.inr hL))).trans hob, .refl ob⟩
    refine ⟨fun a m e => ?_, fun a e => .inl e, fun b ob hf _ hob => ⟨ob, (sb.2 b (by intro q; subst q; exact hf hL)).trans hob, .refl ob⟩, fun b ob hf hst hob => ?_, fun b e => ?_, rfl, rfl⟩
    · obtain ⟨ob, h1, h2⟩ := I.si.hs a m e
      have : a ≠ L := by intro q; subst q; rw [I.ost a hL] at e; cases e
      exact ⟨ob, (sb.2 a this).trans h1, h2.keepD (DOk.own I) K⟩
    · by_cases q : b = L
      · subst q; exact oo ob hob
      · exact ⟨ob, (sb.2 b q).trans hob, .refl ob⟩
    · by_cases q : b = L
      · subst q
        obtain ⟨ob, hob⟩ := Option.isSome_iff_exists.mp e
        obtain ⟨ob', h1, _⟩ := oo ob hob
        show (h'.get? b).isSome = true
        rw [h1]; rfl
      · show (h'.get? b).isSome = true
        rw [sb.2 b q]; exact e
  obtain ⟨m, hm, q⟩ := I.lc.ns
  have apart := I.lc.apart
  have locne : ∀ (a : Addr) (w : Option Value), s.heap.IsCell a w → a ≠ c.env.locals := fun a w ⟨ob, h1, h2⟩ e => by
    subst e
    obtain ⟨ob', es, ep, h3, h4, _⟩ := hm
    rw [h1] at h3; cases h3; rw [h2] at h4; cases h4
  unfold storable at hx
  rcases Bool.or_eq_true_iff.mp hx with hl | hc
  · have hl : c.env.kindOf x = some .local := by simpa using hl
    rw [storeName_local hl (by rw [I.cx.kind]; rfl)]
    refine wpAny_nsSetC hm fun h' hn hs oo => ?_
    have S := gen _ h' (.inl rfl) hs oo (s.toks + 1)
    have keep : ∀ {a : V} {w : Value}, VR s.heap a w → VR h' a w := fun r => VR.stepF I S r
    refine h h' _ S ⟨⟨_, hn, fun y a e => ?_⟩, fun y a e => ?_, apart⟩
    · unfold LocF.set at e
      split at e
      · rename_i hy; cases e; subst hy
        exact .inl ⟨hl, u, by simp, keep r⟩
      · rename_i hy
        rcases q y a e with ⟨b1, w, b2, b3⟩ | ⟨b1, b2, d, w, b3, b4, b5⟩
        · exact .inl ⟨b1, w, by simp [hy, b2], keep b3⟩
        · exact .inr ⟨b1, b2, d, w, b3, b4.sameBut hs (locne d _ b4), keep b5⟩
    · obtain ⟨w, hw⟩ := I.lc.cells y a e
      exact ⟨w, hw.sameBut hs (locne a _ hw)⟩
  · simp only [Bool.and_eq_true, beq_iff_eq, Bool.not_eq_true'] at hc
    obtain ⟨⟨hl, hs⟩, hne⟩ := hc
    obtain ⟨a, ha⟩ := Option.isSome_iff_exists.mp hs
    obtain ⟨w0, hw0⟩ := I.lc.cells x a ha
    unfold storeName
    simp only [hl, I.cx.kind]
    refine wpAny_bind (wpAny_cellOf ha (wpAny_cellSetC hw0 fun h' hn hs oo => ?_))
    have hoa : own c a := .inr ⟨x, mem_of_lookup ha⟩
    have S := gen a h' hoa hs oo s.toks
    have keep : ∀ {a : V} {w : Value}, VR s.heap a w → VR h' a w := fun r => VR.stepF I S r
    have nea : c.env.locals ≠ a := fun e => locne a _ hw0 e.symm
    refine h h' s.toks S ⟨⟨m, hm.sameBut hs nea, fun y b e => ?_⟩, fun y b e => ?_, apart⟩
    · unfold LocF.set at e
      split at e
      · rename_i hy; cases e; subst hy
        exact .inr ⟨.inl hl, by simpa using hne, a, u, ha, hn, keep r⟩
      · rename_i hy
        rcases q y b e with ⟨b1, w, b2, b3⟩ | ⟨b1, b2, d, w, b3, b4, b5⟩
        · exact .inl ⟨b1, w, b2, keep b3⟩
        · refine .inr ⟨b1, b2, d, w, b3, b4.sameBut hs ?_, keep b5⟩
          intro e'; subst e'
          exact hy (name_of_addr apart (mem_of_lookup b3) (mem_of_lookup ha))
    · by_cases e' : b = a
      · subst e'; exact ⟨_, hn⟩
      · obtain ⟨w, hw⟩ := I.lc.cells y b e
        exact ⟨w, hw.sameBut hs e'⟩
end NN
end

-- part: NN6
section
open PySem PySem.W PyProof.Rows PySem.Calls
set_option maxRecDepth 100000
set_option linter.all false
namespace NN

theorem dict_mapFields (o : Obj) (f) : (o.mapFields f).dict = o.dict := by
  obtain ⟨c, d, dt, sl⟩ := o
  cases dt <;> rfl

/-- what a traceback entry's making leaves -/
structure Left (fr : List Addr) (s : Shared) (e L : Addr) (oe : Obj) (vs : Array Value) (h' : Heap) : Prop where
  ex : ∃ T oe' vs' oT ts, s.heap.get? T = none ∧ T ≠ e ∧ h'.get? T = some oT ∧ oT.data = .fields ts ∧ ts[3]? = some (rawInt L) ∧ h'.get? e = some oe' ∧ oe'.cls = oe.cls ∧ oe'.dict = oe.dict ∧
    oe'.data = .fields vs' ∧ vs'[0]? = vs[0]? ∧ vs'[1]? = some (.ref T) ∧ oT.cls = .type "traceback"
  sl : ∀ b o, b ≠ e → s.heap.get? b = some o → ∃ sl, h'.get? b = some { o with slots := sl }
  ks : ∀ b o, b ≠ e → b ∉ fr → s.heap.get? b = some o → h'.get? b = some o

section
variable {M : Model} {A : Around} {E : Value → Shared → Prop} {s : Shared} {env : Env} {outer : List Env} {L e : Addr} {oe : Obj} {vs : Array Value}
theorem newEntryR {head : Value} {hadNext : Bool} {Q : Unit → Shared → Prop} (hfr : A.frames = some (env :: outer)) (hl : s.heap.FunFrames {} (env :: outer)) (hf : env.frame = some L)
    (he : s.heap.get? e = some oe) (hd : oe.data = .fields vs) (hsz : 1 < vs.size)
    (h : ∀ h', Left ((env :: outer).filterMap (·.frame)) s e L oe vs h' → Q () { s with heap := h' }) :
    wpAny M A (do let a ← frameOf env; let pl ← entryPlaceOf L hadNext; let b ← EntryCells.newEntry head a .none (rawInt L) .none pl; setField (.ref e) 1 b)
      Q E s := by
  have ne : e ∉ (env :: outer).filterMap (·.frame) := fun hm => by
    obtain ⟨_, o, ho, hn⟩ := hl.mem hm
    rw [he] at ho; cases ho; exact hn vs hd
  refine wpAny_bind (wpAny_frameOf_fun hfr hl hf fun h₁ hs₁ => ?_)
  refine wpAny_bind (wpAny_entryPlaceOf fun pl hpl => ?_)
  unfold EntryCells.newEntry newFields
  refine wpAny_bind (wpAny_newObj_type ?_ (hpl.sizeOk5 _ _ _ _ _))
  generalize hto : ({ cls := Value.type "traceback", dict := none, data := Data.fields ([head, Value.ref L, Value.none, rawInt L, Value.none] ++ (if pl.isEmpty then List.replicate 6 Value.none else pl)).toArray } : Obj) = to
  have htd : ∃ t₀, to.data = .fields t₀ ∧ 3 < t₀.size := ⟨_, by rw [← hto], by simp only [List.size_toArray, List.length_append, List.length_cons, List.length_nil] <;> omega⟩
  obtain ⟨t₀, ht0, ht3⟩ := htd
  have htc : to.cls = .type "traceback" := by rw [← hto]
  have e1 : h₁.get? e = some oe := (hs₁.2.1 e ne).trans he
  have eT : h₁.objs.size ≠ e := Nat.ne_of_gt (Heap.lt_size e1)
  have e2 : (h₁.push to).get? e = some oe := Heap.get?_push_of_some _ e1
  have d3 := Obj.data_mapFields hd (·.setIfInBounds 1 (Value.ref h₁.objs.size))
  have e3 := Heap.get?_update_self (Obj.mapFields (·.setIfInBounds 1 (Value.ref h₁.objs.size))) e2 (Obj.isFreed_of_fields d3)
  have T2 : (h₁.push to).get? h₁.objs.size = some to := Heap.get?_push_size h₁ (Obj.isFreed_of_fields ht0)
  have T3 : ((h₁.push to).update e (Obj.mapFields (·.setIfInBounds 1 (Value.ref h₁.objs.size)))).get? h₁.objs.size = some to := (Heap.get?_update_other _ _ (Ne.symm eT)).trans T2
  refine wpAny_setField e2 hd hsz (h _ ?_)
  have keep : ∀ b o, b ≠ e → h₁.get? b = some o → (((h₁.push to).update e (Obj.mapFields (·.setIfInBounds 1 (Value.ref h₁.objs.size))))).get? b = some o := fun b o hbe hb => by
    rw [Heap.get?_update_other _ _ (Ne.symm hbe)]
    exact Heap.get?_push_of_some _ hb
  have t3 : t₀[3]? = some (rawInt L) := by
    have : to.data = .fields ([head, Value.ref L, Value.none, rawInt L, Value.none] ++ (if pl.isEmpty then List.replicate 6 Value.none else pl)).toArray := by rw [← hto]
    rw [ht0] at this
    cases this
    simp
  refine ⟨⟨h₁.objs.size, _, _, _, _, Heap.get?_none_of_le (Nat.le_of_eq hs₁.1.symm), eT, T3, ht0, t3, e3, Obj.cls_mapFields _ _, dict_mapFields _ _, d3,
    by rw [Array.getElem?_setIfInBounds_ne (by decide)], by simp [hsz], htc⟩, fun b o hb ho => ?_, fun b o hb hn ho => keep b o hb ((hs₁.2.1 b hn).trans ho)⟩
  obtain ⟨sl, hsl⟩ := hs₁.2.2 b o ho
  exact ⟨sl, keep b _ hb hsl⟩

/-- leaving a frame with an exception that bears no traceback yet, or one that bears one -/
theorem noteR {Q : Unit → Shared → Prop} (hfr : A.frames = some (env :: outer)) (hl : s.heap.FunFrames {} (env :: outer)) (hf : env.frame = some L)
    (he : s.heap.get? e = some oe) (hd : oe.data = .fields vs)
    (ht : vs[1]? = some .none ∨ ∃ T oT ts, vs[1]? = some (.ref T) ∧ T ≠ e ∧ s.heap.get? T = some oT ∧ oT.data = .fields ts ∧ ts[3]? = some .none)
    (h : ∀ h' (T0 : Option Addr), (∀ T, T0 = some T → vs[1]? = some (.ref T) ∧ ∃ oT oT', s.heap.get? T = some oT ∧ (∃ ts, oT.data = .fields ts) ∧ h'.get? T = some oT' ∧ oT'.cls = oT.cls ∧ oT'.dict = oT.dict ∧ ∃ ts, oT'.data = .fields ts) →
      (∃ T oe' vs' oT ts, s.heap.get? T = none ∧ T ≠ e ∧ h'.get? T = some oT ∧ oT.data = .fields ts ∧ ts[3]? = some (rawInt L) ∧ h'.get? e = some oe' ∧ oe'.cls = oe.cls ∧ oe'.dict = oe.dict ∧
        oe'.data = .fields vs' ∧ vs'[0]? = vs[0]? ∧ vs'[1]? = some (.ref T) ∧ oT.cls = .type "traceback") →
      (∀ b o, b ≠ e → some b ≠ T0 → s.heap.get? b = some o → ∃ sl, h'.get? b = some { o with slots := sl }) →
      (∀ b o, b ≠ e → some b ≠ T0 → b ∉ (env :: outer).filterMap (·.frame) → s.heap.get? b = some o → h'.get? b = some o) → Q () { s with heap := h' }) :
    wpAny M A (noteFrame (.ref e) env) Q E s := by
  unfold noteFrame
  simp only [hf]
  rcases ht with h1 | ⟨T, oT, ts, h1, hTe, hT, hdT, h3⟩
  · refine wpAny_bind (wpAny_field he hd h1 ?_)
    rw [if_neg (by decide)]
    refine newEntryR hfr hl hf he hd (Array.getElem?_eq_some_iff.mp h1).1 fun h' ⟨a, b, c⟩ => h h' none (fun _ q => nomatch q) a (fun x o hx _ ho => b x o hx ho) fun x o hx _ hn ho => c x o hx hn ho
  · refine wpAny_bind (wpAny_field he hd h1 ?_)
    rw [if_pos (show (Value.ref T != Value.none) = true from by simp)]
    refine wpAny_bind (wpAny_field hT hdT h3 ?_)
    rw [if_neg (show ¬ ((Value.none == rawInt L) = true) from by simp [rawInt])]
    refine wpAny_bind (wpAny_setField hT hdT (Array.getElem?_eq_some_iff.mp h3).1 ?_)
    have d' := Obj.data_mapFields hdT (·.setIfInBounds 3 Value.none)
    have T' := Heap.get?_update_self (Obj.mapFields (·.setIfInBounds 3 Value.none)) hT (Obj.isFreed_of_fields d')
    have other : ∀ b, b ≠ T → (s.heap.update T (Obj.mapFields (·.setIfInBounds 3 Value.none))).get? b = s.heap.get? b := fun b hb => Heap.get?_update_other _ _ (Ne.symm hb)
    have nrec : ∀ b o, s.heap.get? b = some o → (∀ vs, o.data ≠ .fields vs) → b ≠ T := fun b o hb hn q => by
      rw [q, hT] at hb; cases hb; exact hn ts hdT
    have hl' : (s.heap.update T (Obj.mapFields (·.setIfInBounds 3 Value.none))).FunFrames {} (env :: outer) := hl.of_keeps fun b o hb hn => ⟨o, (other b (nrec b o hb hn)).trans hb, rfl⟩
    refine newEntryR (s := { s with heap := s.heap.update T (Obj.mapFields (·.setIfInBounds 3 Value.none)) }) hfr hl' hf ((other e (Ne.symm hTe)).trans he) hd (Array.getElem?_eq_some_iff.mp h1).1 fun h' ⟨a, b, c⟩ => h h' (some T) (fun T2 q => ?_) ?_ (fun x o hx hxT ho => ?_) fun x o hx hxT hn ho => ?_
    · cases q
      obtain ⟨sl, q⟩ := b T _ hTe T'
      exact ⟨h1, oT, _, hT, ⟨ts, hdT⟩, q, Obj.cls_mapFields _ _, dict_mapFields _ _, _, d'⟩
    · obtain ⟨T2, oe', vs', oT2, ts2, a1, a2⟩ := a
      refine ⟨T2, oe', vs', oT2, ts2, ?_, a2⟩
      have : T2 ≠ T := by intro q; subst q; rw [show ({ s with heap := s.heap.update T2 (Obj.mapFields (·.setIfInBounds 3 Value.none)) } : Shared).heap = s.heap.update T2 (Obj.mapFields (·.setIfInBounds 3 Value.none)) from rfl, T'] at a1; cases a1
      rw [← other T2 this]; exact a1
    · exact b x o hx ((other x fun q => hxT (by rw [q])).trans ho)
    · exact c x o hx hn ((other x fun q => hxT (by rw [q])).trans ho)
end
end NN
end

-- part: NN7
section
open PySem PySem.W PyProof.Rows PySem.Calls
set_option maxRecDepth 100000
set_option linter.all false
namespace NN

theorem get_empty (a : Addr) : ({} : Heap).get? a = none := by simp [Heap.get?]

theorem FrOk.fun {h : Heap} : ∀ {fs : List Env}, FrOk fs h → h.FunFrames {} fs
  | [], _ => trivial
  | env :: fs, x => by
    obtain ⟨hk, L, o, hf, ho, hc, es, n, hd⟩ := x env (.head _)
    exact ⟨hk, ⟨L, o, hf, get_empty _, ho, fun vs q => by rw [hd] at q; cases q⟩, FrOk.fun fun e he => x e (.tail _ he)⟩

/-- what is fresh is nobody else's -/
theorem Step.absorb {P : Params} {F : Addr → Prop} {st st₁ st₂ : St} {s s₁ s₂ : Shared} (x : Step P noF st s st₁ s₁) (y : Step P F st₁ s₁ st₂ s₂) (hF : ∀ a, F a → s.heap.get? a = none) : Step P noF st s st₂ s₂ where
  holds := y.holds
  sub := (x.weak.trans y).sub
  ext b o _ hb ho := (x.weak.trans y).ext b o (fun q => by rw [hF b q] at ho; cases ho) hb ho
  own b o q := q.elim
  mono b h := y.mono b (x.mono b h)
  gens := y.gens.trans x.gens
  os := y.os.trans x.os

theorem Step.wider {P : Params} {F G : Addr → Prop} {st st₁ : St} {s s₁ : Shared} (x : Step P F st s st₁ s₁) (h : ∀ b, F b → G b) : Step P G st s st₁ s₁ := ⟨x.holds, x.sub, fun b o hb => x.ext b o fun q => hb (h b q), fun b o _ hst ho => by
  by_cases q : F b
  · exact x.own b o q hst ho
  · obtain ⟨o', h1, k⟩ := x.ext b o q hst ho
    exact ⟨o', h1, k.oo⟩, x.mono, x.gens, x.os⟩

theorem Step.absorbT {P : Params} {F G : Addr → Prop} {st st₁ st₂ : St} {s s₁ s₂ : Shared} (x : Step P F st s st₁ s₁) (y : Step P G st₁ s₁ st₂ s₂) (hF : ∀ a, G a → s.heap.get? a = none ∨ F a ∨ s.heap.get? a = none) : Step P F st s st₂ s₂ where
  holds := y.holds
  sub a h := by
    rcases y.sub a h with h | h
    · exact x.sub a h
    · right
      cases q : s.heap.get? a with
      | none => rfl
      | some o => have := x.mono a (by rw [q]; rfl); rw [h] at this; cases this
  ext b o hf hb ho := by
    obtain ⟨o₁, h1, k1⟩ := x.ext b o hf hb ho
    obtain ⟨o₂, h2, k2⟩ := y.ext b o₁ (fun g => (hF b g).elim (fun q => by rw [q] at ho; cases ho) fun z => z.elim hf fun q => by rw [q] at ho; cases ho) (x.still hb ho) h1
    exact ⟨o₂, h2, k1.trans k2⟩
  own b o hf hb ho := by
    obtain ⟨o₁, h1, k1⟩ := x.own b o hf hb ho
    by_cases g : G b
    · obtain ⟨o₂, h2, k2⟩ := y.own b o₁ g (x.still hb ho) h1
      exact ⟨o₂, h2, k1.trans k2⟩
    · obtain ⟨o₂, h2, k2⟩ := y.ext b o₁ g (x.still hb ho) h1
      exact ⟨o₂, h2, k1.trans k2.oo⟩
  mono b h := y.mono b (x.mono b h)
  gens := y.gens.trans x.gens
  os := y.os.trans x.os

/-- a record that was not there -/
noncomputable def NewRec (h0 h : Heap) (b : Addr) : Prop := h0.get? b = none ∧ ∃ ob vs, h.get? b = some ob ∧ ob.data = .fields vs ∧ ob.cls ≠ .type "range"
theorem NewRec.dok {P : Params} {st : St} {h0 h : Heap} (H : Holds P st h) : DOk (fun b => st b ≠ none ∨ NewRec h0 h b) h where
  tup a ws n x q := by
    rcases q with q | ⟨_, ob, vs, h1, h2, _⟩
    · exact q (tup_not_st H x)
    · have e := Option.some.inj (h1.symm.trans x)
      subst e; cases h2
  rng a ob vs x hc hd q := by
    rcases q with q | ⟨_, ob', vs', h1, h2, h3⟩
    · exact q (rec_not_st H x hc hd)
    · rw [x] at h1; cases h1; exact h3 hc
  obj a ob x hd hC q := by
    rcases q with q | ⟨_, ob', vs', h1, h2, _⟩
    · exact q (inst_not_st H x hd)
    · rw [x] at h1; cases h1; rw [hd] at h2; cases h2

section
variable {o : Wo} [W : WoOk o]
theorem flight_R {A : Around} {E : Value → Shared → Prop} {st₂ : St} {s₂ : Shared} {h0 : Heap} {y : Exc} {e : Addr} {fl : Option Addr} (f : Option Addr) (H2 : Holds o.P st₂ s₂.heap) (fly : Flying o.P fl st₂ h0 s₂.heap y e) {Q : Unit → Shared → Prop}
    (hq : ∀ h', Flying o.P f st₂ h0 h' y e → Step o.P (NewRec h0 s₂.heap) st₂ s₂ st₂ { s₂ with heap := h' } → Q () { s₂ with heap := h' }) : wpAny o.M A (setFlight (.ref e) f) Q E s₂ := by
  obtain ⟨dx, oe, vs, a0, es, n, b1, b2, b3, b4, b5, b6, b7, enew, dnew, ⟨b10, b10e⟩, b11⟩ := fly
  unfold setFlight
  rcases b11 with q | ⟨T, oT, ts, c1, c2, c3, c4, c5, c6, c7⟩
  · refine wpAny_bind (wpAny_field b1 b4 q ?_)
    rw [if_neg (by decide)]
    exact wpAny_pure (hq s₂.heap ⟨dx, oe, vs, a0, es, n, b1, b2, b3, b4, b5, b6, b7, enew, dnew, ⟨b10, b10e⟩, .inl q⟩ (Step.refl H2))
  · have c6b : 3 < ts.size := by rcases c6 with c6 | ⟨_, _, c6⟩ <;> exact (Array.getElem?_eq_some_iff.mp c6).1
    refine wpAny_bind (wpAny_field b1 b4 c1 ?_)
    rw [if_pos (show (Value.ref T != Value.none) = true from by simp)]
    refine wpAny_setField c4 c5 c6b ?_
    have d' := Obj.data_mapFields c5 (·.setIfInBounds 3 (f.elim Value.none fun f => rawInt f))
    have T' := Heap.get?_update_self (Obj.mapFields (·.setIfInBounds 3 (f.elim Value.none fun f => rawInt f))) c4 (Obj.isFreed_of_fields d')
    have other : ∀ b, b ≠ T → (s₂.heap.update T (Obj.mapFields (·.setIfInBounds 3 (f.elim Value.none fun f => rawInt f)))).get? b = s₂.heap.get? b := fun b hb => Heap.get?_update_other _ _ (Ne.symm hb)
    have nrec : ∀ b ob, s₂.heap.get? b = some ob → (∀ vs, ob.data ≠ .fields vs) → b ≠ T := fun b ob hb hn q => by
      rw [q, c4] at hb; cases hb; exact hn ts c5
    have TN : NewRec h0 s₂.heap T := ⟨c3, oT, ts, c4, c5, by rw [c7]; simp⟩
    have stT : st₂ T = none := rec_not_st H2 c4 c7 c5
    have K2 : KpD (fun b => st₂ b ≠ none ∨ NewRec h0 s₂.heap b) s₂.heap (s₂.heap.update T (Obj.mapFields (·.setIfInBounds 3 (f.elim Value.none fun f => rawInt f)))) := fun b ob hb hob => ⟨ob, (other b fun q => hb (.inr (q ▸ TN))).trans hob, .refl ob⟩
    have KV := KpV.of (NewRec.dok H2) K2
    refine hq _ ⟨dx, oe, vs, a0, es, n, (other e (Ne.symm c2)).trans b1, b2, b3, b4, b5, (other dx (nrec dx _ b6 (by simp))).trans b6, b7.keepV KV, enew, dnew, ⟨b10, b10e⟩, .inr ⟨T, _, _, c1, c2, c3, T', d', (by cases f with | none => exact .inl (by simp [c6b]) | some L => exact .inr ⟨L, rfl, by simp [c6b]⟩), (Obj.cls_mapFields _ _).trans c7⟩⟩ ?_
    refine ⟨fun a m q => ?_, fun a q => .inl q, fun b ob hb hst hob => K2 b ob (fun q => q.elim (fun z => z hst) hb) hob, fun b ob hb hst hob => ?_, fun b hb => ?_, rfl, rfl⟩
    · obtain ⟨ob, h1, h2⟩ := H2 a m q
      exact ⟨ob, (other a fun z => by rw [z, stT] at q; cases q).trans h1, h2.keepV KV⟩
    · by_cases z : b = T
      · subst z
        rw [c4] at hob; cases hob
        exact ⟨_, T', Obj.cls_mapFields _ _, fun ⟨_, _, q⟩ => by (rw [c5] at q; cases q), fun ⟨_, q⟩ => by (rw [c5] at q; cases q)⟩
      · exact ⟨ob, (other b z).trans hob, .refl ob⟩
    · by_cases z : b = T
      · subst z; show (Heap.get? _ b).isSome = true; rw [T']; rfl
      · show (Heap.get? _ b).isSome = true; rw [other b z]; exact hb

theorem note_core0 {fl : Option Addr} {A : Around} {E : Value → Shared → Prop} {fs' : List Env} {env : Env} {st₂ : St} {s₂ : Shared} {h0 : Heap} {y : Exc} {e L : Addr}
    (hfr : A.frames = some (env :: fs')) (hf : env.frame = some L) (hFr2 : FrOk (env :: fs') s₂.heap) (H2 : Holds o.P st₂ s₂.heap) (hm : ∀ b, (h0.get? b).isSome = true → (s₂.heap.get? b).isSome = true) (fly : Flying o.P fl st₂ h0 s₂.heap y e) (hfl : ∀ L', fl = some L' → L' = L) {Q : Unit → Shared → Prop}
    (hq : ∀ h', Flying o.P (some L) st₂ h0 h' y e → (∃ ob vs T, h'.get? e = some ob ∧ ob.data = .fields vs ∧ vs[1]? = some (.ref T)) → Step o.P (NewRec h0 s₂.heap) st₂ s₂ st₂ { s₂ with heap := h' } → Q () { s₂ with heap := h' }) :
    wpAny o.M A (noteFrame (.ref e) env) Q E s₂ := by
  obtain ⟨dx, oe, vs, a0, es, n, b1, b2, b3, b4, b5, b6, b7, enew, dnew, ⟨b10, b10e⟩, b11⟩ := fly
  by_cases hin : ∃ T oT ts, vs[1]? = some (.ref T) ∧ T ≠ e ∧ h0.get? T = none ∧ s₂.heap.get? T = some oT ∧ oT.data = .fields ts ∧ ts[3]? = some (rawInt L) ∧ oT.cls = .type "traceback"
  · obtain ⟨T, oT, ts, c1, c2, c3, c4, c5, c6, c7⟩ := hin
    unfold noteFrame
    simp only [hf]
    refine wpAny_bind (wpAny_field b1 b4 c1 ?_)
    rw [if_pos (show (Value.ref T != Value.none) = true from by simp)]
    refine wpAny_bind (wpAny_field c4 c5 c6 ?_)
    rw [if_pos (show (rawInt L == rawInt L) = true from by simp)]
    exact wpAny_pure (hq s₂.heap ⟨dx, oe, vs, a0, es, n, b1, b2, b3, b4, b5, b6, b7, enew, dnew, ⟨b10, b10e⟩, .inr ⟨T, oT, ts, c1, c2, c3, c4, c5, .inr ⟨L, rfl, c6⟩, c7⟩⟩ ⟨oe, vs, T, b1, b4, c1⟩ (Step.refl H2))
  replace b11 : vs[1]? = some .none ∨ ∃ T oT ts, vs[1]? = some (.ref T) ∧ T ≠ e ∧ h0.get? T = none ∧ s₂.heap.get? T = some oT ∧ oT.data = .fields ts ∧ ts[3]? = some .none ∧ oT.cls = .type "traceback" := by
    rcases b11 with q | ⟨T, oT, ts, c1, c2, c3, c4, c5, c6, c7⟩
    · exact .inl q
    · rcases c6 with c6 | ⟨L', d1, d2⟩
      · exact .inr ⟨T, oT, ts, c1, c2, c3, c4, c5, c6, c7⟩
      · rw [hfl L' d1] at d2
        exact absurd ⟨T, oT, ts, c1, c2, c3, c4, c5, d2, c7⟩ hin
  refine noteR hfr hFr2.fun hf b1 b4 (b11.imp id fun ⟨T, oT, ts, c1, c2, c3, c4, c5, c6, c7⟩ => ⟨T, oT, ts, c1, c2, c4, c5, c6⟩) fun h' T0 t1 t2 t3 t4 => ?_
  obtain ⟨T, oe', vs', oT, ts, u1, u2, u3, u4, u5, u6, u7, u8, u9, u10, u11, u12⟩ := t2
  have none0 : ∀ {a : Addr}, s₂.heap.get? a = none → h0.get? a = none := fun {a} q => by
    cases qq : h0.get? a with
    | none => rfl
    | some ob => have := hm a (by rw [qq]; rfl); rw [q] at this; cases this
  -- the old entry, if any, is new to the caller
  have T0new : ∀ T', T0 = some T' → NewRec h0 s₂.heap T' ∧ st₂ T' = none := fun T' q => by
    obtain ⟨v1, oT', oT2, v2, ⟨ts', v3⟩, _⟩ := t1 T' q
    rcases b11 with w | ⟨T2, oT9, ts9, w1, w2, w3, w4, w5, _, w7⟩
    · rw [w] at v1; cases v1
    · rw [w1] at v1; cases v1
      exact ⟨⟨w3, oT9, ts9, w4, w5, by rw [w7]; simp⟩, rec_not_st H2 w4 w7 w5⟩
  have eNew : NewRec h0 s₂.heap e := ⟨enew, oe, vs, b1, b4, by rw [b2]; intro q; cases q⟩
  have noT : ∀ (a : Addr) (ob : Obj), s₂.heap.get? a = some ob → (∀ vs, ob.data ≠ .fields vs) → some a ≠ T0 := fun a ob h1 h2 q => by
    obtain ⟨_, oT', _, v2, ⟨ts', v3⟩, _⟩ := t1 a q.symm
    rw [h1] at v2; cases v2; exact h2 _ v3
  have frm : ∀ b, b ∈ (env :: fs').filterMap (·.frame) → ∀ ob, s₂.heap.get? b = some ob → ob.cls = .type "frame" ∧ ∃ es n, ob.data = .dict es n := fun b hb ob hob => by
    obtain ⟨en, he, hfb⟩ := List.mem_filterMap.mp hb
    obtain ⟨_, L', o', h1, h2, h3, h4⟩ := hFr2 en he
    rw [hfb] at h1; cases h1
    rw [hob] at h2; cases h2
    exact ⟨h3, h4⟩
  have ndx : dx ≠ e := by intro z; subst z; rw [b1] at b6; cases b6; cases b4
  have K2 : KpD (fun b => st₂ b ≠ none ∨ NewRec h0 s₂.heap b) s₂.heap h' := fun b ob hb hob => by
    have ne : b ≠ e := fun z => hb (.inr (z ▸ eNew))
    have nT : some b ≠ T0 := fun z => hb (.inr (T0new b z.symm).1)
    by_cases hm : b ∈ (env :: fs').filterMap (·.frame)
    · obtain ⟨sl, h1⟩ := t3 b ob ne nT hob
      exact ⟨_, h1, .inr ⟨frm b hm _ hob, rfl, rfl⟩⟩
    · exact ⟨ob, t4 b ob ne nT hm hob, .refl ob⟩
  have KV : KpV s₂.heap h' := KpV.of (NewRec.dok H2) K2
  have F2 : Step o.P (NewRec h0 s₂.heap) st₂ s₂ st₂ { s₂ with heap := h' } := by
    refine ⟨fun a m q => ?_, fun a q => .inl q, fun b ob hb hst hob => ?_, fun b ob hb hst hob => ?_, fun b hb => ?_, rfl, rfl⟩
    · obtain ⟨ob, h1, h2⟩ := H2 a m q
      have ne : a ≠ e := by intro z; subst z; rw [b10e] at q; cases q
      have nT : some a ≠ T0 := by intro z; have := (T0new a z.symm).2; rw [this] at q; cases q
      have nf : a ∉ (env :: fs').filterMap (·.frame) := fun hm => by
        obtain ⟨h3, _⟩ := frm a hm _ h1
        rcases h2.shape with ⟨q, _⟩ | ⟨q, _⟩ | ⟨C, vs, q, _⟩ <;> (rw [q] at h3; simp at h3)
      exact ⟨ob, t4 a ob ne nT nf h1, h2.keepV KV⟩
    · exact K2 b ob (fun q => q.elim (fun z => z hst) hb) hob
    · by_cases ne : b = e
      · subst ne
        rw [b1] at hob; cases hob
        exact ⟨oe', u6, u7, fun ⟨_, _, q⟩ => by (rw [b4] at q; cases q), fun ⟨_, q⟩ => by (rw [b4] at q; cases q)⟩
      · by_cases nT : some b = T0
        · obtain ⟨_, oT', oT2, v2, ⟨ts', v3⟩, v4, v5, v6, ts2, v7⟩ := t1 b nT.symm
          rw [hob] at v2; cases v2
          exact ⟨oT2, v4, v5, fun ⟨_, _, q⟩ => by (rw [v3] at q; cases q), fun ⟨_, q⟩ => by (rw [v3] at q; cases q)⟩
        · obtain ⟨sl, h1⟩ := t3 b ob ne nT hob
          exact ⟨_, h1, rfl, id, id⟩
    · obtain ⟨ob, hob⟩ := Option.isSome_iff_exists.mp hb
      by_cases ne : b = e
      · subst ne; show (h'.get? b).isSome = true; rw [u6]; rfl
      · by_cases nT : some b = T0
        · obtain ⟨_, oT', oT2, v2, ⟨ts', v3⟩, v4, _⟩ := t1 b nT.symm
          show (h'.get? b).isSome = true; rw [v4]; rfl
        · obtain ⟨sl, h1⟩ := t3 b ob ne nT hob
          show (h'.get? b).isSome = true; rw [h1]; rfl
  refine hq h' ⟨dx, oe', vs', a0, es, n, u6, u7.trans b2, u8.trans b3, u9, u10.trans b5, ?_, b7.keepV KV, enew, dnew, ⟨b10, b10e⟩, .inr ⟨T, oT, ts, u11, u2, none0 u1, u3, u4, .inr ⟨L, rfl, u5⟩, u12⟩⟩ ⟨oe', vs', T, u6, u9, u11⟩ F2
  exact t4 dx _ ndx (noT dx _ b6 (by simp)) (fun hm => by obtain ⟨h1, _⟩ := frm dx hm _ b6; simp at h1) b6

theorem note_core {fl : Option Addr} {A : Around} {E : Value → Shared → Prop} {fs' : List Env} {env : Env} {st₂ : St} {s₂ : Shared} {h0 : Heap} {y : Exc} {e L : Addr}
    (hfr : A.frames = some (env :: fs')) (hf : env.frame = some L) (hFr2 : FrOk (env :: fs') s₂.heap) (H2 : Holds o.P st₂ s₂.heap) (hm : ∀ b, (h0.get? b).isSome = true → (s₂.heap.get? b).isSome = true) (fly : Flying o.P fl st₂ h0 s₂.heap y e) (hfl : ∀ L', fl = some L' → L' = L) {Q : Unit → Shared → Prop}
    (hq : ∀ h', Flying o.P none st₂ h0 h' y e → Step o.P (NewRec h0 s₂.heap) st₂ s₂ st₂ { s₂ with heap := h' } → Q () { s₂ with heap := h' }) :
    wpAny o.M A (noteFrame (.ref e) env) (fun _ s' => wpAny o.M A (setFlight (.ref e) none) Q E s') E s₂ := by
  refine note_core0 hfr hf hFr2 H2 hm fly hfl fun h' fly' _ S => ?_
  refine flight_R none S.holds fly' fun h'' fly'' S' => ?_
  refine hq h'' fly'' (S.absorbT S' fun a ha => ?_)
  cases q : s₂.heap.get? a with
  | none => exact .inl rfl
  | some ob =>
    refine .inr (.inl ?_)
    obtain ⟨h1, ob', vs, h2, h3, h4⟩ := ha
    cases z : st₂ a with
    | none =>
      by_cases hF : NewRec h0 s₂.heap a
      · exact hF
      · obtain ⟨o', e1, k⟩ := S.ext a ob hF z q
        have e1 : h'.get? a = some o' := e1
        rw [e1] at h2; cases h2
        rcases k with k | ⟨⟨_, es, n, k⟩, _, k2⟩
        · rw [k] at h3 h4; exact ⟨h1, ob, vs, q, h3, h4⟩
        · rw [k2, k] at h3; cases h3
    | some m =>
      obtain ⟨o2, e2, m2⟩ := H2 a m z
      rw [q] at e2; cases e2
      obtain ⟨o3, e3, m3⟩ := S.holds a m z
      have e3 : h'.get? a = some o3 := e3
      rw [e3] at h2; cases h2
      rcases m3.shape with ⟨_, _, _, q⟩ | ⟨_, _, _, q⟩ | ⟨C, vs', q, _⟩
      · rw [q] at h3; cases h3
      · rw [q] at h3; cases h3
      · cases m3 with
        | lst r => cases q
        | sd r => cases q
        | nd r => cases q
        | exo a1 a2 a3 a4 a5 =>
          cases m2 with
          | exo b1 b2 b3 b4 b5 => exact ⟨h1, ob, _, by assumption, b3, by rw [b1]; intro q; cases q⟩
theorem Flying.forget {fl : Option Addr} {P : Params} {st st' : St} {h0 h : Heap} {x : Exc} {e : Addr} (f : Flying P fl st h0 h x e) (hle : St.le st' st) : Flying P fl st' h0 h x e := by
  obtain ⟨dx, oe, vs, a0, es, n, b1, b2, b3, b4, b5, b6, b7, enew, dnew, ⟨b10, b10e⟩, b11⟩ := f
  have st₃n : ∀ a, st a = none → st' a = none := fun a q => (hle a).elim id fun h => h.trans q
  exact ⟨dx, oe, vs, a0, es, n, b1, b2, b3, b4, b5, b6, b7, enew, dnew, ⟨st₃n _ b10, st₃n _ b10e⟩, b11⟩
theorem Flying.older {fl : Option Addr} {P : Params} {st : St} {h0 h0' h : Heap} {x : Exc} {e : Addr} (f : Flying P fl st h0 h x e) (hn : ∀ a, h0.get? a = none → h0'.get? a = none) : Flying P fl st h0' h x e := by
  obtain ⟨dx, oe, vs, a0, es, n, b1, b2, b3, b4, b5, b6, b7, enew, dnew, b10, b11⟩ := f
  exact ⟨dx, oe, vs, a0, es, n, b1, b2, b3, b4, b5, b6, b7, hn _ enew, hn _ dnew, b10, b11.imp id fun ⟨T, oT, ts, c1, c2, c3, c4⟩ => ⟨T, oT, ts, c1, c2, hn _ c3, c4⟩⟩

theorem leave_R {k : Kx} {env : Env} {loc : LocF} {st st₁ : St} {s s₁ s₂ : Shared} {X : Exc → St → Prop} {ev : Value} {L : Addr}
    (hfr : k.A.frames = some (env :: k.fs)) (hf : env.frame = some L) (hL : env.locals = L) (hFr : FrOk (env :: k.fs) s₁.heap) (x : Step o.P noF st s st₁ s₁) (hH : Holds o.P st₁ s₁.heap)
    (c : Cx) (hc : c.env = env) (hown : ∀ a, own c a → s.heap.get? a = none)
    {fl : Option Addr} (hfl : ∀ L', fl = some L' → L' = L) (p : PXg o (own c) (fun _ => True) fl st₁ s₁ (fun x st' => ∃ st'', St.le st'' st' ∧ X x st'') ev s₂) :
    wpAny o.M k.A (leaving env ev) (fun _ s₃ => PX o noF st s X ev s₃) (fun e' s₃ => PX o noF st s X e' s₃) s₂ := by
  obtain ⟨y, st₂, e, rfl, fly, S, -, st₃, hle, hX⟩ := p
  have hFr2 : FrOk (env :: k.fs) s₂.heap := FrOk.stepF hH S hFr
  have fly0 := fly.older (h0' := s.heap) fun a q => none_of_mono x q
  unfold leaving
  refine wpAny_bind (note_core hfr hf hFr2 S.holds (fun b hb => S.mono b (x.mono b hb)) fly0 hfl fun h' fl' F2 => ?_)
  have S2 : Step o.P noF st s st₂ s₂ := x.absorb S hown
  have S3 : Step o.P noF st s st₂ { s₂ with heap := h' } := S2.absorb F2 fun a ha => ha.1
  exact ⟨y, st₃, e, rfl, fl'.forget hle, S3.forget hle, trivial, hX⟩
end
end NN
end

-- part: NN8
section
open PySem PySem.W PyProof.Rows PySem.Calls
set_option maxRecDepth 100000
set_option linter.all false
namespace NN

/-! binding -/
theorem filterMap_zip {α : Type} : ∀ {ns : List Str} {vs : List α} (pre : List (Str × α)), ns.Nodup → ns.length = vs.length → (∀ n ∈ ns, pre.lookup n = none) → ns.filterMap (fun n => ((pre ++ ns.zip vs).lookup n).map fun v => (n, v)) = ns.zip vs
  | [], [], _, _, _, _ => rfl
  | n :: ns, v :: vs, pre, nd, hl, hp => by
    have nd' := List.nodup_cons.mp nd
    have e1 : (pre ++ (n :: ns).zip (v :: vs)).lookup n = some v := by
      rw [List.lookup_append, hp n (by simp), List.zip_cons_cons, List.lookup_cons]; simp
    rw [List.filterMap_cons, e1]
    have ih := filterMap_zip (vs := vs) (pre ++ [(n, v)]) nd'.2 (by simpa using hl) fun m hm => by
      rw [List.lookup_append, hp m (by simp [hm])]
      have : (m == n) = false := beq_eq_false_iff_ne.mpr fun q => nd'.1 (q ▸ hm)
      simp [List.lookup_cons, this]
    rw [List.append_assoc] at ih
    show (n, v) :: _ = _
    rw [List.zip_cons_cons]
    exact congrArg _ ih
noncomputable def plainPar (p : Arguments) (ns : List Str) : Bool := p.posonlyargs.isEmpty && p.vararg.isNone && p.kwonlyargs.isEmpty && p.kwarg.isNone && p.args.map (·.arg) == ns

theorem slots_for (dnames : List Str) : ∀ (ds : List Value) (slots : List (Str × Value)), (∀ n ∈ dnames, slots.lookup n = none) → dnames.Nodup →
    (forIn (m := Sem) (dnames.zip ds) slots fun (x : Str × Value) r => if (List.lookup x.1 r).isNone = true then pure (ForInStep.yield (r ++ [(x.1, x.2)])) else pure (ForInStep.yield r)) = pure (slots ++ dnames.zip ds) := by
  induction dnames with
  | nil => intro ds slots _ _; simp
  | cons n ns ih =>
    intro ds slots h nd
    cases ds with
    | nil => simp
    | cons d ds =>
      have nd' := List.nodup_cons.mp nd
      rw [List.zip_cons_cons, List.forIn_cons]
      have : (List.lookup n slots).isNone = true := by rw [h n (by simp)]; rfl
      simp only [this, if_true, pure_bind]
      rw [ih ds (slots ++ [(n, d)]) (fun m hm => by
        rw [List.lookup_append, h m (by simp [hm])]
        have : (m == n) = false := beq_eq_false_iff_ne.mpr fun q => nd'.1 (q ▸ hm)
        simp [List.lookup_cons, this]) nd'.2]
      simp

theorem slots_mix : ∀ (j : Nat) (dnames : List Str) (ds : List Value) (slots : List (Str × Value)), (∀ n ∈ dnames.take j, (slots.lookup n).isSome = true) → (∀ n ∈ dnames.drop j, slots.lookup n = none) → dnames.Nodup →
    (forIn (m := Sem) (dnames.zip ds) slots fun (x : Str × Value) r => if (List.lookup x.1 r).isNone = true then pure (ForInStep.yield (r ++ [(x.1, x.2)])) else pure (ForInStep.yield r)) = pure (slots ++ (dnames.drop j).zip (ds.drop j))
  | 0, dnames, ds, slots, _, h, nd => slots_for dnames ds slots (by simpa using h) nd
  | j + 1, [], ds, slots, _, _, _ => by simp
  | j + 1, n :: ns, [], slots, _, _, _ => by simp
  | j + 1, n :: ns, d :: ds, slots, h1, h2, nd => by
    rw [List.zip_cons_cons, List.forIn_cons]
    have : (List.lookup n slots).isNone = false := by
      have := h1 n (by simp)
      rw [Option.isNone_eq_false_iff]; exact this
    simp only [this, Bool.false_eq_true, if_false, pure_bind]
    exact slots_mix j ns ds slots (fun m hm => h1 m (by simp [hm])) (by simpa using h2) (List.nodup_cons.mp nd).2
theorem lookup_zip_take {α : Type} : ∀ {ns : List Str} {vs : List α} {x : Str}, x ∈ ns.take vs.length → ((ns.zip vs).lookup x).isSome = true
  | [], vs, x, h => by simp at h
  | n :: ns, [], x, h => by simp at h
  | n :: ns, v :: vs, x, h => by
    rw [List.zip_cons_cons, List.lookup_cons]
    cases hb : x == n with
    | true => rfl
    | false =>
      rw [List.length_cons, List.take_succ_cons] at h
      rcases List.mem_cons.mp h with q | q
      · subst q; simp at hb
      · exact lookup_zip_take q
theorem lookup_zip_drop {α : Type} : ∀ {ns : List Str} {vs : List α} {x : Str}, ns.Nodup → x ∈ ns.drop vs.length → (ns.zip vs).lookup x = none
  | [], vs, x, _, h => by simp at h
  | n :: ns, [], x, _, h => by simp
  | n :: ns, v :: vs, x, nd, h => by
    have nd' := List.nodup_cons.mp nd
    rw [List.length_cons, List.drop_succ_cons] at h
    rw [List.zip_cons_cons, List.lookup_cons]
    have : (x == n) = false := beq_eq_false_iff_ne.mpr fun q => nd'.1 (q ▸ List.mem_of_mem_drop h)
    rw [this]
    exact lookup_zip_drop nd'.2 h
theorem zip_split {α : Type} : ∀ {ns : List Str} {vs ws : List α}, ns.zip vs ++ (ns.drop vs.length).zip ws = ns.zip (vs ++ ws)
  | [], _, _ => by simp
  | n :: ns, [], _ => by simp
  | n :: ns, v :: vs, ws => by simp [zip_split (ns := ns) (vs := vs) (ws := ws)]

theorem bindsTo {s : Shared} {fd : FuncData} {ns : List Str} {vs ds : List Value} (hp : plainPar fd.params ns = true) (nd : ns.Nodup)
    (hd : (fd.defaults = .none ∧ ds = []) ∨ ∃ T ob n, fd.defaults = .ref T ∧ s.heap.get? T = some ob ∧ ob.data = .seq ds.toArray n)
    (h1 : vs.length ≤ ns.length) (h2 : ns.length ≤ vs.length + ds.length) (h3 : ds.length ≤ ns.length) :
    BindsTo s fd ⟨vs, []⟩ (ns.zip (vs ++ ds.drop (vs.length + ds.length - ns.length))) := by
  intro M A E Q hq
  simp only [plainPar, Bool.and_eq_true, List.isEmpty_iff, Option.isNone_iff_eq_none, beq_iff_eq] at hp
  obtain ⟨⟨⟨⟨p1, p2⟩, p3⟩, p4⟩, p5⟩ := hp
  unfold bindArgs
  simp only [p1, p2, p3, p4, p5, List.map_nil, List.nil_append, List.append_nil, List.forIn_nil, pure_bind, Option.isNone_none, Bool.and_true]
  have seq : wpAny M A (seqItems? fd.defaults) (fun r s' => s' = s ∧ (r.getD #[]).toList = ds) E s := by
    rcases hd with ⟨e, rfl⟩ | ⟨T, ob, n, e, ho, hdat⟩
    · rw [e]; exact wpAny_pure ⟨rfl, rfl⟩
    · rw [e]; exact wpAny_seqItems ho hdat ⟨rfl, by simp⟩
  refine wpAny_bind (wpAny_mono seq (fun r s' h => ?_) fun _ _ x => x)
  obtain ⟨rfl, hr⟩ := h
  have e1 : ds.length - ns.length = 0 := by omega
  have e2 : decide (vs.length > ns.length) = false := by simp; omega
  have tk : ∀ n ∈ ns.take (ns.length - ds.length), ((ns.zip vs).lookup n).isSome = true := fun n hn => lookup_zip_take (List.mem_of_mem_take (by rw [List.take_take]; rw [Nat.min_eq_left (by omega : ns.length - ds.length ≤ vs.length)]; exact hn))
  have e3 : (List.filter (fun n => (List.lookup n (ns.zip vs)).isNone) (List.take (ns.length - ds.length) ns)).isEmpty = true := by
    rw [List.isEmpty_iff, List.filter_eq_nil_iff]
    intro a ha q
    have := tk a ha
    rw [Option.isNone_iff_eq_none] at q
    rw [q] at this; cases this
  simp only [hr, e1, e2, List.drop_zero, e3, Bool.not_true, Bool.false_eq_true, if_false, List.isEmpty_nil]
  have fin : wpAny M A (do
      let __s ← forIn ((List.drop (ns.length - ds.length) ns).zip ds) (ns.zip vs) fun (x : Str × Value) r => if (List.lookup x.1 r).isNone = true then pure (ForInStep.yield (r ++ [(x.1, x.2)])) else pure (ForInStep.yield r)
      pure (List.filterMap (fun n => Option.map (fun x => (n, x)) (List.lookup n __s)) ns)) Q E s' := by
    rw [slots_mix (vs.length - (ns.length - ds.length)) _ _ _ (fun n hn => lookup_zip_take ?_) (fun n hn => lookup_zip_drop nd ?_) (nd.sublist (List.drop_sublist _ _)), pure_bind]
    · rw [List.drop_drop, show ns.length - ds.length + (vs.length - (ns.length - ds.length)) = vs.length by omega, show vs.length - (ns.length - ds.length) = vs.length + ds.length - ns.length by omega, zip_split]
      have := filterMap_zip (ns := ns) (vs := vs ++ ds.drop (vs.length + ds.length - ns.length)) [] nd (by simp; omega) (by simp)
      rw [List.nil_append] at this
      rw [this]
      exact wpAny_pure hq
    · rw [List.take_drop] at hn
      have := List.mem_of_mem_drop hn
      rwa [show ns.length - ds.length + (vs.length - (ns.length - ds.length)) = vs.length by omega] at this
    · rwa [List.drop_drop, show ns.length - ds.length + (vs.length - (ns.length - ds.length)) = vs.length by omega] at hn
  exact fin
end NN
end

-- part: NN9
section
open PySem PySem.W PyProof.Rows PySem.Calls
set_option maxRecDepth 100000
set_option linter.all false
namespace NN

theorem Step.pushCells {P : Params} {F : Addr → Prop} {st : St} : ∀ (names : List (Str × NameKind)) (s : Shared), Holds P st s.heap → Step P F st s st { s with heap := pushCells s.heap names }
  | [], s, H => Step.toks H s.toks
  | (_, kind) :: r, s, H => by
    unfold PySem.pushCells
    split
    · exact (Step.push (F := F) H { cls := .type "cell", data := .cell none } s.toks).trans (Step.pushCells r { s with heap := s.heap.push { cls := .type "cell", data := .cell none } } (H.push _))
    · exact Step.pushCells r s H

theorem cellsFrom_obj : ∀ (names : List (Str × NameKind)) (h : Heap) (acc : List (Str × Addr)) (x : Str) (a : Addr), (x, a) ∈ cellsFrom h.objs.size names acc →
    (x, a) ∈ acc ∨ ((pushCells h names).get? a = some { cls := .type "cell", data := .cell none } ∧ h.objs.size ≤ a)
  | [], _, _, _, _, m => .inl m
  | (name, kind) :: r, h, acc, x, a, m => by
    unfold cellsFrom at m
    unfold pushCells
    split at m
    · rename_i hk
      rw [if_pos hk]
      have := cellsFrom_obj r (h.push { cls := .type "cell", data := .cell none }) ((name, h.objs.size) :: acc) x a (by rw [Heap.size_push]; exact m)
      rcases this with q | ⟨q1, q2⟩
      · rcases List.mem_cons.mp q with e | q
        · cases e
          exact .inr ⟨pushCells_keeps _ _ _ _ (Heap.get?_push_size _ rfl), Nat.le_refl _⟩
        · exact .inl q
      · rw [Heap.size_push] at q2
        exact .inr ⟨q1, by omega⟩
    · rename_i hk
      rw [if_neg hk]
      exact cellsFrom_obj r h acc x a m

theorem cellsFrom_acc : ∀ (names : List (Str × NameKind)) (n : Nat) (acc : List (Str × Addr)) (x : Str), (acc.lookup x).isSome = true → ((cellsFrom n names acc).lookup x).isSome = true
  | [], _, _, _, h => h
  | (name, kind) :: r, n, acc, x, h => by
    unfold cellsFrom
    split
    · refine cellsFrom_acc r _ _ x ?_
      rw [List.lookup_cons]
      cases hb : x == name <;> simp [h]
    · exact cellsFrom_acc r _ _ x h
theorem cellsFrom_has : ∀ (names : List (Str × NameKind)) (n : Nat) (acc : List (Str × Addr)) (x : Str), names.lookup x = some .cell → ((cellsFrom n names acc).lookup x).isSome = true
  | (name, kind) :: r, n, acc, x, h => by
    rw [List.lookup_cons] at h
    unfold cellsFrom
    cases hb : x == name with
    | true =>
      rw [hb] at h; cases h
      rw [if_pos (show (NameKind.cell == NameKind.cell) = true by decide)]
      refine cellsFrom_acc r _ _ x ?_
      rw [List.lookup_cons, hb]; rfl
    | false =>
      rw [hb] at h
      split
      · exact cellsFrom_has r _ _ x h
      · exact cellsFrom_has r _ _ x h

noncomputable def LocF.binds : List (Str × V) → LocF → LocF
  | [], l => l
  | (x, v) :: r, l => LocF.binds r (l.set x v)

/-- laying of the parameters -/
theorem bindR {o : Wo} [WoOk o] {c : Cx} {A : Around} {st : St} {E : Value → Shared → Prop} (f : Str × Value → PUnit → Sem (ForInStep PUnit)) (hf : ∀ n v u, f (n, v) u = (do storeName c.env n v; pure (.yield ⟨⟩))) :
    ∀ (xs : List Str) (as : List V) (vs : List Value) (loc : LocF) (s : Shared) (Q : PUnit → Shared → Prop), Inv o c loc st s → VRs s.heap as vs → (∀ x ∈ xs, storable c.env x = true) →
      (∀ s', Step o.P (own c) st s st s' → Inv o c (LocF.binds (xs.zip as) loc) st s' → Q ⟨⟩ s') → wpAny o.M A (forIn (xs.zip vs) ⟨⟩ f) Q E s
  | [], as, vs, loc, s, Q, I, r, _, h => by
    simp only [List.zip_nil_left, List.forIn_nil]
    exact wpAny_pure (h s (Step.refl I.si.hs) (by simpa [LocF.binds] using I))
  | x :: xs, [], _, loc, s, Q, I, .nil, _, h => by
    simp only [List.zip_nil_right, List.forIn_nil]
    exact wpAny_pure (h s (Step.refl I.si.hs) (by simpa [LocF.binds] using I))
  | x :: xs, a :: as, _, loc, s, Q, I, .cons (v := v) (vs := vs) r rs, hx, h => by
    rw [List.zip_cons_cons, List.forIn_cons, hf]
    refine wpAny_bind (wpAny_bind (storeName_R I r (hx x (by simp)) fun h' t S L => wpAny_pure ?_))
    refine bindR f hf xs as vs _ _ Q (I.stepF S L) (VRs.stepF I S rs) (fun y hy => hx y (by simp [hy])) fun s' S' I' => h s' (S.trans S') ?_
    rw [List.zip_cons_cons]
    exact I'

/-- a function of the world -/
structure FnOk (o : Wo) (a : Addr) (fd : FuncData) (ns : List Str) (ds : List V) (body : List Stmt) : Prop where
  ob : ∃ ob, o.K.lookup a = some ob ∧ ob.data = .func fd
  code : ∀ h, o.K.In h → h.CodeRec fd.code fd.qualname
  dflt : ∃ dv : List Value, (∀ h, VRs h ds dv) ∧ ∀ h, o.K.In h → ((fd.defaults = .none ∧ dv = []) ∨ ∃ T ob n, fd.defaults = .ref T ∧ h.get? T = some ob ∧ ob.data = .seq dv.toArray n)
  params : plainPar fd.params ns = true
  nd : ns.Nodup
  kinds : ∀ x ∈ ns, (fd.scope.names.lookup x == some .local || (fd.scope.names.lookup x == some .cell && !(x == ("__classdict__" : Str)))) = true
  kind : fd.scope.kind = .function
  gen : fd.scope.isGenerator = false
  co : fd.scope.isCoroutine = false
  glob : fd.globals = mainGlobals
  blt : fd.builtins = builtinsNs
  clo : fd.closure = []
  body : fd.body = .stmts body
  dle : ds.length ≤ ns.length

noncomputable def Kx.deep (k : Kx) (env : Env) : Kx := ⟨k.A.deeper env, env :: k.fs, k.n - 1⟩
noncomputable def Fl.v : Fl → V
  | .ret v => v
  | _ => .none

theorem KxOk.deep {k : Kx} (h : KxOk k) (hn : 1 ≤ k.n) (env : Env) : KxOk (k.deep env) where
  fr := by show k.A.frames.map _ = _; rw [h.fr]; rfl
  depth := by show k.A.depth + 1 + (k.n - 1) < _; have := h.depth; omega
  units := by show k.A.units + 3 + 5 * (k.n - 1) + 40 < _; have := h.units; omega
  handled := h.handled

theorem SI.of_depth {o : Wo} {k : Kx} {st : St} {s : Shared} (S : SI o k st s) {k' : Kx} (h : KxOk k') (hf : FrOk k'.fs s.heap) : SI o k' st s := ⟨h, S.wd, hf, S.hs, S.sep⟩

theorem callc_fn {o : Wo} [W : WoOk o] {k : Kx} {st : St} {a : Addr} {fd : FuncData} {ns : List Str} {ds : List V} {body : List Stmt} (hF : FnOk o a fd ns ds body) {as : List V} {Q : V → St → Prop} {X : Exc → St → Prop}
    (hn : 1 ≤ k.n) (h1 : as.length ≤ ns.length) (h2 : ns.length ≤ as.length + ds.length)
    (h : ∀ L, let c : Cx := ⟨k.deep (callEnvC fd L a), callEnvC fd L a⟩
      EXS o c (LocF.binds (ns.zip (as ++ ds.drop (as.length + ds.length - ns.length))) LocF.nil) st body (fun fl _ st' => ∃ st'', St.le st'' st' ∧ Q fl.v st'') (fun x st' => ∃ st'', St.le st'' st' ∧ X x st'')) :
    CALLC o k st (.ref a) as Q X := fun s vs S r => by
  obtain ⟨ob, hob, hdat⟩ := hF.ob
  obtain ⟨dv, hdv, hdf⟩ := hF.dflt
  have hdl := (hdv s.heap).length
  have hvl := r.length
  have hk := S.wd.k
  refine codeAny_call_function (by have := S.ok.depth; omega) (hk a ob hob) hdat hF.co hF.gen hF.body (hF.code _ hk) ?_
  refine bindsTo hF.params hF.nd (hdf _ hk) (by omega) (by have := hF.dle; omega) (by have := hF.dle; omega) _ _ _ _ ?_
  rw [hF.clo]
  simp only [newFunctionEnv, Option.isSome_none, Bool.false_eq_true, if_false]
  refine wpAny_bind (wpAny_alloc ?_)
  refine wpAny_bind (wpAny_layCells _ (fun name kind cells => by cases hkc : kind == NameKind.cell <;> simp [hkc]) _ _ _ _ ?_)
  rw [show ({ s with heap := s.heap.push { cls := .type "frame", data := .dict #[] } } : Shared).heap.objs.size = s.heap.objs.size + 1 from Heap.size_push ..]
  -- the new frame
  have eE : newEnv fd.scope s.heap.objs.size fd.globals (cellsFrom (s.heap.objs.size + 1) fd.scope.names []) (fd.qualname ++ ".<locals>.") (some a) fd.code none fd.builtins = callEnvC fd s.heap.objs.size a := rfl
  generalize hEn : callEnvC fd s.heap.objs.size a = env at eE
  have hel : env.locals = s.heap.objs.size := by rw [← hEn]; rfl
  have hec : env.cells = cellsFrom (s.heap.objs.size + 1) fd.scope.names [] := by rw [← hEn]; rfl
  have hes : env.scope = fd.scope := by rw [← hEn]; rfl
  have hef : env.frame = some s.heap.objs.size := by rw [← hEn]; rfl
  obtain ⟨c, hc⟩ : ∃ c : Cx, c = ⟨k.deep env, env⟩ := ⟨_, rfl⟩
  have hce : c.env = env := by rw [hc]
  generalize hs1 : ({ s with heap := pushCells (s.heap.push { cls := .type "frame", data := .dict #[] }) fd.scope.names } : Shared) = s₁
  have S1 : Step o.P noF st s st s₁ := by
    rw [← hs1]
    exact (Step.push S.hs { cls := .type "frame", data := .dict #[] } s.toks).trans (Step.pushCells fd.scope.names { s with heap := s.heap.push { cls := .type "frame", data := .dict #[] } } (S.hs.push _))
  have fL : s₁.heap.get? s.heap.objs.size = some { cls := .type "frame", data := .dict #[] } := by
    rw [← hs1]; exact pushCells_keeps _ _ _ _ (Heap.get?_push_size _ rfl)
  have hcell : ∀ x b, (x, b) ∈ env.cells → s₁.heap.get? b = some { cls := .type "cell", data := .cell none } ∧ s.heap.objs.size + 1 ≤ b := fun x b hm => by
    rw [hec] at hm
    have := cellsFrom_obj fd.scope.names (s.heap.push { cls := .type "frame", data := .dict #[] }) [] x b (by rw [Heap.size_push]; exact hm)
    rw [Heap.size_push] at this
    rcases this with q | q
    · cases q
    · rw [← hs1]; exact q
  have ok := cellsFrom_ok fd.scope.names (s.heap.push { cls := .type "frame", data := .dict #[] }) (s.heap.objs.size + 1) [] ⟨fun _ _ hm => (nomatch hm), List.Pairwise.nil⟩ (by rw [Heap.size_push]; exact Nat.le_refl _)
  rw [Heap.size_push, ← hec] at ok
  have hown : ∀ b, own c b → s.heap.get? b = none ∧ st b = none ∧ ∃ o, s₁.heap.get? b = some o := fun b hb => by
    have hle : s.heap.objs.size ≤ b ∧ ∃ o, s₁.heap.get? b = some o := by
      rcases hb with hb | ⟨x, hb⟩
      · rw [hce, hel] at hb; rw [hb]; exact ⟨Nat.le_refl _, _, fL⟩
      · rw [hce] at hb; exact ⟨by have := (hcell x b hb).2; omega, _, (hcell x b hb).1⟩
    refine ⟨Heap.get?_none_of_le hle.1, ?_, hle.2⟩
    cases q : st b with
    | none => rfl
    | some m => obtain ⟨o', ho', _⟩ := S.hs b m q; rw [Heap.get?_none_of_le hle.1] at ho'; cases ho'
  have kk : ∀ x, env.kindOf x = fd.scope.names.lookup x := fun x => by unfold Env.kindOf; rw [hes]
  have I1 : Inv o c LocF.nil st s₁ := by
    refine ⟨⟨by rw [hce, hes]; exact hF.kind, by rw [hce, ← hEn]; exact hF.glob, by rw [hce, ← hEn]; exact hF.blt⟩, ?_, ?_, ⟨fun b hb => ?_⟩, fun b hb => (hown b hb).2.1, fun b hb ha => ?_⟩
    · have S1' := S.step S1
      refine S1'.of_depth (by rw [hc]; exact S.ok.deep hn env) ?_
      rw [hc]
      intro e he
      rcases List.mem_cons.mp he with rfl | he
      · exact ⟨by rw [hes, hF.kind]; decide, _, _, hef, fL, rfl, _, _, rfl⟩
      · exact S1'.fs e he
    · rw [hce]
      refine ⟨⟨fun _ => none, ?_, fun x v e => nomatch e⟩, fun x b e => ?_, ok.apart⟩
      · rw [hel, ← hs1]
        exact (Heap.Ns.new s.heap (.type "frame")).keeps (pushCells_keeps _ _)
      · exact ⟨_, _, (hcell x b (mem_of_lookup e)).1, rfl⟩
    · rcases hb with hb | ⟨x, hb⟩
      · rw [hce, hel] at hb; subst hb
        exact ⟨_, _, fL, rfl, .inl ⟨_, _, rfl⟩⟩
      · rw [hce] at hb
        exact ⟨_, _, (hcell x b hb).1, rfl, .inr ⟨_, rfl⟩⟩
    · have := In.ex S.wd ha
      rw [(hown b hb).1] at this; cases this
  have r1 : VRs s₁.heap (as ++ ds.drop (as.length + ds.length - ns.length)) (vs ++ dv.drop (vs.length + dv.length - ns.length)) := by
    rw [hvl, hdl]
    exact (r.keep S.hs S1.kp).append ((hdv _).drop _)
  have sto : ∀ x ∈ ns, storable c.env x = true := fun x hx => by
    have := hF.kinds x hx
    unfold storable
    rw [hce, kk]
    simp only [Bool.or_eq_true, Bool.and_eq_true, beq_iff_eq] at this ⊢
    rcases this with q | ⟨q1, q2⟩
    · exact .inl q
    · exact .inr ⟨⟨q1, by rw [hec]; exact cellsFrom_has _ _ _ _ q1⟩, q2⟩
  refine wpAny_bind (bindR (o := o) (c := c) _ (fun _ _ _ => by rw [hce, ← eE]; rfl) ns _ _ LocF.nil _ _ I1 r1 sto fun s₂ S2 I2 => wpAny_pure ?_)
  have hb := h s.heap.objs.size
  rw [hEn] at hb
  dsimp only at hb
  rw [← hc] at hb
  refine ⟨I2.si.wd.nolimit, ?_⟩
  have eE' : ({ scope := fd.scope, locals := s.heap.objs.size, globals := fd.globals, cells := cellsFrom (s.heap.objs.size + 1) fd.scope.names [], qual := fd.qualname ++ ".<locals>.", func := some a, code := fd.code, frame := some s.heap.objs.size, builtins := fd.builtins } : Env) = env := eE
  simp only [eE']
  refine codeAny_func ?_
  have eA : k.A.deeper env = c.k.A := by rw [hc]; rfl
  rw [eA]
  have := hb s₂ I2
  rw [hce] at this
  have S02 : Step o.P noF st s st s₂ := S1.absorb S2 fun b hb => (hown b hb).1
  refine wpAny_mono this (fun f s₃ p => ?_) fun e s₃ p => ?_
  · obtain ⟨fl, loc', st', fr, S3, L3, st'', hle, hq⟩ := p
    refine ⟨fl.v, st'', ?_, (S02.absorb S3 fun b hb => (hown b hb).1).forget hle, hq⟩
    cases fr <;> first | exact .none | assumption
  · have := leave_R (o := o) (k := ⟨c.k.A, k.fs, 0⟩) (env := env) (loc := LocF.nil) (s := s) (X := X) (L := s.heap.objs.size) (by show c.k.A.frames = _; rw [hc]; exact (S.ok.deep hn env).fr) hef hel (by
      have := I2.si.fs
      rw [hc] at this
      exact this) S02 I2.si.hs c hce (fun b hb => (hown b hb).1) (fl := some c.env.locals) (fun L' e => by cases e; rw [hce]; exact hel) p.drop
    exact this
theorem call_fn {o : Wo} [W : WoOk o] {k : Kx} {st : St} {a : Addr} {fd : FuncData} {ns : List Str} {ds : List V} {body : List Stmt} (hF : FnOk o a fd ns ds body) {as : List V} {Q : V → St → Prop} {X : Exc → St → Prop}
    (hn : 1 ≤ k.n) (h1 : as.length ≤ ns.length) (h2 : ns.length ≤ as.length + ds.length)
    (h : ∀ L, let c : Cx := ⟨k.deep (callEnvC fd L a), callEnvC fd L a⟩
      EXS o c (LocF.binds (ns.zip (as ++ ds.drop (as.length + ds.length - ns.length))) LocF.nil) st body (fun fl _ st' => ∃ st'', St.le st'' st' ∧ Q fl.v st'') (fun x st' => ∃ st'', St.le st'' st' ∧ X x st'')) :
    CALL o k st (.ref a) as Q X := (callc_fn hF hn h1 h2 h).call
end NN
end

-- part: NN10
section
open PySem PySem.W PyProof.Rows PySem.Calls
set_option maxRecDepth 100000
set_option linter.all false
namespace NN

section
variable {o : Wo} [W : WoOk o] {c : Cx} {k : Kx} {loc : LocF} {st : St} {Q : V → St → Prop} {X : Exc → St → Prop} {QB : Bool → St → Prop} {QF : Fl → LocF → St → Prop} {QL : LocF → St → Prop}

/-! use of the triples -/
theorem EV.use {e : Expr} (h : EV o c loc st e Q X) {s : Shared} (I : Inv o c loc st s) {Qv : Value → Shared → Prop}
    (q : ∀ v st₁ va s₁, Q v st₁ → Step o.P noF st s st₁ s₁ → Inv o c loc st₁ s₁ → VR s₁.heap v va → Qv va s₁) : wpAny o.M c.k.A (eval e c.env) Qv (PX o noF st s X) s :=
  wpAny_mono (h s I) (fun _ _ ⟨_, _, a, b, d⟩ => q _ _ _ _ d b (I.step b) a) fun _ _ p => p
theorem TR.use {e : Expr} (h : TR o c loc st e QB X) {s : Shared} (I : Inv o c loc st s) {Qv : Bool → Shared → Prop}
    (q : ∀ v st₁ s₁, QB v st₁ → Step o.P noF st s st₁ s₁ → Inv o c loc st₁ s₁ → Qv v s₁) : wpAny o.M c.k.A (isTrue e c.env (eval e c.env)) Qv (PX o noF st s X) s :=
  wpAny_mono (h s I) (fun _ _ ⟨_, b, d⟩ => q _ _ _ d b (I.step b)) fun _ _ p => p
theorem px {fl : Option Addr} {F : Addr → Prop} {G : Heap → Prop} {st₁ : St} {s s₁ : Shared} (S : Step o.P F st s st₁ s₁) {m : Sem α} {Qa : α → Shared → Prop} {A : Around} (h : wpAny o.M A m Qa (PXg o F G fl st₁ s₁ X) s₁) : wpAny o.M A m Qa (PXg o F G fl st s X) s₁ :=
  wpAny_mono h (fun _ _ p => p) fun _ _ p => p.trans S
theorem pxw {s : Shared} (I : Inv o c loc st s) {s' : Shared} {m : Sem α} {Qa : α → Shared → Prop} {A : Around} (h : wpAny o.M A m Qa (PX o noF st s X) s') : wpAny o.M A m Qa (PXO o c st s X) s' :=
  wpAny_mono h (fun _ _ p => p) fun _ _ ⟨y, st', e, a, b, S, _, d⟩ => ⟨y, st', e, a, b.weak, S.weak, (I.step S).lc.nil, d⟩

/-! truth -/
theorem trv_bool {b : Bool} (h : QB b st) : TRV o k st (.bool b) QB X := fun s va S r => by cases r; exact wpAny_pure ⟨st, Step.refl S.hs, h⟩
theorem tr_cmp {l r : Expr} {op : CmpOp} {pos : Pos} (h : EV o c loc st l (fun a st₁ => EV o c loc st₁ r (fun b st₂ => CMP o c.k st₂ op a b (fun v st₃ => TRV o c.k st₃ v QB X) X) X) X)
    (hm : behindInMarks op r = false := by with_unfolding_all rfl) : TR o c loc st (.Compare l [op] [r] pos) QB X := fun s I => by
  refine wpAny_isTrue_Compare1 (h.use I fun a st₁ va s₁ q S I₁ ra => px S (q.use I₁ fun b st₂ vb s₂ q₂ S₂ I₂ rb => px (S.trans S₂) ?_)) hm
  refine wpAny_mono (q₂ s₂ va vb I₂.si (ra.keep I₁.si.hs S₂.kp) rb) (fun v s₃ p => ?_) fun _ _ p => p
  obtain ⟨r3, st₃, rr, S₃, q₃⟩ := p
  have S' := (S.trans S₂).trans S₃
  exact px S' (wpAny_mono (q₃ s₃ _ (I₂.step S₃).si rr) (fun b s₄ p => p.trans S') fun _ _ p => p)
theorem ev_cmp {l r : Expr} {op : CmpOp} {pos : Pos} (h : EV o c loc st l (fun a st₁ => EV o c loc st₁ r (fun b st₂ => CMP o c.k st₂ op a b Q X) X) X)
    (hm : behindInMarks op r = false := by with_unfolding_all rfl) : EV o c loc st (.Compare l [op] [r] pos) Q X := fun s I => by
  refine wpAny_Compare1 (h.use I fun a st₁ va s₁ q S I₁ ra => px S (q.use I₁ fun b st₂ vb s₂ q₂ S₂ I₂ rb => px (S.trans S₂) ?_)) hm
  exact wpAny_mono (q₂ s₂ va vb I₂.si (ra.keep I₁.si.hs S₂.kp) rb) (fun v s₃ p => p.trans (S.trans S₂)) fun _ _ p => p
theorem tr_not {x : Expr} {pos : Pos} (h : TR o c loc st x (fun b st₁ => QB (!b) st₁) X) : TR o c loc st (.UnaryOp .Not x pos) QB X := fun s I =>
  wpAny_isTrue_Not (h.use I fun b st₁ s₁ q S _ => ⟨st₁, S, q⟩)
theorem tr_and_nil {pos : Pos} (h : QB true st) : TR o c loc st (.BoolOp .And [] pos) QB X := fun s I => wpAny_isTrue_BoolOp (wpAny_allTrue_And_nil ⟨st, Step.refl I.si.hs, h⟩)
theorem tr_or_nil {pos : Pos} (h : QB false st) : TR o c loc st (.BoolOp .Or [] pos) QB X := fun s I => wpAny_isTrue_BoolOp (wpAny_allTrue_Or_nil ⟨st, Step.refl I.si.hs, h⟩)
theorem allTrue_of {op : BoolOp} {values : List Expr} {pos : Pos} {s : Shared} (I : Inv o c loc st s) (h : TR o c loc st (.BoolOp op values pos) QB X) : wpAny o.M c.k.A (allTrue op values c.env) (PB o st s QB) (PX o noF st s X) s := by
  have := h s I
  rwa [arm_isTrue_BoolOp] at this
theorem tr_and {x : Expr} {rest : List Expr} {pos : Pos} (h : TR o c loc st x (fun b st₁ => if b then TR o c loc st₁ (.BoolOp .And rest pos) QB X else QB false st₁) X) : TR o c loc st (.BoolOp .And (x :: rest) pos) QB X := fun s I =>
  wpAny_isTrue_BoolOp (wpAny_allTrue_And_cons (h.use I fun b st₁ s₁ q S I₁ => by
    cases b with
    | false => exact ⟨st₁, S, q⟩
    | true => exact px S (wpAny_mono (allTrue_of I₁ q) (fun _ _ p => p.trans S) fun _ _ p => p)))
theorem tr_or {x : Expr} {rest : List Expr} {pos : Pos} (h : TR o c loc st x (fun b st₁ => if b then QB true st₁ else TR o c loc st₁ (.BoolOp .Or rest pos) QB X) X) : TR o c loc st (.BoolOp .Or (x :: rest) pos) QB X := fun s I =>
  wpAny_isTrue_BoolOp (wpAny_allTrue_Or_cons (h.use I fun b st₁ s₁ q S I₁ => by
    cases b with
    | true => exact ⟨st₁, S, q⟩
    | false => exact px S (wpAny_mono (allTrue_of I₁ q) (fun _ _ p => p.trans S) fun _ _ p => p)))
theorem tr_val {e : Expr} (he : ∀ env whole, isTrue e env whole = (do let v ← whole; standAt e.pos; holding [v] (truthy v))) (h : EV o c loc st e (fun v st₁ => TRV o c.k st₁ v QB X) X) : TR o c loc st e QB X := fun s I =>
  wpAny_isTrue_value (h.use I fun v st₁ va s₁ q S I₁ ra => px S (wpAny_mono (q s₁ va I₁.si ra) (fun _ _ p => p.trans S) fun _ _ p => p)) (he _ _)

/-! further expressions -/
theorem ev_unary {x : Expr} {op : UnaryOp} {pos : Pos} (h : EV o c loc st x (fun a st₁ => OPU o c.k st₁ op a Q X) X) : EV o c loc st (.UnaryOp op x pos) Q X := fun s I =>
  wpAny_UnaryOp (h.use I fun a st₁ va s₁ q S I₁ ra => px S (wpAny_mono (q s₁ va I₁.si ra) (fun _ _ p => p.trans S) fun _ _ p => p))
theorem opu_not {a : V} (h : TRV o k st a (fun b st₁ => Q (.bool (!b)) st₁) X) : OPU o k st .Not a Q X := fun s va S ra =>
  not_value (wpAny_mono (h s va S ra) (fun b s₁ ⟨st₁, S₁, q⟩ => ⟨_, st₁, .bool _, S₁, q⟩) fun _ _ p => p)
theorem ev_ifexp {t b e : Expr} {pos : Pos} (h : TR o c loc st t (fun r st₁ => if r then EV o c loc st₁ b Q X else EV o c loc st₁ e Q X) X) : EV o c loc st (.IfExp t b e pos) Q X := fun s I =>
  wpAny_IfExp (h.use I fun r st₁ s₁ q S I₁ => by
    cases r
    · exact px S (wpAny_mono (q s₁ I₁) (fun _ _ p => p.trans S) fun _ _ p => p)
    · exact px S (wpAny_mono (q s₁ I₁) (fun _ _ p => p.trans S) fun _ _ p => p))
theorem ev_and2 {x y : Expr} {pos : Pos} (h : EV o c loc st x (fun a st₁ => TRV o c.k st₁ a (fun b st₂ => if b then EV o c loc st₂ y Q X else Q a st₂) X) X) : EV o c loc st (.BoolOp .And [x, y] pos) Q X := fun s I =>
  wpAny_And2 (h.use I fun a st₁ va s₁ q S I₁ ra => px S (wpAny_mono (q s₁ va I₁.si ra) (fun b s₂ ⟨st₂, S₂, q₂⟩ => by
    have S' := S.trans S₂
    cases b with
    | false => exact ⟨a, st₂, ra.keep I₁.si.hs S₂.kp, S', q₂⟩
    | true => exact px S' (wpAny_mono (q₂ s₂ (I₁.step S₂)) (fun _ _ p => p.trans S') fun _ _ p => p)) fun _ _ p => p))
theorem ev_or2 {x y : Expr} {pos : Pos} (h : EV o c loc st x (fun a st₁ => TRV o c.k st₁ a (fun b st₂ => if b then Q a st₂ else EV o c loc st₂ y Q X) X) X) : EV o c loc st (.BoolOp .Or [x, y] pos) Q X := fun s I =>
  wpAny_Or2 (h.use I fun a st₁ va s₁ q S I₁ ra => px S (wpAny_mono (q s₁ va I₁.si ra) (fun b s₂ ⟨st₂, S₂, q₂⟩ => by
    have S' := S.trans S₂
    cases b with
    | true => exact ⟨a, st₂, ra.keep I₁.si.hs S₂.kp, S', q₂⟩
    | false => exact px S' (wpAny_mono (q₂ s₂ (I₁.step S₂)) (fun _ _ p => p.trans S') fun _ _ p => p)) fun _ _ p => p))

/-! statements -/
theorem exs_nil (h : QF .next loc st) : EXS o c loc st [] QF X := fun s I => wpAny_execs_nil ⟨.next, loc, st, .next, Step.refl I.si.hs, I.lc, h⟩
theorem exs_cons {e : Stmt} {es : List Stmt} (h : EX o c loc st e (fun f loc₁ st₁ => match f with | .next => EXS o c loc₁ st₁ es QF X | f => QF f loc₁ st₁) X) : EXS o c loc st (e :: es) QF X := fun s I => by
  refine wpAny_execs_cons (wpAny_mono (h s I) (fun f s₁ p => ?_) fun _ _ p => p)
  obtain ⟨fl, loc₁, st₁, fr, S, L, q⟩ := p
  have I₁ := I.stepF S L
  cases fr with
  | next => exact px S (wpAny_mono (q s₁ I₁) (fun _ _ p => p.trans S) fun _ _ p => p)
  | brk => exact ⟨_, _, _, .brk, S, L, q⟩
  | cont => exact ⟨_, _, _, .cont, S, L, q⟩
  | ret r => exact ⟨_, _, _, .ret r, S, L, q⟩
theorem ex_return {e : Expr} {pos : Pos} (h : EV o c loc st e (fun v st₁ => QF (.ret v) loc st₁) X) : EX o c loc st (.Return (some e) pos) QF X := fun s I =>
  wpAny_Return_some (pxw I (h.use I fun v st₁ va s₁ q S I₁ r => ⟨_, _, _, .ret r, S.weak, I₁.lc, q⟩))
theorem ex_expr {e : Expr} {pos : Pos} (hs : ∀ env, swapsWith e none pos.line env = pure false) (h : EV o c loc st e (fun _ st₁ => QF .next loc st₁) X) : EX o c loc st (.Expr e pos) QF X := fun s I => by
  have hi : interactive c.env = false := by unfold interactive; rw [I.cx.kind]; rfl
  rw [exec_Expr c.env e pos hi (hs _)]
  refine wpAny_bind (wpAny_standAt (wpAny_bind (pxw I (h.use I fun v st₁ va s₁ q S I₁ r => ?_))))
  exact wpAny_dropValue ⟨.next, loc, st₁, .next, S.weak, I₁.lc, q⟩
theorem ex_if {t : Expr} {b e : List Stmt} {pos : Pos} (h : TR o c loc st t (fun r st₁ => if r then EXS o c loc st₁ b QF X else EXS o c loc st₁ e QF X) X) : EX o c loc st (.If t b e pos) QF X := fun s I =>
  wpAny_If (pxw I (h.use I fun r st₁ s₁ q S I₁ => by
    have S' := S.weak (F := own c)
    cases r
    · exact px S' (wpAny_mono (q s₁ I₁) (fun _ _ p => p.trans S') fun _ _ p => p)
    · exact px S' (wpAny_mono (q s₁ I₁) (fun _ _ p => p.trans S') fun _ _ p => p)))
theorem ex_assign {t e : Expr} {pos : Pos} (hs : ∀ env, swapsWith e (some t) pos.line env = pure false) (hw : ∀ env, swappedStores [t] e env = pure none) (he : ∀ env, (assignEach [t] env).map (·.2) = [assign t env]) (h : EV o c loc st e (fun v st₁ => ASG o c loc st₁ t v (fun loc₂ st₂ => QF .next loc₂ st₂) X) X) :
    EX o c loc st (.Assign [t] e pos) QF X := fun s I => by
  refine wpAny_Assign_stores (pxw I (h.use I fun v st₁ va s₁ q S I₁ r => ?_)) (hs _) (hw _)
  rw [he]
  have S' := S.weak (F := own c)
  refine px S' ?_
  show wpAny o.M c.k.A (assign t c.env va) _ _ s₁
  exact wpAny_mono (q s₁ va I₁ r) (fun _ s₂ ⟨loc₂, st₂, S₂, L, q₂⟩ => ⟨_, loc₂, st₂, .next, S'.trans S₂, L, q₂⟩) fun _ _ p => p
theorem asg_name {x : Str} {pos : Pos} {v : V} (hx : storable c.env x = true) (h : QL (loc.set x v) st) : ASG o c loc st (.Name x pos) v QL X := fun s u I r => by
  show wpAny o.M c.k.A (do standAt pos; bindName c.env x u) _ _ s
  exact wpAny_bind (wpAny_standAt (wpAny_bindName (storeName_R I r hx fun h' t S L => ⟨_, st, S, L, h⟩)))
end
end NN
end

-- part: NN11
section
open PySem PySem.W PyProof.Rows PySem.Calls
set_option maxRecDepth 100000
set_option linter.all false
namespace NN

theorem Step.absorbF {P : Params} {F G : Addr → Prop} {st st₁ st₂ : St} {s s₁ s₂ : Shared} (x : Step P F st s st₁ s₁) (y : Step P G st₁ s₁ st₂ s₂) (hF : ∀ a, G a → F a ∨ s.heap.get? a = none) : Step P F st s st₂ s₂ where
  holds := y.holds
  sub a h := by
    rcases y.sub a h with h | h
    · exact x.sub a h
    · right
      cases q : s.heap.get? a with
      | none => rfl
      | some o => have := x.mono a (by rw [q]; rfl); rw [h] at this; cases this
  ext b o hf hb ho := by
    obtain ⟨o₁, h1, k1⟩ := x.ext b o hf hb ho
    obtain ⟨o₂, h2, k2⟩ := y.ext b o₁ (fun g => (hF b g).elim hf fun q => by rw [q] at ho; cases ho) (x.still hb ho) h1
    exact ⟨o₂, h2, k1.trans k2⟩
  own b o hf hb ho := by
    obtain ⟨o₁, h1, k1⟩ := x.own b o hf hb ho
    by_cases g : G b
    · obtain ⟨o₂, h2, k2⟩ := y.own b o₁ g (x.still hb ho) h1
      exact ⟨o₂, h2, k1.trans k2⟩
    · obtain ⟨o₂, h2, k2⟩ := y.ext b o₁ g (x.still hb ho) h1
      exact ⟨o₂, h2, k1.trans k2.oo⟩
  mono b h := y.mono b (x.mono b h)
  gens := y.gens.trans x.gens
  os := y.os.trans x.os

/-- a record that belongs to nobody -/
noncomputable def FreeRec (o : Wo) (h : Heap) (a : Addr) : Prop := ¬ o.ad a ∧ ∃ ob T vs, h.get? a = some ob ∧ ob.cls = .type T ∧ ob.data = .fields vs ∧ T ≠ "range"

section
variable {o : Wo} [W : WoOk o] {c : Cx} {k : Kx} {loc : LocF} {st st' : St} {s s' : Shared}
theorem FreeRec.stn {a : Addr} (H : Holds o.P st s.heap) (x : FreeRec o s.heap a) : st a = none := by
  obtain ⟨_, ob, T, vs, h1, h2, h3, h4⟩ := x
  exact rec_not_st H h1 h2 h3
theorem DOk.free {F : Addr → Prop} (H : Holds o.P st s.heap) (hF : ∀ a, F a → FreeRec o s.heap a) : DOk (fun b => st b ≠ none ∨ F b) s.heap where
  tup a ws n x q := by
    rcases q with q | q
    · exact q (tup_not_st H x)
    · obtain ⟨_, ob, T, vs, h1, h2, h3, h4⟩ := hF a q
      have e := Option.some.inj (h1.symm.trans x)
      subst e; cases h3
  rng a ob vs x hc hd q := by
    rcases q with q | q
    · exact q (rec_not_st H x hc hd)
    · obtain ⟨_, ob', T, vs, h1, h2, h3, h4⟩ := hF a q
      rw [x] at h1; cases h1
      rw [hc] at h2; cases h2
      exact h4 rfl
  obj a ob x hd hC q := by
    rcases q with q | q
    · exact q (inst_not_st H x hd)
    · obtain ⟨_, ob', T, vs, h1, h2, h3, h4⟩ := hF a q
      rw [x] at h1; cases h1
      rw [hd] at h3; cases h3
theorem VR.stepG {F : Addr → Prop} (H : Holds o.P st s.heap) (hF : ∀ a, F a → FreeRec o s.heap a) (x : Step o.P F st s st' s') {a : V} {v : Value} (r : VR s.heap a v) : VR s'.heap a v := r.keepD (DOk.free H hF) x.kpd
theorem SI.stepG {F : Addr → Prop} (S : SI o k st s) (hF : ∀ a, F a → FreeRec o s.heap a) (x : Step o.P F st s st' s') : SI o k st' s' := by
  have ad : ∀ a, o.ad a → ∀ ob, s.heap.get? a = some ob → ∃ o', s'.heap.get? a = some o' ∧ KO ob o' := fun a ha ob hob => x.ext a ob (fun q => (hF a q).1 ha) (S.sep a ha) hob
  have nk : ∀ {a : Addr} {m : Str → Option Value}, o.ad a → s.heap.Ns a m → s'.heap.Ns a m := fun {a m} ha ⟨ob, es, ep, h1, h2, r⟩ => by
    obtain ⟨o', h, k⟩ := ad a ha ob h1
    exact ⟨o', es, ep, h, k.data.trans h2, r⟩
  refine ⟨S.ok, ⟨fun a ob e => ?_, nk (.inr (.inl rfl)) S.wd.g, nk (.inr (.inr (.inl rfl))) S.wd.b, S.wd.bi, ?_⟩, S.fs.stepF S.hs x, x.holds, fun a ha => none_of_sub x.sub (S.sep a ha) (In.ex S.wd ha)⟩
  · obtain ⟨o', h, k⟩ := ad a (.inl ⟨ob, e⟩) ob (S.wd.k a ob e)
    rw [k.eq (W.noFrame a ob e)] at h
    exact h
  · obtain ⟨mc, h1, h2⟩ := S.wd.nolimit
    exact ⟨mc, nk (.inr (.inr (.inr rfl))) h1, h2⟩
theorem LocR.keepD {D : Addr → Prop} {h' : Heap} (I : Inv o c loc st s) (H : DOk D s.heap) (K : KpD D s.heap h') (hD : ∀ a, own c a → ¬ D a) : LocR c.env loc h' := by
  have kp : ∀ a, own c a → ∀ ob, s.heap.get? a = some ob → ∃ o', h'.get? a = some o' ∧ KO ob o' := fun a ha ob hob => K a ob (hD a ha) hob
  have ck : ∀ {a : Addr} {v : Option Value}, own c a → s.heap.IsCell a v → h'.IsCell a v := fun {a v} ha ⟨ob, h1, h2⟩ => by
    obtain ⟨o', h, k⟩ := kp a ha ob h1
    exact ⟨o', h, k.data.trans h2⟩
  refine ⟨?_, fun y a e => ?_, I.lc.apart⟩
  · obtain ⟨m, ⟨ob, es, ep, h1, h2, h3⟩, q⟩ := I.lc.ns
    obtain ⟨o', h, k⟩ := kp _ (.inl rfl) ob h1
    refine ⟨m, ⟨o', es, ep, h, k.data.trans h2, h3⟩, fun y v e => ?_⟩
    rcases q y v e with ⟨b1, u, b2, b3⟩ | ⟨b1, b2, a, u, b3, b4, b5⟩
    · exact .inl ⟨b1, u, b2, b3.keepD H K⟩
    · exact .inr ⟨b1, b2, a, u, b3, ck (.inr ⟨y, mem_of_lookup b3⟩) b4, b5.keepD H K⟩
  · obtain ⟨u, q⟩ := I.lc.cells y a e
    exact ⟨u, ck (.inr ⟨y, mem_of_lookup e⟩) q⟩
theorem FreeRec.nown {a : Addr} (I : Inv o c loc st s) (x : FreeRec o s.heap a) : ¬ own c a := fun q => by
  obtain ⟨_, ob, T, vs, h1, h2, h3, h4⟩ := x
  obtain ⟨ob', T', e1, e2, e3⟩ := I.ow.ex a q
  rw [h1] at e1; cases e1
  rcases e3 with ⟨es, n, e3⟩ | ⟨v, e3⟩ <;> (rw [h3] at e3; cases e3)
/-- one free record let go -/
theorem Step.lost {F : Addr → Prop} {st₁ : St} {s₁ : Shared} {it : Addr} {h' : Heap} {t : Nat} (x : Step o.P F st s st₁ s₁) (hf : FreeRec o s₁.heap it) (hfr : s.heap.get? it = none) (hs : Heap.ExtBut it s₁.heap h') :
    Step o.P F st s st₁ { s₁ with heap := h', toks := t } := by
  have K : KpD (fun b => st₁ b ≠ none ∨ b = it) s₁.heap h' := fun b ob hb hob => ⟨ob, hs b ob (fun q => hb (.inr q)) hob, .refl ob⟩
  have D : DOk (fun b => st₁ b ≠ none ∨ b = it) s₁.heap := DOk.free x.holds fun a q => by subst q; exact hf
  have ne : ∀ {b ob}, s.heap.get? b = some ob → b ≠ it := fun h q => by rw [q, hfr] at h; cases h
  refine ⟨fun a m e => ?_, x.sub, fun b ob hb hst hob => ?_, fun b ob hb hst hob => ?_, fun b hb => ?_, x.gens, x.os⟩
  · obtain ⟨ob, h1, h2⟩ := x.holds a m e
    have : a ≠ it := by intro q; subst q; rw [hf.stn x.holds] at e; cases e
    exact ⟨ob, hs a ob this h1, h2.keepD D K⟩
  · obtain ⟨o', h1, h2⟩ := x.ext b ob hb hst hob
    exact ⟨o', hs _ _ (ne hob) h1, h2⟩
  · obtain ⟨o', h1, h2⟩ := x.own b ob hb hst hob
    exact ⟨o', hs _ _ (ne hob) h1, h2⟩
  · obtain ⟨ob, hob⟩ := Option.isSome_iff_exists.mp hb
    obtain ⟨o', ho'⟩ := Option.isSome_iff_exists.mp (x.mono b hb)
    show (h'.get? b).isSome = true
    rw [hs _ _ (ne hob) ho']; rfl
theorem Inv.stepG {F : Addr → Prop} (I : Inv o c loc st s) (hF : ∀ a, F a → FreeRec o s.heap a) (x : Step o.P F st s st' s') : Inv o c loc st' s' := by
  have nown : ∀ a, own c a → ¬ F a := fun a ha q => by
    obtain ⟨_, ob, T, vs, h1, h2, h3, h4⟩ := hF a q
    obtain ⟨ob', T', e1, e2, e3⟩ := I.ow.ex a ha
    rw [h1] at e1; cases e1
    rcases e3 with ⟨es, n, e3⟩ | ⟨v, e3⟩ <;> (rw [h3] at e3; cases e3)
  have kp : ∀ a, own c a → ∀ ob, s.heap.get? a = some ob → ∃ o', s'.heap.get? a = some o' ∧ KO ob o' := fun a ha ob hob => x.ext a ob (nown a ha) (I.ost a ha) hob
  have ck : ∀ {a : Addr} {v : Option Value}, own c a → s.heap.IsCell a v → s'.heap.IsCell a v := fun {a v} ha ⟨ob, h1, h2⟩ => by
    obtain ⟨o', h, k⟩ := kp a ha ob h1
    exact ⟨o', h, k.data.trans h2⟩
  refine ⟨I.cx, I.si.stepG hF x, ⟨?_, fun y a e => ?_, I.lc.apart⟩, I.ow.step I.ost x, fun a ha => ?_, I.oad⟩
  · obtain ⟨m, ⟨ob, es, ep, h1, h2, h3⟩, q⟩ := I.lc.ns
    obtain ⟨o', h, k⟩ := kp _ (.inl rfl) ob h1
    refine ⟨m, ⟨o', es, ep, h, k.data.trans h2, h3⟩, fun y v e => ?_⟩
    rcases q y v e with ⟨b1, u, b2, b3⟩ | ⟨b1, b2, a, u, b3, b4, b5⟩
    · exact .inl ⟨b1, u, b2, VR.stepG I.si.hs hF x b3⟩
    · exact .inr ⟨b1, b2, a, u, b3, ck (.inr ⟨y, mem_of_lookup b3⟩) b4, VR.stepG I.si.hs hF x b5⟩
  · obtain ⟨u, q⟩ := I.lc.cells y a e
    exact ⟨u, ck (.inr ⟨y, mem_of_lookup e⟩) q⟩
  · obtain ⟨ob, T, h1, _⟩ := I.ow.ex a ha
    exact x.still (I.ost a ha) h1

/-- one free record changed, or was let go into more -/
theorem Step.free {it : Addr} {h' : Heap} {t : Nat} (H : Holds o.P st s.heap) (hf : FreeRec o s.heap it) (hs : Heap.ExtBut it s.heap h') (hit : ∀ ob, s.heap.get? it = some ob → ∃ ob', h'.get? it = some ob' ∧ OO ob ob') :
    Step o.P (fun b => b = it) st s st { s with heap := h', toks := t } := by
  have K : KpD (fun b => st b ≠ none ∨ b = it) s.heap h' := fun b ob hb hob => ⟨ob, hs b ob (fun q => hb (.inr q)) hob, .refl ob⟩
  have D : DOk (fun b => st b ≠ none ∨ b = it) s.heap := DOk.free H fun a q => by subst q; exact hf
  refine ⟨fun a m e => ?_, fun a e => .inl e, fun b ob hb _ hob => ⟨ob, hs b ob hb hob, .refl ob⟩, fun b ob hb _ hob => ?_, fun b hb => ?_, rfl, rfl⟩
  · obtain ⟨ob, h1, h2⟩ := H a m e
    have : a ≠ it := by intro q; subst q; rw [hf.stn H] at e; cases e
    exact ⟨ob, hs a ob this h1, h2.keepD D K⟩
  · have hb : b = it := hb
    subst hb; exact hit ob hob
  · obtain ⟨ob, hob⟩ := Option.isSome_iff_exists.mp hb
    by_cases q : b = it
    · subst q; obtain ⟨ob', h1, _⟩ := hit ob hob; show (h'.get? b).isSome = true; rw [h1]; rfl
    · show (h'.get? b).isSome = true; rw [hs b ob q hob]; rfl
end

section
variable {o : Wo} [W : WoOk o] {c : Cx} {loc : LocF} {st : St} {X : Exc → St → Prop} {QF : Fl → LocF → St → Prop}

/-! while -/
theorem ex_while {t : Expr} {body : List Stmt} {pos : Pos} (J : Nat → LocF → St → Prop) (n : Nat) (h0 : J n loc st)
    (turn : ∀ n loc st, J n loc st → TR o c loc st t (fun b st₁ => if b then EXS o c loc st₁ body (fun fl loc₂ st₂ => match fl with
        | .next | .cont => ∃ m, m < n ∧ J m loc₂ st₂
        | .brk => QF .next loc₂ st₂
        | .ret v => QF (.ret v) loc₂ st₂) (fun _ _ => False) else QF .next loc st₁) (fun _ _ => False)) :
    EX o c loc st (.While t body [] pos) QF X := fun s I => by
  refine wpAny_While (codeAny_whileLoop (fun n s' => ∃ loc' st', J n loc' st' ∧ Step o.P (own c) st s st' s' ∧ Inv o c loc' st' s') (fun n s' ⟨loc', st', hJ, S, I'⟩ => ?_) n ⟨loc, st, h0, Step.refl I.si.hs, I⟩)
  have noX : ∀ {F : Addr → Prop} {G : Heap → Prop} {fl : Option Addr} {st₁ : St} {s₁ : Shared} {e : Value} {s₂ : Shared} {Z : Prop}, PXg o F G fl st₁ s₁ (fun _ _ => False) e s₂ → Z := fun ⟨_, _, _, _, _, _, _, q⟩ => q.elim
  refine wpAny_mono (turn n loc' st' hJ s' I') (fun b s₁ ⟨st₁, S₁, q⟩ => ?_) fun e s₂ p => noX p
  · have I₁ := I'.step S₁
    have S' : Step o.P (own c) st s st₁ s₁ := S.trans S₁.weak
    cases b with
    | false =>
      exact wpAny_execs_nil ⟨.next, _, st₁, .next, S', I₁.lc, q⟩
    | true =>
      refine wpAny_mono (q s₁ I₁) (fun f s₂ p => ?_) fun _ _ p => noX p
      obtain ⟨fl, loc₂, st₂, fr, S₂, L₂, q₂⟩ := p
      have I₂ := I₁.stepF S₂ L₂
      cases fr with
      | next => obtain ⟨m, hm, hj⟩ := q₂; exact ⟨m, hm, _, _, hj, S'.trans S₂, I₂⟩
      | cont => obtain ⟨m, hm, hj⟩ := q₂; exact ⟨m, hm, _, _, hj, S'.trans S₂, I₂⟩
      | brk => exact ⟨_, _, _, .next, S'.trans S₂, L₂, q₂⟩
      | ret r => exact ⟨_, _, _, .ret r, S'.trans S₂, L₂, q₂⟩

/-! for -/
theorem letOwned_plain {target : Expr} {it : Addr} {v : Value} {ob : Obj} {T : String} {M : Model} {A : Around} {E : Value → Shared → Prop} {s : Shared} {Q : Unit → Shared → Prop} (ho : s.heap.get? it = some ob) (hc : ob.cls = .type T)
    (hT : ["enumerate", "zip", "dict_itemiterator", "dict_reverseitemiterator", "odict_iterator", "itertools.zip_longest", "itertools.pairwise"].contains T = false) (h : Q () s) : wpAny M A (letOwnedTupleGo target (.ref it) v) Q E s := by
  obtain ⟨cl, di, da, sl⟩ := ob
  cases hc
  have key : ∀ a, wpAny M A (do
      let o ← load it
      match o.cls, o.data with
      | .type n, .fields vs =>
        if ["enumerate", "zip", "dict_itemiterator", "dict_reverseitemiterator", "odict_iterator", "itertools.zip_longest", "itertools.pairwise"].contains n && vs[0]? == some (rawInt a) then do
          rule "for.unpacks-the-owned-tuple"
          updateField it 0 .none
      | _, _ => pure ()) Q E s := fun a => by
    refine wpAny_bind (wpAny_load ho ?_)
    dsimp only
    cases da <;> first | exact wpAny_pure h | (dsimp only; rw [hT, Bool.false_and, if_neg (by decide)]; exact wpAny_pure h)
  unfold letOwnedTupleGo
  split
  · cases v <;> first | exact key _ | exact wpAny_pure h
  · cases v <;> first | exact key _ | exact wpAny_pure h
  · exact wpAny_pure h

theorem for_core {target : Expr} {body : List Stmt} {it : Addr} {xs : List V} {T : String} {P : Nat → Heap → Prop} {R : Heap → Prop} {J : Nat → LocF → St → Prop} {s₀ s : Shared} {E : Value → Shared → Prop}
    (hfresh : s₀.heap.get? it = none) (H₀ : SI o c.k st s₀) (S : Step o.P (own c) st s₀ st s) (I : Inv o c loc st s)
    (hP : ∀ i h h', P i h → h'.get? it = h.get? it → P i h')
    (hPex : ∀ i h, P i h → ∃ ob vs, h.get? it = some ob ∧ ob.cls = .type T ∧ ob.data = .fields vs)
    (hT : ["enumerate", "zip", "dict_itemiterator", "dict_reverseitemiterator", "odict_iterator", "itertools.zip_longest", "itertools.pairwise"].contains T = false) (hTf : T ≠ "frame") (hTr : T ≠ "range")
    (hR : ∀ {D : Addr → Prop} {st : St} {h h' : Heap}, DOk D h → KpD D h h' → R h → R h')
    (hItem : ∀ i x loc' st' (s : Shared) Q, xs[i]? = some x → J i loc' st' → SI o c.k st' s → R s.heap → P i s.heap → (∀ h' va t, P (i + 1) h' → Heap.SameBut it s.heap h' → VR s.heap x va → Q (some va) { s with heap := h', toks := t }) → wpAny o.M c.k.A (pyNext (.ref it)) Q E s)
    (hEnd : ∀ loc' st' (s : Shared) Q, J xs.length loc' st' → SI o c.k st' s → R s.heap → P xs.length s.heap → (∀ h', Heap.ExtBut it s.heap h' → Q none { s with heap := h' }) → wpAny o.M c.k.A (pyNext (.ref it)) Q E s)
    (h0 : P 0 s.heap) (hR0 : R s.heap) (hJ0 : J 0 loc st)
    (turn : ∀ i x loc st, xs[i]? = some x → J i loc st → ASG o c loc st target x (fun loc₁ st₁ => EXS o c loc₁ st₁ body (fun fl loc₂ st₂ => match fl with
        | .next | .cont => J (i + 1) loc₂ st₂
        | .brk => QF .next loc₂ st₂
        | .ret v => QF (.ret v) loc₂ st₂) (fun _ _ => False)) (fun _ _ => False))
    (fin : ∀ loc st, J xs.length loc st → QF .next loc st) {R' : Result → Shared → Prop}
    (hr : ∀ f s', PF o c st s₀ QF f s' → R' (.ok f) s') (hE : E = notedBy o.M c.k.A c.env fun e s' => R' (.error e) s') :
    codeAny o.M c.k.A (.forLoop target (.ref it) body [] c.env) R' s := by
  have noX : ∀ {F : Addr → Prop} {G : Heap → Prop} {fl : Option Addr} {st₁ : St} {s₁ : Shared} {e : Value} {s₂ : Shared} {Z : Prop}, PXg o F G fl st₁ s₁ (fun _ _ => False) e s₂ → Z := fun ⟨_, _, _, _, _, _, _, q⟩ => q.elim
  have nad : ¬ o.ad it := fun q => by have := In.ex H₀.wd q; rw [hfresh] at this; cases this
  refine codeAny_forLoop_any (fun n s' => ∃ i loc' st', n = xs.length - i ∧ i ≤ xs.length ∧ J i loc' st' ∧ P i s'.heap ∧ R s'.heap ∧ Step o.P (own c) st s₀ st' s' ∧ Inv o c loc' st' s') (fun n s' ⟨i, loc', st', hn, hi, hJ, hp, hr', S', I'⟩ => ?_) xs.length ⟨0, loc, st, rfl, Nat.zero_le _, hJ0, h0, hR0, S, I⟩
  subst hE
  have fr : FreeRec o s'.heap it := by obtain ⟨ob, vs, a, b, d⟩ := hPex i _ hp; exact ⟨nad, ob, T, vs, a, b, d, hTr⟩
  have fr' : ∀ a, a = it → FreeRec o s'.heap a := fun a q => by subst q; exact fr
  cases hx : xs[i]? with
  | none =>
    have hil : i = xs.length := Nat.le_antisymm hi (by simpa using hx)
    subst hil
    refine hEnd loc' st' s' _ hJ I'.si hr' hp fun h' he => ?_
    refine wpAny_execs_nil (hr _ _ ?_)
    refine ⟨.next, loc', st', .next, Step.lost (t := s'.toks) S' fr hfresh he, ?_, fin _ _ hJ⟩
    exact LocR.keepD (D := fun b => st' b ≠ none ∨ b = it) I' (DOk.free I'.si.hs fr') (fun b ob hb hob => ⟨ob, he b ob (fun q => hb (.inr q)) hob, .refl ob⟩) fun a ha q => by
      rcases q with q | q
      · exact q (I'.ost a ha)
      · subst q; exact fr.nown I' ha
  | some x =>
    have hlt : i < xs.length := (List.getElem?_eq_some_iff.mp hx).1
    refine hItem i x loc' st' s' _ hx hJ I'.si hr' hp fun h' va t hp' hs' rv => ?_
    obtain ⟨ob, vs, e1, e2, e3⟩ := hPex _ _ hp'
    have S1 : Step o.P (fun b => b = it) st' s' st' { s' with heap := h', toks := t } := Step.free I'.si.hs fr hs'.extBut fun ob' hob' => by
      obtain ⟨_, obx, Tx, vx, f1, f2, f3, f4⟩ := fr
      obtain ⟨ob1, vs1, g1, g2, g3⟩ := hPex _ _ hp
      rw [g1] at hob'; cases hob'
      exact ⟨ob, e1, e2.trans g2.symm, fun ⟨_, _, q⟩ => (by rw [g3] at q; cases q), fun ⟨_, q⟩ => (by rw [g3] at q; cases q)⟩
    have I1 := I'.stepG fr' S1
    have rv1 : VR h' x va := VR.stepG I'.si.hs fr' S1 rv
    have R1 : R h' := hR (st := st') (DOk.free I'.si.hs fr') S1.kpd hr'
    refine letOwned_plain (s := { s' with heap := h', toks := t }) e1 e2 hT ?_
    have S01 : Step o.P (own c) st s₀ st' { s' with heap := h', toks := t } := S'.absorbF S1 fun a q => .inr (by have q : a = it := q; rw [q]; exact hfresh)
    refine wpAny_mono (turn i x loc' st' hx hJ _ va I1 rv1) (fun _ s₂ p => ?_) fun _ _ p => noX p
    obtain ⟨loc₂, st₂, S₂, L₂, q₂⟩ := p
    have I₂ := I1.stepF S₂ L₂
    refine wpAny_mono (q₂ s₂ I₂) (fun f s₃ p => ?_) fun _ _ p => noX p
    obtain ⟨fl, loc₃, st₃, frr, S₃, L₃, q₃⟩ := p
    have I₃ := I₂.stepF S₃ L₃
    have S23 := S₂.trans S₃
    -- the iterator is as it was
    have P3 : P (i + 1) s₃.heap := by
      refine hP _ _ _ hp' ?_
      have nst : st' it = none := fr.stn I'.si.hs
      have nown : ¬ own c it := fun q => by
        obtain ⟨ob', T', a1, a2, a3⟩ := I1.ow.ex it q
        rw [e1] at a1; cases a1
        rcases a3 with ⟨_, _, a3⟩ | ⟨_, a3⟩ <;> (rw [e3] at a3; cases a3)
      obtain ⟨o', h1, k1⟩ := S23.ext it ob nown nst e1
      have : o' = ob := by
        rcases k1 with k | ⟨⟨k, _⟩, _, _⟩
        · exact k
        · rw [e2] at k; cases k; exact absurd rfl hTf
      rw [h1, this]; exact e1.symm
    have R3 : R s₃.heap := hR (st := st') (DOk.own I1) S23.kpd R1
    have St := S01.trans S23
    cases frr with
    | next => exact ⟨xs.length - (i + 1), by omega, i + 1, _, _, rfl, hlt, q₃, P3, R3, St, I₃⟩
    | cont => exact ⟨xs.length - (i + 1), by omega, i + 1, _, _, rfl, hlt, q₃, P3, R3, St, I₃⟩
    | brk => exact hr _ _ ⟨_, _, _, .next, St, L₃, q₃⟩
    | ret r => exact hr _ _ ⟨_, _, _, .ret r, St, L₃, q₃⟩
end
end NN
end

-- part: NN12
section
open PySem PySem.W PyProof.Rows PySem.Calls
set_option maxRecDepth 100000
set_option linter.all false
namespace NN

noncomputable def plainE : Expr → Bool
  | .Starred .. => false
  | _ => true
theorem starEach_plain {e : Expr} {rest : List Expr} {env : Env} (h : plainE e = true) : starEach (e :: rest) env = (false, eval e env) :: starEach rest env := by
  cases e <;> first | rfl | cases h
theorem backTo_plain {env : Env} {pos : Pos} : ∀ {args : List Expr}, args.all plainE = true → (backTo pos (starEach args env)).any (·.1) = false
  | [], _ => rfl
  | e :: rest, h => by
    simp only [List.all_cons, Bool.and_eq_true] at h
    rw [starEach_plain h.1]
    show (false || (backTo pos (starEach rest env)).any (·.1)) = false
    rw [backTo_plain h.2]; rfl

noncomputable def keepB (K : Frag) : Value → Bool
  | .builtin _ => true
  | .type _ => true
  | f => keepIn K f
theorem keepB_ok {K : Frag} {M : Model} {f : Value} (hk : keepB K f = true) (h : Heap) (X : K.In h) : ∃ k, (k = Keeper.frame ∨ k = Keeper.machine ∨ k = Keeper.boundFrame) ∧ Looks M h (keeperOf f) k := by
  cases f with
  | builtin i => exact ⟨.machine, .inr (.inl rfl), Looks.of_pure rfl⟩
  | type i => exact ⟨.machine, .inr (.inl rfl), Looks.of_pure rfl⟩
  | ref a => exact keeps_K (show keepIn K (.ref a) = true from hk) h X
  | _ => cases hk

section
variable {o : Wo} [W : WoOk o] {c : Cx} {k : Kx} {loc : LocF} {st : St} {Q : V → St → Prop} {X : Exc → St → Prop} {QB : Bool → St → Prop} {QF : Fl → LocF → St → Prop} {QL : LocF → St → Prop} {QS : List V → St → Prop}

theorem evs_nil {pos : Pos} (h : QS [] st) : EVs o c loc st pos [] QS X := fun s I => spliced_nil ⟨[], st, .nil, Step.refl I.si.hs, h⟩
theorem evs_cons {pos : Pos} {e : Expr} {es : List Expr} (h : EV o c loc st e (fun v st₁ => EVs o c loc st₁ pos es (fun vs st₂ => QS (v :: vs) st₂) X) X) (he : plainE e = true := by rfl) : EVs o c loc st pos (e :: es) QS X := fun s I => by
  rw [starEach_plain he]
  refine spliced_cons (h.use I fun v st₁ va s₁ q S I₁ r => px S (wpAny_mono (q s₁ I₁) (fun vs s₂ p => ?_) fun _ _ p => p))
  obtain ⟨rs, st₂, rr, S₂, q₂⟩ := p
  exact ⟨v :: rs, st₂, .cons (r.keep I₁.si.hs S₂.kp) rr, S.trans S₂, q₂⟩
theorem ev_tuple {es : List Expr} {x1} {pos : Pos} (h : EVs o c loc st pos es (fun vs st₁ => vs.length ≤ sizeLine ∧ Q (.tup vs) st₁) X) : EV o c loc st (.Tuple es x1 pos) Q X := fun s I =>
  wpAny_Tuple_spliced (wpAny_mono (h s I) (fun vs s₁ ⟨rs, st₁, rr, S, hl, q⟩ => by
    have I₁ := I.step S
    exact ⟨by rw [← rr.length]; exact hl, .tup rs, st₁, .tup (IsT.new _ _) (rr.keep I₁.si.hs (Kp.push _)), S.trans (Step.push I₁.si.hs _ s₁.toks), q⟩) fun _ _ p => p)
theorem ev_list {es : List Expr} {pos : Pos} (h : EVs o c loc st pos es (fun vs st₁ => vs.length ≤ sizeLine ∧ ∀ a, st₁ a = none → Q (.ptr a) (st₁.set a (.lst vs))) X) : EV o c loc st (.List es pos) Q X := fun s I =>
  wpAny_List_spliced (wpAny_mono (h s I) (fun vs s₁ ⟨rs, st₁, rr, S, hl, q⟩ => by
    have I₁ := I.step S
    exact ⟨by rw [← rr.length]; exact hl, .ptr _, _, .ptr _, S.trans (Step.alloc I₁.si.hs _ (.lst rs) rfl (.lst rr) s₁.toks), q _ (size_none I₁.si.hs)⟩) fun _ _ p => p)

/-- a call's tail -/
theorem callWith_R {pos : Pos} {f : Value} {first : List Value} {fv : List V} {args : List Expr} (hk : keepB o.K f = true) (hp : args.all plainE = true) (h : EVs o c loc st pos args (fun vs st₁ => CALL o c.k st₁ f (fv ++ vs) Q X) X) {s : Shared} (I : Inv o c loc st s) (r : VRs s.heap fv first) :
    wpAny o.M c.k.A (callWith pos f first (backTo pos (starEach args c.env)) []) (PV o st s Q) (PX o noF st s X) s := by
  refine callWith_of (P := o.K.In) (by rw [backTo_plain hp]; rfl) (keepB_ok hk) ?_
  have key : wpAny o.M c.k.A (spliced (backTo pos (starEach args c.env))) (fun vs s₁ => o.K.In s₁.heap ∧ wpAny o.M c.k.A (call f (first ++ vs) []) (PV o st s Q) (PX o noF st s X) s₁) (PX o noF st s X) s := by
    refine wpAny_mono (h s I) (fun vs s₁ ⟨rs, st₁, rr, S, q⟩ => ?_) fun _ _ p => p
    have I₁ := I.step S
    exact ⟨I₁.si.wd.k, px S (wpAny_mono (q s₁ _ I₁.si ((r.keep I.si.hs S.kp).append rr)) (fun _ _ p => p.trans S) fun _ _ p => p)⟩
  cases args with
  | nil =>
    unfold evalArgs
    show wpAny _ _ (spliced [] >>= _) _ _ s
    refine wpAny_bind (wpAny_mono key (fun vs s' h' => ?_) fun _ _ p => p)
    refine wpAny_holding ?_
    exact wpAny_bind (wpAny_pure (wpAny_bind (wpAny_pure (wpAny_pure h'))))
  | cons e es =>
    simp only [List.all_cons, Bool.and_eq_true] at hp
    rw [starEach_plain hp.1] at key ⊢
    exact evalArgs_plain key
theorem ev_call {x : Str} {np pos : Pos} {f : Value} {args : List Expr} (hf : EV o c loc st (.Name x np) (fun v st₁ => v = .raw f ∧ st₁ = st) X) (hk : keepB o.K f = true) (h : EVs o c loc st pos args (fun vs st₁ => CALL o c.k st₁ f vs Q X) X) (hp : args.all plainE = true := by rfl) :
    EV o c loc st (.Call (.Name x np) args [] pos) Q X := fun s I => by
  refine wpAny_Call_ofName (hf.use I fun v st₁ va s₁ q S I₁ r => ?_)
  obtain ⟨rfl, rfl⟩ := q
  cases r
  exact px S (wpAny_mono (callWith_R (fv := []) hk hp h I₁ .nil) (fun _ _ p => p.trans S) fun _ _ p => p)

/-- what a method is -/
noncomputable def METH (o : Wo) (k : Kx) (st : St) (a : V) (name : Str) (f : Value) : Prop :=
  ∀ s va pl, SI o k st s → VR s.heap a va → wpAny o.M k.A (getMethod va name pl) (fun r s' => r = (f, [va]) ∧ ∃ t, s' = { s with toks := t }) (fun _ _ => False) s
theorem ev_meth {e : Expr} {name : Str} {apos pos : Pos} {args : List Expr} (he : ∀ env, ∃ pl, eval (.Call (.Attribute e name apos) args [] pos) env = (do
      let ov ← eval e env
      standAt apos.atName
      let (f, first) ← holding [ov] (getMethod ov name pl)
      callWith pos f first (backTo pos (starEach args env)) (backToKw pos (keywordEach [] env))))
    (h : EV o c loc st e (fun a st₁ => ∃ f, METH o c.k st₁ a name f ∧ keepB o.K f = true ∧ EVs o c loc st₁ pos args (fun vs st₂ => CALL o c.k st₂ f (a :: vs) Q X) X) X) (hp : args.all plainE = true := by rfl) :
    EV o c loc st (.Call (.Attribute e name apos) args [] pos) Q X := fun s I => by
  obtain ⟨pl, he⟩ := he c.env
  refine methodCall_KW (h.use I fun a st₁ va s₁ q S I₁ r => ?_) he
  obtain ⟨f, hm, hk, hq⟩ := q
  refine px S (wpAny_mono (hm s₁ va pl I₁.si r) (fun fx s₂ p => ?_) fun _ _ p => p.elim)
  obtain ⟨rfl, t, rfl⟩ := p
  have S₂ : Step o.P noF st₁ s₁ st₁ { s₁ with toks := t } := Step.toks I₁.si.hs t
  have I₂ := I₁.step S₂
  exact px (S.trans S₂) (wpAny_mono (callWith_R (fv := [a]) hk hp hq I₂ (.cons r .nil)) (fun _ _ p => p.trans (S.trans S₂)) fun _ _ p => p)

/-! for, over a value -/
noncomputable def FORV (o : Wo) (c : Cx) (loc : LocF) (st : St) (v : V) (target : Expr) (body : List Stmt) (QF : Fl → LocF → St → Prop) : Prop :=
  ∀ s va E' R', Inv o c loc st s → VR s.heap v va → (∀ f s', PF o c st s QF f s' → R' (.ok f) s') → wpAny o.M c.k.A (pyIter va) (fun it s₂ => codeAny o.M c.k.A (.forLoop target it body [] c.env) R' s₂) E' s
theorem ex_for {target iter : Expr} {body : List Stmt} {pos : Pos} (hs : ∀ env x, foldedSetIterable iter env x = pure x) (h : EV o c loc st iter (fun v st₁ => FORV o c loc st₁ v target body QF) X) : EX o c loc st (.For target iter body [] pos) QF X := fun s I => by
  refine wpAny_For (pxw I (h.use I fun v st₁ va s₁ q S I₁ r => q s₁ va _ _ I₁ r fun f s' p => ?_)) (hs _)
  exact p.trans S.weak

noncomputable def Turn (o : Wo) (c : Cx) (target : Expr) (body : List Stmt) (xs : List V) (J : Nat → LocF → St → Prop) (QF : Fl → LocF → St → Prop) : Prop :=
  ∀ i x loc st, xs[i]? = some x → J i loc st → ASG o c loc st target x (fun loc₁ st₁ => EXS o c loc₁ st₁ body (fun fl loc₂ st₂ => match fl with
        | .next | .cont => J (i + 1) loc₂ st₂
        | .brk => QF .next loc₂ st₂
        | .ret v => QF (.ret v) loc₂ st₂) (fun _ _ => False)) (fun _ _ => False)

theorem forv_list {l : Addr} {xs : List V} {target : Expr} {body : List Stmt} (J : Nat → LocF → St → Prop) (hJ : ∀ i loc st, J i loc st → st l = some (.lst xs)) (h0 : J 0 loc st) (turn : Turn o c target body xs J QF) (fin : ∀ loc st, J xs.length loc st → QF .next loc st) :
    FORV o c loc st (.ptr l) target body QF := fun s va E' R' I r hr => by
  cases r
  obtain ⟨ob, h1, m1⟩ := I.si.hs l _ (hJ _ _ _ h0)
  cases m1 with
  | lst rr =>
  rename_i ws n
  refine wpAny_pyIter_list ⟨_, h1, rfl, _, rfl⟩ ?_
  have S : Step o.P (own c) st s st { s with heap := s.heap.push { cls := .type "list_iterator", data := .fields #[.ref l, .int 0 0] } } := Step.push I.si.hs _ s.toks
  refine for_core (T := "list_iterator") (xs := xs) (P := fun i h => h.IsListIter s.heap.objs.size l i) (R := fun _ => True) (J := J) (Heap.get?_none_of_le (Nat.le_refl _)) I.si S ?_
    (fun i h h' ⟨ob, p1, p2⟩ e => ⟨ob, e.trans p1, p2⟩) (fun i h ⟨ob, p1, p2, p3⟩ => ⟨_, _, p1, p2, p3⟩) (by decide) (by decide) (by decide) (fun _ _ _ => trivial) ?_ ?_ ⟨_, Heap.get?_push_size _ rfl, rfl, rfl⟩ trivial h0 turn fin hr rfl
  · exact I.step (Step.push I.si.hs _ s.toks)
  · intro i x loc' st' s' Q' hx hj S' _ hp hq
    obtain ⟨ob', h1', m1'⟩ := S'.hs l _ (hJ _ _ _ hj)
    cases m1' with
    | lst rr' =>
    rename_i ws' n'
    obtain ⟨v, hv, rv⟩ := rr'.get hx
    exact wpAny_pyNext_list_item hp ⟨_, h1', rfl, _, rfl⟩ (x := v) (by simpa using hv) fun h' hit hsb => hq h' v s'.toks hit hsb rv
  · intro loc' st' s' Q' hj S' _ hp hq
    obtain ⟨ob', h1', m1'⟩ := S'.hs l _ (hJ _ _ _ hj)
    cases m1' with
    | lst rr' =>
    rename_i ws' n'
    exact wpAny_pyNext_list_end S'.ok.handled hp ⟨_, h1', rfl, _, rfl⟩ (by simp [rr'.length]) hq

theorem forv_tup {xs : List V} {target : Expr} {body : List Stmt} (J : Nat → LocF → St → Prop) (h0 : J 0 loc st) (turn : Turn o c target body xs J QF) (fin : ∀ loc st, J xs.length loc st → QF .next loc st) :
    FORV o c loc st (.tup xs) target body QF := fun s va E' R' I r hr => by
  cases r with
  | tup ht rr =>
  rename_i ws a n
  have tt : s.heap.IsTuple a ws.toArray := ⟨_, ht, rfl, _, rfl⟩
  refine wpAny_pyIter_tuple tt ?_
  have S : Step o.P (own c) st s st { s with heap := s.heap.push { cls := .type "tuple_iterator", data := .fields #[.ref a, .int 0 0] } } := Step.push I.si.hs _ s.toks
  have ex : ∀ {h : Heap}, (∃ ws n, IsT h a ws.toArray n ∧ VRs h xs ws) → ∃ ws, h.IsTuple a ws.toArray ∧ VRs h xs ws := fun ⟨ws, n, h1, h2⟩ => ⟨ws, ⟨_, h1, rfl, _, rfl⟩, h2⟩
  refine for_core (T := "tuple_iterator") (xs := xs) (P := fun i h => h.IsTupleIter s.heap.objs.size a i) (R := fun h => ∃ ws n, IsT h a ws.toArray n ∧ VRs h xs ws) (J := J) (Heap.get?_none_of_le (Nat.le_refl _)) I.si S ?_
    (fun i h h' ⟨ob, p1, p2⟩ e => ⟨ob, e.trans p1, p2⟩) (fun i h ⟨ob, p1, p2, p3⟩ => ⟨_, _, p1, p2, p3⟩) (by decide) (by decide) (by decide) (fun D K ⟨ws, n, h1, h2⟩ => ⟨ws, n, (KpV.of D K).tup _ _ _ h1, h2.keepD D K⟩) ?_ ?_ ⟨_, Heap.get?_push_size _ rfl, rfl, rfl⟩
    ⟨ws, n, Heap.get?_push_of_some _ ht, rr.keep I.si.hs (Kp.push _)⟩ h0 turn fin hr rfl
  · exact I.step (Step.push I.si.hs _ s.toks)
  · intro i x loc' st' s' Q' hx hj S' hR hp hq
    obtain ⟨ws', ht', rr'⟩ := ex hR
    obtain ⟨v, hv, rv⟩ := rr'.get hx
    exact wpAny_pyNext_tuple_item hp ht' (x := v) (by simpa using hv) fun h' hit hsb => hq h' v s'.toks hit hsb rv
  · intro loc' st' s' Q' hj S' hR hp hq
    obtain ⟨ws', ht', rr'⟩ := ex hR
    exact wpAny_pyNext_tuple_end S'.ok.handled hp ht' (by simp [rr'.length]) hq

/-- a range's numbers -/
noncomputable def rngV (lo hi : Int) : List V := (List.range (hi - lo).toNat).map fun (i : Nat) => V.int (lo + (i : Int))
theorem rngV_get {lo hi : Int} {i : Nat} {x : V} (h : (rngV lo hi)[i]? = some x) : x = .int (lo + i) ∧ i < (hi - lo).toNat := by
  unfold rngV at h
  rw [List.getElem?_map] at h
  by_cases q : i < (hi - lo).toNat
  · rw [List.getElem?_range q] at h; simp at h; exact ⟨h.symm, q⟩
  · rw [List.getElem?_eq_none (by simpa using q)] at h; simp at h
theorem rngV_length {lo hi : Int} : (rngV lo hi).length = (hi - lo).toNat := by simp [rngV]

theorem forv_rng {lo hi : Int} {target : Expr} {body : List Stmt} (J : Nat → LocF → St → Prop) (hb : -(2 ^ 62) ≤ lo ∧ lo < 2 ^ 62 ∧ -(2 ^ 62) ≤ hi ∧ hi < 2 ^ 62) (h0 : J 0 loc st) (turn : Turn o c target body (rngV lo hi) J QF) (fin : ∀ loc st, J (hi - lo).toNat loc st → QF .next loc st) :
    FORV o c loc st (.rng lo hi) target body QF := fun s va E' R' I r hr => by
  cases r with
  | rng ht =>
  refine wpAny_pyIter_range ht (small_one hb.1 hb.2.1 hb.2.2.1 hb.2.2.2) ?_
  have hsz : Builtin.Range.rangeSize lo hi 1 = ((hi - lo).toNat : Int) := by rw [rangeSize_one]; split <;> omega
  rw [hsz]
  have S : Step o.P (own c) st s st { s with heap := s.heap.push { cls := .type "range_iterator", data := .fields #[rawInt lo, rawInt ((hi - lo).toNat : Int), rawInt 1] } } := Step.push I.si.hs _ s.toks
  refine for_core (T := "range_iterator") (xs := rngV lo hi) (P := fun i h => IsRangeIter h s.heap.objs.size (lo + (i : Nat)) (((hi - lo).toNat : Int) - (i : Nat)) 1) (R := fun h => True) (J := J) (Heap.get?_none_of_le (Nat.le_refl _)) I.si S ?_
    (fun i h h' p e => e.trans p) (fun i h p => ⟨_, _, p, rfl, rfl⟩) (by decide) (by decide) (by decide) (fun _ _ _ => trivial) ?_ ?_ (by
      have := Heap.get?_push_size s.heap (o := { cls := .type "range_iterator", data := .fields #[rawInt lo, rawInt ((hi - lo).toNat : Int), rawInt 1] }) rfl
      simpa using this)
    trivial h0 turn (by rw [rngV_length]; exact fin) hr rfl
  · exact I.step (Step.push I.si.hs _ s.toks)
  · intro i x loc' st' s' Q' hx hj S' hR hp hq
    obtain ⟨rfl, hi'⟩ := rngV_get hx
    refine wpAny_pyNext_range_item hp (by omega) fun h' hit hsb => hq h' _ _ ?_ hsb (.int _ _)
    have e1 : lo + ((i + 1 : Nat) : Int) = lo + (i : Int) + 1 := by omega
    have e2 : ((hi - lo).toNat : Int) - ((i + 1 : Nat) : Int) = ((hi - lo).toNat : Int) - (i : Int) - 1 := by omega
    show IsRangeIter _ _ _ _ _
    rw [e1, e2]; exact hit
  · intro loc' st' s' Q' hj S' hR hp hq
    rw [rngV_length] at hp
    exact wpAny_pyNext_range_end S'.ok.handled hp (by omega) hq

theorem call_rng1 {n : Int} (h : Q (.rng 0 n) st) : CALL o k st (.type "range") [.int n] Q X := fun s vs S r => by
  cases r with
  | cons r1 r2 =>
  cases r2; cases r1
  exact call_range_1 ⟨.rng 0 n, st, .rng (Heap.get?_push_size _ rfl), Step.push S.hs _ _, h⟩
end
end NN
end

-- part: NN13
section
open PySem PySem.W PyProof.Rows PySem.Calls
set_option maxRecDepth 100000
set_option linter.all false
namespace NN

/-! dicts whose keys are texts -/
noncomputable def sput (name : Str) (x : V) : List (Str × V) → List (Str × V)
  | [] => [(name, x)]
  | (k, y) :: r => if k == name then (k, x) :: r else (k, y) :: sput name x r
noncomputable def sget (name : Str) : List (Str × V) → Option V
  | [] => none
  | (k, y) :: r => if k == name then some y else sget name r

section
variable {P : Params} {h : Heap}
theorem getL_cons {name k : Str} {hh : Int} {t : Tok} {v : Value} {es : List DictEntry} : getL name (⟨hh, .str k t, v⟩ :: es) = if k == name then some (some v) else getL name es := by
  unfold getL
  rw [List.find?_cons, List.any_cons]
  have e1 : (⟨hh, .str k t, v⟩ : DictEntry).key.isStr name = (k == name) := rfl
  have e2 : (⟨hh, .str k t, v⟩ : DictEntry).refKey = false := rfl
  rw [e1, e2, Bool.false_or]
  cases k == name <;> rfl
theorem SEs.get {name : Str} {x : V} : ∀ {l : List (Str × V)} {es : List DictEntry}, SEs P h l es → sget name l = some x → ∃ v, getL name es = some (some v) ∧ VR h x v
  | _, _, .nil, e => by cases e
  | _, _, .cons (k := k) (x := y) (l := l) (t := t) (v := v) (es := es) a r, e => by
    unfold sget at e
    rw [getL_cons]
    cases hb : k == name with
    | true => rw [hb] at e; cases e; exact ⟨v, rfl, a⟩
    | false => rw [hb] at e; exact SEs.get r e
theorem SEs.noRef : ∀ {l : List (Str × V)} {es : List DictEntry}, SEs P h l es → es.any (·.refKey) = false
  | _, _, .nil => rfl
  | _, _, .cons a r => by rw [List.any_cons, SEs.noRef r]; rfl
theorem SEs.miss {name : Str} : ∀ {l : List (Str × V)} {es : List DictEntry}, SEs P h l es → sget name l = none → getL name es = some none
  | _, _, .nil, _ => rfl
  | _, _, .cons (k := k) (x := y) (l := l) (t := t) (v := v) (es := es) a r, e => by
    unfold sget at e
    rw [getL_cons]
    cases hb : k == name with
    | true => rw [hb] at e; cases e
    | false => rw [hb] at e; exact SEs.miss r e
theorem SEs.put {name : Str} {x : V} {v : Value} {t : Tok} (rx : VR h x v) : ∀ {l : List (Str × V)} {es : List DictEntry}, SEs P h l es → SEs P h (sput name x l) (putL name (PyData.keyHash P name) (.str name t) v es)
  | _, _, .nil => .cons rx .nil
  | _, _, .cons (k := k) (x := y) (l := l) (t := t') (v := w) (es := es) a r => by
    unfold sput putL
    show SEs P h _ (if (k == name) then _ else _)
    cases hb : k == name with
    | true => exact .cons rx r
    | false => exact .cons a (SEs.put rx r)
theorem SEs.len : ∀ {l : List (Str × V)} {es : List DictEntry}, SEs P h l es → es.length = l.length
  | _, _, .nil => rfl
  | _, _, .cons a r => by simp [SEs.len r]
end

noncomputable def getOk (K : Frag) (C : Addr) (name : Str) : Bool := plainGet K C name && hasDictIn K C && (match findIn K (.ref C) name with | some attr => noGet K attr | none => false)
noncomputable def methOk (K : Frag) (C : Addr) (name : Str) (f : Addr) : Bool := plainGet K C name && findIn K (.ref C) name == some (some (.ref f)) && isFn K (.ref f)
noncomputable def setOk (K : Frag) (C : Addr) (name : Str) : Bool := findIn K (.ref C) "__setattr__" == some (some (.builtin "object.__setattr__")) && plainOver K C && takerIn K C name == some none && hasDictIn K C

noncomputable def V.plain : V → Bool
  | .raw _ => false
  | _ => true
theorem VR.handed {h : Heap} {x : V} {v : Value} (r : VR h x v) (hp : x.plain = true) : handedIn v = true := by
  cases r <;> first | rfl | cases hp

section
variable {o : Wo} [W : WoOk o] {c : Cx} {k : Kx} {loc : LocF} {st : St} {Q : V → St → Prop} {X : Exc → St → Prop} {QF : Fl → LocF → St → Prop} {QL : LocF → St → Prop}

/-- an attribute's value -/
noncomputable def ATT (o : Wo) (k : Kx) (st : St) (a : V) (name : Str) (Q : V → St → Prop) (X : Exc → St → Prop) : Prop :=
  ∀ s va, SI o k st s → VR s.heap a va → wpAny o.M k.A (getAttr va name true) (PV o st s Q) (PX o noF st s X) s
theorem ev_attr {e : Expr} {name : Str} {pos : Pos} (he : ∀ env, attributeBase e name env (eval e env) = eval e env) (h : EV o c loc st e (fun a st₁ => ATT o c.k st₁ a name Q X) X) : EV o c loc st (.Attribute e name pos) Q X := fun s I => by
  rw [arm_eval_Attribute, he]
  refine wpAny_bind (h.use I fun a st₁ va s₁ q S I₁ r => wpAny_bind (wpAny_standAt (wpAny_bind (wpAny_holding (px S (wpAny_mono (q s₁ va I₁.si r) (fun v s₂ p => ?_) fun _ _ p => p))))))
  exact wpAny_bind (wpAny_letTemporaryGo (wpAny_pure (p.trans S)))

theorem inst_at {s : Shared} {a C dx : Addr} {va : Value} {l : List (Str × V)} (H : Holds o.P st s.heap) (hst : st dx = some (.sd l)) (r : VR s.heap (.obj a C dx) va) :
    ∃ ob es n, va = .ref a ∧ InstAt s.heap a ob C (some (dictOf es n)) ∧ SEs o.P s.heap l es ∧ s.heap.get? dx = some (dictOf es n) ∧ ob.dict = some dx := by
  cases r with
  | obj h1 h2 h3 h4 =>
  rename_i ob
  obtain ⟨od, h5, m⟩ := H dx _ hst
  cases m with
  | sd se =>
  exact ⟨ob, _, _, rfl, ⟨h1, h2, by unfold notCls; rw [h3], by rw [h4]; exact h5⟩, se, h5, h4⟩

theorem att_own {a C dx : Addr} {l : List (Str × V)} {name : Str} {x : V} (hst : st dx = some (.sd l)) (hl : sget name l = some x) (hx : x.plain = true) (hk : getOk o.K C name = true) (h : Q x st) : ATT o k st (.obj a C dx) name Q X := fun s va S r => by
  obtain ⟨ob, es, n, rfl, I, se, _, _⟩ := inst_at S.hs hst r
  obtain ⟨v, hg, rv⟩ := se.get hl
  unfold getOk at hk
  simp only [Bool.and_eq_true] at hk
  obtain ⟨⟨k1, k2⟩, k3⟩ := hk
  split at k3
  · rename_i attr ha
    exact get_value S.wd.k I (plainGet_of k1).1 (findObj_own k2 ha k3 hg) (rv.handed hx) ⟨x, st, rv, Step.toks S.hs _, h⟩
  · cases k3

theorem meth_own {a C dx f : Addr} {l : List (Str × V)} {name : Str} (hst : st dx = some (.sd l)) (hl : sget name l = none) (hk : methOk o.K C name f = true) : METH o k st (.obj a C dx) name (.ref f) := fun s va pl S r => by
  obtain ⟨ob, es, n, rfl, I, se, _, _⟩ := inst_at S.hs hst r
  unfold methOk at hk
  simp only [Bool.and_eq_true, beq_iff_eq] at hk
  obtain ⟨⟨k1, k2⟩, k3⟩ := hk
  exact method_fn S.wd.k I (plainGet_of k1).1 (plainGet_of k1).2 k2 (beq_iff_eq.mp k3) (by show (lookIn name (dictOf es n)).map _ = _; rw [lookIn_dict, se.miss hl]; rfl) ⟨rfl, s.toks, rfl⟩

/-- the dict's object changed by a store -/
theorem set_R {prog : Program} {w : World} {A : Around} {E : Value → Shared → Prop} {s : Shared} {K : Frag} {x C dx : Addr} {ox : Obj} {es : List DictEntry} {n : Nat} {name : Str} {v : Value} {Q : Unit → Shared → Prop}
    (X : K.In s.heap) (I : InstAt s.heap x ox C (some (dictOf es n))) (hd : ox.dict = some dx) (D : s.heap.get? dx = some (dictOf es n)) (hk : setOk K C name = true) (hn : es.any (·.refKey) = false) (hz : es.length ≤ 900)
    (h : ∀ t, Q () { s with heap := s.heap.update dx (Obj.putName name (PyData.keyHash w.params name) (.str name (s.toks + 1)) v), toks := t }) :
    wpAny (model prog w) A (setAttr (.ref x) name v) Q E s := by
  unfold setOk at hk
  simp only [Bool.and_eq_true, beq_iff_eq] at hk
  obtain ⟨⟨⟨k1, k2⟩, k3⟩, k4⟩ := hk
  refine set_plain X I k1 ?_
  refine osa_open (s := { s with toks := s.toks + 1 }) X I k2 k3 fun b => ?_
  obtain ⟨cd, hc, hd'⟩ := any_some k4
  have D' : (s.heap.update dx (Obj.putName name (PyData.keyHash w.params name) (.str name (s.toks + 1)) v)).get? dx = some (dictOf (putL name (PyData.keyHash w.params name) (.str name (s.toks + 1)) v es) (putN name es n)) :=
    (Heap.get?_update_self _ D (by rw [putName_dict]; rfl)).trans (by rw [putName_dict])
  obtain ⟨hx, hcl, hn', -⟩ := I
  obtain ⟨oc, odi, oda, osl⟩ := ox
  dsimp only at hcl hd
  subst hcl hd
  refine wpAny_bind (wpAny_pure (wpAny_bind (wpAny_bind (wpAny_loadPart hx (wpAny_bind (Looks.here (s := { s with toks := s.toks + 1 }) (looks_clsIn X hc) ?_))))))
  rw [hd']
  refine wpAny_pure (a := some dx) (wpAny_bind (wpAny_pure (wpAny_bind ?_)))
  unfold nsSet
  refine wpAny_bind (wpAny_bind (wpAny_askSetting (wpAny_pure (wpAny_bind (wpAny_mkText (wpAny_bind (wpAny_loadPart D ?_)))))))
  dsimp only
  have c : (!es.toArray.any (·.key.isStr name) && es.toArray.any (·.refKey)) = false := by
    rw [← Array.any_toList, ← Array.any_toList, hn, Bool.and_false]
  rw [aRefKeyMayBeTheName_at, c]
  refine wpAny_updatePart D ?_
  have hlen : (putL name (PyData.keyHash w.params name) (.str name (s.toks + 1)) v es).length ≤ es.length + 1 := by
    clear D D' c hn hz
    induction es with
    | nil => simp [putL]
    | cons e r ih => unfold putL; split <;> simp; exact ih
  refine wpAny_bind (wpAny_lookBehind D' (pastItsLine_dict (by rw [List.size_toArray, sizeLine_eq]; omega)) ?_)
  exact wpAny_pure (h _)

/-- a store into an attribute -/
noncomputable def SETA (o : Wo) (k : Kx) (st : St) (a : V) (name : Str) (v : V) (Q : St → Prop) (X : Exc → St → Prop) : Prop :=
  ∀ s va u, SI o k st s → VR s.heap a va → VR s.heap v u → wpAny o.M k.A (setAttr va name u) (fun _ s' => ∃ st', Step o.P noF st s st' s' ∧ Q st') (PX o noF st s X) s
theorem seta_own {a C dx : Addr} {l : List (Str × V)} {name : Str} {v : V} {Q : St → Prop} (hst : st dx = some (.sd l)) (hk : setOk o.K C name = true) (hz : l.length ≤ 900) (h : Q (st.set dx (.sd (sput name v l)))) : SETA o k st (.obj a C dx) name v Q X := fun s va u S r rv => by
  obtain ⟨ob, es, n, rfl, I, se, D, hd⟩ := inst_at S.hs hst r
  refine set_R S.wd.k I hd D hk se.noRef (by rw [se.len]; exact hz) fun t => ⟨_, ?_, h⟩
  refine Step.upd S.hs (by rw [hst]; simp) (Heap.SameBut.update ..) (Heap.get?_update_self _ D (by rw [putName_dict]; rfl)) (fun hh K => ?_) t
  rw [putName_dict]
  have : SEs o.P hh (sput name v l) (putL name (PyData.keyHash o.w.params name) (.str name (s.toks + 1)) u es) := SEs.put (rv.keep S.hs K) (by
    have := MOR.keep S.hs K (MOR.sd (P := o.P) (n := n) se)
    cases this with | sd x => exact x)
  exact .sd this
theorem asg_attr {e : Expr} {name : Str} {pos : Pos} {v : V} (h : EV o c loc st e (fun a st₁ => SETA o c.k st₁ a name v (fun st₂ => QL loc st₂) X) X) : ASG o c loc st (.Attribute e name pos) v QL X := fun s u I r => by
  rw [arm_assign_Attribute]
  refine wpAny_bind (wpAny_holding (pxw I (h.use I fun a st₁ va s₁ q S I₁ ra => wpAny_bind (wpAny_standAt (wpAny_bind (wpAny_holding (pxw I (px S (wpAny_mono (q s₁ va u I₁.si ra (r.keep I.si.hs S.kp)) (fun _ s₂ p => ?_) fun _ _ p => p)))))))))
  obtain ⟨st₂, S₂, q₂⟩ := p
  exact wpAny_release ⟨loc, st₂, (S.trans S₂).weak, (I₁.step S₂).lc, q₂⟩
end
end NN
end

-- part: NN14
section
open PySem PySem.W PyProof.Rows PySem.Calls
set_option maxRecDepth 100000
set_option linter.all false
namespace NN

theorem Step.grow {P : Params} {F : Addr → Prop} {st : St} {s : Shared} {h' : Heap} {t : Nat} (H : Holds P st s.heap) (hk : ∀ b o, s.heap.get? b = some o → h'.get? b = some o) : Step P F st s st { s with heap := h', toks := t } where
  holds := fun a m e => by
    obtain ⟨o, ho, hm⟩ := H a m e
    exact ⟨o, hk _ _ ho, hm.keep H fun b o _ hb => ⟨o, hk _ _ hb, .refl o⟩⟩
  sub _ h := .inl h
  ext b o _ _ ho := ⟨o, hk _ _ ho, .refl o⟩
  own b o _ _ ho := ⟨o, hk _ _ ho, .refl o⟩
  mono b h := by
    obtain ⟨o, ho⟩ := Option.isSome_iff_exists.mp h
    show (h'.get? b).isSome = true
    rw [hk _ _ ho]; rfl
  gens := rfl
  os := rfl

section
variable {o : Wo} [W : WoOk o] {c : Cx} {k : Kx} {loc : LocF} {st : St} {Q : V → St → Prop} {X : Exc → St → Prop} {QF : Fl → LocF → St → Prop} {QL : LocF → St → Prop}

/-! subscripts -/
theorem subscripted_any (slice : Expr) (oV i : Value) : ∃ ops, subscripted slice false oV i = operate ops (getItem oV i) := by
  unfold subscripted
  split
  · exact ⟨_, rfl⟩
  · rename_i h; cases h
  · exact ⟨_, rfl⟩
theorem subTail {value slice : Expr} {oV i : Value} {T id : String} {Q : Value → Shared → Prop} {E : Value → Shared → Prop} {s : Shared} {A : Around} (hT : s.TypeIs oV T)
    (hl : typeLookup (.type T) "__getitem__" = pure (some (.builtin id))) (h : wpAny o.M A (getItem oV i) Q E s) : wpAny o.M A (subscriptTail value slice oV i) Q E s := by
  unfold subscriptTail
  refine wpAny_bind ?_
  rw [getitemInPython_of_ne hT.not_modules]
  refine wpAny_bind (wpAny_specialOf hT hl ?_)
  obtain ⟨ops, hs⟩ := subscripted_any slice oV i
  have fin : wpAny o.M A (subscripted slice false oV i) (fun r s₃ => wpAny o.M A (letTemporaryGo value oV r >>= fun _ => pure r) Q E s₃) E s := by
    rw [hs]
    exact wpAny_operating (wpAny_mono h (fun r s₃ h₃ => wpAny_bind (wpAny_letTemporaryGo (wpAny_pure h₃))) fun _ _ x => x)
  first
    | exact wpAny_pure (wpAny_bind fin)
    | exact wpAny_bind (wpAny_pure (wpAny_bind fin))
    | exact wpAny_bind fin

/-- an item asked -/
noncomputable def SUB (o : Wo) (k : Kx) (st : St) (a i : V) (Q : V → St → Prop) (X : Exc → St → Prop) : Prop :=
  ∀ s va vi, SI o k st s → VR s.heap a va → VR s.heap i vi → ∃ T id, s.TypeIs va T ∧ typeLookup (.type T) "__getitem__" = pure (some (.builtin id)) ∧ wpAny o.M k.A (getItem va vi) (PV o st s Q) (PX o noF st s X) s
theorem ev_sub {value slice : Expr} {pos : Pos} (h : EV o c loc st value (fun a st₁ => EV o c loc st₁ slice (fun i st₂ => SUB o c.k st₂ a i Q X) X) X) : EV o c loc st (.Subscript value slice pos) Q X := fun s I =>
  Subscript_ (h.use I fun a st₁ va s₁ q S I₁ ra => px S (q.use I₁ fun i st₂ vi s₂ q₂ S₂ I₂ ri => by
    obtain ⟨T, id, h1, h2, h3⟩ := q₂ s₂ va vi I₂.si (ra.keep I₁.si.hs S₂.kp) ri
    exact px (S.trans S₂) (subTail h1 h2 (wpAny_mono h3 (fun _ _ p => p.trans (S.trans S₂)) fun _ _ p => p))))
theorem sub_tup {xs : List V} {i : Int} {j : Nat} {x : V} (hlo : -2 ^ 63 ≤ i) (hhi : i < 2 ^ 63) (hj : seqIndex? i xs.length = some j) (hx : xs[j]? = some x) (h : Q x st) : SUB o k st (.tup xs) (.int i) Q X := fun s va vi S ra ri => by
  cases ri
  cases ra with
  | tup ht rr =>
  obtain ⟨v, hv, rv⟩ := rr.get hx
  exact ⟨"tuple", _, ⟨_, ht, rfl⟩, PySem.F.slot_tuple_getitem.lookup, PySem.P.getItem_tuple ht hlo hhi (by rw [List.size_toArray, ← rr.length]; exact hj) (by simpa using hv) ⟨x, st, rv, Step.refl S.hs, h⟩⟩
theorem sub_lst {l : Addr} {xs : List V} {i : Int} {x : V} (hl : st l = some (.lst xs)) (h0 : 0 ≤ i) (hhi : i < 2 ^ 63) (hx : xs[i.toNat]? = some x) (h : Q x st) : SUB o k st (.ptr l) (.int i) Q X := fun s va vi S ra ri => by
  cases ri; cases ra
  obtain ⟨ob, h1, m1⟩ := S.hs l _ hl
  cases m1 with
  | lst rr =>
  obtain ⟨v, hv, rv⟩ := rr.get hx
  exact ⟨"list", _, ⟨_, h1, rfl⟩, list_getitem_lookup, wpAny_getItem_list ⟨_, h1, rfl, _, rfl⟩ h0 hhi (by simpa using hv) ⟨x, st, rv, Step.refl S.hs, h⟩⟩
/-! slices -/
noncomputable def PT (o : Wo) (c : Cx) (loc : LocF) (st : St) (e : Option Expr) (Q : Option Int → St → Prop) (X : Exc → St → Prop) : Prop :=
  ∀ s, Inv o c loc st s → wpAny o.M c.k.A (evalPart e c.env) (fun v s' => ∃ n st', IsPart v n ∧ Step o.P noF st s st' s' ∧ Q n st') (PX o noF st s X) s
theorem pt_none {Q : Option Int → St → Prop} (h : Q none st) : PT o c loc st none Q X := fun s I => wpAny_pure ⟨none, st, .none, Step.refl I.si.hs, h⟩
theorem pt_some {e : Expr} {Q : Option Int → St → Prop} (h : EV o c loc st e (fun v st₁ => ∃ n, v = .int n ∧ Q (some n) st₁) X) : PT o c loc st (some e) Q X := fun s I =>
  h.use I fun v st₁ va s₁ ⟨n, e, q⟩ S I₁ r => by subst e; cases r; exact ⟨some n, st₁, .int _ _, S, q⟩
noncomputable def SLV (o : Wo) (k : Kx) (st : St) (a : V) (lo hi : Option Int) (Q : V → St → Prop) (X : Exc → St → Prop) : Prop :=
  ∀ s va sl vl vu, SI o k st s → VR s.heap a va → s.heap.IsSliceOf sl vl vu .none → IsPart vl lo → IsPart vu hi →
    ∃ T id, s.TypeIs va T ∧ typeLookup (.type T) "__getitem__" = pure (some (.builtin id)) ∧ wpAny o.M k.A (getItem va (.ref sl)) (PV o st s Q) (PX o noF st s X) s
theorem ev_slice {value : Expr} {lower upper : Option Expr} {p pos : Pos} (h : EV o c loc st value (fun a st₁ => PT o c loc st₁ lower (fun lo st₂ => PT o c loc st₂ upper (fun hi st₃ => SLV o c.k st₃ a lo hi Q X) X) X) X) :
    EV o c loc st (.Subscript value (.Slice lower upper none p) pos) Q X := fun s I => by
  refine Subscript_ (h.use I fun a st₁ va s₁ q S I₁ ra => ?_)
  refine wpAny_Slice (px S (wpAny_mono (q s₁ I₁) (fun vl s₂ ⟨lo, st₂, pl, S₂, q₂⟩ => ?_) fun _ _ p => p))
  have I₂ := I₁.step S₂
  refine px (S.trans S₂) (wpAny_mono (q₂ s₂ I₂) (fun vu s₃ ⟨hi, st₃, pu, S₃, q₃⟩ => ?_) fun _ _ p => p)
  have I₃ := I₂.step S₃
  refine wpAny_pure ?_
  have S₄ : Step o.P noF st₃ s₃ st₃ { s₃ with heap := s₃.heap.push { cls := .type "slice", data := .fields #[vl, vu, .none] } } := Step.push I₃.si.hs _ s₃.toks
  have I₄ := I₃.step S₄
  have S' := ((S.trans S₂).trans S₃).trans S₄
  obtain ⟨T, id, h1, h2, h3⟩ := q₃ _ va s₃.heap.objs.size vl vu I₄.si (((ra.keep I₁.si.hs S₂.kp).keep I₂.si.hs S₃.kp).keep I₃.si.hs S₄.kp) (Heap.IsSliceOf.new ..) pl pu
  exact px S' (subTail h1 h2 (wpAny_mono h3 (fun _ _ p => p.trans S') fun _ _ p => p))

/-- the part of a list that a slice picks -/
noncomputable def slicePart {α : Type} (xs : List α) (lo hi : Option Int) : List α := (xs.drop (lo.elim 0 (clipAt xs.length))).take (hi.elim xs.length (clipAt xs.length) - lo.elim 0 (clipAt xs.length))
theorem slv_lst {l : Addr} {xs : List V} {lo hi : Option Int} (hl : st l = some (.lst xs)) (hz : xs.length ≤ sizeLine) (h : ∀ a, st a = none → Q (.ptr a) (st.set a (.lst (slicePart xs lo hi)))) : SLV o k st (.ptr l) lo hi Q X := fun s va sl vl vu S ra hs pl pu => by
  cases ra
  obtain ⟨ob, e1, m1⟩ := S.hs l _ hl
  cases m1 with
  | lst rr =>
  rename_i ws n
  have hlen := rr.length
  refine ⟨"list", _, ⟨_, e1, rfl⟩, list_getitem_lookup, wpAny_getItem_list_slice ⟨_, e1, rfl, _, rfl⟩ hs pl pu .none (by simp) ?_ (by rw [List.size_toArray, ← hlen]; exact hz)⟩
  rw [slicePick_plain]
  have e2 : (((ws.toArray).toList.drop (lo.elim 0 (clipAt ws.toArray.size))).take (hi.elim ws.toArray.size (clipAt ws.toArray.size) - lo.elim 0 (clipAt ws.toArray.size))) = slicePart ws lo hi := by
    simp [slicePart]
  rw [e2]
  have e3 : VRs s.heap (slicePart xs lo hi) (slicePart ws lo hi) := by
    unfold slicePart
    rw [hlen]
    exact (rr.drop _).take _
  exact ⟨.ptr _, _, .ptr _, Step.alloc S.hs _ (.lst (slicePart xs lo hi)) rfl (.lst e3) s.toks, h _ (size_none S.hs)⟩
/-! list methods -/
theorem meth_list {l : Addr} {xs : List V} {name : Str} {id : String} (hl : st l = some (.lst xs)) (slot : Slot "list" name id) (hty : typeOf (.builtin id) = pure (.type "method_descriptor")) : METH o k st (.ptr l) name (.builtin id) := fun s va pl S r => by
  cases r
  obtain ⟨ob, e1, m1⟩ := S.hs l _ hl
  cases m1 with
  | lst rr =>
  refine getMethod_builtin ⟨_, e1, rfl⟩ PySem.F.plainAttrs_list slot hty (fun a e => ?_) ⟨rfl, s.toks, rfl⟩
  cases e
  exact ⟨_, e1, rfl⟩
theorem meth_append {l : Addr} {xs : List V} (hl : st l = some (.lst xs)) : METH o k st (.ptr l) "append" (.builtin "list.append") := meth_list hl PySem.F.slot_list_append PySem.F.type_list_append
theorem meth_pop {l : Addr} {xs : List V} (hl : st l = some (.lst xs)) : METH o k st (.ptr l) "pop" (.builtin "list.pop") := meth_list hl PySem.F.slot_list_pop PySem.F.type_list_pop
theorem meth_reverse {l : Addr} {xs : List V} (hl : st l = some (.lst xs)) : METH o k st (.ptr l) "reverse" (.builtin "list.reverse") := meth_list hl PySem.F.slot_list_reverse PySem.F.type_list_reverse

theorem lst_upd {P : Params} {F : Addr → Prop} {s : Shared} {l : Addr} {xs ys : List V} {ws us : List Value} {n : Nat} {f : Array Value → Array Value} (H : Holds P st s.heap) (hl : st l = some (.lst xs)) (e1 : s.heap.get? l = some (listO ws n)) (hf : f ws.toArray = us.toArray)
    (hr : ∀ hh, Kp st s.heap hh → VRs hh ys us) (t : Nat) : Step P F st s (st.set l (.lst ys)) { s with heap := s.heap.update l (Obj.mapSeq f), toks := t } := by
  refine Step.upd H (by rw [hl]; simp) (Heap.SameBut.update ..) (IsL.update (n := n) e1 f) (fun hh K => ?_) t
  rw [hf]
  exact .lst (hr hh K)
theorem call_append {l : Addr} {xs : List V} {x : V} (hl : st l = some (.lst xs)) (hz : xs.length ≤ sizeLine) (h : Q .none (st.set l (.lst (xs ++ [x])))) : CALL o k st (.builtin "list.append") [.ptr l, x] Q X := fun s vs S r => by
  cases r with
  | cons r1 r2 =>
  cases r2 with
  | cons r2 r3 =>
  cases r3; cases r1
  obtain ⟨ob, e1, m1⟩ := S.hs l _ hl
  cases m1 with
  | lst rr =>
  rename_i v ws n
  refine call_meets PySem.F.slot_list_append ⟨_, e1, rfl⟩ PySem.F.entry_list_append (PySem.F.args_list_append_2 _ _) (list_append l ws.toArray n v (by rw [List.size_toArray, ← rr.length]; exact hz)) ⟨e1, ?_⟩
  exact ⟨.none, _, .none, lst_upd S.hs hl e1 (us := ws ++ [v]) (by simp) (fun hh K => (rr.keep S.hs K).append (.cons (r2.keep S.hs K) .nil)) s.toks, h⟩
theorem call_reverse {l : Addr} {xs : List V} (hl : st l = some (.lst xs)) (hz : xs.length ≤ sizeLine) (h : Q .none (st.set l (.lst xs.reverse))) : CALL o k st (.builtin "list.reverse") [.ptr l] Q X := fun s vs S r => by
  cases r with
  | cons r1 r2 =>
  cases r2; cases r1
  obtain ⟨ob, e1, m1⟩ := S.hs l _ hl
  cases m1 with
  | lst rr =>
  rename_i ws n
  refine call_meets PySem.F.slot_list_reverse ⟨_, e1, rfl⟩ PySem.F.entry_list_reverse (PySem.F.args_list_reverse_1 _) (AutoSeq1.list_reverse_list_0 l ws.toArray n (by rw [List.size_toArray, ← rr.length]; exact hz)) ⟨e1, ?_⟩
  exact ⟨.none, _, .none, lst_upd S.hs hl e1 (us := ws.reverse) (by simp) (fun hh K => (rr.keep S.hs K).reverse) s.toks, h⟩
theorem call_pop {l : Addr} {xs : List V} {x : V} (hl : st l = some (.lst (xs ++ [x]))) (hz : xs.length + 1 ≤ sizeLine) (h : Q x (st.set l (.lst xs))) : CALL o k st (.builtin "list.pop") [.ptr l] Q X := fun s vs S r => by
  cases r with
  | cons r1 r2 =>
  cases r2; cases r1
  obtain ⟨ob, e1, m1⟩ := S.hs l _ hl
  cases m1 with
  | lst rr =>
  rename_i ws n
  have hlen := rr.length
  simp only [List.length_append, List.length_cons, List.length_nil] at hlen
  obtain ⟨v, hv, rv⟩ := rr.get (i := xs.length) (x := x) (by simp)
  have e2 : ws.toArray[ws.toArray.size - 1]? = some v := by
    rw [List.size_toArray, ← hlen]; simpa using hv
  have rt : VRs s.heap xs (ws.take xs.length) := by simpa using rr.take xs.length
  refine call_meets PySem.F.slot_list_pop ⟨_, e1, rfl⟩ PySem.F.entry_list_pop (PySem.F.args_list_pop_1 _) (PySem.MeetsSeq.list_pop_last l ws.toArray n v e2 (by rw [List.size_toArray, ← hlen]; exact hz)) ⟨e1, ?_⟩
  have S1 := lst_upd (P := o.P) (F := noF) (ys := xs) (us := ws.take xs.length) (f := fun xs => xs.eraseIdxIfInBounds (ws.toArray.size - 1)) S.hs hl e1 (by
    rw [List.size_toArray, ← hlen]
    apply Array.toList_inj.mp
    simp [List.eraseIdx_eq_take_drop_succ]
    omega) (fun hh K => rt.keep S.hs K) s.toks
  exact ⟨x, _, rv.keepD (.ofSt S.hs) (S1.kp.d), S1, h⟩

/-! builtins -/
theorem call_abs {i : Int} (h : Q (.int (if i < 0 then -i else i)) st) : CALL o k st (.builtin "abs") [.int i] Q X := fun s vs S r => by
  cases r with
  | cons r1 r2 =>
  cases r2; cases r1
  exact call_abs_int fun u tk => ⟨_, st, .int _ _, Step.toks S.hs _, h⟩
theorem call_len_lst {l : Addr} {xs : List V} (hl : st l = some (.lst xs)) (hz : (xs.length : Int) < 2 ^ 63) (h : Q (.int xs.length) st) : CALL o k st (.builtin "len") [.ptr l] Q X := fun s vs S r => by
  cases r with
  | cons r1 r2 =>
  cases r2; cases r1
  obtain ⟨ob, e1, m1⟩ := S.hs l _ hl
  cases m1 with
  | lst rr =>
  have hlen := rr.length
  refine Calls.call_len_list ⟨_, e1, rfl, _, rfl⟩ (by rw [List.size_toArray, ← hlen]; exact hz) ?_
  rw [List.size_toArray, ← hlen]
  exact ⟨_, st, .int _ _, Step.toks S.hs _, h⟩
theorem call_len_tup {xs : List V} (hz : (xs.length : Int) < 2 ^ 63) (h : Q (.int xs.length) st) : CALL o k st (.builtin "len") [.tup xs] Q X := fun s vs S r => by
  cases r with
  | cons r1 r2 =>
  cases r2
  cases r1 with
  | tup ht rr =>
  have hlen := rr.length
  refine PyProof.Rows.len_tuple ⟨_, ht, rfl, _, rfl⟩ (by rw [List.size_toArray, ← hlen]; exact hz) ?_
  rw [List.size_toArray, ← hlen]
  exact ⟨_, st, .int _ _, Step.toks S.hs _, h⟩
theorem call_tuple_lst {l : Addr} {xs : List V} (hl : st l = some (.lst xs)) (hz : xs.length ≤ sizeLine) (h : Q (.tup xs) st) : CALL o k st (.type "tuple") [.ptr l] Q X := fun s vs S r => by
  cases r with
  | cons r1 r2 =>
  cases r2; cases r1
  obtain ⟨ob, e1, m1⟩ := S.hs l _ hl
  cases m1 with
  | lst rr =>
  refine call_tuple_list ⟨_, e1, rfl, _, rfl⟩ (fun h' hk => ?_) (by rw [List.size_toArray, ← rr.length]; exact hz)
  have S1 : Step o.P noF st s st { s with heap := h', toks := s.toks } := Step.grow S.hs hk
  exact ⟨.tup xs, st, .tup (IsT.new _ _) ((rr.keep S.hs S1.kp).keep S1.holds (Kp.push _)), S1.trans (Step.push S1.holds _ s.toks), h⟩
end
end NN
end

-- part: NN15
section
open PySem PySem.W PyProof.Rows PySem.Calls
set_option maxRecDepth 100000
set_option linter.all false
namespace NN

section
theorem noFill_tuple_mul : fillsNumberSlot (.type "tuple") "mul" = pure false :=
  PySem.fillsNumberSlot_seq (id := "tuple.__mul__") (r := some (.builtin "tuple.__rmul__")) PySem.F.slot_tuple_mul.lookup (by decide +kernel) PySem.F.slot_tuple_rmul.lookup (by decide +kernel)
theorem repeat_tuple : seqRepeat? (.type "tuple") = pure (some (.builtin "tuple.__mul__")) := by
  unfold seqRepeat?
  rw [PySem.seqSlot_of (T := "tuple") (name := "__mul__") (id := "tuple.__mul__") PySem.F.slot_tuple_mul.lookup (by decide +kernel), PySem.seqSlot_of (T := "tuple") (name := "__rmul__") (id := "tuple.__rmul__") PySem.F.slot_tuple_rmul.lookup (by decide +kernel)]
  rfl
theorem rmul_int_tuple (a : Int) (t : Tok) (l : Addr) (items : Array Value) (n : Nat) :
    Meets (Builtin.«int.__rmul__» ⟨[.int a t, .ref l], []⟩) (fun _ R s => s.heap.get? l = some { cls := .type "tuple", dict := none, data := .seq items n, slots := #[] } ∧ R (.ok (.ret Value.notImplemented)) s) :=
  .of_wp fun prog w A R s h => by obtain ⟨hp, g, d, tk, os⟩ := s; obtain ⟨hl, h⟩ := h; wp_walk; exact ⟨_, rfl, h⟩
theorem tuple_mul_0 (l : Addr) (items : Array Value) (n : Nat) (u : Tok) (hi : ¬ (items.isEmpty = true)) :
    Meets (Builtin.«tuple.__mul__» ⟨[.ref l, .int 0 u], []⟩) (fun _ R s => s.heap.get? l = some { cls := .type "tuple", dict := none, data := .seq items n, slots := #[] } ∧ R (.ok (.ret (Value.ref s.heap.objs.size))) { s with heap := s.heap.push { cls := Value.type "tuple", data := Data.seq #[] }, toks := s.toks }) :=
  .of_wp fun prog w A R s h => by
    obtain ⟨hp, g, d, tk, os⟩ := s; obtain ⟨hl, h⟩ := h
    have hi' : items.isEmpty = false := by simpa using hi
    wp_walk
    exact ⟨_, rfl, h⟩
theorem tuple_mul_1 (l : Addr) (items : Array Value) (n : Nat) (u : Tok) :
    Meets (Builtin.«tuple.__mul__» ⟨[.ref l, .int 1 u], []⟩) (fun _ R s => s.heap.get? l = some { cls := .type "tuple", dict := none, data := .seq items n, slots := #[] } ∧ R (.ok (.ret (Value.ref l))) s) :=
  .of_wp fun prog w A R s h => by
    obtain ⟨hp, g, d, tk, os⟩ := s; obtain ⟨hl, h⟩ := h
    wp_walk
    exact ⟨_, rfl, h⟩
theorem tuple_mul_n (l : Addr) (items : Array Value) (n : Nat) (x : Int) (u : Tok) (h1 : 1 < x) (h2 : x < 2 ^ 63) (hi : ¬ (items.isEmpty = true)) (hz : items.size * x.toNat ≤ 2 ^ 24) :
    Meets (Builtin.«tuple.__mul__» ⟨[.ref l, .int x u], []⟩) (fun _ R s => s.heap.get? l = some { cls := .type "tuple", dict := none, data := .seq items n, slots := #[] } ∧ R (.ok (.ret (Value.ref s.heap.objs.size))) { s with heap := s.heap.push { cls := Value.type "tuple", data := Data.seq (List.foldl (fun x1 x2 => x1 ++ x2) #[] (List.replicate x.toNat items)) }, toks := s.toks }) :=
  .of_wp fun prog w A R s h => by
    obtain ⟨hp, g, d, tk, os⟩ := s; obtain ⟨hl, h⟩ := h
    have hi' : items.isEmpty = false := by simpa using hi
    have c1 : ¬ ((decide (x < -(2 ^ 63)) || decide (x ≥ 2 ^ 63)) = true) := by simp; omega
    have c2 : ¬ ((items.isEmpty || x == 1) = true) := by simp [hi']; omega
    have c3 : ¬ ((decide (x ≤ 0) || items.isEmpty) = true) := by simp [hi']; omega
    have ex : (items.size : Int) * x = ((items.size * x.toNat : Nat) : Int) := by rw [Int.natCast_mul, Int.toNat_of_nonneg (by omega)]
    have c4 : ¬ ((items.size : Int) * x > (2 ^ 63 - 1) / 8) := by rw [ex]; omega
    have c5 : ¬ (Builtin.Tuple.tupleTooMany ((items.size : Int) * x) = true) := by rw [ex]; unfold Builtin.Tuple.tupleTooMany; simp only [decide_eq_true_eq, sizeLine_eq]; omega
    have hsz : (List.foldl (fun x1 x2 => x1 ++ x2) #[] (List.replicate x.toNat items)).size ≤ sizeLine := by
      have : ∀ (m : Nat) (a : Array Value), (List.foldl (fun x1 x2 => x1 ++ x2) a (List.replicate m items)).size = a.size + m * items.size := by
        intro m
        induction m with
        | zero => intro a; simp
        | succ m ih => intro a; rw [List.replicate_succ, List.foldl_cons, ih, Array.size_append, Nat.succ_mul]; omega
      rw [this, Nat.mul_comm, sizeLine_eq]; simpa using hz
    wp_walk
    rw [if_neg c1]
    wp_walk
    rw [if_neg c2]
    wp_walk
    rw [if_neg c3]
    wp_walk
    rw [if_neg c4]
    wp_walk
    rw [if_neg c5]
    wp_walk
    exact ⟨_, rfl, h⟩
end

theorem VRs.repl {h : Heap} {xs : List V} {ws : List Value} (r : VRs h xs ws) : ∀ m : Nat, VRs h (List.replicate m xs).flatten (List.replicate m ws).flatten
  | 0 => .nil
  | m + 1 => by rw [List.replicate_succ, List.flatten_cons, List.replicate_succ, List.flatten_cons]; exact r.append (r.repl m)
theorem foldl_repl (ws : List Value) : ∀ (m : Nat) (a : List Value), List.foldl (fun x1 x2 => x1 ++ x2) a.toArray (List.replicate m ws.toArray) = (a ++ (List.replicate m ws).flatten).toArray
  | 0, a => by simp
  | m + 1, a => by
    rw [List.replicate_succ, List.foldl_cons, List.append_toArray, foldl_repl ws m (a ++ ws), List.replicate_succ, List.flatten_cons, List.append_assoc]

section
variable {o : Wo} [W : WoOk o] {c : Cx} {k : Kx} {loc : LocF} {st : St} {Q : V → St → Prop} {X : Exc → St → Prop} {QF : Fl → LocF → St → Prop} {QL : LocF → St → Prop}

theorem opb_mul_tup {xs : List V} {x : Int} (h0 : 0 ≤ x) (h1 : x < 2 ^ 63) (hne : xs ≠ []) (hz : xs.length * x.toNat ≤ 2 ^ 24) (h : Q (.tup (List.replicate x.toNat xs).flatten) st) : OPB o k st .Mult (.tup xs) (.int x) Q X := fun s va vb S ra rb => by
  cases rb with
  | int _ u =>
  cases ra with
  | tup ht rr =>
  rename_i ws l n
  have hlen := rr.length
  have hemp : ¬ (ws.toArray.isEmpty = true) := by
    cases ws with
    | nil => cases xs with | nil => exact absurd rfl hne | cons _ _ => simp at hlen
    | cons _ _ => simp
  have key : wpAny o.M k.A (call (.builtin "tuple.__mul__") [.ref l, .int x u]) (PV o st s Q) (PX o noF st s X) s := by
    by_cases e0 : x = 0
    · subst e0
      refine call_meets PySem.F.slot_tuple_mul ⟨_, ht, rfl⟩ PySem.F.entry_tuple_mul (PySem.F.args_tuple_mul_2 _ _) (tuple_mul_0 l ws.toArray n u hemp) ⟨ht, ?_⟩
      exact ⟨.tup [], st, .tup (ws := []) (IsT.new _ _) .nil, Step.push S.hs _ s.toks, by simpa using h⟩
    · by_cases e1 : x = 1
      · subst e1
        refine call_meets PySem.F.slot_tuple_mul ⟨_, ht, rfl⟩ PySem.F.entry_tuple_mul (PySem.F.args_tuple_mul_2 _ _) (tuple_mul_1 l ws.toArray n u) ⟨ht, ?_⟩
        exact ⟨.tup xs, st, .tup ht rr, Step.refl S.hs, by simpa using h⟩
      · refine call_meets PySem.F.slot_tuple_mul ⟨_, ht, rfl⟩ PySem.F.entry_tuple_mul (PySem.F.args_tuple_mul_2 _ _) (tuple_mul_n l ws.toArray n x u (by omega) h1 hemp (by rw [List.size_toArray, ← hlen]; exact hz)) ⟨ht, ?_⟩
        have e := foldl_repl ws x.toNat []
        rw [List.nil_append] at e
        rw [e]
        exact ⟨.tup _, st, .tup (IsT.new _ _) ((rr.repl x.toNat).keep S.hs (Kp.push _)), Step.push S.hs _ s.toks, h⟩
  exact wpAny_binaryOp_repeat_ref (T := "tuple") (U := "int") (by decide) ⟨_, ht, rfl⟩ (fun s' => typeIs_int s' x u) noFill_tuple_mul PySem.F.fills_int_mul PySem.F.slot_int_rmul repeat_tuple PySem.F.slot_int_index.lookup
    (call_meets PySem.F.slot_int_rmul (typeIs_int s x u) PySem.F.entry_int_rmul (PySem.F.args_int_rmul_2 _ _) (rmul_int_tuple x u l ws.toArray n) ⟨ht, rfl, ⟨_, ht, rfl⟩, key⟩)

/-! membership -/
noncomputable def V.strs : List V → Option (List Str)
  | [] => some []
  | .str x :: r => (V.strs r).map (x :: ·)
  | _ => Option.none
theorem strs_items {h : Heap} : ∀ {xs : List V} {ws : List Value} {ss : List Str} (a : Str) (t : Tok), VRs h xs ws → V.strs xs = some ss → ∃ e : Value → Bool, (∀ y, y ∈ ws → PySem.MeetsSeq.EqGives y (.str a t) (e y)) ∧ ws.any e = ss.any (fun y => y == a) := by
  intro xs ws ss a t r hs
  refine ⟨fun y => match y with | .str b _ => b.cps.toList == a.cps.toList | _ => false, ?_⟩
  have ec : ∀ b : Str, (b.cps.toList == a.cps.toList) = (b == a) := fun b => by
    rw [Bool.eq_iff_iff, beq_iff_eq, beq_iff_eq]
    constructor
    · intro q; cases b; cases a; simp only [Str.mk.injEq]; exact Array.toList_inj.mp q
    · rintro rfl; rfl
  induction xs generalizing ws ss with
  | nil => cases r; simp [V.strs] at hs; subst hs; exact ⟨fun y hy => by simp at hy, rfl⟩
  | cons x xs ih =>
    cases r with
    | cons r1 r2 =>
    cases x with
    | str b =>
      simp only [V.strs, Option.map_eq_some_iff] at hs
      obtain ⟨ss', hs', rfl⟩ := hs
      obtain ⟨i1, i2⟩ := ih r2 hs'
      cases r1 with
      | str _ tb =>
      refine ⟨fun y hy => ?_, ?_⟩
      · rcases List.mem_cons.mp hy with rfl | hy
        · exact PySem.SeqRoads2.EqGives.str b a tb t
        · exact i1 y hy
      · rw [List.any_cons, List.any_cons, i2]
        dsimp only
        rw [ec]
    | _ => simp [V.strs] at hs
theorem cmp_in_strs {a : Str} {xs : List V} {ss : List Str} (hs : V.strs xs = some ss) (h : Q (.bool (ss.any fun y => y == a)) st) : CMP o k st .In (.str a) (.tup xs) Q X := fun s va vb S ra rb => by
  cases ra with
  | str _ t =>
  cases rb with
  | tup ht rr =>
  obtain ⟨e, h1, h2⟩ := strs_items a t rr hs
  refine PySem.SeqRoads2.in_tuple e (fun y hy => h1 y (by simpa using hy)) ht ?_
  rw [List.any_toArray, h2]
  exact ⟨_, st, .bool _, Step.refl S.hs, h⟩

/-! names: load and store -/
theorem load_R {A : Around} {s : Shared} {x : Str} {v : V} {Qv : Value → Shared → Prop} {E : Value → Shared → Prop} (I : Inv o c loc st s) (hx : loc x = some v) (h : ∀ u, VR s.heap v u → Qv u s) : wpAny o.M A (loadName c.env x) Qv E s := by
  obtain ⟨m, hm, q⟩ := I.lc.ns
  rcases q x v hx with ⟨hl, u, hu, r⟩ | ⟨hl, hn, a, u, ha, hc, r⟩
  · exact wpAny_loadName_local I.cx.kind hl hm hu (h u r)
  · rcases hl with hl | hl
    · exact wpAny_loadName_cell I.cx.kind hl ha hc (h u r)
    · exact wpAny_loadName_free I.cx.kind hl ha hc (h u r) hn
theorem ex_aug {x : Str} {np pos : Pos} {op : Operator} {e : Expr} {a : V} (hx : loc x = some a) (hs : storable c.env x = true) (h : EV o c loc st e (fun b st₁ => OPI o c.k st₁ op a b (fun r st₂ => QF .next (loc.set x r) st₂) X) X) : EX o c loc st (.AugAssign (.Name x np) op e pos) QF X := fun s I => by
  refine wpAny_AugAssign_Name (load_R I hx fun u ru => pxw I (h.use I fun b st₁ vb s₁ q S I₁ rb => pxw I (px S ?_)))
  refine wpAny_mono (q s₁ u vb I₁.si (ru.keep I.si.hs S.kp) rb) (fun r s₂ ⟨rv, st₂, rr, S₂, q₂⟩ => ?_) fun _ _ p => p
  have I₂ := I₁.step S₂
  have S' : Step o.P (own c) st s st₂ s₂ := (S.trans S₂).weak
  exact storeName_R I₂ rr hs fun h' t S₃ L => ⟨.next, _, st₂, .next, S'.trans S₃, L, q₂⟩

/-! unpacking -/
noncomputable def ASGS (o : Wo) (c : Cx) (loc : LocF) (st : St) (ts : List Expr) (vs : List V) (Q : LocF → St → Prop) (X : Exc → St → Prop) : Prop :=
  ∀ s us, Inv o c loc st s → VRs s.heap vs us → wpAny o.M c.k.A (assignInOrder ((assignEach ts c.env).map (·.2)) us) (PU o c st s Q) (PXO o c st s X) s
theorem asgs_nil (h : QL loc st) : ASGS o c loc st [] [] QL X := fun s us I r => by cases r; exact wpAny_pure ⟨loc, st, Step.refl I.si.hs, I.lc, h⟩
theorem assignEach_plain {t : Expr} {ts : List Expr} {env : Env} (h : plainE t = true) : assignEach (t :: ts) env = (false, assign t env) :: assignEach ts env := by
  cases t <;> first | rfl | cases h
theorem asgs_cons {t : Expr} {ts : List Expr} {v : V} {vs : List V} (h : ASG o c loc st t v (fun loc₁ st₁ => ASGS o c loc₁ st₁ ts vs QL X) X) (hp : plainE t = true := by rfl) : ASGS o c loc st (t :: ts) (v :: vs) QL X := fun s us I r => by
  cases r with
  | cons r1 r2 =>
  rw [assignEach_plain hp]
  show wpAny _ _ (do holding _ (assign t c.env _); assignInOrder _ _) _ _ s
  refine wpAny_bind (wpAny_holding (wpAny_mono (h s _ I r1) (fun _ s₁ p => ?_) fun _ _ p => p))
  obtain ⟨loc₁, st₁, S, L, q⟩ := p
  have I₁ := I.stepF S L
  exact px S (wpAny_mono (q s₁ _ I₁ (VRs.stepF I S r2)) (fun _ _ p => p.trans S) fun _ _ p => p)
theorem each_len {env : Env} : ∀ {ts : List Expr}, ts.all plainE = true → (assignEach ts env).length = ts.length ∧ (assignEach ts env).findIdx? (·.1) = none
  | [], _ => ⟨rfl, rfl⟩
  | t :: ts, h => by
    simp only [List.all_cons, Bool.and_eq_true] at h
    obtain ⟨i1, i2⟩ := each_len (env := env) h.2
    rw [assignEach_plain h.1]
    refine ⟨by simp [i1], ?_⟩
    rw [List.findIdx?_cons, i2]; rfl
theorem asg_tuple {ts : List Expr} {x1} {pos : Pos} {vs : List V} (hp : ts.all plainE = true) (hl : ts.length = vs.length) (h : ASGS o c loc st ts vs QL X) : ASG o c loc st (.Tuple ts x1 pos) (.tup vs) QL X := fun s u I r => by
  cases r with
  | tup ht rr =>
  rename_i ws a n
  obtain ⟨l1, l2⟩ := each_len (env := c.env) hp
  refine wpAny_assign_Tuple I.si.ok.handled ⟨_, ht, rfl, _, rfl⟩ (by rw [l1, hl, List.size_toArray, rr.length]) l2 fun h' he => ?_
  have S1 : Step o.P noF st s st { s with heap := h', toks := s.toks } := Step.grow I.si.hs fun b ob e => he b ob (Nat.ne_of_lt (Heap.lt_size e)) e
  have I1 := I.step S1
  have S1' := S1.weak (F := own c)
  exact px S1' (wpAny_mono (h _ ws I1 (rr.keep I.si.hs S1.kp)) (fun _ _ p => p.trans S1') fun _ _ p => p)

/-! lists compared -/
theorem lst_reads {s : Shared} {a : Addr} {xs : List V} {ds : List PyData} (H : Holds o.P st s.heap) (ha : st a = some (.lst xs)) (hd : V.pys xs = some ds) : ∃ as, Reads s.heap (.ref a) (.list ds) as := by
  obtain ⟨ob, e1, m1⟩ := H a _ ha
  cases m1 with
  | lst rr =>
  obtain ⟨as, ra⟩ := rr.reads hd
  exact ⟨_, .list e1 rfl rfl (by simpa using ra)⟩
theorem cmp_ne_lst {a b : Addr} {xs ys : List V} {da db : List PyData} (ha : st a = some (.lst xs)) (hb : st b = some (.lst ys)) (h1 : V.pys xs = some da) (h2 : V.pys ys = some db) (la : (PyData.list da).canLay0 = true) (lb : (PyData.list db).canLay0 = true)
    (hd : min (PyData.list da).depth (PyData.list db).depth ≤ 30) (h : Q (.bool (!PyData.eqv (.list da) (.list db))) st) : CMP o k st .NotEq (.ptr a) (.ptr b) Q X := fun s va vb S ra rb => by
  cases ra; cases rb
  obtain ⟨_, r1⟩ := lst_reads S.hs ha h1
  obtain ⟨_, r2⟩ := lst_reads S.hs hb h2
  exact SeqAt.compareNe_reads r1 r2 la lb (units_room S.ok hd) (pv_here S (.bool _) h)
/-! an empty dict -/
theorem ev_dict0 {pos : Pos} (h : ∀ a, st a = none → Q (.ptr a) (st.set a (.sd []))) : EV o c loc st (.Dict [] [] pos) Q X := fun s I =>
  wpAny_Dict_empty ⟨.ptr _, _, .ptr _, Step.alloc I.si.hs _ (.sd []) rfl (.sd .nil) s.toks, h _ (size_none I.si.hs)⟩

/-! instances -/
theorem call_cls {C fI : Addr} {as : List V} (hm : makesIn o.K C = true) (hi : findIn o.K (.ref C) "__init__" = some (some (.ref fI))) (hf : isFn o.K (.ref fI) = true) (hn : 1 ≤ k.n)
    (h : ∀ A' x dx, A'.frames = k.A.frames → st dx = none → CALLC o ⟨A', k.fs, k.n - 1⟩ (st.set dx (.sd [])) (.ref fI) (.obj x C dx :: as) (fun v st' => v = .none ∧ Q (.obj x C dx) st') X) : CALLC o k st (.ref C) as Q X := fun s vs S r => by
  obtain ⟨hp, g, d, t, os⟩ := s
  refine make_core (makes_of S.wd.k hm) (looks_findIn S.wd.k hi) (fun self => bind_fn S.wd.k self (beq_iff_eq.mp hf)) (.inl rfl) ?_
  have eF : ∀ x : Option (List Env), pushEnvs (Code.envs (.builtin "type.__call__" ⟨.ref C :: vs, []⟩)) x = x := fun x => rfl
  have eW : Code.weight (.builtin "type.__call__" ⟨.ref C :: vs, []⟩) = 1 := by rfl
  have eU : Code.cUnits (.builtin "type.__call__" ⟨.ref C :: vs, []⟩) = 1 := by rfl
  have hA : KxOk ⟨k.A.under (.builtin "type.__call__" ⟨.ref C :: vs, []⟩), k.fs, k.n - 1⟩ := by
    have h1 := S.ok.depth; have h2 := S.ok.units
    refine ⟨?_, ?_, ?_, S.ok.handled⟩
    · exact (eF _).trans S.ok.fr
    · show k.A.depth + Code.weight (.builtin "type.__call__" ⟨.ref C :: vs, []⟩) + (k.n - 1) < _
      rw [eW]; omega
    · show k.A.units + Code.cUnits (.builtin "type.__call__" ⟨.ref C :: vs, []⟩) + 5 * (k.n - 1) + 40 < _
      rw [eU]; omega
  have Sd : Step o.P noF st ⟨hp, g, d, t, os⟩ (st.set hp.objs.size (.sd [])) ⟨hp.push emptyDict, g, d, t, os⟩ := Step.alloc (s := ⟨hp, g, d, t, os⟩) S.hs emptyDict (.sd []) rfl (.sd (n := 0) .nil) t
  have Si : Step o.P noF (st.set hp.objs.size (.sd [])) ⟨hp.push emptyDict, g, d, t, os⟩ (st.set hp.objs.size (.sd [])) ⟨(hp.push emptyDict).push (instObj C hp.objs.size), g, d, t, os⟩ := Step.push (s := ⟨hp.push emptyDict, g, d, t, os⟩) Sd.holds (instObj C hp.objs.size) t
  have S1 := Sd.trans Si
  have SI1 := S.step S1
  have hob : ((hp.push emptyDict).push (instObj C hp.objs.size)).get? (hp.objs.size + 1) = some (instObj C hp.objs.size) := by
    have := Heap.get?_push_size (hp.push emptyDict) (o := instObj C hp.objs.size) rfl
    rwa [Heap.size_push] at this
  have ro : VR ((hp.push emptyDict).push (instObj C hp.objs.size)) (.obj (hp.objs.size + 1) C hp.objs.size) (.ref (hp.objs.size + 1)) := .obj hob rfl rfl rfl
  have hsn : st hp.objs.size = none := size_none S.hs
  have eA : (k.A.under (.builtin "type.__call__" ⟨.ref C :: vs, []⟩)).frames = k.A.frames := eF _
  refine codeAny_mono (h _ (hp.objs.size + 1) hp.objs.size eA hsn _ (.ref (hp.objs.size + 1) :: vs) (SI1.of_depth hA SI1.fs) (.cons ro (r.keep S.hs S1.kp))) fun rr s' z => ?_
  rcases rr with e | (v | _ | _ | _)
  · exact PXg.trans (G := fun _ => True) S1 (show PX o noF _ _ X e s' from z)
  all_goals first | exact z.elim | skip
  obtain ⟨rv, st', r1, S2, rfl, q⟩ := z
  cases r1
  exact ⟨rfl, .obj (hp.objs.size + 1) C hp.objs.size, st', ro.keep SI1.hs S2.kp, S1.trans S2, q⟩
end
end NN
end

-- part: NN16
section
open PySem PySem.W PyProof.Rows PySem.Calls Builtin Builtin.ObjectAttr
set_option maxRecDepth 100000
set_option linter.all false
namespace NN

noncomputable def excMro : List Value → Bool
  | .ref _ :: r => excMro r
  | l => l == [.type "Exception", .type "BaseException", .type "object"]
theorem excMro_refuse (self : Value) : ∀ {l : List Value}, excMro l = true → refuseLoop self "__setattr__" l = pure ()
  | .ref c :: r, e => by rw [refuseLoop_ref]; exact excMro_refuse self (l := r) e
  | .type n :: r, e => by
    have : Value.type n :: r = [.type "Exception", .type "BaseException", .type "object"] := beq_iff_eq.mp e
    rw [this]; exact PySem.F.store_Exception.passes self
  | [], e => by cases e
  | .none :: r, e | .bool _ :: r, e | .int _ _ :: r, e | .str _ _ :: r, e | .builtin _ :: r, e => by have : _ = _ := beq_iff_eq.mp (show (_ == _) = true from e); simp at this
  | .float .. :: r, e | .bytes .. :: r, e | .ellipsis :: r, e | .notImplemented :: r, e => by have : _ = _ := beq_iff_eq.mp (show (_ == _) = true from e); simp at this
theorem excMro_has : ∀ {l : List Value}, excMro l = true → l.contains (.type "Exception") = true ∧ l.contains (.type "object") = true ∧ l.contains (.type "BaseException") = true ∧ l.contains (.type "AttributeError") = false ∧ l.contains (.type "NameError") = false := by
  intro l
  induction l with
  | nil => intro e; cases e
  | cons x r ih =>
    intro e
    by_cases q : ∃ c, x = .ref c
    · obtain ⟨c, rfl⟩ := q
      obtain ⟨a, b, c', d, f⟩ := ih e
      exact ⟨by rw [List.contains_cons, a, Bool.or_true], by rw [List.contains_cons, b, Bool.or_true], by rw [List.contains_cons, c', Bool.or_true], by rw [List.contains_cons, d]; rfl, by rw [List.contains_cons, f]; rfl⟩
    · have : x :: r = [.type "Exception", .type "BaseException", .type "object"] := by
        unfold excMro at e
        split at e
        · rename_i c _ h; cases h; exact absurd ⟨_, rfl⟩ q
        · exact beq_iff_eq.mp e
      rw [this]
      decide +kernel

noncomputable def setOkX (K : Frag) (C : Addr) (name : Str) : Bool := findIn K (.ref C) "__setattr__" == some (some (.builtin "object.__setattr__")) && (clsIn K C).any (fun cd => excMro cd.mro) && takerIn K C name == some none && hasDictIn K C

section
variable {prog : Program} {w : World} {A : Around} {E : Value → Shared → Prop} {s : Shared} {K : Frag} {x C : Addr}
theorem osa_openX {ox : Obj} {od : Option Obj} {name : Str} {tk : Tok} {v : Value} {R : Result → Shared → Prop} (X : K.In s.heap) (I : InstAt s.heap x ox C od) (hp : (clsIn K C).any (fun cd => excMro cd.mro) = true) (ht : takerIn K C name = some none)
    (h : ∀ b, wpAny (model prog w) A.in1 (Builtin.ObjectAttr.storeInOwnDict (.ref x) (.ref C) (.str name tk) name v b)
      (fun fin s' => match fin with | .done f => R (.ok f) s' | .again c' => c'.quiet = true ∧ codeAny (model prog w) A c' R s') (fun e s' => R (.error e) s') s) :
    codeAny (model prog w) A (.call (.builtin "object.__setattr__") ⟨[.ref x, .str name tk, v], []⟩) R s := by
  have SF := PySem.F.store_object
  obtain ⟨cd, hc, ho⟩ := any_some hp
  obtain ⟨-, hobj, -⟩ := excMro_has ho
  have ne : cd.mro.isEmpty = false := by cases q : cd.mro with | nil => rw [q] at ho; cases ho | cons _ _ => rfl
  have sub : Looks (model prog w) s.heap (isInstance (.ref x) (.type "object")) true := I.type.andThen (looks_mroIn X (by unfold mroIn; rw [hc, Option.bind_some, if_neg (by rw [ne]; decide), hobj]))
  refine codeAny_call_builtin SF.slot.plain SF.entry (@check_slot (model prog w) _ _ s "object.__setattr__" "object" "__setattr__" (.ref x) [.str name tk, v] [] _ SF.kind SF.split sub (SF.args (.ref x) (.str name tk) v) ?_)
  obtain ⟨attr, ha, hr⟩ := Option.bind_eq_some_iff.mp ht
  have hm : Looks (model prog w) s.heap (mroOf (.ref C)) cd.mro := (looks_clsIn X hc).andThen .now
  have L3 : Looks (model prog w) s.heap (storeTaker? attr) none := by
    cases attr with
    | none => exact .now
    | some a =>
      obtain ⟨b, hb, e⟩ := Option.map_eq_some_iff.mp hr
      refine (looks_takesIn X hb).andThen ?_
      cases b with
      | true => cases e
      | false => exact .now
  rw [osa_eq, refuse_eq]
  refine wpAny_bind (wpAny_bind (I.type.here (wpAny_bind (hm.here ?_))))
  rw [excMro_refuse _ ho]
  refine wpAny_pure (wpAny_bind (I.type.here (wpAny_bind ((looks_findIn X ha).here (wpAny_bind (L3.here ?_))))))
  exact h _

theorem notCls_fields {ob : Obj} {vs : Array Value} (h : ob.data = .fields vs) : notCls ob = true := by unfold notCls; rw [h]

/-- the first attribute stored in an exception -/
theorem setX_new {ox : Obj} {vs : Array Value} {name : Str} {v : Value} {Q : Unit → Shared → Prop} (X : K.In s.heap) (hx : s.heap.get? x = some ox) (hcl : ox.cls = .ref C) (hdn : ox.dict = none) (hdat : ox.data = .fields vs) (hk : setOkX K C name = true)
    (h : ∀ t, Q () { s with heap := ((s.heap.push emptyDict).update x fun o => { o with dict := some s.heap.objs.size }).update s.heap.objs.size (Obj.putName name (PyData.keyHash w.params name) (.str name (s.toks + 1)) v), toks := t }) :
    wpAny (model prog w) A (setAttr (.ref x) name v) Q E s := by
  unfold setOkX at hk
  simp only [Bool.and_eq_true, beq_iff_eq] at hk
  obtain ⟨⟨⟨k1, k2⟩, k3⟩, k4⟩ := hk
  have I : InstAt s.heap x ox C none := ⟨hx, hcl, notCls_fields hdat, by rw [hdn]; trivial⟩
  refine set_plain X I k1 ?_
  refine osa_openX (s := { s with toks := s.toks + 1 }) X I k2 k3 fun b => ?_
  obtain ⟨cd, hc, hd'⟩ := any_some k4
  have hne : x ≠ s.heap.objs.size := Nat.ne_of_lt (Heap.lt_size hx)
  have g1 : (s.heap.push emptyDict).get? x = some ox := Heap.get?_push_of_some _ hx
  have g2 : ((s.heap.push emptyDict).update x fun o => { o with dict := some s.heap.objs.size }).get? s.heap.objs.size = some emptyDict := (Heap.get?_update_other _ _ hne).trans (Heap.get?_push_size _ rfl)
  obtain ⟨oc, odi, oda, osl⟩ := ox
  dsimp only at hcl hdn hdat
  subst hcl hdn hdat
  refine wpAny_bind (wpAny_pure (wpAny_bind (wpAny_bind (wpAny_loadPart hx (wpAny_bind (Looks.here (s := { s with toks := s.toks + 1 }) (looks_clsIn X hc) ?_))))))
  rw [hd']
  show wpAny _ _ (alloc emptyDict >>= _) _ _ _
  refine wpAny_bind (wpAny_alloc (wpAny_bind (wpAny_update (o := ⟨.ref C, none, .fields vs, osl⟩) g1 ?_)))
  show wpAny _ _ (pure (some s.heap.objs.size)) _ _ _
  refine wpAny_pure ?_
  show wpAny _ _ (Builtin.ObjectAttr.storeInDict s.heap.objs.size _ name v) _ _ _
  unfold Builtin.ObjectAttr.storeInDict
  refine wpAny_bind (wpAny_pure (wpAny_bind ?_))
  unfold nsSet
  refine wpAny_bind (wpAny_bind (wpAny_askSetting (wpAny_pure (wpAny_bind (wpAny_mkText (wpAny_bind (wpAny_loadPart g2 ?_)))))))
  dsimp only
  have c0 : (!(#[] : Array DictEntry).any (·.key.isStr name) && (#[] : Array DictEntry).any (·.refKey)) = false := by simp
  rw [aRefKeyMayBeTheName_at, c0]
  refine wpAny_updatePart g2 ?_
  have D' : ((((s.heap.push emptyDict).update x fun o => { o with dict := some s.heap.objs.size }).update s.heap.objs.size (Obj.putName name (PyData.keyHash w.params name) (.str name (s.toks + 1)) v))).get? s.heap.objs.size = some (dictOf (putL name (PyData.keyHash w.params name) (.str name (s.toks + 1)) v []) (putN name [] 0)) :=
    (Heap.get?_update_self _ g2 (by rw [show (emptyDict : Obj) = dictOf [] 0 from rfl, putName_dict]; rfl)).trans (by rw [show (emptyDict : Obj) = dictOf [] 0 from rfl, putName_dict])
  refine wpAny_bind (wpAny_lookBehind D' (pastItsLine_dict (by simp [putL])) ?_)
  exact wpAny_pure (h _)

/-- a further one -/
theorem setX_more {ox : Obj} {vs : Array Value} {dx : Addr} {es : List DictEntry} {n : Nat} {name : Str} {v : Value} {Q : Unit → Shared → Prop} (X : K.In s.heap) (hx : s.heap.get? x = some ox) (hcl : ox.cls = .ref C) (hdn : ox.dict = some dx) (hdat : ox.data = .fields vs)
    (D : s.heap.get? dx = some (dictOf es n)) (hk : setOkX K C name = true) (hn : es.any (·.refKey) = false) (hz : es.length ≤ 900)
    (h : ∀ t, Q () { s with heap := s.heap.update dx (Obj.putName name (PyData.keyHash w.params name) (.str name (s.toks + 1)) v), toks := t }) :
    wpAny (model prog w) A (setAttr (.ref x) name v) Q E s := by
  unfold setOkX at hk
  simp only [Bool.and_eq_true, beq_iff_eq] at hk
  obtain ⟨⟨⟨k1, k2⟩, k3⟩, k4⟩ := hk
  have I : InstAt s.heap x ox C (some (dictOf es n)) := ⟨hx, hcl, notCls_fields hdat, by rw [hdn]; exact D⟩
  refine set_plain X I k1 ?_
  refine osa_openX (s := { s with toks := s.toks + 1 }) X I k2 k3 fun b => ?_
  obtain ⟨cd, hc, hd'⟩ := any_some k4
  have D' : (s.heap.update dx (Obj.putName name (PyData.keyHash w.params name) (.str name (s.toks + 1)) v)).get? dx = some (dictOf (putL name (PyData.keyHash w.params name) (.str name (s.toks + 1)) v es) (putN name es n)) :=
    (Heap.get?_update_self _ D (by rw [putName_dict]; rfl)).trans (by rw [putName_dict])
  obtain ⟨oc, odi, oda, osl⟩ := ox
  dsimp only at hcl hdn hdat
  subst hcl hdn hdat
  refine wpAny_bind (wpAny_pure (wpAny_bind (wpAny_bind (wpAny_loadPart hx (wpAny_bind (Looks.here (s := { s with toks := s.toks + 1 }) (looks_clsIn X hc) ?_))))))
  rw [hd']
  refine wpAny_pure (a := some dx) (wpAny_bind (wpAny_pure (wpAny_bind ?_)))
  unfold nsSet
  refine wpAny_bind (wpAny_bind (wpAny_askSetting (wpAny_pure (wpAny_bind (wpAny_mkText (wpAny_bind (wpAny_loadPart D ?_)))))))
  dsimp only
  have c : (!es.toArray.any (·.key.isStr name) && es.toArray.any (·.refKey)) = false := by
    rw [← Array.any_toList, ← Array.any_toList, hn, Bool.and_false]
  rw [aRefKeyMayBeTheName_at, c]
  refine wpAny_updatePart D ?_
  have hlen : (putL name (PyData.keyHash w.params name) (.str name (s.toks + 1)) v es).length ≤ es.length + 1 := by
    clear D D' c hn hz I
    induction es with
    | nil => simp [putL]
    | cons e r ih => unfold putL; split <;> simp; exact ih
  refine wpAny_bind (wpAny_lookBehind D' (pastItsLine_dict (by rw [List.size_toArray, sizeLine_eq]; omega)) ?_)
  exact wpAny_pure (h _)
end
end NN
end

-- part: NN17
section
open PySem PySem.W PyProof.Rows PySem.Calls Builtin Builtin.ObjectAttr
set_option maxRecDepth 100000
set_option linter.all false
namespace NN

noncomputable def makesXIn (K : Frag) (C : Addr) : Bool := match K.lookup C with
  | some ⟨_, _, .cls cd, sl⟩ => !cd.abstract && !cd.hasDel && (sl.toList[4]?).join == some (.builtin "Exception.__new__") && !cd.mro.isEmpty && cd.mro.contains (.ref C) && excMro cd.mro &&
      specialIn K (.ref C) "__call__" == some (some (.builtin "type.__call__")) && instIn K (.ref C) (.type "type") == some true
  | _ => false
structure MakesX (M : Model) (h : Heap) (C : Addr) : Prop where
  obj : ∃ oc od cd sl, h.get? C = some ⟨oc, od, .cls cd, sl⟩ ∧ cd.abstract = false ∧ cd.hasDel = false ∧ cd.mro.isEmpty = false
  made : Looks M h (Bind.madeBy (.ref C)) (some "Exception.__new__")
  base : Looks M h (Bind.staticBase (.ref C)) (.ref C)
  self : Looks M h (isSubtype (.ref C) (.ref C)) true
  top : Looks M h (isSubtype (.ref C) (.type "Exception")) true
  bas : Looks M h (isSubtype (.ref C) (.type "BaseException")) true
  noA : Looks M h (isSubtype (.ref C) (.type "AttributeError")) false
  noN : Looks M h (isSubtype (.ref C) (.type "NameError")) false
  call : Looks M h (specialOf (.ref C) "__call__") (some (.builtin "type.__call__"))
  typ : Looks M h (isInstance (.ref C) (.type "type")) true
theorem makesX_of {K : Frag} {M : Model} {h : Heap} (X : K.In h) {C : Addr} (e : makesXIn K C = true) : MakesX M h C := by
  unfold makesXIn at e
  split at e
  · rename_i oc od cd sl ho
    simp only [Bool.and_eq_true, Bool.not_eq_true', beq_iff_eq] at e
    obtain ⟨⟨⟨⟨⟨⟨⟨e1, e2⟩, e3⟩, e4⟩, e5⟩, e6⟩, e7⟩, e8⟩ := e
    obtain ⟨m1, m2, m3, m4, m5⟩ := excMro_has e6
    have hc : clsIn K C = some cd := by unfold clsIn; rw [ho]
    have hm : Looks M h (mroOf (.ref C)) cd.mro := (looks_clsIn X hc).andThen .now
    obtain ⟨c, l, hl⟩ : ∃ c l, cd.mro = c :: l := by cases q : cd.mro with | nil => rw [q] at e4; cases e4 | cons c l => exact ⟨c, l, rfl⟩
    have made : Looks M h (Bind.madeBy (.ref C)) (some "Exception.__new__") := by
      intro A Q E s k q
      unfold Bind.madeBy
      refine wpAny_bind (hm A _ E s k ?_)
      rw [hl, List.forIn_cons]
      refine wpAny_bind (wpAny_bind (wpAny_bind (wpAny_bind (wpAny_loadPart (k _ _ (X _ _ ho)) (wpAny_pure ?_)))))
      dsimp only
      rw [← Array.getElem?_toList, e3]
      exact wpAny_pure (wpAny_pure (wpAny_pure q))
    have sub : ∀ {b : Value} {r : Bool}, cd.mro.contains b = r → Looks M h (isSubtype (.ref C) b) r := fun hb => looks_mroIn X (by unfold mroIn; rw [hc, Option.bind_some, if_neg (by rw [e4]; decide), hb])
    refine ⟨⟨oc, od, cd, sl, X _ _ ho, e1, e2, e4⟩, made, ?_, sub e5, sub m1, sub m3, sub m4, sub m5, looks_specialIn X e7, looks_instIn X e8⟩
    · intro A Q E s k q
      unfold Bind.staticBase
      refine wpAny_bind (hm A _ E s k ?_)
      rw [hl, List.forIn_cons]
      exact wpAny_bind (wpAny_bind (wpAny_bind (made A _ E s k (wpAny_pure (wpAny_pure (wpAny_pure q))))))
  · cases e

abbrev excObj (C t : Addr) : Obj := { cls := .ref C, data := .fields #[.ref t, .none, .none, .none, .bool false, .none] }
abbrev argsObj (rest : List Value) : Obj := { cls := .type "tuple", data := .seq rest.toArray }

section
variable {prog : Program} {w : World} {A : Around} {K : Frag} {C : Addr} {R : Result → Shared → Prop} {h : Heap} {g : Array GenState} {d : Drawn} {t : Nat} {os : OsState}
theorem newX {rest : List Value} (Y : MakesX (model prog w) h C) (hrest : rest.length ≤ sizeLine)
    (hq : R (.ok (.ret (.ref (h.objs.size + 1)))) ⟨(h.push (argsObj rest)).push (excObj C h.objs.size), g, d, t, os⟩) :
    codeAny (model prog w) A (.call (.builtin "Exception.__new__") ⟨.ref C :: rest, []⟩) R ⟨h, g, d, t, os⟩ := by
  obtain ⟨⟨oc, od, cd, sl, hC, e1, e2, e4⟩, made, base, self, top, bas, noA, noN, call, typ⟩ := Y
  have F := PySem.F.excBase_Exception
  have hstar := F.noStar
  refine codeAny_call_builtin_code (Code.quiet_builtin _ F.quiet) ?_
  simp only [checkBuiltinCall, F.newKind, F.newSplit, F.newRow]
  repeat (first | simp only [bne_self_eq_false, Bool.false_eq_true, if_false] | lk | wp_step)
  refine PySem.codeAny_builtinAt F.entry ?_
  unfold Builtin.«BaseException.__new__»
  refine PySem.wpAt_bind ?_
  show PySem.wpAt _ _ _ (stack >>= _) _ _ _
  refine PySem.wpAt_bind (PySem.wpAt_stack fun p below => PySem.wpAt_of_wpAny ?_)
  have hends := F.ends
  have here : Looks (model prog w) h (Bind.madeHere "BaseException.__new__" (.ref C)) () := base.andThen (made.andThen (Looks.of_pure (by simp only [Option.map_some, F.canon, bne_self_eq_false, Bool.false_eq_true, if_false])))
  wp_walk
  refine PySem.wpAt_of_wpAny ?_
  rw [F.owner]
  repeat (first | lk | wp_step)
  refine nd_load (Heap.get?_push_of_some _ (Heap.get?_push_of_some _ hC)) ?_
  refine wpAny_pure ?_
  dsimp only
  rw [e2]
  refine wpAny_pure ?_
  rw [if_neg (by decide)]
  refine wpAny_pure ?_
  refine wpAny_pure ?_
  show R _ _
  rw [Heap.size_push]
  exact hq

theorem makeX_core {rest : List Value} {fI : Addr} (Y : MakesX (model prog w) h C) (hi : Looks (model prog w) h (typeLookup (.ref C) "__init__") (some (.ref fI))) (hrest : rest.length ≤ sizeLine)
    (hb : ∀ self, Looks (model prog w) h (bindSpecial (.ref fI) self) (.ref fI, [self]))
    (hq : codeAny (model prog w) (A.under (.builtin "type.__call__" ⟨.ref C :: rest, []⟩)) (.call (.ref fI) ⟨.ref (h.objs.size + 1) :: rest, []⟩) (InitBack (h.objs.size + 1) R) ⟨(h.push (argsObj rest)).push (excObj C h.objs.size), g, d, t, os⟩) :
    codeAny (model prog w) A (.call (.ref C) ⟨rest, []⟩) R ⟨h, g, d, t, os⟩ := by
  have Y' := Y
  obtain ⟨⟨oc, od, cd, sl, hC, e1, e2, e4⟩, made, base, self, top, bas, noA, noN, call, typ⟩ := Y
  refine codeAny_of_tree ?_
  show wpAny _ _ (callAny (.ref C) _) _ _ _
  refine nd_load hC ?_
  show wpAny _ _ (callAny.viaDunder (.ref C) _) _ _ _
  unfold callAny.viaDunder
  refine wpAny_bind (call.at ?_)
  dsimp only
  rw [tc_bind]
  refine wpAny_bind (wpAny_pure (wpAny_bind (wpAny_pure ?_)))
  refine wpAny_pure (a := Fin.again (.call (.builtin "type.__call__") ⟨.ref C :: rest, []⟩)) (And.intro rfl ?_)
  refine codeAny_call_builtin_at (Code.quiet_builtin _ (by decide +kernel)) entry_typeCall (check_slot tc_kind tc_split typ (tc_args _ _ _) ?_)
  unfold Builtin.«type.__call__»
  have hm : Looks (model prog w) h (mroOf (.ref C)) cd.mro := ((Looks.ld (part := none) hC).andThen .now).andThen .now
  repeat (first | simp only [e4, Bool.false_eq_true, if_false] | with_reducible refine wpAny_call ?_ | lk)
  refine newX Y' hrest ?_
  have k : ∀ b o, h.get? b = some o → ((h.push (argsObj rest)).push (excObj C h.objs.size)).get? b = some o := fun b o e => Heap.get?_push_of_some _ (Heap.get?_push_of_some _ e)
  have hx : ((h.push (argsObj rest)).push (excObj C h.objs.size)).get? (h.objs.size + 1) = some (excObj C h.objs.size) := by
    have := Heap.get?_push_size (h.push (argsObj rest)) (o := excObj C h.objs.size) rfl
    rwa [Heap.size_push] at this
  have t1 : Looks (model prog w) ((h.push (argsObj rest)).push (excObj C h.objs.size)) (typeOf (.ref (h.objs.size + 1))) (.ref C) := (Looks.ld hx).andThen .now
  have s1 := self.keeps k
  have i1 := hi.keeps k
  have b1 := (hb (.ref (h.objs.size + 1))).keeps k
  unfold isInstance callSpecial? specialOf
  repeat (first | with_reducible refine wpAny_call ?_ | lk)
  refine codeAny_mono hq fun r s' z => ?_
  rcases r with e | (v | _ | _ | _) <;> first | exact z | exact z.elim | skip
  obtain ⟨rfl, z⟩ := z
  exact wpAny_pure (wpAny_pure z)
end

section
variable {o : Wo} [W : WoOk o] {c : Cx} {k : Kx} {loc : LocF} {st : St} {Q : V → St → Prop} {X : Exc → St → Prop} {QF : Fl → LocF → St → Prop} {QL : LocF → St → Prop}

/-- a new exception, by a class with an own maker -/
theorem call_exc {C fI : Addr} {as : List V} (hm : makesXIn o.K C = true) (hi : findIn o.K (.ref C) "__init__" = some (some (.ref fI))) (hf : isFn o.K (.ref fI) = true) (hn : 1 ≤ k.n) (hz : as.length ≤ sizeLine)
    (h : ∀ A' x, A'.frames = k.A.frames → st x = none → CALLC o ⟨A', k.fs, k.n - 1⟩ (st.set x (.exo C none)) (.ref fI) (.ptr x :: as) (fun v st' => v = .none ∧ Q (.ptr x) st') X) : CALLC o k st (.ref C) as Q X := fun s vs S r => by
  obtain ⟨hp, g, d, t, os⟩ := s
  refine makeX_core (makesX_of S.wd.k hm) (looks_findIn S.wd.k hi) (by rw [← r.length]; exact hz) (fun self => bind_fn S.wd.k self (beq_iff_eq.mp hf)) ?_
  have eF : ∀ x : Option (List Env), pushEnvs (Code.envs (.builtin "type.__call__" ⟨.ref C :: vs, []⟩)) x = x := fun x => rfl
  have eW : Code.weight (.builtin "type.__call__" ⟨.ref C :: vs, []⟩) = 1 := by rfl
  have eU : Code.cUnits (.builtin "type.__call__" ⟨.ref C :: vs, []⟩) = 1 := by rfl
  have hA : KxOk ⟨k.A.under (.builtin "type.__call__" ⟨.ref C :: vs, []⟩), k.fs, k.n - 1⟩ := by
    have h1 := S.ok.depth; have h2 := S.ok.units
    refine ⟨?_, ?_, ?_, S.ok.handled⟩
    · exact (eF _).trans S.ok.fr
    · show k.A.depth + Code.weight (.builtin "type.__call__" ⟨.ref C :: vs, []⟩) + (k.n - 1) < _
      rw [eW]; omega
    · show k.A.units + Code.cUnits (.builtin "type.__call__" ⟨.ref C :: vs, []⟩) + 5 * (k.n - 1) + 40 < _
      rw [eU]; omega
  have Sd : Step o.P noF st ⟨hp, g, d, t, os⟩ st ⟨hp.push (argsObj vs), g, d, t, os⟩ := Step.push (s := ⟨hp, g, d, t, os⟩) S.hs (argsObj vs) t
  have Si : Step o.P noF st ⟨hp.push (argsObj vs), g, d, t, os⟩ (st.set (hp.push (argsObj vs)).objs.size (.exo C none)) ⟨(hp.push (argsObj vs)).push (excObj C hp.objs.size), g, d, t, os⟩ :=
    Step.alloc (s := ⟨hp.push (argsObj vs), g, d, t, os⟩) Sd.holds (excObj C hp.objs.size) (.exo C none) rfl (.exo rfl rfl rfl rfl rfl) t
  rw [Heap.size_push] at Si
  have S1 := Sd.trans Si
  have SI1 := S.step S1
  have hsn : st (hp.objs.size + 1) = none := by
    have := size_none (st := st) (P := o.P) Sd.holds
    rwa [show (⟨hp.push (argsObj vs), g, d, t, os⟩ : Shared).heap.objs.size = hp.objs.size + 1 from Heap.size_push ..] at this
  refine codeAny_mono (h (k.A.under (.builtin "type.__call__" ⟨.ref C :: vs, []⟩)) (hp.objs.size + 1) (eF _) hsn _ (.ref (hp.objs.size + 1) :: vs) (SI1.of_depth hA SI1.fs) (.cons (.ptr _) (r.keep S.hs S1.kp))) fun rr s' z => ?_
  rcases rr with e | (v | _ | _ | _)
  · exact PXg.trans (G := fun _ => True) S1 (show PX o noF _ _ X e s' from z)
  all_goals first | exact z.elim | skip
  obtain ⟨rv, st', r1, S2, rfl, q⟩ := z
  cases r1
  exact ⟨rfl, .ptr (hp.objs.size + 1), st', .ptr _, S1.trans S2, q⟩

theorem seta_exo_new {e C : Addr} {name : Str} {v : V} {Q : St → Prop} (hst : st e = some (.exo C none)) (hk : setOkX o.K C name = true) (h : ∀ d, st d = none → d ≠ e → Q ((st.set e (.exo C (some d))).set d (.sd [(name, v)]))) : SETA o k st (.ptr e) name v Q X := fun s va u S r rv => by
  cases r
  obtain ⟨ob, e1, m1⟩ := S.hs e _ hst
  cases m1 with
  | exo a b c' d' f =>
  rename_i vs a0
  refine setX_new S.wd.k e1 a b c' hk fun t => ?_
  have hne : e ≠ s.heap.objs.size := Nat.ne_of_lt (Heap.lt_size e1)
  have S1 : Step o.P noF st s (st.set s.heap.objs.size (.sd [])) { s with heap := s.heap.push emptyDict, toks := t } := Step.alloc S.hs emptyDict (.sd []) rfl (.sd (n := 0) .nil) t
  have g1 : (s.heap.push emptyDict).get? e = some ob := Heap.get?_push_of_some _ e1
  have hse : (st.set s.heap.objs.size (.sd [])) e = some (.exo C none) := (St.set_ne _ _ hne).trans hst
  have S2 : Step o.P noF (st.set s.heap.objs.size (.sd [])) { s with heap := s.heap.push emptyDict, toks := t } ((st.set s.heap.objs.size (.sd [])).set e (.exo C (some s.heap.objs.size))) { s with heap := (s.heap.push emptyDict).update e fun o => { o with dict := some s.heap.objs.size }, toks := t } :=
    Step.upd (s := { s with heap := s.heap.push emptyDict, toks := t }) S1.holds (by rw [hse]; simp) (Heap.SameBut.update ..) (Heap.get?_update_self (fun o => { o with dict := some s.heap.objs.size }) g1 (Obj.isFreed_of_fields (o := { ob with dict := some s.heap.objs.size }) c')) (fun hh K => .exo a rfl c' d' f) t
  have g2 : ((s.heap.push emptyDict).update e fun o => { o with dict := some s.heap.objs.size }).get? s.heap.objs.size = some (dictOf [] 0) := (Heap.get?_update_other _ _ hne).trans (Heap.get?_push_size _ rfl)
  have hse2 : ((st.set s.heap.objs.size (.sd [])).set e (.exo C (some s.heap.objs.size))) s.heap.objs.size = some (.sd []) := (St.set_ne _ _ (Ne.symm hne)).trans (St.set_same ..)
  have S12 := S1.trans S2
  have S3 : Step o.P noF ((st.set s.heap.objs.size (.sd [])).set e (.exo C (some s.heap.objs.size))) { s with heap := (s.heap.push emptyDict).update e fun o => { o with dict := some s.heap.objs.size }, toks := t }
      (((st.set s.heap.objs.size (.sd [])).set e (.exo C (some s.heap.objs.size))).set s.heap.objs.size (.sd [(name, v)])) { s with heap := ((s.heap.push emptyDict).update e fun o => { o with dict := some s.heap.objs.size }).update s.heap.objs.size (Obj.putName name (PyData.keyHash o.w.params name) (.str name (s.toks + 1)) u), toks := t } :=
    Step.upd (s := { s with heap := (s.heap.push emptyDict).update e fun o => { o with dict := some s.heap.objs.size }, toks := t }) S12.holds (by rw [hse2]; simp) (Heap.SameBut.update ..) (Heap.get?_update_self _ g2 (by rw [putName_dict]; rfl)) (fun hh K => by
      rw [putName_dict]
      exact .sd (.cons ((rv.keep S.hs S12.kp).keep S12.holds K) .nil)) t
  have S123 := S12.trans S3
  have eq : (((st.set s.heap.objs.size (.sd [])).set e (.exo C (some s.heap.objs.size))).set s.heap.objs.size (.sd [(name, v)])) = ((st.set e (.exo C (some s.heap.objs.size))).set s.heap.objs.size (.sd [(name, v)])) := by
    funext b
    unfold St.set
    by_cases q : b = s.heap.objs.size
    · simp [q]
    · simp [q]
  rw [eq] at S123
  exact ⟨_, S123, h _ (size_none S.hs) (Ne.symm hne)⟩

theorem seta_exo {e C dx : Addr} {l : List (Str × V)} {name : Str} {v : V} {Q : St → Prop} (hst : st e = some (.exo C (some dx))) (hdx : st dx = some (.sd l)) (hk : setOkX o.K C name = true) (hz : l.length ≤ 900) (h : Q (st.set dx (.sd (sput name v l)))) : SETA o k st (.ptr e) name v Q X := fun s va u S r rv => by
  cases r
  obtain ⟨ob, e1, m1⟩ := S.hs e _ hst
  obtain ⟨od, e2, m2⟩ := S.hs dx _ hdx
  cases m1 with
  | exo a b c' d' f =>
  cases m2 with
  | sd se =>
  refine setX_more S.wd.k e1 a b c' e2 hk se.noRef (by rw [se.len]; exact hz) fun t => ⟨_, ?_, h⟩
  refine Step.upd S.hs (by rw [hdx]; simp) (Heap.SameBut.update ..) (Heap.get?_update_self _ e2 (by rw [putName_dict]; rfl)) (fun hh K => ?_) t
  rw [putName_dict]
  have : SEs o.P hh (sput name v l) (putL name (PyData.keyHash o.w.params name) (.str name (s.toks + 1)) u _) := SEs.put (rv.keep S.hs K) (by
    have := MOR.keep S.hs K (MOR.sd (P := o.P) (n := 0) se)
    cases this with | sd x => exact x)
  exact .sd this
end
end NN
end

-- part: NN18
section
open PySem PySem.W PyProof.Rows PySem.Calls Builtin Builtin.ObjectAttr
set_option maxRecDepth 100000
set_option linter.all false
namespace NN

section
variable {o : Wo} [W : WoOk o] {c : Cx} {k : Kx} {loc : LocF} {st : St} {Q : V → St → Prop} {X : Exc → St → Prop} {QF : Fl → LocF → St → Prop} {QL : LocF → St → Prop}

theorem raise_R {env : Env} {A : Around} {m : Sem Value} {K : Frag} {s : Shared} {E : Value → Shared → Prop} {Q : Flow → Shared → Prop} (hh : A.handled = none)
    (h : wpAny o.M A m (fun v s₁ => ∃ x C ob vs, v = .ref x ∧ K.In s₁.heap ∧ makesXIn K C = true ∧ typeIn K (.ref C) = some (.type "type") ∧ s₁.heap.get? x = some ob ∧ ob.cls = .ref C ∧ ob.data = .fields vs ∧ vs[1]? = some .none ∧ E (.ref x) s₁) E s) :
    wpAny o.M A (raiseStmt env (some m) none) Q E s := by
  unfold raiseStmt
  refine wpAny_bind (wpAny_mono h (fun v s₁ h₁ => ?_) fun _ _ x => x)
  obtain ⟨x, C, ob, vs, rfl, X, hm, ht, he, hcl, hd, h1, hE⟩ := h₁
  obtain ⟨hp, g, d, tk, os⟩ := s₁
  obtain ⟨⟨oc, od, cd, sl, hC, e1, e2, e4⟩, made, base, self, top, bas, noA, noN, call, typ⟩ := makesX_of (M := o.M) X hm
  have ty : Looks o.M hp (typeOf (.ref x)) (.ref C) := by rw [← hcl]; exact (Looks.ld he).andThen .now
  obtain ⟨cl, di, da, sl'⟩ := ob
  dsimp only at hcl hd
  subst hcl hd
  obtain ⟨oK, hoK, hoT⟩ := Option.map_eq_some_iff.mp ht
  have hoc : oc = .type "type" := by
    have := X C oK hoK
    rw [hC] at this; cases this
    exact hoT
  subst hoc
  repeat (first | lk | wp_step)
  rw [h1]
  refine wpAny_pure ?_
  rw [if_neg (by decide)]
  exact wpAny_pure (wpAny_raiseNew_none hh hE)

/-- raising of a new exception -/
theorem ex_raise {e : Expr} {pos : Pos} (h : EV o c loc st e (fun v st₁ => ∃ x C dx l st₂, v = .ptr x ∧ st₁ x = some (.exo C (some dx)) ∧ st₁ dx = some (.sd l) ∧ st x = none ∧ st dx = none ∧ makesXIn o.K C = true ∧ typeIn o.K (.ref C) = some (.type "type") ∧
      St.le st₂ st₁ ∧ st₂ x = none ∧ st₂ dx = none ∧ X ⟨C, l⟩ st₂) X) : EX o c loc st (.Raise (some e) none pos) QF X := fun s I => by
  rw [arm_exec_Raise]
  refine wpAny_bind (wpAny_standAt (raise_R (K := o.K) I.si.ok.handled (wpAny_bind (pxw I (h.use I fun v st₁ va s₁ q S I₁ r => wpAny_bind (wpAny_standAt (wpAny_pure ?_)))))))
  obtain ⟨x, C, dx, l, st₂, rfl, h1, h2, h3, h4, h5, h6, h7, h8, h9, h10⟩ := q
  cases r
  obtain ⟨ob, e1, m1⟩ := I₁.si.hs x _ h1
  obtain ⟨od, e2, m2⟩ := I₁.si.hs dx _ h2
  cases m1 with
  | exo a b c' d' f =>
  cases m2 with
  | sd se =>
  rename_i vs a0 es n
  have n1 : s.heap.get? x = none := by
    rcases S.sub x (by rw [h1]; simp) with q | q
    · exact absurd h3 q
    · exact q
  have n2 : s.heap.get? dx = none := by
    rcases S.sub dx (by rw [h2]; simp) with q | q
    · exact absurd h4 q
    · exact q
  exact ⟨x, C, ob, vs, rfl, I₁.si.wd.k, h5, h6, e1, a, c', f, ⟨C, l⟩, st₂, x, rfl, ⟨dx, ob, vs, a0, es, n, e1, a, b, c', d', e2, se, n1, n2, ⟨h9, h8⟩, .inl f⟩, (S.weak).forget h7, I₁.lc.nil, h10⟩
end
end NN
end

-- part: NN19
section
open PySem PySem.W PyProof.Rows PySem.Calls Builtin Builtin.ObjectAttr
set_option maxRecDepth 100000
set_option linter.all false
namespace NN

noncomputable def getOkX (K : Frag) (C : Addr) (name : Str) : Bool := findIn K (.ref C) "__getattribute__" == some (some (.builtin "BaseException.__getattribute__")) && findIn K (.ref C) "__getattr__" == some none && hasDictIn K C &&
  (match findIn K (.ref C) name with | some attr => noGet K attr | none => false) && makesXIn K C

theorem ga_kind : builtinKind "BaseException.__getattribute__" = some .slot := by decide +kernel
theorem ga_split : splitId "BaseException.__getattribute__" = some ("BaseException", "__getattribute__") := by decide +kernel
theorem ga_plain : plainId "BaseException.__getattribute__" = true := by decide +kernel
theorem ga_bind (self : Value) : bindSpecial (.builtin "BaseException.__getattribute__") self = pure (.builtin "BaseException.__getattribute__", [self]) :=
  PySem.F.excAttr_ValueError.ga.bind self

section
variable {prog : Program} {w : World} {A : Around} {E : Value → Shared → Prop} {s : Shared} {K : Frag} {x C : Addr}
theorem getX {ox od : Obj} {name : Str} {v : Value} {expr : Bool} {Q : Value → Shared → Prop} (X : K.In s.heap) (I : InstAt s.heap x ox C (some od)) (hk : getOkX K C name = true) (hl : lookIn name od = some (some v)) (hv : handedIn v = true)
    (h : Q v { s with toks := s.toks + 1 }) : wpAny (model prog w) A (getAttr (.ref x) name expr) Q E s := by
  unfold getOkX at hk
  simp only [Bool.and_eq_true, beq_iff_eq] at hk
  obtain ⟨⟨⟨⟨k1, k2⟩, k3⟩, k4⟩, k5⟩ := hk
  split at k4
  case h_2 => cases k4
  rename_i attr ha
  obtain ⟨hh, g, d, t, os⟩ := s
  have L0 := I.type (M := model prog w)
  have L1 := looks_findIn (M := model prog w) X k1
  have L2 := looks_findIn (M := model prog w) X k2
  have L3 := looks_find (M := model prog w) X I (findObj_own k3 ha k4 hl)
  have Y := makesX_of (M := model prog w) X k5
  have sub : Looks (model prog w) hh (isInstance (.ref x) (.type "BaseException")) true := L0.andThen Y.bas
  unfold getAttr getAttrBy
  refine wpAny_bind (wpAny_mkText (wpAny_holding (wpAny_bind (L0.at (wpAny_bind (L1.at ?_))))))
  dsimp only
  rw [if_neg (by rw [Bool.and_eq_true]; rintro ⟨_, q⟩; revert q; decide)]
  unfold getAttrByItsOwn hookBefore
  rw [if_pos (show onTheHeap (.ref C) = true from rfl)]
  refine wpAny_bind (L2.at (wpAny_bind (wpAny_attempt (wpAny_holding ?_))))
  unfold callGetattribute
  rw [if_neg (by cases expr <;> decide)]
  unfold boundAndCalled
  rw [ga_bind]
  refine wpAny_bind (wpAny_pure ?_)
  refine wpAny_call (codeAny_call_builtin ga_plain PySem.F.entry_bexc_ga (@check_slot (model prog w) _ _ _ "BaseException.__getattribute__" "BaseException" "__getattribute__" (.ref x) [.str name t] [] _ ga_kind ga_split sub (PySem.F.args_bexc_ga _ _) ?_))
  unfold Builtin.«object.__getattribute__»
  repeat (first | lk | wp_step)
  show wpAny _ _ (handedOut v) _ _ _
  rw [handedOut_of hv]
  exact wpAny_pure h
end

section
variable {M : Model} {A : Around} {E : Value → Shared → Prop} {s : Shared} {env : Env}
theorem wpAny_nsDelC {a : Addr} {m : Str → Option Value} {name : Str} {Q : Bool → Shared → Prop} (hn : s.heap.Ns a m)
    (hQ : ∀ h', (∃ m', h'.Ns a m') → Heap.SameBut a s.heap h' → (∀ ob, s.heap.get? a = some ob → ∃ ob', h'.get? a = some ob' ∧ OO ob ob') → Q (m name).isSome { s with heap := h' }) : wpAny M A (nsDel a name) Q E s := by
  obtain ⟨o, es, ep, ho, hd, hk, hm⟩ := id hn
  have hany : es.any (·.refKey) = false := by
    rw [Array.any_eq_false']; intro e he; obtain ⟨n, t, h⟩ := hk e he; simp [DictEntry.refKey, h]
  have hsome : (m name).isSome = es.any (·.key.isStr name) := by
    rw [← hm name]; simp only [nsFind, findBy, Option.isSome_map]
    rw [Bool.eq_iff_iff]; simp only [Array.find?_isSome, Array.any_eq_true]
    constructor
    · rintro ⟨x, hx, hp⟩; obtain ⟨i, hi, rfl⟩ := Array.mem_iff_getElem.mp hx; exact ⟨i, hi, hp⟩
    · rintro ⟨i, hi, hp⟩; exact ⟨_, Array.getElem_mem hi, hp⟩
  have hhas : nsHas name o = pure (es.any (·.key.isStr name)) := by
    rw [nsHas_eq]; unfold nsHasByArray; rw [hd]
    show (if (es.any fun x => x.key.isStr name) = true then _ else _) = _
    generalize (es.any fun x => x.key.isStr name) = b
    cases b <;> simp [hany]
  unfold nsDel
  refine wpAny_bind (wpAny_loadPart ho ?_)
  rw [hhas]
  refine wpAny_bind (wpAny_pure ?_)
  rw [← hsome]
  cases hmn : (m name).isSome
  · have := hQ s.heap ⟨m, hn⟩ (.refl ..) fun ob hob => ⟨ob, hob, .refl ob⟩
    rw [hmn] at this
    exact wpAny_pure this
  · refine wpAny_bind (wpAny_updatePart ho (wpAny_pure ?_))
    have key : ∃ es' ep', (Obj.dropName name o).data = .dict es' ep' ∧ (Obj.dropName name o).cls = o.cls ∧ ∃ m', (s.heap.update a (Obj.dropName name)).Ns a m' := by
      obtain ⟨cl, d, dt, sl⟩ := o
      subst hd
      cases hi : es.findIdx? (·.key.isStr name) with
      | some i => exact ⟨_, _, (by simp only [Obj.dropName_eq, Obj.dropNameByArray, hi] <;> rfl), by simp only [Obj.dropName_eq, Obj.dropNameByArray, hi], _, _, _, ep + 1, Heap.get?_update_self _ ho (by simp only [Obj.dropName_eq, Obj.dropNameByArray, hi] <;> rfl), (by simp only [Obj.dropName_eq, Obj.dropNameByArray, hi] <;> rfl), hk.erase i, fun _ => rfl⟩
      | none => exact ⟨_, _, (by simp only [Obj.dropName_eq, Obj.dropNameByArray, hi] <;> rfl), by simp only [Obj.dropName_eq, Obj.dropNameByArray, hi], _, _, _, ep, Heap.get?_update_self _ ho (by simp only [Obj.dropName_eq, Obj.dropNameByArray, hi] <;> rfl), (by simp only [Obj.dropName_eq, Obj.dropNameByArray, hi] <;> rfl), hk, fun _ => rfl⟩
    obtain ⟨es', ep', d1, d2, m', hm'⟩ := key
    have := hQ _ ⟨m', hm'⟩ (Heap.SameBut.update ..) fun ob hob => by
      rw [ho] at hob; cases hob
      exact ⟨_, Heap.get?_update_self _ ho (Obj.isFreed_of_dict d1), d2, fun _ => ⟨_, _, d1⟩, fun ⟨v, q⟩ => by (rw [hd] at q; cases q)⟩
    rw [hmn] at this
    exact this
end

section
variable {o : Wo} [W : WoOk o] {c : Cx} {k : Kx} {loc : LocF} {st : St} {Q : V → St → Prop} {X : Exc → St → Prop} {QF : Fl → LocF → St → Prop} {QL : LocF → St → Prop}

/-- one own object changed -/
theorem step_mine {L : Addr} {h' : Heap} {s : Shared} (I : Inv o c loc st s) (hL : own c L) (sb : Heap.SameBut L s.heap h') (oo : ∀ ob, s.heap.get? L = some ob → ∃ ob', h'.get? L = some ob' ∧ OO ob ob') (t : Nat) : Step o.P (own c) st s st { s with heap := h', toks := t } := by
  have K : KpD (fun b => st b ≠ none ∨ own c b) s.heap h' := fun b ob hb hob => ⟨ob, (sb.2 b (by intro q; subst q; exact hb (.inr hL))).trans hob, .refl ob⟩
  refine ⟨fun a m e => ?_, fun a e => .inl e, fun b ob hf _ hob => ⟨ob, (sb.2 b (by intro q; subst q; exact hf hL)).trans hob, .refl ob⟩, fun b ob hf hst hob => ?_, fun b e => ?_, rfl, rfl⟩
  · obtain ⟨ob, h1, h2⟩ := I.si.hs a m e
    have : a ≠ L := by intro q; subst q; rw [I.ost a hL] at e; cases e
    exact ⟨ob, (sb.2 a this).trans h1, h2.keepD (DOk.own I) K⟩
  · by_cases q : b = L
    · subst q; exact oo ob hob
    · exact ⟨ob, (sb.2 b q).trans hob, .refl ob⟩
  · by_cases q : b = L
    · subst q
      obtain ⟨ob, hob⟩ := Option.isSome_iff_exists.mp e
      obtain ⟨ob', h1, _⟩ := oo ob hob
      show (h'.get? b).isSome = true
      rw [h1]; rfl
    · show (h'.get? b).isSome = true
      rw [sb.2 b q]; exact e

/-- a local name let go -/
theorem unbind_R {A : Around} {s : Shared} {x : Str} {v : V} {pos : Pos} {E : Value → Shared → Prop} {Q : Unit → Shared → Prop} (I : Inv o c loc st s) (hx : c.env.kindOf x = some .local) (hv : loc x = some v)
    (h : ∀ h' t, Step o.P (own c) st s st { s with heap := h', toks := t } → LocR c.env LocF.nil h' → Q () { s with heap := h', toks := t }) : wpAny o.M A (unbindBehindTheSuite c.env x pos) Q E s := by
  obtain ⟨m, hm, q⟩ := I.lc.ns
  have hsome : (m x).isSome = true := by
    rcases q x v hv with ⟨_, u, hu, _⟩ | ⟨hk, _⟩
    · rw [hu]; rfl
    · rcases hk with hk | hk <;> (rw [hx] at hk; cases hk)
  have locne : ∀ (a : Addr) (w : Option Value), s.heap.IsCell a w → a ≠ c.env.locals := fun a w ⟨ob, h1, h2⟩ e => by
    subst e
    obtain ⟨ob', es, ep, h3, h4, _⟩ := hm
    rw [h1] at h3; cases h3; rw [h2] at h4; cases h4
  unfold unbindBehindTheSuite unbindName deleteName
  refine wpAny_onRaise (wpAny_bind (wpAny_point (wpAny_bind ?_)))
  simp only [hx, I.cx.kind]
  refine wpAny_bind (m := nsDel c.env.locals x) (wpAny_nsDelC hm fun h' ⟨m', hm'⟩ hs oo => ?_)
  rw [hsome]
  refine wpAny_pure (wpAny_point ?_)
  refine h h' s.toks (step_mine I (.inl rfl) hs oo _) ⟨⟨m', hm', fun _ _ e => nomatch e⟩, fun y a e => ?_, I.lc.apart⟩
  obtain ⟨w, hw⟩ := I.lc.cells y a e
  exact ⟨w, hw.sameBut hs (locne a _ hw)⟩
end
end NN
end

-- part: NN20
section
open PySem PySem.W PyProof.Rows PySem.Calls Builtin Builtin.ObjectAttr
set_option maxRecDepth 100000
set_option linter.all false
namespace NN

section
variable {o : Wo} [W : WoOk o] {c : Cx} {k : Kx} {loc : LocF} {st st₁ st' : St} {s s' : Shared} {Q : V → St → Prop} {X : Exc → St → Prop} {QF : Fl → LocF → St → Prop}

theorem Inv.stepN {h0 : Heap} (I : Inv o c loc st s) (hAd : ∀ a, o.ad a → (h0.get? a).isSome = true) (x : Step o.P (NewRec h0 s.heap) st s st' s') : Inv o c loc st' s' := by
  have nad : ∀ a, o.ad a → ¬ NewRec h0 s.heap a := fun a ha q => by have := hAd a ha; rw [q.1] at this; cases this
  have nown : ∀ a, own c a → ¬ (st a ≠ none ∨ NewRec h0 s.heap a) := fun a ha q => by
    rcases q with q | ⟨_, ob, vs, h1, h2, h3⟩
    · exact q (I.ost a ha)
    · obtain ⟨ob', T', e1, e2, e3⟩ := I.ow.ex a ha
      rw [h1] at e1; cases e1
      rcases e3 with ⟨es, n, e3⟩ | ⟨v, e3⟩ <;> (rw [h2] at e3; cases e3)
  have ad : ∀ a, o.ad a → ∀ ob, s.heap.get? a = some ob → ∃ o', s'.heap.get? a = some o' ∧ KO ob o' := fun a ha ob hob => x.ext a ob (nad a ha) (I.si.sep a ha) hob
  have nk : ∀ {a : Addr} {m : Str → Option Value}, o.ad a → s.heap.Ns a m → s'.heap.Ns a m := fun {a m} ha ⟨ob, es, ep, h1, h2, r⟩ => by
    obtain ⟨o', h, k⟩ := ad a ha ob h1
    exact ⟨o', es, ep, h, k.data.trans h2, r⟩
  refine ⟨I.cx, ⟨I.si.ok, ⟨fun a ob e => ?_, nk (.inr (.inl rfl)) I.si.wd.g, nk (.inr (.inr (.inl rfl))) I.si.wd.b, I.si.wd.bi, ?_⟩, I.si.fs.stepF I.si.hs x, x.holds, fun a ha => none_of_sub x.sub (I.si.sep a ha) (In.ex I.si.wd ha)⟩, ?_, I.ow.step I.ost x, fun a ha => ?_, I.oad⟩
  · obtain ⟨o', h, k⟩ := ad a (.inl ⟨ob, e⟩) ob (I.si.wd.k a ob e)
    rw [k.eq (W.noFrame a ob e)] at h
    exact h
  · obtain ⟨mc, h1, h2⟩ := I.si.wd.nolimit
    exact ⟨mc, nk (.inr (.inr (.inr rfl))) h1, h2⟩
  · exact LocR.keepD I (NewRec.dok I.si.hs) x.kpd nown
  · obtain ⟨ob, T, h1, _⟩ := I.ow.ex a ha
    exact x.still (I.ost a ha) h1

theorem Flying.stepO {fl : Option Addr} {h0 : Heap} {y : Exc} {e : Addr} (fly : Flying o.P fl st h0 s.heap y e) (I : Inv o c loc st s) (hown : ∀ a, own c a → (h0.get? a).isSome = true) (x : Step o.P (own c) st s st s') : Flying o.P fl st h0 s'.heap y e := by
  obtain ⟨dx, oe, vs, a0, es, n, b1, b2, b3, b4, b5, b6, b7, enew, dnew, ⟨b10, b10e⟩, b11⟩ := fly
  have no : ∀ {a}, h0.get? a = none → ¬ own c a := fun {a} h q => by have := hown a q; rw [h] at this; cases this
  have keep : ∀ {a ob}, h0.get? a = none → st a = none → s.heap.get? a = some ob → ob.cls ≠ .type "frame" → s'.heap.get? a = some ob := fun {a ob} h1 h2 h3 h4 => by
    obtain ⟨o', h, k⟩ := x.ext a ob (no h1) h2 h3
    rw [k.eq h4] at h; exact h
  refine ⟨dx, oe, vs, a0, es, n, keep enew b10e b1 (by rw [b2]; intro q; cases q), b2, b3, b4, b5, keep dnew b10 b6 (by simp), b7.keepV (KpV.of (DOk.own I) x.kpd), enew, dnew, ⟨b10, b10e⟩, b11.imp id fun ⟨T, oT, ts, c1, c2, c3, c4, c5, c6, c7⟩ => ⟨T, oT, ts, c1, c2, c3, ?_, c5, c6, c7⟩⟩
  exact keep c3 (rec_not_st I.si.hs c4 c7 c5) c4 (by rw [c7]; simp)
end
end NN
end

-- part: NN21
section
open PySem PySem.W PyProof.Rows PySem.Calls Builtin Builtin.ObjectAttr
set_option maxRecDepth 100000
set_option linter.all false
namespace NN

section
variable {o : Wo} [W : WoOk o] {c : Cx} {k : Kx} {loc : LocF} {st st₁ st' : St} {s s' : Shared} {Q : V → St → Prop} {X : Exc → St → Prop} {QF : Fl → LocF → St → Prop}

theorem matches_R {A : Around} {E : Value → Shared → Prop} {s : Shared} {e C CT : Addr} {ob : Obj} {Q : Bool → Shared → Prop} (X : o.K.In s.heap) (he : s.heap.get? e = some ob) (hc : ob.cls = .ref C) (hn : instIn o.K (.ref CT) (.type "tuple") = some false) (hm : makesXIn o.K CT = true)
    (hs : subIn o.K (.ref C) (.ref CT) = some true) (h : Q true s) : wpAny o.M A (excMatches (.ref e) (.ref CT)) Q E s := by
  obtain ⟨hp, g, d, tk, os⟩ := s
  have L1 := looks_instIn (M := o.M) X hn
  have Y := makesX_of (M := o.M) X hm
  obtain ⟨⟨oc, od, cd, sl, hC, e1, e2, e4⟩, made, base, self, top, L2, noA, noN, call, typ⟩ := Y
  have L3 : Looks o.M hp (typeOf (.ref e)) (.ref C) := by rw [← hc]; exact (Looks.ld he).andThen .now
  have L4 := looks_subIn (M := o.M) X hs
  unfold excMatches
  repeat (first | lk | wp_step)
  exact h

theorem suite_R {A : Around} {E : Value → Shared → Prop} {st₂ : St} {s₄ : Shared} {h0 : Heap} {y : Exc} {e : Addr} {x attr : Str} {np ap rp : Pos} {v : V} {Q : Flow → Shared → Prop} (I₄ : Inv o c (LocF.nil.set x (.ptr e)) st₂ s₄) (fly₄ : Flying o.P none st₂ h0 s₄.heap y e)
    (hget : getOkX o.K y.C attr = true) (hv : sget attr y.at' = some v) (hvp : v.plain = true) (hxd : (x == ("__debug__" : Str)) = false) (hq : ∀ w t, VR s₄.heap v w → Q (.ret w) { s₄ with toks := t }) :
    wpAny o.M A (execs [.Return (some (.Attribute (.Name x np) attr ap)) rp] c.env) Q E s₄ := by
  refine wpAny_execs_cons (wpAny_Return_some ?_)
  rw [arm_eval_Attribute]
  refine wpAny_bind (wpAny_Name (load_R I₄ (v := .ptr e) (LocF.set_same _ _ _) fun u ru => ?_) hxd)
  cases ru
  obtain ⟨dx4, oe4, vs4, a04, es4, n4, d1, d2, d3, d4, d5, d6, d7, d8⟩ := id fly₄
  obtain ⟨w, hw, rw'⟩ := d7.get hv
  have Ie : InstAt s₄.heap e oe4 y.C (some (dictOf es4 n4)) := ⟨d1, d2, notCls_fields d4, by rw [d3]; exact d6⟩
  refine wpAny_bind (wpAny_standAt (wpAny_bind (wpAny_holding (getX I₄.si.wd.k Ie hget hw (rw'.handed hvp) ?_))))
  exact wpAny_bind (wpAny_letTemporaryGo (wpAny_pure (hq w _ rw')))

theorem ex_try_attr {body : List Stmt} {T x : Str} {tp np ap rp hp pos : Pos} {attr : Str} {CT : Addr} {fs' : List Env} (hfs : c.k.fs = c.env :: fs') (hfr : c.env.frame = some c.env.locals)
    (hTk : c.env.kindOf T = some .globalImplicit) (hTg : o.mg T = some (.ref CT)) (hTd : (T == ("__debug__" : Str)) = false) (hTn : instIn o.K (.ref CT) (.type "tuple") = some false) (hTm : makesXIn o.K CT = true)
    (hx : c.env.kindOf x = some .local) (hxd : (x == ("__debug__" : Str)) = false)
    (h : EXS o c loc st body QF (fun y st' => subIn o.K (.ref y.C) (.ref CT) = some true ∧ getOkX o.K y.C attr = true ∧ ∃ v, sget attr y.at' = some v ∧ v.plain = true ∧ QF (.ret v) LocF.nil st')) :
    EX o c loc st (.Try body [.ExceptHandler (some (.Name T tp)) (some x) [.Return (some (.Attribute (.Name x np) attr ap)) rp] hp] [] [] pos) QF X := fun s I => by
  refine wpAny_Try_except (wpAny_mono (h s I) (fun f s₁ p => ?_) fun ev s₁ p => ?_)
  · obtain ⟨fl, loc', st', fr, S, L, q⟩ := p
    cases fr with
    | next => exact wpAny_execs_nil ⟨_, _, _, .next, S, L, q⟩
    | brk => exact ⟨_, _, _, .brk, S, L, q⟩
    | cont => exact ⟨_, _, _, .cont, S, L, q⟩
    | ret r => exact ⟨_, _, _, .ret r, S, L, q⟩
  obtain ⟨y, st₂, e, rfl, fly, S, L, hsub, hget, v, hv, hvp, hQ⟩ := p
  have I₁ := I.stepF S L
  have sf : storable c.env x = true := by unfold storable; rw [hx]; rfl
  have hAd : ∀ a, o.ad a → (s.heap.get? a).isSome = true := fun a ha => In.ex I.si.wd ha
  have hOw : ∀ a, own c a → (s.heap.get? a).isSome = true := fun a ha => by obtain ⟨ob, T, h1, _⟩ := I.ow.ex a ha; rw [h1]; rfl
  have hfr' : c.k.A.frames = some (c.env :: fs') := by rw [← hfs]; exact I.si.ok.fr
  refine note_core hfr' hfr (by rw [← hfs]; exact I₁.si.fs) I₁.si.hs (fun b hb => S.mono b hb) fly (fun L' e => by cases e; rfl) fun h₂ fly₂ F2 => ?_
  have S2 : Step o.P (own c) st s st₂ { s₁ with heap := h₂ } := S.absorbF F2 fun a ha => .inr ha.1
  have I₂ := I₁.stepN hAd F2
  obtain ⟨s₂, hs2⟩ : ∃ s₂ : Shared, s₂ = { s₁ with heap := h₂ } := ⟨_, rfl⟩
  rw [← hs2] at I₂ S2 ⊢
  replace fly₂ : Flying o.P none st₂ s.heap s₂.heap y e := by rw [hs2]; exact fly₂
  obtain ⟨dx, oe, vs, a0, es, n, b1, b2, b3, b4, b5, b6, b7, b8⟩ := id fly₂
  -- the test of the class
  refine wpAny_handleBy_cons ?_ (by intro q; cases q)
  refine codeAny_of_tree ?_
  show wpAny _ _ (do return Fin.done (← (handleWith _ _ [.ExceptHandler (some (.Name T tp)) none [] hp]).onRaise (fun x => do noteFrame x c.env; theTreesLotGoes x))) _ _ _
  refine wpAny_bind (wpAny_noted ?_)
  unfold handleWith
  refine wpAny_bind (wpAny_standAt (wpAny_bind ?_))
  refine Name_function_global I.cx.kind hTk (loadGlobal_global (by rw [I.cx.glob]; exact I₂.si.wd.g) hTg ?_) hTd
  refine wpAny_bind (wpAny_standAt (wpAny_bind (matches_R I₂.si.wd.k b1 b2 hTn hTm hsub ?_)))
  refine wpAny_pure (wpAny_pure ?_)
  -- the suite
  refine codeAny_of_tree ?_
  show wpAny _ _ (do return Fin.done (← (handleWith _ _ [.ExceptHandler none (some x) [.Return (some (.Attribute (.Name x np) attr ap)) rp] hp]).onRaise (fun x => do noteFrame x c.env; theTreesLotGoes x))) _ _ _
  refine wpAny_bind (wpAny_noted ?_)
  unfold handleWith
  refine wpAny_bind (wpAny_standAt (wpAny_bind (flight_R none I₂.si.hs fly₂ fun h₃ fly₃ F3 => ?_)))
  have S3 : Step o.P (own c) st s st₂ { s₂ with heap := h₃ } := S2.absorbF F3 fun a ha => .inr ha.1
  have I₃ := I₂.stepN hAd F3
  refine wpAny_bind (wpAny_bindName (storeName_R I₃ (.ptr e) sf fun h₄ t₄ S₄ L₄ => ?_))
  have I₄ := I₃.stepF S₄ L₄
  have fly₄ := fly₃.stepO I₃ hOw S₄
  have S04 := S3.trans S₄
  refine wpAny_bind (wpAny_attempt (suite_R I₄ fly₄ hget hv hvp hxd fun w t rw' => ?_))
  refine wpAny_pure (wpAny_pure ?_)
  dsimp only
  -- the name let go
  have S₅ := Step.toks (F := own c) I₄.si.hs t
  have I₅ := I₄.stepF S₅ I₄.lc
  refine wpAny_bind (wpAny_bindName (storeName_R I₅ .none sf fun h₆ t₆ S₆ L₆ => ?_))
  have I₆ := I₅.stepF S₆ L₆
  refine unbind_R I₆ hx (v := .none) (LocF.set_same _ _ _) fun h₇ t₇ S₇ L₇ => ?_
  have r6 := VR.stepF I₅ S₆ rw'
  have r7 := VR.stepF I₆ S₇ r6
  exact ⟨.ret v, LocF.nil, st₂, .ret r7, ((S04.trans S₅).trans S₆).trans S₇, L₇, hQ⟩
end
end NN
end

-- part: NN22
section
open PySem PySem.W PyProof.Rows PySem.Calls Builtin Builtin.ObjectAttr
set_option maxRecDepth 100000
set_option linter.all false
namespace NN

theorem LocF.set_set (l : LocF) (x : Str) (a b : V) : (l.set x a).set x b = l.set x b := by
  funext y; unfold LocF.set; split <;> rfl

/-- the cells that a comprehension takes -/
noncomputable def closOf (cells : List (Str × Addr)) : List (Str × NameKind) → List (Str × Addr) → Option (List (Str × Addr))
  | [], acc => some acc
  | (n, k) :: r, acc => if k == .free then (match cells.lookup n with | some a => closOf cells r ((n, a) :: acc) | none => none) else closOf cells r acc
theorem closOf_for {env : Env} : ∀ (names : List (Str × NameKind)) (acc cl : List (Str × Addr)), closOf env.cells names acc = some cl →
    (forIn (m := Sem) names acc fun (x : Str × NameKind) cs => if x.2 == .free then do let a ← cellOf env x.1; pure (.yield ((x.1, a) :: cs)) else pure (.yield cs)) = pure cl
  | [], acc, cl, h => by cases h; rfl
  | (n, k) :: r, acc, cl, h => by
    unfold closOf at h
    rw [List.forIn_cons]
    split at h
    · rename_i hk
      split at h
      · rename_i a ha
        have : cellOf env n = pure a := by unfold cellOf; rw [ha]
        simp only [hk, if_true, this, pure_bind]
        exact closOf_for r _ _ h
      · cases h
    · rename_i hk
      simp only [hk, if_false, pure_bind]
      exact closOf_for r _ _ h
theorem closOf_eq {scope : Scope} {env : Env} {cl : List (Str × Addr)} (h : closOf env.cells scope.names [] = some cl) : closureFor scope env = pure cl := by
  unfold closureFor
  have := closOf_for scope.names [] cl h
  simp only [bind_pure]
  exact this
theorem closOf_mem {cells : List (Str × Addr)} : ∀ {names : List (Str × NameKind)} {acc cl : List (Str × Addr)}, closOf cells names acc = some cl → ∀ n a, (n, a) ∈ cl → (n, a) ∈ acc ∨ (cells.lookup n = some a ∧ ∃ k, (n, k) ∈ names)
  | [], acc, cl, h, n, a, m => by cases h; exact .inl m
  | (n', k) :: r, acc, cl, h, n, a, m => by
    unfold closOf at h
    split at h
    · split at h
      · rename_i b hb
        rcases closOf_mem h n a m with q | ⟨q, k', hk⟩
        · rcases List.mem_cons.mp q with e | q
          · cases e; exact .inr ⟨hb, _, .head _⟩
          · exact .inl q
        · exact .inr ⟨q, k', .tail _ hk⟩
      · cases h
    · rcases closOf_mem h n a m with q | ⟨q, k', hk⟩
      · exact .inl q
      · exact .inr ⟨q, k', .tail _ hk⟩
theorem closOf_apart {cells : List (Str × Addr)} (hp : cells.Pairwise fun x y => x.2 ≠ y.2) : ∀ {names : List (Str × NameKind)} {acc cl : List (Str × Addr)}, closOf cells names acc = some cl → (names.map (·.1)).Nodup → (∀ p ∈ acc, cells.lookup p.1 = some p.2 ∧ p.1 ∉ names.map (·.1)) → (acc.Pairwise fun x y => x.2 ≠ y.2) → cl.Pairwise fun x y => x.2 ≠ y.2
  | [], acc, cl, h, _, _, ha => by cases h; exact ha
  | (n', k) :: r, acc, cl, h, nd, hacc, ha => by
    unfold closOf at h
    have nd' := List.nodup_cons.mp nd
    split at h
    · split at h
      · rename_i b hb
        refine closOf_apart hp h nd'.2 (fun p hp' => ?_) (List.pairwise_cons.mpr ⟨fun y hy e => ?_, ha⟩)
        · rcases List.mem_cons.mp hp' with rfl | hp'
          · exact ⟨hb, nd'.1⟩
          · exact ⟨(hacc p hp').1, fun q => (hacc p hp').2 (.tail _ q)⟩
        · have e : b = y.2 := e
          have := name_of_addr hp (mem_of_lookup hb) (e ▸ mem_of_lookup (hacc y hy).1)
          exact (hacc y hy).2 (this ▸ .head _)
      · cases h
    · exact closOf_apart hp h nd'.2 (fun p hp' => ⟨(hacc p hp').1, fun q => (hacc p hp').2 (.tail _ q)⟩) ha

noncomputable def compCx (c : Cx) (scope : Scope) (cl : List (Str × Addr)) (C : Addr) : Cx := ⟨c.k, compEnvC scope cl C c.env⟩
/-- the names that a comprehension sees -/
noncomputable def capt (c : Cx) (scope : Scope) (cl : List (Str × Addr)) (loc : LocF) : LocF := fun y =>
  if ((relabel scope c.env).names.lookup y == some .cell || (relabel scope c.env).names.lookup y == some .free) && (cl.lookup y).isSome && (c.env.kindOf y == some .cell || c.env.kindOf y == some .free) && !(y == ("__classdict__" : Str)) then loc y else none

section
variable {o : Wo} [W : WoOk o] {c : Cx} {k : Kx} {loc : LocF} {st st₁ st' : St} {s s₁ s' : Shared} {Q : V → St → Prop} {X : Exc → St → Prop}

/-- a store into a local name, by its one object -/
theorem storeLocal_R {A : Around} {x : Str} {v : V} {u : Value} {Q : Unit → Shared → Prop} {E : Value → Shared → Prop} (I : Inv o c loc st s) (r : VR s.heap v u) (hl : c.env.kindOf x = some .local)
    (h : ∀ h' t, Step o.P (fun b => b = c.env.locals) st s st { s with heap := h', toks := t } → LocR c.env (loc.set x v) h' → Q () { s with heap := h', toks := t }) :
    wpAny o.M A (storeName c.env x u) Q E s := by
  obtain ⟨m, hm, q⟩ := I.lc.ns
  have locne : ∀ (a : Addr) (w : Option Value), s.heap.IsCell a w → a ≠ c.env.locals := fun a w ⟨ob, h1, h2⟩ e => by
    subst e
    obtain ⟨ob', es, ep, h3, h4, _⟩ := hm
    rw [h1] at h3; cases h3; rw [h2] at h4; cases h4
  rw [storeName_local hl (by rw [I.cx.kind]; rfl)]
  refine wpAny_nsSetC hm fun h' hn hs oo => ?_
  have S := step_mine I (.inl rfl) hs oo (s.toks + 1)
  have S' : Step o.P (fun b => b = c.env.locals) st s st { s with heap := h', toks := s.toks + 1 } := ⟨S.holds, S.sub, fun b ob hb _ hob => ⟨ob, (hs.2 b hb).trans hob, .refl ob⟩, fun b ob hb hst hob => S.own b ob (.inl hb) hst hob, S.mono, S.gens, S.os⟩
  have keep : ∀ {a : V} {w : Value}, VR s.heap a w → VR h' a w := fun r => VR.stepF I S r
  refine h h' _ S' ⟨⟨_, hn, fun y a e => ?_⟩, fun y a e => ?_, I.lc.apart⟩
  · unfold LocF.set at e
    split at e
    · rename_i hy; cases e; subst hy
      exact .inl ⟨hl, u, by simp, keep r⟩
    · rename_i hy
      rcases q y a e with ⟨b1, w, b2, b3⟩ | ⟨b1, b2, d, w, b3, b4, b5⟩
      · exact .inl ⟨b1, w, by simp [hy, b2], keep b3⟩
      · exact .inr ⟨b1, b2, d, w, b3, b4.sameBut hs (locne d _ b4), keep b5⟩
  · obtain ⟨w, hw⟩ := I.lc.cells y a e
    exact ⟨w, hw.sameBut hs (locne a _ hw)⟩

/-- an object that was not there goes -/
theorem Step.gone {F : Addr → Prop} {it : Addr} {h' : Heap} {t : Nat} (x : Step o.P F st s st₁ s₁) (hn : st₁ it = none) (hfr : s.heap.get? it = none) (D : DOk (fun b => st₁ b ≠ none ∨ b = it) s₁.heap) (hs : Heap.ExtBut it s₁.heap h') :
    Step o.P F st s st₁ { s₁ with heap := h', toks := t } := by
  have K : KpD (fun b => st₁ b ≠ none ∨ b = it) s₁.heap h' := fun b ob hb hob => ⟨ob, hs b ob (fun q => hb (.inr q)) hob, .refl ob⟩
  have ne : ∀ {b ob}, s.heap.get? b = some ob → b ≠ it := fun h q => by rw [q, hfr] at h; cases h
  refine ⟨fun a m e => ?_, x.sub, fun b ob hb hst hob => ?_, fun b ob hb hst hob => ?_, fun b hb => ?_, x.gens, x.os⟩
  · obtain ⟨ob, h1, h2⟩ := x.holds a m e
    have : a ≠ it := by intro q; subst q; rw [hn] at e; cases e
    exact ⟨ob, hs a ob this h1, h2.keepD D K⟩
  · obtain ⟨o', h1, h2⟩ := x.ext b ob hb hst hob
    exact ⟨o', hs _ _ (ne hob) h1, h2⟩
  · obtain ⟨o', h1, h2⟩ := x.own b ob hb hst hob
    exact ⟨o', hs _ _ (ne hob) h1, h2⟩
  · obtain ⟨ob, hob⟩ := Option.isSome_iff_exists.mp hb
    obtain ⟨o', ho'⟩ := Option.isSome_iff_exists.mp (x.mono b hb)
    show (h'.get? b).isSome = true
    rw [hs _ _ (ne hob) ho']; rfl

theorem cellsFrom_none : ∀ (names : List (Str × NameKind)) (n : Nat) (acc : List (Str × Addr)), (∀ y ∈ names, (y.2 == NameKind.cell) = false) → cellsFrom n names acc = acc
  | [], _, _, _ => rfl
  | (m, k) :: r, n, acc, h => by
    have := h (m, k) (.head _)
    unfold cellsFrom
    rw [this]
    exact cellsFrom_none r n acc fun y hy => h y (.tail _ hy)
theorem pushCells_none : ∀ (names : List (Str × NameKind)) (h : Heap), (∀ y ∈ names, (y.2 == NameKind.cell) = false) → pushCells h names = h
  | [], _, _ => rfl
  | (m, k) :: r, h, hh => by
    have := hh (m, k) (.head _)
    unfold pushCells
    rw [this]
    exact pushCells_none r h fun y hy => hh y (.tail _ hy)
end
end NN
end

-- part: NN23
section
open PySem PySem.W PyProof.Rows PySem.Calls Builtin Builtin.ObjectAttr
set_option maxRecDepth 100000
set_option linter.all false
namespace NN

theorem St.set_set (st : St) (a : Addr) (m n : MO) : (st.set a m).set a n = st.set a n := by
  funext b; unfold St.set; split <;> rfl

section
variable {o : Wo} [W : WoOk o] {c : Cx} {k : Kx} {loc : LocF} {st : St} {Q : V → St → Prop} {X : Exc → St → Prop}

theorem comp_core {elt iter : Expr} {x : Str} {px pos : Pos} {scope : Scope} {cl : List (Str × Addr)} {it : Addr} {xs : List V} {T : String} {P : Nat → Heap → Prop} {R : Heap → Prop} {Ast : St → Prop} {J : Nat → List V → St → Prop} {st₀ : St} {s₀ s : Shared} {E : Value → Shared → Prop}
    (hkind : scope.kind = .function) (hcell : ∀ y ∈ scope.names, (y.2 == NameKind.cell) = false) (hx : scope.names.lookup x = some .local) (hnd : (scope.names.map (·.1)).Nodup) (hcl : closOf c.env.cells scope.names [] = some cl) (hz : xs.length ≤ sizeLine)
    (hfresh : s₀.heap.get? it = none) (H₀ : SI o c.k st₀ s₀) (S : Step o.P noF st₀ s₀ st s) (I : Inv o c loc st s)
    (hP : ∀ i h h', P i h → h'.get? it = h.get? it → P i h')
    (hPex : ∀ i h, P i h → ∃ ob vs, h.get? it = some ob ∧ ob.cls = .type T ∧ ob.data = .fields vs) (hTf : T ≠ "frame") (hTr : T ≠ "range")
    (hR : ∀ {D : Addr → Prop} {h h' : Heap}, DOk D h → KpD D h h' → R h → R h')
    (hA : ∀ i ys st' D, J i ys st' → st' D = none → Ast (st'.set D (.lst ys)))
    (hItem : ∀ {E : Value → Shared → Prop} i v st' (s : Shared) Q, xs[i]? = some v → Ast st' → SI o c.k st' s → R s.heap → P i s.heap → (∀ h' va t, P (i + 1) h' → Heap.SameBut it s.heap h' → VR s.heap v va → Q (some va) { s with heap := h', toks := t }) → wpAny o.M c.k.A (pyNext (.ref it)) Q E s)
    (hEnd : ∀ {E : Value → Shared → Prop} st' (s : Shared) Q, Ast st' → SI o c.k st' s → R s.heap → P xs.length s.heap → (∀ h', Heap.ExtBut it s.heap h' → Q none { s with heap := h' }) → wpAny o.M c.k.A (pyNext (.ref it)) Q E s)
    (hself : ∀ {E : Value → Shared → Prop} (s : Shared) Q, P 0 s.heap → Q (.ref it) s → wpAny o.M c.k.A (pyIter (.ref it)) Q E s)
    (h0 : P 0 s.heap) (hR0 : R s.heap) (hJ0 : J 0 [] st)
    (turn : ∀ i v ys st' D C, xs[i]? = some v → J i ys st' → st' D = none → EV o (compCx c scope cl C) ((capt c scope cl loc).set x v) (st'.set D (.lst ys)) elt (fun y st'' => ∃ st₃, st'' = st₃.set D (.lst ys) ∧ st₃ D = none ∧ J (i + 1) (ys ++ [y]) st₃) (fun _ _ => False))
    (fin : ∀ ys st' D, J xs.length ys st' → ys.length = xs.length → st' D = none → Q (.ptr D) (st'.set D (.lst ys))) :
    wpAny o.M c.k.A (newList []) (fun acc s₃ => wpAny o.M c.k.A (newFunctionEnv scope c.env.globals cl [] c.env.qual none .none (some c.env)) (fun cenv s₄ =>
      codeAny o.M c.k.A (.compStart (.ListComp elt [⟨.Name x px, iter, [], 0⟩] scope pos) 0 (.ref it) acc { cenv with scope := relabel scope c.env }) (compPost o.M c.k.A E none (PV o st₀ s₀ Q) acc cenv.locals) s₄) E s₃) E s := by
  have noX : ∀ {F : Addr → Prop} {G : Heap → Prop} {fl : Option Addr} {st₁ : St} {s₁ : Shared} {e : Value} {s₂ : Shared} {Z : Prop}, PXg o F G fl st₁ s₁ (fun _ _ => False) e s₂ → Z := fun ⟨_, _, _, _, _, _, _, q⟩ => q.elim
  have nad : ¬ o.ad it := fun q => by have := In.ex H₀.wd q; rw [hfresh] at this; cases this
  refine wpAny_newObj_type ?_
  obtain ⟨D, hD⟩ : ∃ D, D = s.heap.objs.size := ⟨_, rfl⟩
  have SD : Step o.P noF st s (st.set D (.lst [])) { s with heap := s.heap.push { cls := .type "list", dict := none, data := .seq ([] : List Value).toArray } } := by
    rw [hD]; exact Step.alloc I.si.hs _ (.lst []) rfl (.lst (ws := []) .nil) s.toks
  have hDn : st D = none := by rw [hD]; exact size_none I.si.hs
  rw [← hD]
  have ID := I.step SD
  obtain ⟨sD, hsD⟩ : ∃ sD : Shared, sD = { s with heap := s.heap.push { cls := .type "list", dict := none, data := .seq ([] : List Value).toArray } } := ⟨_, rfl⟩
  rw [← hsD] at SD ID ⊢
  have hRD : R sD.heap := hR (DOk.ofSt I.si.hs) SD.kp.d hR0
  have itne : ∀ i (h : Heap), P i h → FreeRec o h it := fun i h hp => by obtain ⟨ob, vs, a, b, d⟩ := hPex i h hp; exact ⟨nad, ob, T, vs, a, b, d, hTr⟩
  have keepIt : ∀ {st₁ st₂ : St} {s₁ s₂ : Shared} {F : Addr → Prop} {i : Nat}, Step o.P F st₁ s₁ st₂ s₂ → Holds o.P st₁ s₁.heap → ¬ F it → P i s₁.heap → P i s₂.heap := fun {st₁ st₂ s₁ s₂ F i} x H hF hp => by
    obtain ⟨ob, vs, e1, e2, e3⟩ := hPex i _ hp
    obtain ⟨o', h1, k1⟩ := x.ext it ob hF ((itne i _ hp).stn H) e1
    rw [k1.eq (by rw [e2]; intro q; cases q; exact hTf rfl)] at h1
    exact hP i _ _ hp (h1.trans e1.symm)
  have hPD : P 0 sD.heap := keepIt SD I.si.hs (fun q => q) h0
  simp only [newFunctionEnv, Option.isSome_some, if_true]
  refine wpAny_bind (wpAny_alloc ?_)
  refine wpAny_bind (wpAny_layCells _ (fun name kind cells => by cases hkc : kind == NameKind.cell <;> simp [hkc]) _ _ _ _ ?_)
  rw [cellsFrom_none _ _ _ hcell, pushCells_none _ _ hcell]
  simp only [List.forIn_nil]
  refine wpAny_bind (wpAny_pure (wpAny_pure ?_))
  obtain ⟨C, hC⟩ : ∃ C, C = sD.heap.objs.size := ⟨_, rfl⟩
  have SC : Step o.P noF (st.set D (.lst [])) sD (st.set D (.lst [])) { sD with heap := sD.heap.push { cls := .type "dict", data := .dict #[] } } := Step.push ID.si.hs _ sD.toks
  have IC := ID.step SC
  have fC : (sD.heap.push { cls := .type "dict", data := .dict #[] }).get? C = some { cls := .type "dict", data := .dict #[] } := by rw [hC]; exact Heap.get?_push_size _ rfl
  have nsC : (sD.heap.push { cls := .type "dict", data := .dict #[] }).Ns C (fun _ => none) := by rw [hC]; exact Heap.Ns.new _ _
  have Cn : sD.heap.get? C = none := by rw [hC]; exact Heap.get?_none_of_le (Nat.le_refl _)
  have Cst : (st.set D (.lst [])) C = none := by rw [hC]; exact size_none ID.si.hs
  rw [← hC]
  obtain ⟨s4, hs4⟩ : ∃ s4 : Shared, s4 = { sD with heap := sD.heap.push { cls := .type "dict", data := .dict #[] } } := ⟨_, rfl⟩
  have hR4 : R s4.heap := by rw [hs4]; exact hR (DOk.ofSt ID.si.hs) SC.kp.d hRD
  have hP4 : P 0 s4.heap := by rw [hs4]; exact keepIt SC ID.si.hs (fun q => q) hPD
  have S04 : Step o.P noF st₀ s₀ (st.set D (.lst [])) s4 := by rw [hs4]; exact (S.trans SD).trans SC
  rw [← hs4] at IC ⊢
  replace fC : s4.heap.get? C = some { cls := .type "dict", data := .dict #[] } := by rw [hs4]; exact fC
  replace nsC : s4.heap.Ns C (fun _ => none) := by rw [hs4]; exact nsC
  have Cn0 : s₀.heap.get? C = none := none_of_mono (S.trans SD) Cn
  -- the comprehension's own surroundings
  have mem : ∀ n a, (n, a) ∈ cl → c.env.cells.lookup n = some a := fun n a hm => by
    rcases closOf_mem hcl n a hm with q | ⟨q, _⟩
    · cases q
    · exact q
  have I0 : Inv o (compCx c scope cl C) (capt c scope cl loc) (st.set D (.lst [])) s4 := by
    refine ⟨⟨hkind, IC.cx.glob, IC.cx.blt⟩, IC.si, ⟨⟨fun _ => none, nsC, fun y v e => ?_⟩, fun y a e => ?_, ?_⟩, ⟨fun b hb => ?_⟩, fun b hb => ?_, fun b hb ha => ?_⟩
    · unfold capt at e
      split at e
      · rename_i hc
        simp only [Bool.and_eq_true, Bool.or_eq_true, beq_iff_eq, Bool.not_eq_true'] at hc
        obtain ⟨⟨⟨c1, c2⟩, c3⟩, c4⟩ := hc
        obtain ⟨a', ha'⟩ := Option.isSome_iff_exists.mp c2
        obtain ⟨m, hm, q⟩ := IC.lc.ns
        rcases q y v e with ⟨k1, _⟩ | ⟨k1, k2, a, u, k3, k4, k5⟩
        · rcases c3 with c3 | c3 <;> (rw [k1] at c3; cases c3)
        · have e2 : a' = a := Option.some.inj ((mem y a' (mem_of_lookup ha')).symm.trans k3)
          exact .inr ⟨c1, by simpa using c4, a', u, ha', e2 ▸ k4, k5⟩
      · cases e
    · exact IC.lc.cells y a (mem y a (mem_of_lookup e))
    · exact closOf_apart IC.lc.apart hcl hnd (fun _ h => nomatch h) .nil
    · rcases hb with rfl | ⟨y, hb⟩
      · exact ⟨_, _, fC, rfl, .inl ⟨_, _, rfl⟩⟩
      · exact IC.ow.ex b (.inr ⟨y, mem_of_lookup (mem y b hb)⟩)
    · rcases hb with rfl | ⟨y, hb⟩
      · exact Cst
      · exact IC.ost b (.inr ⟨y, mem_of_lookup (mem y b hb)⟩)
    · rcases hb with hb | ⟨y, hb⟩
      · have := In.ex ID.si.wd ha
        rw [show b = C from hb, Cn] at this; cases this
      · exact IC.oad b (.inr ⟨y, mem_of_lookup (mem y b hb)⟩) ha
  have hxk : (compCx c scope cl C).env.kindOf x = some .local := lookup_relabel_local hx
  have loop : codeAny o.M c.k.A (.compLoop (.ListComp elt [⟨.Name x px, iter, [], 0⟩] scope pos) 0 (.ref it) (.ref D) (compEnvC scope cl C c.env)) (compPost o.M c.k.A E none (PV o st₀ s₀ Q) (.ref D) C) s4 := by
    refine codeAny_compLoop_list (fun n s' => ∃ i ys st' loc'', n = xs.length - i ∧ i ≤ xs.length ∧ ys.length = i ∧ J i ys st' ∧ st' D = none ∧ P i s'.heap ∧ R s'.heap ∧ Step o.P noF st₀ s₀ (st'.set D (.lst ys)) s' ∧ Inv o (compCx c scope cl C) loc'' (st'.set D (.lst ys)) s' ∧ ∀ v, loc''.set x v = (capt c scope cl loc).set x v)
      (fun n s' ⟨i, ys, st', loc'', hn, hi, hy, hJ, hDs, hp, hr, Sx, Ix, hl⟩ => ?_) xs.length ⟨0, [], st, _, rfl, Nat.zero_le _, rfl, hJ0, hDn, hP4, hR4, S04, I0, fun _ => rfl⟩
    have fr := itne i _ hp
    have fr' : ∀ a, a = it → FreeRec o s'.heap a := fun a q => by subst q; exact fr
    have Cit : ¬ C = it := fun q => by
      obtain ⟨ob, T', e1, e2, e3⟩ := Ix.ow.ex C (.inl rfl)
      obtain ⟨ob', vs, f1, f2, f3⟩ := hPex i _ hp
      rw [q, f1] at e1; cases e1
      rcases e3 with ⟨_, _, e3⟩ | ⟨_, e3⟩ <;> (rw [f3] at e3; cases e3)
    cases hv : xs[i]? with
    | none =>
      have hil : i = xs.length := Nat.le_antisymm hi (by simpa using hv)
      subst hil
      refine hEnd _ s' _ (hA _ _ _ _ hJ hDs) Ix.si hr hp fun h' he => ?_
      obtain ⟨m, ⟨ob, es, ep, n1, n2, n3⟩, _⟩ := Ix.lc.ns
      have gC : h'.get? C = some ob := he C ob Cit n1
      refine ⟨m, ⟨ob, es, ep, gC, n2, n3⟩, fun h'' hsb => ?_⟩
      have S1 : Step o.P noF st₀ s₀ (st'.set D (.lst ys)) { s' with heap := h', toks := s'.toks } := Sx.gone (fr.stn Ix.si.hs) hfresh (DOk.free Ix.si.hs fr') he
      have S2 : Step o.P noF st₀ s₀ (st'.set D (.lst ys)) { s' with heap := h'', toks := s'.toks } := by
        refine S1.gone (s₁ := { s' with heap := h', toks := s'.toks }) (Ix.ost C (.inl rfl)) Cn0 ?_ hsb.extBut
        refine ⟨fun a ws n hx q => ?_, fun a ob' vs hx hc hd q => ?_, fun a ob' hx hd _ q => ?_⟩
        · rcases q with q | rfl
          · exact q (tup_not_st S1.holds hx)
          · have := Option.some.inj (gC.symm.trans hx); subst this; cases n2
        · rcases q with q | rfl
          · exact q (rec_not_st S1.holds hx hc hd)
          · rw [gC] at hx; cases hx; rw [n2] at hd; cases hd
        · rcases q with q | rfl
          · exact q (inst_not_st S1.holds hx hd)
          · rw [gC] at hx; cases hx; rw [n2] at hd; cases hd
      exact ⟨.ptr D, _, .ptr D, S2, fin ys st' D hJ hy hDs⟩
    | some v =>
      have hlt : i < xs.length := (List.getElem?_eq_some_iff.mp hv).1
      refine hItem i v _ s' _ hv (hA _ _ _ _ hJ hDs) Ix.si hr hp fun h' va t hp' hsb rv => ?_
      obtain ⟨ob, vs, e1, e2, e3⟩ := hPex _ _ hp'
      have S1 : Step o.P (fun b => b = it) (st'.set D (.lst ys)) s' (st'.set D (.lst ys)) { s' with heap := h', toks := t } := Step.free Ix.si.hs fr hsb.extBut fun ob' hob' => by
        obtain ⟨ob1, vs1, g1, g2, g3⟩ := hPex _ _ hp
        rw [g1] at hob'; cases hob'
        exact ⟨ob, e1, e2.trans g2.symm, fun ⟨_, _, q⟩ => (by rw [g3] at q; cases q), fun ⟨_, q⟩ => (by rw [g3] at q; cases q)⟩
      have I1 := Ix.stepG fr' S1
      have rv1 : VR h' v va := VR.stepG Ix.si.hs fr' S1 rv
      have R1 : R h' := hR (DOk.free Ix.si.hs fr') S1.kpd hr
      have S01 := Sx.absorbF S1 fun a q => .inr (by have q : a = it := q; rw [q]; exact hfresh)
      show wpAny _ _ (do standAt px; bindName _ x va) _ _ _
      refine wpAny_bind (wpAny_standAt (wpAny_bindName (storeLocal_R I1 rv1 hxk fun h2 t2 S2 L2 => ?_)))
      have S2o : Step o.P (own (compCx c scope cl C)) _ _ _ _ := S2.wider fun b hb => .inl hb
      have I2 := I1.stepF S2o L2
      have R2 : R h2 := hR (DOk.own I1) S2o.kpd R1
      have P2 : P (i + 1) h2 := keepIt S2 I1.si.hs (fun q => Cit (by have q : it = C := q; exact q.symm)) hp'
      have S02 := S01.absorbF S2 fun a q => .inr (by have q : a = C := q; rw [q]; exact Cn0)
      rw [hl] at I2
      refine wpAny_mono (turn i v ys st' D C hv hJ hDs _ I2) (fun yv s3 p => ?_) fun _ _ p => noX p
      obtain ⟨y, st'', ry, S3, st₃, rfl, hD3, hJ3⟩ := p
      have I3 := I2.step S3
      have R3 : R s3.heap := hR (DOk.ofSt I2.si.hs) S3.kp.d R2
      have P3 : P (i + 1) s3.heap := keepIt S3 I2.si.hs (fun q => q) P2
      have S03 := S02.trans S3
      have ca := call_append (o := o) (k := c.k) (st := st₃.set D (.lst ys)) (l := D) (xs := ys) (x := y) (Q := fun _ stt => stt = (st₃.set D (.lst ys)).set D (.lst (ys ++ [y]))) (X := fun _ _ => False) (St.set_same ..) (by omega) rfl s3 [.ref D, yv] I3.si (.cons (.ptr D) (.cons ry .nil))
      refine wpAny_mono ca (fun _ s5 p => ?_) fun _ _ p => noX p
      obtain ⟨_, stt, _, S5, rfl⟩ := p
      have I5 := I3.step S5
      have R5 : R s5.heap := hR (DOk.ofSt I3.si.hs) S5.kp.d R3
      have P5 : P (i + 1) s5.heap := keepIt S5 I3.si.hs (fun q => q) P3
      have S05 := S03.trans S5
      rw [St.set_set] at S05 I5
      exact ⟨xs.length - (i + 1), by omega, i + 1, ys ++ [y], st₃, _, rfl, hlt, by simp [hy], hJ3, hD3, P5, R5, S05, I5, fun u => LocF.set_set _ _ _ _⟩
  exact codeAny_compStart_list loop (hself s4 _ hP4 loop)

/-- the names of a comprehension's scope -/
noncomputable def scopeOk (scope : Scope) (x : Str) : Bool := scope.kind == .function && scope.names.all (fun y => !(y.2 == NameKind.cell)) && scope.names.lookup x == some .local && decide ((scope.names.map (·.1)).Nodup)

noncomputable def COMPV (o : Wo) (c : Cx) (loc : LocF) (st : St) (v : V) (elt iter : Expr) (x : Str) (px : Pos) (scope : Scope) (pos : Pos) (cl : List (Str × Addr)) (Q : V → St → Prop) : Prop :=
  ∀ st₀ s₀ s va E, SI o c.k st₀ s₀ → Step o.P noF st₀ s₀ st s → Inv o c loc st s → VR s.heap v va → wpAny o.M c.k.A (pyIter va) (fun it s₂ => wpAny o.M c.k.A (newList []) (fun acc s₃ => wpAny o.M c.k.A (newFunctionEnv scope c.env.globals cl [] c.env.qual none .none (some c.env)) (fun cenv s₄ =>
      codeAny o.M c.k.A (.compStart (.ListComp elt [⟨.Name x px, iter, [], 0⟩] scope pos) 0 it acc { cenv with scope := relabel scope c.env }) (compPost o.M c.k.A E none (PV o st₀ s₀ Q) acc cenv.locals) s₄) E s₃) E s₂) E s
theorem ev_comp {elt iter : Expr} {x : Str} {px pos : Pos} {scope : Scope} (cl : List (Str × Addr)) (hs : ∀ env y, foldedSetIterable iter env y = pure y) (hok : scopeOk scope x = true) (hcl : closOf c.env.cells scope.names [] = some cl)
    (h : EV o c loc st iter (fun v st₁ => COMPV o c loc st₁ v elt iter x px scope pos cl Q) X) : EV o c loc st (.ListComp elt [⟨.Name x px, iter, [], 0⟩] scope pos) Q X := fun s I => by
  unfold scopeOk at hok
  simp only [Bool.and_eq_true, beq_iff_eq, decide_eq_true_eq, List.all_eq_true] at hok
  obtain ⟨⟨⟨k1, k2⟩, k3⟩, k4⟩ := hok
  rw [eval_ListComp]
  have hloc : ∀ y ∈ scope.names, y.2 = .local → scope.names.lookup y.1 = some .local := fun y hy hl => by
    have key : ∀ {l : List (Str × NameKind)}, (l.map (·.1)).Nodup → ∀ y ∈ l, l.lookup y.1 = some y.2 := by
      intro l
      induction l with
      | nil => intro _ y h; cases h
      | cons p r ih =>
        intro nd y hy
        have nd' := List.nodup_cons.mp nd
        rw [List.lookup_cons]
        rcases List.mem_cons.mp hy with rfl | hy
        · simp
        · have : (y.1 == p.1) = false := beq_eq_false_iff_ne.mpr fun q => nd'.1 (by show p.1 ∈ _; rw [← q]; exact List.mem_map_of_mem hy)
          rw [this]; exact ih nd'.2 y hy
    rw [key k4 y hy, hl]
  refine wpAny_comprehension_free (use := none) rfl (hs _) (closOf_eq hcl) k1 hloc ?_
  show wpAny o.M c.k.A (eval iter c.env) _ _ s
  exact h.use I fun v st₁ va s₁ q S I₁ r => q st s s₁ va _ I.si S I₁ r

theorem scopeOk_parts {scope : Scope} {x : Str} (hok : scopeOk scope x = true) : scope.kind = .function ∧ (∀ y ∈ scope.names, (y.2 == NameKind.cell) = false) ∧ scope.names.lookup x = some .local ∧ (scope.names.map (·.1)).Nodup := by
  unfold scopeOk at hok
  simp only [Bool.and_eq_true, beq_iff_eq, decide_eq_true_eq, List.all_eq_true] at hok
  obtain ⟨⟨⟨k1, k2⟩, k3⟩, k4⟩ := hok
  exact ⟨k1, fun y hy => by simpa using k2 y hy, k3, k4⟩

/-- a turn of a comprehension -/
noncomputable def CTurn (o : Wo) (c : Cx) (loc : LocF) (elt : Expr) (x : Str) (scope : Scope) (cl : List (Str × Addr)) (xs : List V) (J : Nat → List V → St → Prop) : Prop :=
  ∀ i v ys st' D C, xs[i]? = some v → J i ys st' → st' D = none → EV o (compCx c scope cl C) ((capt c scope cl loc).set x v) (st'.set D (.lst ys)) elt (fun y st'' => ∃ st₃, st'' = st₃.set D (.lst ys) ∧ st₃ D = none ∧ J (i + 1) (ys ++ [y]) st₃) (fun _ _ => False)

variable {elt iter : Expr} {x : Str} {px pos : Pos} {scope : Scope} {cl : List (Str × Addr)}
theorem compv_rng {lo hi : Int} (J : Nat → List V → St → Prop) (hb : -(2 ^ 62) ≤ lo ∧ lo < 2 ^ 62 ∧ -(2 ^ 62) ≤ hi ∧ hi < 2 ^ 62) (hok : scopeOk scope x = true) (hcl : closOf c.env.cells scope.names [] = some cl) (hz : (hi - lo).toNat ≤ sizeLine) (h0 : J 0 [] st)
    (turn : CTurn o c loc elt x scope cl (rngV lo hi) J) (fin : ∀ ys st' D, J (hi - lo).toNat ys st' → ys.length = (hi - lo).toNat → st' D = none → Q (.ptr D) (st'.set D (.lst ys))) : COMPV o c loc st (.rng lo hi) elt iter x px scope pos cl Q := fun st₀ s₀ s va E H₀ S I r => by
  obtain ⟨k1, k2, k3, k4⟩ := scopeOk_parts hok
  cases r with
  | rng ht =>
  refine wpAny_pyIter_range ht (small_one hb.1 hb.2.1 hb.2.2.1 hb.2.2.2) ?_
  have hsz : Builtin.Range.rangeSize lo hi 1 = ((hi - lo).toNat : Int) := by rw [rangeSize_one]; split <;> omega
  rw [hsz]
  have S1 : Step o.P noF st s st { s with heap := s.heap.push { cls := .type "range_iterator", data := .fields #[rawInt lo, rawInt ((hi - lo).toNat : Int), rawInt 1] } } := Step.push I.si.hs _ s.toks
  refine comp_core (T := "range_iterator") (xs := rngV lo hi) (P := fun i h => IsRangeIter h s.heap.objs.size (lo + (i : Nat)) (((hi - lo).toNat : Int) - (i : Nat)) 1) (R := fun h => True) (Ast := fun _ => True) (J := J) k1 k2 k3 k4 hcl (by rw [rngV_length]; exact hz) (none_of_mono S (Heap.get?_none_of_le (Nat.le_refl _))) H₀ (S.trans S1) (I.step S1)
    (fun i h h' p e => e.trans p) (fun i h p => ⟨_, _, p, rfl, rfl⟩) (by decide) (by decide) (fun _ _ _ => trivial) (fun _ _ _ _ _ _ => trivial) ?_ ?_ (fun s' Q' hp hq => wpAny_pyIter_rangeiter hp hq) (by
      have := Heap.get?_push_size s.heap (o := { cls := .type "range_iterator", data := .fields #[rawInt lo, rawInt ((hi - lo).toNat : Int), rawInt 1] }) rfl
      simpa using this)
    trivial h0 turn (by rw [rngV_length]; exact fin)
  · intro E i x st' s' Q' hx hj S' hR hp hq
    obtain ⟨rfl, hi'⟩ := rngV_get hx
    refine wpAny_pyNext_range_item hp (by omega) fun h' hit hsb => hq h' _ _ ?_ hsb (.int _ _)
    have e1 : lo + ((i + 1 : Nat) : Int) = lo + (i : Int) + 1 := by omega
    have e2 : ((hi - lo).toNat : Int) - ((i + 1 : Nat) : Int) = ((hi - lo).toNat : Int) - (i : Int) - 1 := by omega
    show IsRangeIter _ _ _ _ _
    rw [e1, e2]; exact hit
  · intro E st' s' Q' hj S' hR hp hq
    rw [rngV_length] at hp
    exact wpAny_pyNext_range_end S'.ok.handled hp (by omega) hq
end
end NN
end

-- part: NN24
section
open PySem PySem.W PyProof.Rows PySem.Calls
set_option maxRecDepth 100000
set_option linter.all false
namespace NN

theorem St.le_none {st st' : St} (h : St.le st' st) {a : Addr} (q : st a = none) : st' a = none := (h a).elim id fun e => e.trans q
theorem Step.older {P : Params} {F : Addr → Prop} {st st' st₂ : St} {s s₂ : Shared} (hle : St.le st' st) (x : Step P F st' s st₂ s₂) : Step P F st s st₂ s₂ where
  holds := x.holds
  sub a h := by
    rcases x.sub a h with q | q
    · exact .inl fun z => q (St.le_none hle z)
    · exact .inr q
  ext b o hf hb ho := x.ext b o hf (St.le_none hle hb) ho
  own b o hf hb ho := x.own b o hf (St.le_none hle hb) ho
  mono := x.mono
  gens := x.gens
  os := x.os
section
variable {o : Wo} [W : WoOk o] {c : Cx} {k : Kx} {loc : LocF} {st st' : St} {Q : V → St → Prop} {X : Exc → St → Prop} {QF : Fl → LocF → St → Prop} {s : Shared}
theorem SI.older (hle : St.le st' st) (S : SI o k st s) : SI o k st' s := ⟨S.ok, S.wd, S.fs, fun a m e => by
  rcases hle a with q | q
  · rw [q] at e; cases e
  · exact S.hs a m (q ▸ e), fun a ha => St.le_none hle (S.sep a ha)⟩
theorem Inv.older (hle : St.le st' st) (I : Inv o c loc st s) : Inv o c loc st' s := ⟨I.cx, I.si.older hle, I.lc, I.ow, fun a ha => St.le_none hle (I.ost a ha), I.oad⟩
theorem EXS.older {es : List Stmt} (hle : St.le st' st) (h : EXS o c loc st' es QF X) : EXS o c loc st es QF X := fun s I =>
  wpAny_mono (h s (I.older hle)) (fun _ _ ⟨a, b, d, e, S, L, q⟩ => ⟨a, b, d, e, S.older hle, L, q⟩) fun _ _ ⟨a, b, d, e, f, S, L, q⟩ => ⟨a, b, d, e, f, S.older hle, L, q⟩
theorem CALL.mono {f : Value} {as : List V} {Q' : V → St → Prop} {X' : Exc → St → Prop} (h : CALL o k st f as Q X) (q : ∀ v s', Q v s' → Q' v s') (x : ∀ v s', X v s' → X' v s') : CALL o k st f as Q' X' :=
  fun s vs S r => wpAny_mono (h s vs S r) (fun _ _ p => p.mono q) fun _ _ p => p.mono x
end
end NN
end

-- part: NN25
section
open PySem PySem.W PyProof.Rows PySem.Calls
set_option maxRecDepth 100000
set_option linter.all false
namespace NN

/-- a list of ints that the world keeps as it is -/
noncomputable def KL (o : Wo) (l : Addr) (xs : List Int) : Prop := ∃ ws n, o.K.lookup l = some (listO ws n) ∧ ∀ h, VRs h (xs.map V.int) ws

section
variable {o : Wo} [W : WoOk o] {c : Cx} {k : Kx} {loc : LocF} {st : St} {Q : V → St → Prop} {X : Exc → St → Prop}
theorem slv_klst {l : Addr} {xs : List Int} {lo hi : Option Int} (hl : KL o l xs) (hz : xs.length ≤ sizeLine) (h : ∀ a, st a = none → Q (.ptr a) (st.set a (.lst (slicePart (xs.map V.int) lo hi)))) : SLV o k st (.ptr l) lo hi Q X := fun s va sl vl vu S ra hs pl pu => by
  cases ra
  obtain ⟨ws, n, hk, rr⟩ := hl
  have e1 := S.wd.k l _ hk
  have rr := rr s.heap
  have hlen := rr.length
  rw [List.length_map] at hlen
  refine ⟨"list", _, ⟨_, e1, rfl⟩, list_getitem_lookup, wpAny_getItem_list_slice ⟨_, e1, rfl, _, rfl⟩ hs pl pu .none (by simp) ?_ (by rw [List.size_toArray, ← hlen]; exact hz)⟩
  rw [slicePick_plain]
  have e2 : (((ws.toArray).toList.drop (lo.elim 0 (clipAt ws.toArray.size))).take (hi.elim ws.toArray.size (clipAt ws.toArray.size) - lo.elim 0 (clipAt ws.toArray.size))) = slicePart ws lo hi := by
    simp [slicePart]
  rw [e2]
  have e3 : VRs s.heap (slicePart (xs.map V.int) lo hi) (slicePart ws lo hi) := by
    unfold slicePart
    rw [List.length_map, hlen]
    exact (rr.drop _).take _
  exact ⟨.ptr _, _, .ptr _, Step.alloc S.hs _ (.lst (slicePart (xs.map V.int) lo hi)) rfl (.lst e3) s.toks, h _ (size_none S.hs)⟩
theorem sub_klst_neg {l : Addr} {xs : List Int} {i : Int} {x : Int} (hl : KL o l xs) (h0 : i < 0) (h1 : -(xs.length : Int) ≤ i) (hlo : -(2 ^ 63) ≤ i) (hx : xs[(i + xs.length).toNat]? = some x) (h : Q (.int x) st) : SUB o k st (.ptr l) (.int i) Q X := fun s va vi S ra ri => by
  cases ri; cases ra
  obtain ⟨ws, n, hk, rr⟩ := hl
  have e1 := S.wd.k l _ hk
  have rr := rr s.heap
  obtain ⟨v, hv, rv⟩ := rr.get (i := (i + xs.length).toNat) (x := .int x) (by rw [List.getElem?_map, hx]; rfl)
  have hlen := rr.length
  rw [List.length_map] at hlen
  exact ⟨"list", _, ⟨_, e1, rfl⟩, list_getitem_lookup, wpAny_getItem_list_neg ⟨_, e1, rfl, _, rfl⟩ h0 (by rw [List.size_toArray, ← hlen]; exact h1) hlo (by rw [List.size_toArray, ← hlen]; simpa using hv) ⟨.int x, st, rv, Step.refl S.hs, h⟩⟩
theorem cmp_ne_klst {a b : Addr} {xs : List Int} {ys : List V} {da db : List PyData} (ha : KL o a xs) (hb : st b = some (.lst ys)) (h1 : V.pys (xs.map V.int) = some da) (h2 : V.pys ys = some db) (la : (PyData.list da).canLay0 = true) (lb : (PyData.list db).canLay0 = true)
    (hd : min (PyData.list da).depth (PyData.list db).depth ≤ 30) (h : Q (.bool (!PyData.eqv (.list da) (.list db))) st) : CMP o k st .NotEq (.ptr a) (.ptr b) Q X := fun s va vb S ra rb => by
  cases ra; cases rb
  obtain ⟨ws, n, hk, rr⟩ := ha
  have e1 := S.wd.k a _ hk
  obtain ⟨as, r1⟩ := (rr s.heap).reads h1
  obtain ⟨_, r2⟩ := lst_reads S.hs hb h2
  exact SeqAt.compareNe_reads (.list e1 rfl rfl (by simpa using r1)) r2 la lb (units_room S.ok hd) (pv_here S (.bool _) h)
end
end NN
end

-- part: the world
section
open PySem PySem.W PyProof.Rows PySem.Calls
set_option maxRecDepth 100000
set_option linter.all false
namespace NN
/-- a default's value -/
noncomputable def atomIs : Value → V → Bool
  | .none, .none => true
  | .int i _, .int j => i == j
  | .str x _, .str y => x == y
  | .bool b, .bool d => b == d
  | _, _ => false
noncomputable def atomsAre : List Value → List V → Bool
  | [], [] => true
  | v :: vs, x :: xs => atomIs v x && atomsAre vs xs
  | _, _ => false
theorem atomIs_R {h : Heap} : ∀ {v : Value} {x : V}, atomIs v x = true → VR h x v := by
  intro v x e
  cases v <;> cases x <;> first | exact .none | (unfold atomIs at e; first | (rw [beq_iff_eq.mp e]; constructor) | cases e)
theorem atomsAre_R {h : Heap} : ∀ {vs : List Value} {xs : List V}, atomsAre vs xs = true → VRs h xs vs
  | [], [], _ => .nil
  | v :: vs, x :: xs, e => by
    simp only [atomsAre, Bool.and_eq_true] at e
    exact .cons (atomIs_R e.1) (atomsAre_R e.2)
  | [], _ :: _, e => by cases e
  | _ :: _, [], e => by cases e
noncomputable def dfltOk (K : Frag) (d : Value) (ds : List V) : Bool := match d with
  | .none => ds.isEmpty
  | .ref T => (match K.lookup T with
      | some ⟨_, _, .seq vs _, _⟩ => atomsAre vs.toList ds
      | _ => false)
  | _ => false
noncomputable def fnChk (K : Frag) (fd : FuncData) (ns : List Str) (ds : List V) : Bool :=
  plainPar fd.params ns && decide ns.Nodup && ns.all (fun x => (fd.scope.names.lookup x == some .local || (fd.scope.names.lookup x == some .cell && !(x == ("__classdict__" : Str))))) &&
  (fd.scope.kind == .function) && !fd.scope.isGenerator && !fd.scope.isCoroutine && (fd.globals == mainGlobals) && (fd.builtins == builtinsNs) && fd.closure.isEmpty && codeIn K fd.code fd.qualname && dfltOk K fd.defaults ds && decide (ds.length ≤ ns.length)
theorem FnOk.of {o : Wo} {a : Addr} {fd : FuncData} {ns : List Str} {ds : List V} {body : List Stmt} (h1 : ∃ ob, o.K.lookup a = some ob ∧ ob.data = .func fd) (h2 : fnChk o.K fd ns ds = true) (h3 : fd.body = .stmts body) : FnOk o a fd ns ds body := by
  unfold fnChk at h2
  simp only [Bool.and_eq_true, decide_eq_true_eq, beq_iff_eq, Bool.not_eq_true', List.isEmpty_iff, List.all_eq_true] at h2
  obtain ⟨⟨⟨⟨⟨⟨⟨⟨⟨⟨⟨a1, a2⟩, a3⟩, a4⟩, a5⟩, a6⟩, a7⟩, a8⟩, a9⟩, a10⟩, a11⟩, a12⟩ := h2
  refine ⟨h1, fun h X => codeRec_of X a10, ?_, a1, a2, fun x hx => ?_, a4, a5, a6, a7, a8, a9, h3, a12⟩
  · unfold dfltOk at a11
    split at a11
    · rename_i hd
      have : ds = [] := by simpa using a11
      subst this
      exact ⟨[], fun h => .nil, fun h _ => .inl ⟨hd, rfl⟩⟩
    · rename_i T hd
      split at a11
      · rename_i vs n _ hK
        exact ⟨vs.toList, fun h => atomsAre_R a11, fun h X => .inr ⟨T, _, n, hd, X _ _ hK, by simp⟩⟩
      · cases a11
    · cases a11
  · have := a3 x hx
    simpa using this

/-- the world of this law -/
class W3 (o : Wo) where
  X : Frag
  k : o.K = K3 o.P ++ X
  nf : ∀ p ∈ X, p.2.cls ≠ .type "frame"
  g : ∀ p ∈ G3, o.mg p.1 = p.2
theorem K3_noFrame (P : Params) : ((K3 P).all fun p => p.2.cls != .type "frame") = true := by rfl
theorem mem_lookup {α β : Type} [BEq α] [LawfulBEq α] : ∀ {l : List (α × β)} {a : α} {b : β}, l.lookup a = some b → (a, b) ∈ l
  | (k, v) :: r, a, b, h => by
    rw [List.lookup_cons] at h
    cases hb : a == k with
    | true => rw [hb] at h; cases h; rw [beq_iff_eq.mp hb]; exact .head _
    | false => rw [hb] at h; exact .tail _ (mem_lookup h)
theorem woOk {o : Wo} (W : W3 o) : WoOk o := ⟨fun a ob e => by
  rw [W.k] at e
  rcases List.mem_append.mp (mem_lookup e) with q | q
  · have := List.all_eq_true.mp (K3_noFrame o.P) (a, ob) q
    simpa using this
  · exact W.nf _ q⟩
theorem mg3 {o : Wo} [W : W3 o] {x : Str} {v : Option Value} (h : G3.lookup x = some v) : o.mg x = v := W.g _ (mem_lookup h)
section
variable {o : Wo} [W : W3 o]
theorem ok_mask : FnOk o a_mask fd_mask [Str.ofString "w"] [] body_mask := FnOk.of (by rw [W.k]; exact ⟨_, rfl, rfl⟩) (by rw [W.k]; rfl) rfl
theorem ok_vec : FnOk o a_vec fd_vec [Str.ofString "w", Str.ofString "a", Str.ofString "b"] [.int 0] body_vec := FnOk.of (by rw [W.k]; exact ⟨_, rfl, rfl⟩) (by rw [W.k]; rfl) rfl
theorem ok_all_x : FnOk o a_all_x fd_all_x [Str.ofString "w"] [] body_all_x := FnOk.of (by rw [W.k]; exact ⟨_, rfl, rfl⟩) (by rw [W.k]; rfl) rfl
theorem ok_from_int : FnOk o a_from_int fd_from_int [Str.ofString "w", Str.ofString "n"] [] body_from_int := FnOk.of (by rw [W.k]; exact ⟨_, rfl, rfl⟩) (by rw [W.k]; rfl) rfl
theorem ok_to_int : FnOk o a_to_int fd_to_int [Str.ofString "v", Str.ofString "signed"] [] body_to_int := FnOk.of (by rw [W.k]; exact ⟨_, rfl, rfl⟩) (by rw [W.k]; rfl) rfl
theorem ok_extend : FnOk o a_extend fd_extend [Str.ofString "v", Str.ofString "w", Str.ofString "signed"] [] body_extend := FnOk.of (by rw [W.k]; exact ⟨_, rfl, rfl⟩) (by rw [W.k]; rfl) rfl
theorem ok_whole_of : FnOk o a_whole_of fd_whole_of [Str.ofString "e", Str.ofString "signed", Str.ofString "ctx"] [] body_whole_of := FnOk.of (by rw [W.k]; exact ⟨_, rfl, rfl⟩) (by rw [W.k]; rfl) rfl
theorem ok_bits_needed : FnOk o a_bits_needed fd_bits_needed [Str.ofString "n"] [] body_bits_needed := FnOk.of (by rw [W.k]; exact ⟨_, rfl, rfl⟩) (by rw [W.k]; rfl) rfl
theorem ok_system_value_evaluate : FnOk o a_system_value_evaluate fd_system_value_evaluate [Str.ofString "e", Str.ofString "ctx"] [] body_system_value_evaluate := FnOk.of (by rw [W.k]; exact ⟨_, rfl, rfl⟩) (by rw [W.k]; rfl) rfl
theorem ok_evaluate : FnOk o a_evaluate fd_evaluate [Str.ofString "e", Str.ofString "ctx"] [] body_evaluate := FnOk.of (by rw [W.k]; exact ⟨_, rfl, rfl⟩) (by rw [W.k]; rfl) rfl
theorem ok_children : FnOk o a_children fd_children [Str.ofString "e"] [] body_children := FnOk.of (by rw [W.k]; exact ⟨_, rfl, rfl⟩) (by rw [W.k]; rfl) rfl
theorem ok_folds : FnOk o a_folds fd_folds [Str.ofString "e"] [] body_folds := FnOk.of (by rw [W.k]; exact ⟨_, rfl, rfl⟩) (by rw [W.k]; rfl) rfl
theorem ok_folded : FnOk o a_folded fd_folded [Str.ofString "e"] [] body_folded := FnOk.of (by rw [W.k]; exact ⟨_, rfl, rfl⟩) (by rw [W.k]; rfl) rfl
theorem ok_widen : FnOk o a_widen fd_widen [Str.ofString "value", Str.ofString "w", Str.ofString "signed"] [] body_widen := FnOk.of (by rw [W.k]; exact ⟨_, rfl, rfl⟩) (by rw [W.k]; rfl) rfl
theorem ok_number_value : FnOk o a_number_value fd_number_value [Str.ofString "e", Str.ofString "w", Str.ofString "signed"] [] body_number_value := FnOk.of (by rw [W.k]; exact ⟨_, rfl, rfl⟩) (by rw [W.k]; rfl) rfl
theorem ok_build : FnOk o a_build fd_build [Str.ofString "scope", Str.ofString "e", Str.ofString "w", Str.ofString "signed"] [] body_build := FnOk.of (by rw [W.k]; exact ⟨_, rfl, rfl⟩) (by rw [W.k]; rfl) rfl
theorem ok_self_determined : FnOk o a_self_determined fd_self_determined [Str.ofString "scope", Str.ofString "e"] [] body_self_determined := FnOk.of (by rw [W.k]; exact ⟨_, rfl, rfl⟩) (by rw [W.k]; rfl) rfl
theorem ok_expr_type : FnOk o a_expr_type fd_expr_type [Str.ofString "scope", Str.ofString "e"] [] body_expr_type := FnOk.of (by rw [W.k]; exact ⟨_, rfl, rfl⟩) (by rw [W.k]; rfl) rfl
theorem ok_system_type : FnOk o a_system_type fd_system_type [Str.ofString "scope", Str.ofString "e"] [] body_system_type := FnOk.of (by rw [W.k]; exact ⟨_, rfl, rfl⟩) (by rw [W.k]; rfl) rfl
theorem ok_system_value_elabexpr : FnOk o a_system_value_elabexpr fd_system_value_elabexpr [Str.ofString "scope", Str.ofString "e"] [] body_system_value_elabexpr := FnOk.of (by rw [W.k]; exact ⟨_, rfl, rfl⟩) (by rw [W.k]; rfl) rfl
theorem ok__law_row : FnOk o a__law_row fd__law_row [Str.ofString "script"] [] body__law_row := FnOk.of (by rw [W.k]; exact ⟨_, rfl, rfl⟩) (by rw [W.k]; rfl) rfl
theorem ok__law_next : FnOk o a__law_next fd__law_next [Str.ofString "row"] [] body__law_next := FnOk.of (by rw [W.k]; exact ⟨_, rfl, rfl⟩) (by rw [W.k]; rfl) rfl
theorem ok__law_bits : FnOk o a__law_bits fd__law_bits [Str.ofString "row", Str.ofString "wide"] [] body__law_bits := FnOk.of (by rw [W.k]; exact ⟨_, rfl, rfl⟩) (by rw [W.k]; rfl) rfl
theorem ok__law_made : FnOk o a__law_made fd__law_made [Str.ofString "bits"] [] body__law_made := FnOk.of (by rw [W.k]; exact ⟨_, rfl, rfl⟩) (by rw [W.k]; rfl) rfl
theorem ok__law_value : FnOk o a__law_value fd__law_value [Str.ofString "row"] [] body__law_value := FnOk.of (by rw [W.k]; exact ⟨_, rfl, rfl⟩) (by rw [W.k]; rfl) rfl
theorem ok__law_enough : FnOk o a__law_enough fd__law_enough [Str.ofString "figure"] [] body__law_enough := FnOk.of (by rw [W.k]; exact ⟨_, rfl, rfl⟩) (by rw [W.k]; rfl) rfl
theorem ok__law_told : FnOk o a__law_told fd__law_told [Str.ofString "scope", Str.ofString "e", Str.ofString "ctx"] [] body__law_told := FnOk.of (by rw [W.k]; exact ⟨_, rfl, rfl⟩) (by rw [W.k]; rfl) rfl
theorem ok_law : FnOk o a_law fd_law [Str.ofString "script"] [] body_law := FnOk.of (by rw [W.k]; exact ⟨_, rfl, rfl⟩) (by rw [W.k]; rfl) rfl
theorem ok_GateloomError_init : FnOk o a_GateloomError_init fd_GateloomError_init [Str.ofString "self", Str.ofString "kind", Str.ofString "at", Str.ofString "detail"] [.int (-1), .str (Str.ofString "")] body_GateloomError_init := FnOk.of (by rw [W.k]; exact ⟨_, rfl, rfl⟩) (by rw [W.k]; rfl) rfl
theorem ok_Design_init : FnOk o a_Design_init fd_Design_init [Str.ofString "self"] [] body_Design_init := FnOk.of (by rw [W.k]; exact ⟨_, rfl, rfl⟩) (by rw [W.k]; rfl) rfl
theorem ok_Design_add_scope : FnOk o a_Design_add_scope fd_Design_add_scope [Str.ofString "self", Str.ofString "path"] [] body_Design_add_scope := FnOk.of (by rw [W.k]; exact ⟨_, rfl, rfl⟩) (by rw [W.k]; rfl) rfl
theorem ok_Store_init : FnOk o a_Store_init fd_Store_init [Str.ofString "self", Str.ofString "signals"] [] body_Store_init := FnOk.of (by rw [W.k]; exact ⟨_, rfl, rfl⟩) (by rw [W.k]; rfl) rfl
theorem ok_Context_init : FnOk o a_Context_init fd_Context_init [Str.ofString "self", Str.ofString "store", Str.ofString "frame", Str.ofString "now"] [.int 0] body_Context_init := FnOk.of (by rw [W.k]; exact ⟨_, rfl, rfl⟩) (by rw [W.k]; rfl) rfl
theorem ok_Context_next_random : FnOk o a_Context_next_random fd_Context_next_random [Str.ofString "self"] [] body_Context_next_random := FnOk.of (by rw [W.k]; exact ⟨_, rfl, rfl⟩) (by rw [W.k]; rfl) rfl
theorem ok_Scope_init : FnOk o a_Scope_init fd_Scope_init [Str.ofString "self", Str.ofString "design", Str.ofString "name", Str.ofString "parent", Str.ofString "kind"] [] body_Scope_init := FnOk.of (by rw [W.k]; exact ⟨_, rfl, rfl⟩) (by rw [W.k]; rfl) rfl
end
end NN
end

-- part: the walk
section
open PySem PySem.W PyProof.Rows PySem.Calls
set_option maxRecDepth 100000
set_option linter.all false
set_option maxHeartbeats 4000000
namespace NN
-- text L3a

theorem toNats_inj : ∀ {l r : List Char}, l.map Char.toNat = r.map Char.toNat → l = r
  | [], [], _ => rfl
  | [], _ :: _, h => by cases h
  | _ :: _, [], h => by cases h
  | a :: l, b :: r, h => by
    rw [List.map_cons, List.map_cons, List.cons.injEq] at h
    rw [toNats_inj h.2]
    have : a = b := Char.ext (UInt32.toNat_inj.mp h.1)
    rw [this]
theorem ofString_beq (a b : String) : (Str.ofString a == Str.ofString b) = (a == b) := by
  rw [Bool.eq_iff_iff, beq_iff_eq, beq_iff_eq]
  constructor
  · intro h
    rw [Str.ofString_eq_toList, Str.ofString_eq_toList, Str.mk.injEq] at h
    have := toNats_inj (List.toArray_inj h)
    exact String.ext this
  · rintro rfl; rfl
theorem beq_f {a b : String} (h : (a == b) = false) : (Str.ofString a == Str.ofString b) = false := by rw [ofString_beq]; exact h
theorem ite_t {b : Bool} {A B : Prop} (h : b = true) (x : A) : if b then A else B := by rw [h]; exact x
theorem ite_f {b : Bool} {A B : Prop} (h : b = false) (x : B) : if b then A else B := by rw [h]; exact x
theorem ite_c {b : Bool} {A B : Prop} (x : b = true → A) (y : b = false → B) : if b then A else B := by cases b with | true => exact x rfl | false => exact y rfl
theorem St.le_refl (st : St) : St.le st st := fun _ => .inr rfl
theorem St.le_set {st st' : St} {a : Addr} {m : MO} (h : St.le st st') (ha : st a = none) : St.le st (st'.set a m) := fun x => by
  by_cases q : x = a
  · subst q; exact .inl ha
  · rw [St.set_ne _ _ q]; exact h x

section
variable {o : Wo} [WO : WoOk o] [W : W3 o] {c : Cx} {k : Kx} {loc : LocF} {st : St} {Q : V → St → Prop} {X : Exc → St → Prop}

theorem ev_callg {x : Str} {np pos : Pos} {f : Value} {args : List Expr} (hk : c.env.kindOf x = some .globalImplicit) (hg : G3.lookup x = some (some f)) (hd : (x == ("__debug__" : Str)) = false) (hkb : keepB (K3 o.P ++ W.X) f = true)
    (h : EVs o c loc st pos args (fun vs st₁ => CALL o c.k st₁ f vs Q X) X) (hp : args.all plainE = true := by rfl) : EV o c loc st (.Call (.Name x np) args [] pos) Q X :=
  ev_call (ev_glob hk (mg3 hg) hd ⟨rfl, rfl⟩) (by rw [W.k]; exact hkb) h hp
theorem ev_callb {x : Str} {np pos : Pos} {f : Value} {args : List Expr} (hk : c.env.kindOf x = some .globalImplicit) (hg : G3.lookup x = some none) (hb : bootBuiltins x = some f) (hn : x ≠ "__name__") (hd : (x == ("__debug__" : Str)) = false) (hkb : keepB (K3 o.P ++ W.X) f = true)
    (h : EVs o c loc st pos args (fun vs st₁ => CALL o c.k st₁ f vs Q X) X) (hp : args.all plainE = true := by rfl) : EV o c loc st (.Call (.Name x np) args [] pos) Q X :=
  ev_call (ev_blt hk (mg3 hg) hb hn hd ⟨rfl, rfl⟩) (by rw [W.k]; exact hkb) h hp
end

/-- one step -/
local macro_rules | `(tactic| walk_at "e") => `(tactic| first
  | ((with_reducible show EV _ _ _ _ _ _ _)
     first
       | ((with_reducible show EV _ _ _ _ (Expr.Constant _ _ _) _ _); first | refine ev_int ?_ | refine ev_str ?_ | refine ev_bool ?_ | refine ev_none ?_)
       | ((with_reducible show EV _ _ _ _ (Expr.Name _ _) _ _); first | refine ev_name (by rfl) (by rfl) ?_ | refine ev_glob (by rfl) (mg3 (by rfl)) (by rfl) ?_)
       | ((with_reducible show EV _ _ _ _ (Expr.BinOp _ _ _ _) _ _); refine ev_bin ?_)
       | ((with_reducible show EV _ _ _ _ (Expr.UnaryOp _ _ _) _ _); refine ev_unary ?_)
       | ((with_reducible show EV _ _ _ _ (Expr.Compare _ _ _ _) _ _); refine ev_cmp ?_)
       | ((with_reducible show EV _ _ _ _ (Expr.IfExp _ _ _ _) _ _); refine ev_ifexp ?_)
       | ((with_reducible show EV _ _ _ _ (Expr.BoolOp .And [_, _] _) _ _); refine ev_and2 ?_)
       | ((with_reducible show EV _ _ _ _ (Expr.BoolOp .Or [_, _] _) _ _); refine ev_or2 ?_)
       | ((with_reducible show EV _ _ _ _ (Expr.Tuple _ _ _) _ _); refine ev_tuple ?_)
       | ((with_reducible show EV _ _ _ _ (Expr.List _ _) _ _); refine ev_list ?_)
       | ((with_reducible show EV _ _ _ _ (Expr.Dict [] [] _) _ _); refine ev_dict0 ?_)
       | ((with_reducible show EV _ _ _ _ (Expr.Subscript _ (Expr.Slice _ _ _ _) _) _ _); refine ev_slice ?_)
       | ((with_reducible show EV _ _ _ _ (Expr.Subscript _ _ _) _ _); refine ev_sub ?_)
       | ((with_reducible show EV _ _ _ _ (Expr.Attribute _ _ _) _ _); refine ev_attr (fun _ => rfl) ?_)
       | ((with_reducible show EV _ _ _ _ (Expr.Call (Expr.Name _ _) _ _ _) _ _); first | refine ev_callg (by rfl) (by rfl) (by rfl) (by rfl) ?_ | refine ev_callb (by rfl) (by rfl) (by rfl) (by decide +kernel) (by rfl) (by rfl) ?_)
       | ((with_reducible show EV _ _ _ _ (Expr.Call (Expr.Attribute _ _ _) _ _ _) _ _); refine ev_meth (fun _ => ⟨_, rfl⟩) ?_))
  | ((with_reducible show EVs _ _ _ _ _ _ _ _)
     first
       | ((with_reducible show EVs _ _ _ _ _ [] _ _); refine evs_nil ?_)
       | ((with_reducible show EVs _ _ _ _ _ (_ :: _) _ _); refine evs_cons ?_))
  | ((with_reducible show TR _ _ _ _ _ _ _)
     first
       | ((with_reducible show TR _ _ _ _ (Expr.Compare _ _ _ _) _ _); refine tr_cmp ?_)
       | ((with_reducible show TR _ _ _ _ (Expr.UnaryOp .Not _ _) _ _); refine tr_not ?_)
       | ((with_reducible show TR _ _ _ _ (Expr.BoolOp .And (_ :: _) _) _ _); refine tr_and ?_)
       | ((with_reducible show TR _ _ _ _ (Expr.BoolOp .And [] _) _ _); refine tr_and_nil ?_)
       | ((with_reducible show TR _ _ _ _ (Expr.BoolOp .Or (_ :: _) _) _ _); refine tr_or ?_)
       | ((with_reducible show TR _ _ _ _ (Expr.BoolOp .Or [] _) _ _); refine tr_or_nil ?_)
       | ((with_reducible show TR _ _ _ _ _ _ _); refine tr_val (fun _ _ => rfl) ?_))
  | ((with_reducible show EXS _ _ _ _ _ _ _)
     first
       | ((with_reducible show EXS _ _ _ _ [] _ _); refine exs_nil ?_)
       | ((with_reducible show EXS _ _ _ _ _ _ _); refine exs_cons ?_))
  | ((with_reducible show EX _ _ _ _ _ _ _)
     first
       | ((with_reducible show EX _ _ _ _ (Stmt.Return (some _) _) _ _); refine ex_return ?_)
       | ((with_reducible show EX _ _ _ _ (Stmt.Return none _) _ _); refine ex_return_none ?_)
       | ((with_reducible show EX _ _ _ _ (Stmt.If _ _ _ _) _ _); refine ex_if ?_)
       | ((with_reducible show EX _ _ _ _ (Stmt.Expr _ _) _ _); refine ex_expr (fun _ => rfl) ?_)
       | ((with_reducible show EX _ _ _ _ (Stmt.Pass _) _ _); refine ex_pass ?_)
       | ((with_reducible show EX _ _ _ _ (Stmt.Assign [_] _ _) _ _); refine ex_assign (fun _ => rfl) (fun _ => rfl) (fun _ => rfl) ?_)
       | ((with_reducible show EX _ _ _ _ (Stmt.AugAssign (Expr.Name _ _) _ _ _) _ _); refine ex_aug (by rfl) (by rfl) ?_))
  | ((with_reducible show ASG _ _ _ _ _ _ _ _)
     first
       | ((with_reducible show ASG _ _ _ _ (Expr.Name _ _) _ _ _); refine asg_name (by rfl) ?_)
       | ((with_reducible show ASG _ _ _ _ (Expr.Tuple _ _ _) _ _ _); refine asg_tuple (by rfl) (by rfl) ?_)
       | ((with_reducible show ASG _ _ _ _ (Expr.Attribute _ _ _) _ _ _); refine asg_attr ?_))
  | ((with_reducible show ASGS _ _ _ _ _ _ _ _)
     first
       | ((with_reducible show ASGS _ _ _ _ [] [] _ _); refine asgs_nil ?_)
       | ((with_reducible show ASGS _ _ _ _ (_ :: _) (_ :: _) _ _); refine asgs_cons ?_))
  | ((with_reducible show OPB _ _ _ _ _ _ _ _)
     first
       | ((with_reducible show OPB _ _ _ .Add (V.int _) (V.int _) _ _); refine opb_add ?_)
       | ((with_reducible show OPB _ _ _ .Add (V.tup _) (V.tup _) _ _); refine opb_add_tup (by simp only [List.length_cons, List.length_nil]; decide) ?_)
       | ((with_reducible show OPB _ _ _ .Sub (V.int _) (V.int _) _ _); refine opb_sub ?_)
       | ((with_reducible show OPB _ _ _ .BitAnd (V.int _) (V.int _) _ _); refine opb_and ?_)
       | ((with_reducible show OPB _ _ _ .BitOr (V.int _) (V.int _) _ _); refine opb_or ?_)
       | ((with_reducible show OPB _ _ _ .BitXor (V.int _) (V.int _) _ _); refine opb_xor ?_))
  | ((with_reducible show CMP _ _ _ _ _ _ _ _)
     first
       | ((with_reducible show CMP _ _ _ .Eq (V.str _) (V.str _) _ _); refine cmp_eq_str ?_)
       | ((with_reducible show CMP _ _ _ .NotEq (V.str _) (V.str _) _ _); refine cmp_ne_str ?_)
       | ((with_reducible show CMP _ _ _ .Eq (V.int _) (V.int _) _ _); refine cmp_eq_int ?_)
       | ((with_reducible show CMP _ _ _ .NotEq (V.int _) (V.int _) _ _); refine cmp_ne_int ?_)
       | ((with_reducible show CMP _ _ _ .Lt (V.int _) (V.int _) _ _); refine cmp_lt ?_)
       | ((with_reducible show CMP _ _ _ .LtE (V.int _) (V.int _) _ _); refine cmp_le ?_)
       | ((with_reducible show CMP _ _ _ .Gt (V.int _) (V.int _) _ _); refine cmp_gt ?_)
       | ((with_reducible show CMP _ _ _ .GtE (V.int _) (V.int _) _ _); refine cmp_ge ?_)
       | ((with_reducible show CMP _ _ _ .In (V.str _) (V.tup _) _ _); refine cmp_in_strs (by rfl) ?_)
       | ((with_reducible show CMP _ _ _ .Is _ V.none _ _); refine cmp_is_none ?_)
       | ((with_reducible show CMP _ _ _ .IsNot _ V.none _ _); refine cmp_isnot_none ?_))
  | ((with_reducible show ATT _ _ _ _ _ _ _)
     first
       | ((with_reducible show ATT _ _ _ (V.obj _ _ _) _ _ _); refine att_own (by assumption) (by rfl) (by rfl) (by rw [W3.k]; rfl) ?_))
  | ((with_reducible show OPI _ _ _ _ _ _ _ _)
     first
       | ((with_reducible show OPI _ _ _ .Add (V.int _) (V.int _) _ _); refine opi_add ?_)
       | ((with_reducible show OPI _ _ _ .Sub (V.int _) (V.int _) _ _); refine opi_sub ?_))
  | ((with_reducible show OPU _ _ _ _ _ _ _)
     first
       | ((with_reducible show OPU _ _ _ .USub (V.int _) _ _); refine opu_neg ?_)
       | ((with_reducible show OPU _ _ _ .Not _ _ _); refine opu_not ?_))
  | ((with_reducible show TRV _ _ _ _ _ _)
     first
       | ((with_reducible show TRV _ _ _ (V.bool _) _ _); refine trv_bool ?_)
       | ((with_reducible show TRV _ _ _ (V.int _) _ _); refine trv_int ?_)
       | ((with_reducible show TRV _ _ _ V.none _ _); refine trv_none ?_))
  | ((with_reducible show SUB _ _ _ _ _ _ _)
     first
       | ((with_reducible show SUB _ _ _ (V.tup _) (V.int _) _ _); refine sub_tup (by decide) (by decide) (by rfl) (by rfl) ?_)))
local macro_rules | `(tactic| walk_at "l") => `(tactic| ((with_reducible show List.length _ ≤ sizeLine ∧ _); refine And.intro (by (first | decide | (simp only [List.length_cons, List.length_nil]; decide))) ?_))
local macro_rules | `(tactic| walk_at "x") => `(tactic| refine ⟨_, St.le_refl _, ?_⟩)
local macro_rules | `(tactic| walk_at "b") => `(tactic| ((with_reducible show (if _ then _ else _)); first | with_reducible refine ite_t (beq_self_eq_true _) ?_ | with_reducible refine ite_f (beq_f (by decide +kernel)) ?_ | refine ite_t (by rfl) ?_ | refine ite_f (by rfl) ?_))
local macro_rules | `(tactic| walk_at "w") => `(tactic| repeat (first | walk_at "e" | walk_at "b" | walk_at "l"))
local macro_rules | `(tactic| walk_at "n") => `(tactic| (show _ ≤ _ - 1; omega))

local macro_rules | `(tactic| walk_at "v") => `(tactic| ((with_reducible show EV _ _ _ _ (Expr.Name _ _) _ _); refine ev_name (by assumption) (by rfl) ?_))
local macro_rules | `(tactic| walk_at "v") => `(tactic| ((with_reducible show EX _ _ _ _ (Stmt.AugAssign (Expr.Name _ _) _ _ _) _ _); refine ex_aug (by assumption) (by rfl) ?_))
local macro_rules | `(tactic| walk_at "u") => `(tactic| repeat (first | walk_at "e" | walk_at "b" | walk_at "l" | walk_at "v"))
section
variable {o : Wo} [WO : WoOk o] [W : W3 o] {k : Kx} {st : St} {Q : V → St → Prop} {X : Exc → St → Prop}

theorem shl_ok {w : Int} (h0 : 0 ≤ w) (h1 : w ≤ 2 ^ 20) : (Builtin.Int.intBits 1 : Int) + w ≤ 2 ^ 27 := by
  have : (Builtin.Int.intBits 1 : Int) = 1 := by rfl
  omega
theorem mask_ {w : Nat} (hn : 1 ≤ k.n) (h1 : w ≤ 2 ^ 20) (h : Q (.int (2 ^ w - 1)) st) : CALL o k st (.ref a_mask) [.int w] Q X := by
  refine call_fn ok_mask hn (by simp) (by simp) fun L => ?_
  walk_at "w"
  refine opb_shl (by omega) (shl_ok (by omega) (by omega)) ?_
  walk_at "w"
  refine ⟨st, St.le_refl _, ?_⟩
  simpa [Fl.v] using h
local macro_rules | `(tactic| walk_at "c") => `(tactic| refine mask_ (by walk_at "n") (by omega) ?_)

theorem vec3_ {w : Nat} {a b : Int} (hn : 2 ≤ k.n) (h1 : w ≤ 2 ^ 20) (h : Q (.tup [.int w, .int (a % 2 ^ w), .int (b % 2 ^ w)]) st) : CALL o k st (.ref a_vec) [.int w, .int a, .int b] Q X := by
  refine call_fn ok_vec (by omega) (by simp) (by simp) fun L => ?_
  walk_at "w"
  walk_at "c"
  walk_at "w"
  walk_at "x"
  show Q (.tup [.int w, .int (Builtin.bitAnd a (2 ^ w - 1)), .int (Builtin.bitAnd b (2 ^ w - 1))]) st
  rw [kbt_mask, kbt_mask]; exact h
theorem vec2_ {w : Nat} {a : Int} (hn : 2 ≤ k.n) (h1 : w ≤ 2 ^ 20) (h : Q (.tup [.int w, .int (a % 2 ^ w), .int 0]) st) : CALL o k st (.ref a_vec) [.int w, .int a] Q X := by
  refine call_fn ok_vec (by omega) (by simp) (by simp) fun L => ?_
  walk_at "w"
  walk_at "c"
  walk_at "w"
  walk_at "x"
  show Q (.tup [.int w, .int (Builtin.bitAnd a (2 ^ w - 1)), .int (Builtin.bitAnd 0 (2 ^ w - 1))]) st
  rw [kbt_mask, kbt_mask, Int.zero_emod]; exact h
theorem all_x_ {w : Nat} (hn : 2 ≤ k.n) (h1 : w ≤ 2 ^ 20) (h : Q (.tup [.int w, .int (2 ^ w - 1), .int (2 ^ w - 1)]) st) : CALL o k st (.ref a_all_x) [.int w] Q X := by
  refine call_fn ok_all_x (by omega) (by simp) (by simp) fun L => ?_
  walk_at "w"
  walk_at "c"
  walk_at "w"
  walk_at "x"
  exact h
theorem from_int_ {w : Nat} {a : Int} (hn : 2 ≤ k.n) (h1 : w ≤ 2 ^ 20) (h : Q (.tup [.int w, .int (a % 2 ^ w), .int 0]) st) : CALL o k st (.ref a_from_int) [.int w, .int a] Q X := by
  refine call_fn ok_from_int (by omega) (by simp) (by simp) fun L => ?_
  walk_at "w"
  walk_at "c"
  walk_at "w"
  walk_at "x"
  show Q (.tup [.int w, .int (Builtin.bitAnd a (2 ^ w - 1)), .int 0]) st
  rw [kbt_mask]; exact h
theorem to_intF_ {w a b : Int} (hn : 1 ≤ k.n) (h : Q (if b != 0 then .none else .int a) st) : CALL o k st (.ref a_to_int) [.tup [.int w, .int a, .int b], .bool false] Q X := by
  refine call_fn ok_to_int (by omega) (by simp) (by simp) fun L => ?_
  walk_at "w"
  refine ite_c (fun hb => ?_) fun hb => ?_
  · rw [hb] at h
    walk_at "w"
    walk_at "x"
    exact h
  · rw [hb] at h
    walk_at "w"
    walk_at "x"
    exact h
/-- a value that is no wider than asked -/
theorem extend_ {w : Nat} {a b : Int} {sg : Bool} (hn : 3 ≤ k.n) (h1 : w ≤ 2 ^ 20) (h : Q (.tup [.int w, .int (a % 2 ^ w), .int (b % 2 ^ w)]) st) : CALL o k st (.ref a_extend) [.tup [.int w, .int a, .int b], .int w, .bool sg] Q X := by
  refine call_fn ok_extend (by omega) (by simp) (by simp) fun L => ?_
  walk_at "w"
  refine ite_t (by simp) ?_
  walk_at "w"
  refine vec3_ (by walk_at "n") h1 ?_
  walk_at "w"
  walk_at "x"
  exact h
end
-- text L3b
section
variable {o : Wo} [WO : WoOk o] [W : W3 o] {k : Kx} {st : St} {Q : V → St → Prop} {X : Exc → St → Prop}

/-- a sized number, made -/
theorem number_value_ {w : Nat} {a b : Int} {sg s' : Bool} {p : Int} (hn : 4 ≤ k.n) (h1 : w ≤ 2 ^ 20) (h : Q (.tup [.str "const", .int w, .int (a % 2 ^ w), .int (b % 2 ^ w)]) st) :
    CALL o k st (.ref a_number_value) [.tup [.str "num", .int p, .tup [.int w, .int a, .int b], .bool s', .bool true], .int w, .bool sg] Q X := by
  refine call_fn ok_number_value (by omega) (by simp) (by simp) fun L => ?_
  walk_at "w"
  cases sg <;>
  · walk_at "w"
    refine extend_ (by walk_at "n") h1 ?_
    walk_at "w"
    walk_at "x"
    exact h

theorem bits_needed_ {n : Int} (hn : 2 ≤ k.n) (h0 : n ≤ 2 ^ 64) (h : ∀ m : Nat, m ≤ 64 → n ≤ 2 ^ m → (m = 0 ∨ (2 : Int) ^ (m - 1) < n) → Q (.int m) st) : CALL o k st (.ref a_bits_needed) [.int n] Q X := by
  refine call_fn ok_bits_needed (by omega) (by simp) (by simp) fun L => ?_
  walk_at "w"
  refine ex_while (fun m loc st' => st' = st ∧ ∃ i : Nat, m = 64 - i ∧ i ≤ 64 ∧ loc = (LocF.binds [(Str.ofString "n", .int n)] LocF.nil).set (Str.ofString "k") (.int i) ∧ (i = 0 ∨ (2 : Int) ^ (i - 1) < n)) 64 ⟨rfl, 0, rfl, by omega, rfl, .inl rfl⟩ ?_
  rintro m loc st' ⟨rfl, i, rfl, hi, rfl, hb⟩
  walk_at "w"
  refine opb_shl (by omega) (shl_ok (by omega) (by omega)) ?_
  walk_at "w"
  rw [Int.one_mul, Int.toNat_natCast]
  refine ite_c (fun hc => ?_) fun hc => ?_
  · have hc : (2 : Int) ^ i < n := by simpa using hc
    have hlt : i < 64 := by
      rcases Nat.lt_or_ge i 64 with q | q
      · exact q
      · have : i = 64 := by omega
        subst this; omega
    walk_at "w"
    refine ⟨64 - (i + 1), by omega, rfl, i + 1, rfl, hlt, ?_, .inr (by simpa using hc)⟩
    rw [LocF.set_set]; rfl
  · have hc : n ≤ (2 : Int) ^ i := by simpa using hc
    walk_at "w"
    walk_at "x"
    exact h i hi hc hb

theorem all_const {w a b : Int} {cx : V} (hn : 1 ≤ k.n) (h : Q (.tup [.int w, .int a, .int b]) st) : CALL o k st (.ref a_evaluate) [.tup [.str "const", .int w, .int a, .int b], cx] Q X := by
  refine call_fn ok_evaluate (by omega) (by simp) (by simp) fun L => ?_
  walk_at "w"
  walk_at "x"
  exact h
theorem eval_sys {w : Int} {nm : Str} {args : V} {cx : V} (hn : 1 ≤ k.n) (h : ∀ k' : Kx, k'.n = k.n - 1 → CALL o k' st (.ref a_system_value_evaluate) [.tup [.str "sys", .int w, .str nm, args], cx] Q X) : CALL o k st (.ref a_evaluate) [.tup [.str "sys", .int w, .str nm, args], cx] Q X := by
  refine call_fn ok_evaluate (by omega) (by simp) (by simp) fun L => ?_
  walk_at "w"
  exact CALL.mono (h _ rfl) (fun v s' q => ⟨s', St.le_refl _, q⟩) (fun v s' q => ⟨s', St.le_refl _, q⟩)

theorem whole_const {w a b : Int} {cx : V} (hn : 2 ≤ k.n) (h : Q (if b != 0 then .none else .int a) st) : CALL o k st (.ref a_whole_of) [.tup [.str "const", .int w, .int a, .int b], .bool false, cx] Q X := by
  refine call_fn ok_whole_of (by omega) (by simp) (by simp) fun L => ?_
  walk_at "w"
  refine all_const (by walk_at "n") ?_
  walk_at "w"
  refine to_intF_ (by walk_at "n") ?_
  walk_at "w"
  walk_at "x"
  exact h

theorem sv_time {w : Nat} {nm : Str} {args : V} {ca cd : Addr} {l : List (Str × V)} {t : Int} (hn : 3 ≤ k.n) (h1 : w ≤ 2 ^ 20) (hd : st cd = some (.sd l)) (ht : sget "now" l = some (.int t)) (hm : nm = "$time" ∨ nm = "$stime" ∨ nm = "$realtime") (h : Q (.tup [.int w, .int (t % 2 ^ w), .int 0]) st) :
    CALL o k st (.ref a_system_value_evaluate) [.tup [.str "sys", .int w, .str nm, args], .obj ca c_Context cd] Q X := by
  refine call_fn ok_system_value_evaluate (by omega) (by simp) (by simp) fun L => ?_
  walk_at "w"
  refine ite_t (by rcases hm with rfl | rfl | rfl <;> rfl) ?_
  walk_at "w"
  refine att_own hd ht (by rfl) (by rw [W.k]; rfl) ?_
  walk_at "w"
  refine vec2_ (by walk_at "n") h1 ?_
  walk_at "w"
  walk_at "x"
  exact h

theorem sv_clog2 {w : Nat} {W' a b : Int} {cx : V} (hn : 4 ≤ k.n) (h1 : w ≤ 2 ^ 20) (h0 : a ≤ 2 ^ 64) (hx : b ≠ 0 → Q (.tup [.int w, .int (2 ^ w - 1), .int (2 ^ w - 1)]) st)
    (h : ∀ m : Nat, b = 0 → m ≤ 64 → a ≤ 2 ^ m → (m = 0 ∨ (2 : Int) ^ (m - 1) < a) → Q (.tup [.int w, .int ((m : Int) % 2 ^ w), .int 0]) st) :
    CALL o k st (.ref a_system_value_evaluate) [.tup [.str "sys", .int w, .str "$clog2", .tup [.tup [.str "const", .int W', .int a, .int b]]], cx] Q X := by
  refine call_fn ok_system_value_evaluate (by omega) (by simp) (by simp) fun L => ?_
  walk_at "w"
  refine whole_const (by walk_at "n") ?_
  walk_at "w"
  by_cases hb : b = 0
  · have e : (b != 0) = false := by simpa using hb
    rw [e]
    walk_at "w"
    refine bits_needed_ (by walk_at "n") h0 fun m m1 m2 m3 => ?_
    walk_at "w"
    refine vec2_ (by walk_at "n") h1 ?_
    walk_at "w"
    walk_at "x"
    exact h m hb m1 m2 m3
  · have e : (b != 0) = true := by simpa using hb
    rw [e]
    walk_at "w"
    refine all_x_ (by walk_at "n") h1 ?_
    walk_at "w"
    walk_at "x"
    exact hx hb
end
-- text L3c
section
variable {o : Wo} [WO : WoOk o] [W : W3 o] {k : Kx} {st : St} {Q : V → St → Prop} {X : Exc → St → Prop}

theorem ne_of_set {st : St} {a b : Addr} {m : MO} (h : (st.set a m) b = none) : a ≠ b := by rintro rfl; simp at h
theorem none_of_set {st : St} {a b : Addr} {m : MO} (h : (st.set a m) b = none) : st b = none := by
  have := ne_of_set h
  rwa [St.set_ne _ _ (Ne.symm this)] at h

theorem St.le_both {a b : St} {x : Addr} {m : MO} (h : St.le a b) : St.le (a.set x m) (b.set x m) := fun y => by
  by_cases q : y = x
  · subst q; right; simp
  · rw [St.set_ne _ _ q, St.set_ne _ _ q]; exact h y
theorem Store_ {lp : V} (hn : 2 ≤ k.n) (h : ∀ x dx v m, st dx = none → Q (.obj x c_Store dx) (st.set dx (.sd [("signals", lp), ("values", .ptr v), ("memories", .ptr m), ("random_seed", .int 1)]))) : CALL o k st (.ref c_Store) [lp] Q X := by
  refine (call_cls (fI := a_Store_init) (by rw [W.k]; rfl) (by rw [W.k]; rfl) (by rw [W.k]; rfl) (by omega) fun A' x dx hA hdx => ?_).call
  refine callc_fn ok_Store_init (by show 1 ≤ k.n - 1; omega) (by simp) (by simp) fun L => ?_
  walk_at "w"
  refine seta_own (St.set_same ..) (by rw [W.k]; rfl) (Nat.le_of_ble_eq_true (by rfl)) ?_
  rw [St.set_set]
  walk_at "w"
  intro v hv
  have nv := ne_of_set hv
  walk_at "w"
  refine seta_own ((St.set_ne _ _ nv).trans (St.set_same ..)) (by rw [W.k]; rfl) (Nat.le_of_ble_eq_true (by rfl)) ?_
  walk_at "w"
  intro m hm
  have nm := ne_of_set hm
  walk_at "w"
  refine seta_own ((St.set_ne _ _ nm).trans (St.set_same ..)) (by rw [W.k]; rfl) (Nat.le_of_ble_eq_true (by rfl)) ?_
  walk_at "w"
  refine seta_own (St.set_same ..) (by rw [W.k]; rfl) (Nat.le_of_ble_eq_true (by rfl)) ?_
  walk_at "w"
  have v0 := none_of_set hv
  have m0 := none_of_set (none_of_set (none_of_set hm))
  exact ⟨_, St.le_both (St.le_set (St.le_set (St.le_set (St.le_set (St.le_set (St.le_refl _) hdx) v0) hdx) m0) hdx), rfl, h x dx v m hdx⟩

theorem Context_ {sp fp : V} {t : Int} (hn : 2 ≤ k.n) (h : ∀ x dx, st dx = none → Q (.obj x c_Context dx) (st.set dx (.sd [("store", sp), ("frame", fp), ("now", .int t)]))) : CALL o k st (.ref c_Context) [sp, fp, .int t] Q X := by
  refine (call_cls (fI := a_Context_init) (by rw [W.k]; rfl) (by rw [W.k]; rfl) (by rw [W.k]; rfl) (by omega) fun A' x dx hA hdx => ?_).call
  refine callc_fn ok_Context_init (by show 1 ≤ k.n - 1; omega) (by simp) (by simp) fun L => ?_
  walk_at "w"
  refine seta_own (St.set_same ..) (by rw [W.k]; rfl) (Nat.le_of_ble_eq_true (by rfl)) ?_
  rw [St.set_set]
  walk_at "w"
  refine seta_own (St.set_same ..) (by rw [W.k]; rfl) (Nat.le_of_ble_eq_true (by rfl)) ?_
  rw [St.set_set]
  walk_at "w"
  refine seta_own (St.set_same ..) (by rw [W.k]; rfl) (Nat.le_of_ble_eq_true (by rfl)) ?_
  rw [St.set_set]
  walk_at "w"
  exact ⟨_, St.le_refl _, rfl, h x dx hdx⟩
theorem Context0_ {sp fp : V} (hn : 2 ≤ k.n) (h : ∀ x dx, st dx = none → Q (.obj x c_Context dx) (st.set dx (.sd [("store", sp), ("frame", fp), ("now", .int 0)]))) : CALL o k st (.ref c_Context) [sp, fp] Q X := by
  refine (call_cls (fI := a_Context_init) (by rw [W.k]; rfl) (by rw [W.k]; rfl) (by rw [W.k]; rfl) (by omega) fun A' x dx hA hdx => ?_).call
  refine callc_fn ok_Context_init (by show 1 ≤ k.n - 1; omega) (by simp) (by simp) fun L => ?_
  walk_at "w"
  refine seta_own (St.set_same ..) (by rw [W.k]; rfl) (Nat.le_of_ble_eq_true (by rfl)) ?_
  rw [St.set_set]
  walk_at "w"
  refine seta_own (St.set_same ..) (by rw [W.k]; rfl) (Nat.le_of_ble_eq_true (by rfl)) ?_
  rw [St.set_set]
  walk_at "w"
  refine seta_own (St.set_same ..) (by rw [W.k]; rfl) (Nat.le_of_ble_eq_true (by rfl)) ?_
  rw [St.set_set]
  walk_at "w"
  exact ⟨_, St.le_refl _, rfl, h x dx hdx⟩

/-- the random number next drawn -/
noncomputable def nextSeed (s : Int) : Int := (69069 * s + 1) % 4294967296
theorem next_random_ {ca cd sa sd : Addr} {l ls : List (Str × V)} {s : Int} (hn : 1 ≤ k.n) (hd : st cd = some (.sd l)) (hs : sget "store" l = some (.obj sa c_Store sd)) (hsd : st sd = some (.sd ls)) (hr : sget "random_seed" ls = some (.int s)) (hb : 0 ≤ s ∧ s < 2 ^ 32) (hz : ls.length ≤ 900)
    (h : Q (.int (if nextSeed s ≥ 2147483648 then nextSeed s - 4294967296 else nextSeed s)) (st.set sd (.sd (sput "random_seed" (.int (nextSeed s)) ls)))) : CALL o k st (.ref a_Context_next_random) [.obj ca c_Context cd] Q X := by
  refine call_fn ok_Context_next_random (by omega) (by simp) (by simp) fun L => ?_
  walk_at "w"
  refine att_own hd hs (by rfl) (by rw [W.k]; rfl) (att_own hsd hr (by rfl) (by rw [W.k]; rfl) (opb_mul (IntMulOk.of_left (by decide)) ?_))
  walk_at "w"
  refine opb_mod (by decide) ?_
  rw [Int.fmod_eq_emod_of_nonneg _ (by decide)]
  walk_at "w"
  refine att_own hd hs (by rfl) (by rw [W.k]; rfl) (seta_own hsd (by rw [W.k]; rfl) hz ?_)
  walk_at "w"
  refine ite_c (fun hc => ?_) fun hc => ?_
  · have hc : nextSeed s ≥ 2147483648 := by simpa [nextSeed] using hc
    rw [if_pos hc] at h
    walk_at "w"
    exact ⟨_, St.le_refl _, h⟩
  · have hc : ¬ nextSeed s ≥ 2147483648 := by simpa [nextSeed] using hc
    rw [if_neg hc] at h
    walk_at "w"
    exact ⟨_, St.le_refl _, h⟩

theorem sv_random {w : Nat} {args : V} {ca cd sa sd : Addr} {l ls : List (Str × V)} {s : Int} (hn : 3 ≤ k.n) (h1 : w ≤ 2 ^ 20) (hd : st cd = some (.sd l)) (hm : sget "next_random" l = none) (hs : sget "store" l = some (.obj sa c_Store sd)) (hsd : st sd = some (.sd ls)) (hr : sget "random_seed" ls = some (.int s)) (hb : 0 ≤ s ∧ s < 2 ^ 32) (hz : ls.length ≤ 900)
    (h : Q (.tup [.int w, .int ((if nextSeed s ≥ 2147483648 then nextSeed s - 4294967296 else nextSeed s) % 2 ^ w), .int 0]) (st.set sd (.sd (sput "random_seed" (.int (nextSeed s)) ls)))) :
    CALL o k st (.ref a_system_value_evaluate) [.tup [.str "sys", .int w, .str "$random", args], .obj ca c_Context cd] Q X := by
  refine call_fn ok_system_value_evaluate (by omega) (by simp) (by simp) fun L => ?_
  walk_at "w"
  refine ⟨.ref a_Context_next_random, meth_own hd hm (by rw [W.k]; rfl), by rw [W.k]; rfl, ?_⟩
  walk_at "w"
  refine next_random_ (by walk_at "n") hd hs hsd hr hb hz ?_
  walk_at "w"
  refine from_int_ (by walk_at "n") h1 ?_
  walk_at "w"
  exact ⟨_, St.le_refl _, h⟩

theorem St.swap {st : St} {a b : Addr} {m n : MO} (h : a ≠ b) : (st.set a m).set b n = (st.set b n).set a m := by
  funext x; unfold St.set
  by_cases q : x = b
  · subst q; simp [Ne.symm h]
  · simp [q]
/-- a list laid in an attribute; nobody asks for it later -/
theorem exs_list_attr {c : Cx} {loc : LocF} {b : St} {x dx C : Addr} {l : List (Str × V)} {sf nm : Str} {np ap lp pos : Pos} {es : List Stmt} {QF : Fl → LocF → St → Prop} {X : Exc → St → Prop} (hb : b dx = none) (hs : loc sf = some (.obj x C dx)) (hsd : (sf == ("__debug__" : Str)) = false) (hk : setOk o.K C nm = true) (hz : l.length ≤ 900)
    (h : ∀ a, b a = none → dx ≠ a → EXS o c loc (b.set dx (.sd (sput nm (.ptr a) l))) es QF X) : EXS o c loc (b.set dx (.sd l)) (.Assign [.Attribute (.Name sf np) nm ap] (.List [] lp) pos :: es) QF X := by
  refine exs_cons (ex_assign (fun _ => rfl) (fun _ => rfl) (fun _ => rfl) (ev_list (evs_nil ⟨by decide, fun a ha => ?_⟩)))
  have na := ne_of_set ha
  refine asg_attr (ev_name hs hsd (seta_own ((St.set_ne _ _ na).trans (St.set_same ..)) hk hz ?_))
  exact EXS.older (St.le_both (St.le_set (St.le_set (St.le_refl _) hb) (none_of_set ha))) (h a (none_of_set ha) na)
/-- the same, kept -/
theorem exs_list_attr_kept {c : Cx} {loc : LocF} {b : St} {x dx C : Addr} {l : List (Str × V)} {sf nm : Str} {np ap lp pos : Pos} {es : List Stmt} {QF : Fl → LocF → St → Prop} {X : Exc → St → Prop} (hb : b dx = none) (hs : loc sf = some (.obj x C dx)) (hsd : (sf == ("__debug__" : Str)) = false) (hk : setOk o.K C nm = true) (hz : l.length ≤ 900)
    (h : ∀ a, b a = none → dx ≠ a → EXS o c loc ((b.set a (.lst [])).set dx (.sd (sput nm (.ptr a) l))) es QF X) : EXS o c loc (b.set dx (.sd l)) (.Assign [.Attribute (.Name sf np) nm ap] (.List [] lp) pos :: es) QF X := by
  refine exs_cons (ex_assign (fun _ => rfl) (fun _ => rfl) (fun _ => rfl) (ev_list (evs_nil ⟨by decide, fun a ha => ?_⟩)))
  have na := ne_of_set ha
  refine asg_attr (ev_name hs hsd (seta_own ((St.set_ne _ _ na).trans (St.set_same ..)) hk hz ?_))
  have e : (((b.set dx (.sd l)).set a (.lst [])).set dx (.sd (sput nm (.ptr a) l))) = ((b.set a (.lst [])).set dx (.sd (sput nm (.ptr a) l))) := by rw [St.swap na, St.set_set]
  rw [e]
  exact h a (none_of_set ha) na
theorem exs_dict_attr {c : Cx} {loc : LocF} {b : St} {x dx C : Addr} {l : List (Str × V)} {sf nm : Str} {np ap lp pos : Pos} {es : List Stmt} {QF : Fl → LocF → St → Prop} {X : Exc → St → Prop} (hb : b dx = none) (hs : loc sf = some (.obj x C dx)) (hsd : (sf == ("__debug__" : Str)) = false) (hk : setOk o.K C nm = true) (hz : l.length ≤ 900)
    (h : ∀ a, b a = none → dx ≠ a → EXS o c loc (b.set dx (.sd (sput nm (.ptr a) l))) es QF X) : EXS o c loc (b.set dx (.sd l)) (.Assign [.Attribute (.Name sf np) nm ap] (.Dict [] [] lp) pos :: es) QF X := by
  refine exs_cons (ex_assign (fun _ => rfl) (fun _ => rfl) (fun _ => rfl) (ev_dict0 (fun a ha => ?_)))
  have na := ne_of_set ha
  refine asg_attr (ev_name hs hsd (seta_own ((St.set_ne _ _ na).trans (St.set_same ..)) hk hz ?_))
  exact EXS.older (St.le_both (St.le_set (St.le_set (St.le_refl _) hb) (none_of_set ha))) (h a (none_of_set ha) na)

theorem Design_ (hn : 2 ≤ k.n) (h : ∀ x dx sc l, st dx = none → st sc = none → dx ≠ sc → sget "add_scope" l = none → sget "scopes" l = some (.ptr sc) → l.length ≤ 20 → Q (.obj x c_Design dx) ((st.set sc (.lst [])).set dx (.sd l))) : CALL o k st (.ref c_Design) [] Q X := by
  refine (call_cls (fI := a_Design_init) (by rw [W.k]; rfl) (by rw [W.k]; rfl) (by rw [W.k]; rfl) (by omega) fun A' x dx hA hdx => ?_).call
  refine callc_fn ok_Design_init (by show 1 ≤ k.n - 1; omega) (by simp) (by simp) fun L => ?_
  refine exs_list_attr hdx (by rfl) (by rfl) (by rw [W.k]; rfl) (Nat.le_of_ble_eq_true (by rfl)) fun a1 _ _ => ?_
  refine exs_list_attr hdx (by rfl) (by rfl) (by rw [W.k]; rfl) (Nat.le_of_ble_eq_true (by rfl)) fun a2 _ _ => ?_
  refine exs_list_attr hdx (by rfl) (by rfl) (by rw [W.k]; rfl) (Nat.le_of_ble_eq_true (by rfl)) fun a3 _ _ => ?_
  refine exs_list_attr hdx (by rfl) (by rfl) (by rw [W.k]; rfl) (Nat.le_of_ble_eq_true (by rfl)) fun a4 _ _ => ?_
  refine exs_list_attr hdx (by rfl) (by rfl) (by rw [W.k]; rfl) (Nat.le_of_ble_eq_true (by rfl)) fun a5 _ _ => ?_
  refine exs_list_attr hdx (by rfl) (by rfl) (by rw [W.k]; rfl) (Nat.le_of_ble_eq_true (by rfl)) fun a6 _ _ => ?_
  refine exs_list_attr_kept hdx (by rfl) (by rfl) (by rw [W.k]; rfl) (Nat.le_of_ble_eq_true (by rfl)) fun sc hsc nsc => ?_
  have hd2 : (st.set sc (.lst [])) dx = none := (St.set_ne _ _ nsc).trans hdx
  refine exs_list_attr hd2 (by rfl) (by rfl) (by rw [W.k]; rfl) (Nat.le_of_ble_eq_true (by rfl)) fun a8 _ _ => ?_
  refine exs_list_attr hd2 (by rfl) (by rfl) (by rw [W.k]; rfl) (Nat.le_of_ble_eq_true (by rfl)) fun a9 _ _ => ?_
  walk_at "w"
  refine seta_own (St.set_same ..) (by rw [W.k]; rfl) (Nat.le_of_ble_eq_true (by rfl)) ?_
  rw [St.set_set]
  refine exs_dict_attr hd2 (by rfl) (by rfl) (by rw [W.k]; rfl) (Nat.le_of_ble_eq_true (by rfl)) fun a10 _ _ => ?_
  walk_at "w"
  exact ⟨_, St.le_refl _, rfl, h x dx sc _ hdx hsc nsc (by rfl) (by rfl) (Nat.le_of_ble_eq_true (by rfl))⟩

theorem add_scope_ {x dx sc : Addr} {l : List (Str × V)} {p : V} {xs : List V} (hn : 1 ≤ k.n) (hp : p.plain = true) (hd : st dx = some (.sd l)) (hs : sget "scopes" l = some (.ptr sc)) (hsc : st sc = some (.lst xs)) (hz : xs.length ≤ 60)
    (h : Q (.int xs.length) (st.set sc (.lst (xs ++ [p])))) : CALL o k st (.ref a_Design_add_scope) [.obj x c_Design dx, p] Q X := by
  refine call_fn ok_Design_add_scope (by omega) (by simp) (by simp [hp]) fun L => ?_
  walk_at "w"
  refine att_own hd hs (by rfl) (by rw [W.k]; rfl) ⟨_, meth_append hsc, by rw [W.k]; rfl, ?_⟩
  walk_at "w"
  refine call_append hsc (by have : sizeLine ≥ 60 := by decide
                             omega) ?_
  have n1 : dx ≠ sc := by rintro rfl; rw [hsc] at hd; cases hd
  walk_at "w"
  refine att_own ((St.set_ne _ _ n1).trans hd) hs (by rfl) (by rw [W.k]; rfl) ?_
  walk_at "w"
  refine call_len_lst (St.set_same ..) (by simp; omega) ?_
  walk_at "w"
  refine ⟨_, St.le_refl _, ?_⟩
  have e : ((xs ++ [p]).length : Int) - 1 = xs.length := by simp
  rw [e]; exact h
/-- a scope at the top -/
theorem Scope_ {nm kd : Str} {dz dd sc : Addr} {ld : List (Str × V)} (hn : 3 ≤ k.n) (hd : st dd = some (.sd ld)) (hsc : st sc = some (.lst [])) (hm : sget "add_scope" ld = none) (hs : sget "scopes" ld = some (.ptr sc))
    (h : ∀ x dx, Q (.obj x c_Scope dx) (st.set sc (.lst [.str nm]))) : CALL o k st (.ref c_Scope) [.obj dz c_Design dd, .str nm, .none, .str kd] Q X := by
  refine (call_cls (fI := a_Scope_init) (by rw [W.k]; rfl) (by rw [W.k]; rfl) (by rw [W.k]; rfl) (by omega) fun A' x dx hA hdx => ?_).call
  refine callc_fn ok_Scope_init (by show 1 ≤ k.n - 1; omega) (by simp) (by simp) fun L => ?_
  have n1 : dd ≠ dx := by rintro rfl; rw [hdx] at hd; cases hd
  have n2 : sc ≠ dx := by rintro rfl; rw [hdx] at hsc; cases hsc
  iterate 7
    walk_at "w"
    refine seta_own (St.set_same ..) (by rw [W.k]; rfl) (Nat.le_of_ble_eq_true (by rfl)) ?_
    rw [St.set_set]
  refine exs_dict_attr hdx (by rfl) (by rfl) (by rw [W.k]; rfl) (Nat.le_of_ble_eq_true (by rfl)) fun a10 _ _ => ?_
  walk_at "w"
  refine ⟨.ref a_Design_add_scope, meth_own ((St.set_ne _ _ n1).trans hd) hm (by rw [W.k]; rfl), by rw [W.k]; rfl, ?_⟩
  walk_at "w"
  refine att_own (St.set_same ..) (by rfl) (by rfl) (by rw [W.k]; rfl) ?_
  walk_at "w"
  refine add_scope_ (by show 1 ≤ k.n - 1 - 1; omega) (by rfl) ((St.set_ne _ _ n1).trans hd) hs ((St.set_ne _ _ n2).trans hsc) (by decide) ?_
  walk_at "w"
  refine seta_own ((St.set_ne _ _ (Ne.symm n2)).trans (St.set_same ..)) (by rw [W.k]; rfl) (Nat.le_of_ble_eq_true (by rfl)) ?_
  walk_at "w"
  refine ⟨_, ?_, rfl, h x dx⟩
  rw [St.swap (Ne.symm n2), St.set_set]
  exact St.le_set (St.le_refl _) ((St.set_ne _ _ (Ne.symm n2)).trans hdx)
end
-- text L3d
section
variable {o : Wo} [WO : WoOk o] [W : W3 o] {k : Kx} {st : St} {Q : V → St → Prop} {X : Exc → St → Prop}

theorem children_sys {w : Int} {nm : Str} {as : V} (hn : 1 ≤ k.n) (h : Q as st) : CALL o k st (.ref a_children) [.tup [.str "sys", .int w, .str nm, as]] Q X := by
  refine call_fn ok_children (by omega) (by simp) (by simp) fun L => ?_
  walk_at "w"
  walk_at "x"
  exact h
theorem folds_sys {w : Int} {nm : Str} {as : V} (hn : 1 ≤ k.n) (h : Q (.bool (nm == "$clog2")) st) : CALL o k st (.ref a_folds) [.tup [.str "sys", .int w, .str nm, as]] Q X := by
  refine call_fn ok_folds (by omega) (by simp) (by simp) fun L => ?_
  walk_at "w"
  walk_at "x"
  exact h
theorem folded_no {w : Int} {nm : Str} {as : V} (hn : 2 ≤ k.n) (hm : (nm == ("$clog2" : Str)) = false) (h : Q (.tup [.str "sys", .int w, .str nm, as]) st) : CALL o k st (.ref a_folded) [.tup [.str "sys", .int w, .str nm, as]] Q X := by
  refine call_fn ok_folded (by omega) (by simp) (by simp) fun L => ?_
  walk_at "w"
  refine folds_sys (by walk_at "n") ?_
  rw [hm]
  walk_at "w"
  walk_at "x"
  exact h
theorem folded_clog2 {w : Nat} {W' a b : Int} (hn : 6 ≤ k.n) (h1 : w ≤ 2 ^ 20) (h0 : a ≤ 2 ^ 64) (hX : b ≠ 0 → Q (.tup [.str "const", .int w, .int (2 ^ w - 1), .int (2 ^ w - 1)]) st)
    (h : ∀ m : Nat, b = 0 → m ≤ 64 → a ≤ 2 ^ m → (m = 0 ∨ (2 : Int) ^ (m - 1) < a) → Q (.tup [.str "const", .int w, .int ((m : Int) % 2 ^ w), .int 0]) st) :
    CALL o k st (.ref a_folded) [.tup [.str "sys", .int w, .str "$clog2", .tup [.tup [.str "const", .int W', .int a, .int b]]]] Q X := by
  refine call_fn ok_folded (by omega) (by simp) (by simp) fun L => ?_
  walk_at "w"
  refine folds_sys (by walk_at "n") ?_
  walk_at "w"
  refine ex_for (fun _ _ => rfl) ?_
  walk_at "w"
  refine children_sys (by walk_at "n") ?_
  refine forv_tup (fun i loc st' => st' = st ∧ (i = 0 → loc = LocF.binds [(Str.ofString "e", .tup [.str "sys", .int w, .str "$clog2", .tup [.tup [.str "const", .int W', .int a, .int b]]])] LocF.nil) ∧ (i = 1 → loc = (LocF.binds [(Str.ofString "e", .tup [.str "sys", .int w, .str "$clog2", .tup [.tup [.str "const", .int W', .int a, .int b]]])] LocF.nil).set (Str.ofString "part") (.tup [.str "const", .int W', .int a, .int b]))) ⟨rfl, fun _ => rfl, fun e => by cases e⟩ (fun i x loc st' hx hj => ?_) (fun loc st' hj => ?_)
  · cases i with
    | succ i => simp at hx
    | zero =>
      obtain ⟨rfl, hj, -⟩ := hj
      cases hj rfl
      have e : (V.tup [.str "const", .int W', .int a, .int b]) = x := Option.some.inj hx
      subst e
      walk_at "w"
      exact ⟨rfl, fun e => (by cases e), fun _ => rfl⟩
  obtain ⟨rfl, -, hj⟩ := hj
  cases hj rfl
  walk_at "w"
  intro a1 ha1
  walk_at "w"
  refine Store_ (by walk_at "n") fun x dx v m hdx => ?_
  walk_at "w"
  intro a2 ha2
  walk_at "w"
  refine Context0_ (by walk_at "n") fun y dy hdy => ?_
  walk_at "w"
  refine eval_sys (by walk_at "n") fun k' hk' => ?_
  have hk' : k'.n = k.n - 1 - 1 := hk'
  have L1 := none_of_set hdx
  have L2 := none_of_set (none_of_set ha2)
  have L3 := none_of_set (none_of_set (none_of_set hdy))
  refine sv_clog2 (by omega) h1 h0 (fun hb => ?_) (fun m hb m1 m2 m3 => ?_)
  · walk_at "w"
    exact ⟨_, St.le_set (St.le_set (St.le_set (St.le_set (St.le_refl st') ha1) L1) L2) L3, hX hb⟩
  · walk_at "w"
    exact ⟨_, St.le_set (St.le_set (St.le_set (St.le_set (St.le_refl st') ha1) L1) L2) L3, h m hb m1 m2 m3⟩

theorem widen_same {w : Int} {tg : Str} {p q : V} {sg : V} (hn : 1 ≤ k.n) (hp : p.plain = true) (hq : q.plain = true) (hsg : sg.plain = true) (h : Q (.tup [.str tg, .int w, p, q]) st) : CALL o k st (.ref a_widen) [.tup [.str tg, .int w, p, q], .int w, sg] Q X := by
  refine call_fn ok_widen (by omega) (by simp) (by simp [hsg]) fun L => ?_
  walk_at "w"
  walk_at "x"
  exact h
theorem expr_type_num {w a b p : Int} {s1 s2 : V} {scp : V} (hn : 1 ≤ k.n) (hs1 : s1.plain = true) (h : Q (.tup [.int w, s1]) st) : CALL o k st (.ref a_expr_type) [scp, .tup [.str "num", .int p, .tup [.int w, .int a, .int b], s1, s2]] Q X := by
  refine call_fn ok_expr_type (by omega) (by simp) (by simp) fun L => ?_
  walk_at "w"
  walk_at "x"
  exact h
theorem expr_type_sys {p : Int} {nm : Str} {as scp : V} (hn : 1 ≤ k.n) (h : ∀ k' : Kx, k'.n = k.n - 1 → CALL o k' st (.ref a_system_type) [scp, .tup [.str "sys", .int p, .str nm, as]] Q X) : CALL o k st (.ref a_expr_type) [scp, .tup [.str "sys", .int p, .str nm, as]] Q X := by
  refine call_fn ok_expr_type (by omega) (by simp) (by simp) fun L => ?_
  walk_at "w"
  exact CALL.mono (h _ rfl) (fun v s' q => ⟨s', St.le_refl _, q⟩) (fun v s' q => ⟨s', St.le_refl _, q⟩)
/-- what a system function's type is -/
noncomputable def sysType (nm : Str) (n : Nat) : Option (Int × Bool) :=
  if nm == ("$clog2" : Str) && n == 1 then some (32, true) else if nm == ("$random" : Str) && decide (n < 2) then some (32, true) else if nm == ("$stime" : Str) && n == 0 then some (32, false) else if (nm == ("$time" : Str) || nm == ("$realtime" : Str)) && n == 0 then some (64, false) else none
noncomputable def sysBad (nm : Str) : Str := if nm ∈ [("$clog2" : Str), "$random", "$stime", "$time", "$realtime", "$signed", "$unsigned"] then "wrong_arguments" else "unknown_function"

theorem DesignError_ {kd dt : V} {p : Int} (hn : 2 ≤ k.n) (hk : kd.plain = true) (hd : dt.plain = true) (h : ∀ x dx, st x = none → st dx = none → dx ≠ x → Q (.ptr x) ((st.set x (.exo c_DesignError (some dx))).set dx (.sd [("kind", kd), ("at", .int p), ("detail", dt)]))) : CALL o k st (.ref c_DesignError) [kd, .int p, dt] Q X := by
  refine (call_exc (fI := a_GateloomError_init) (by rw [W.k]; rfl) (by rw [W.k]; rfl) (by rw [W.k]; rfl) (by omega) (by simp only [List.length_cons, List.length_nil]; decide) fun A' x hA hx => ?_).call
  refine callc_fn ok_GateloomError_init (by show 1 ≤ k.n - 1; omega) (by simp) (by simp [hk, hd]) fun L => ?_
  walk_at "w"
  refine seta_exo_new (St.set_same ..) (by rw [W.k]; rfl) fun dx hdx nx => ?_
  rw [St.set_set]
  walk_at "w"
  refine seta_exo ((St.set_ne _ _ (Ne.symm nx)).trans (St.set_same ..)) (St.set_same ..) (by rw [W.k]; rfl) (Nat.le_of_ble_eq_true (by rfl)) ?_
  rw [St.set_set]
  walk_at "w"
  refine seta_exo ((St.set_ne _ _ (Ne.symm nx)).trans (St.set_same ..)) (St.set_same ..) (by rw [W.k]; rfl) (Nat.le_of_ble_eq_true (by rfl)) ?_
  rw [St.set_set]
  walk_at "w"
  exact ⟨_, St.le_refl _, rfl, h x dx hx (none_of_set hdx) nx⟩

theorem cls_DesignError (o : Wo) [W3 o] : makesXIn o.K c_DesignError = true ∧ typeIn o.K (.ref c_DesignError) = some (.type "type") := by
  refine ⟨by rw [W3.k]; rfl, by rw [W3.k]; rfl⟩
/-- the attributes of a refusal -/
noncomputable def due (kd : Str) (p : Int) (dt : V) : Exc := ⟨c_DesignError, [("kind", .str kd), ("at", .int p), ("detail", dt)]⟩

theorem st_clog2_1 {p : Int} {v1 scp : V} (hn : 1 ≤ k.n) (h : Q (.tup [.int 32, .bool true]) st) : CALL o k st (.ref a_system_type) [scp, .tup [.str "sys", .int p, .str "$clog2", .tup [v1]]] Q X := by
  refine call_fn ok_system_type (by omega) (by simp) (by simp) fun L => ?_
  walk_at "w"
  refine call_len_tup (by simp only [List.length_cons, List.length_nil]; decide) ?_
  walk_at "w"
  walk_at "x"
  exact h
theorem st_time_0 {p : Int} {scp : V} (hn : 1 ≤ k.n) (h : Q (.tup [.int 64, .bool false]) st) : CALL o k st (.ref a_system_type) [scp, .tup [.str "sys", .int p, .str "$time", .tup []]] Q X := by
  refine call_fn ok_system_type (by omega) (by simp) (by simp) fun L => ?_
  walk_at "w"
  refine call_len_tup (by simp only [List.length_cons, List.length_nil]; decide) ?_
  walk_at "w"
  walk_at "x"
  exact h
theorem st_stime_0 {p : Int} {scp : V} (hn : 1 ≤ k.n) (h : Q (.tup [.int 32, .bool false]) st) : CALL o k st (.ref a_system_type) [scp, .tup [.str "sys", .int p, .str "$stime", .tup []]] Q X := by
  refine call_fn ok_system_type (by omega) (by simp) (by simp) fun L => ?_
  walk_at "w"
  refine call_len_tup (by simp only [List.length_cons, List.length_nil]; decide) ?_
  walk_at "w"
  walk_at "x"
  exact h
theorem sb_clog2_0 {p : Int} {scp : V} (hn : 3 ≤ k.n) (h : X (due "wrong_arguments" p (.str "$clog2")) st) : CALL o k st (.ref a_system_type) [scp, .tup [.str "sys", .int p, .str "$clog2", .tup []]] Q X := by
  refine call_fn ok_system_type (by omega) (by simp) (by simp) fun L => ?_
  walk_at "w"
  refine call_len_tup (by simp only [List.length_cons, List.length_nil]; decide) ?_
  walk_at "w"
  refine ex_raise ?_
  walk_at "w"
  refine DesignError_ (by walk_at "n") (by rfl) (by rfl) fun x dx hx hdx nx => ?_
  have hc := cls_DesignError o
  refine ⟨x, c_DesignError, dx, _, _, rfl, (St.set_ne _ _ (Ne.symm nx)).trans (St.set_same ..), St.set_same .., hx, hdx, hc.1, hc.2, St.le_set (St.le_set (St.le_refl st) hx) hdx, hx, hdx, st, St.le_refl _, h⟩
theorem sb_clog2_2 {p : Int} {v1 v2 scp : V} (hn : 3 ≤ k.n) (h : X (due "wrong_arguments" p (.str "$clog2")) st) : CALL o k st (.ref a_system_type) [scp, .tup [.str "sys", .int p, .str "$clog2", .tup [v1, v2]]] Q X := by
  refine call_fn ok_system_type (by omega) (by simp) (by simp) fun L => ?_
  walk_at "w"
  refine call_len_tup (by simp only [List.length_cons, List.length_nil]; decide) ?_
  walk_at "w"
  refine ex_raise ?_
  walk_at "w"
  refine DesignError_ (by walk_at "n") (by rfl) (by rfl) fun x dx hx hdx nx => ?_
  have hc := cls_DesignError o
  refine ⟨x, c_DesignError, dx, _, _, rfl, (St.set_ne _ _ (Ne.symm nx)).trans (St.set_same ..), St.set_same .., hx, hdx, hc.1, hc.2, St.le_set (St.le_set (St.le_refl st) hx) hdx, hx, hdx, st, St.le_refl _, h⟩
theorem sb_time_1 {p : Int} {v1 scp : V} (hn : 3 ≤ k.n) (h : X (due "wrong_arguments" p (.str "$time")) st) : CALL o k st (.ref a_system_type) [scp, .tup [.str "sys", .int p, .str "$time", .tup [v1]]] Q X := by
  refine call_fn ok_system_type (by omega) (by simp) (by simp) fun L => ?_
  walk_at "w"
  refine call_len_tup (by simp only [List.length_cons, List.length_nil]; decide) ?_
  walk_at "w"
  refine ex_raise ?_
  walk_at "w"
  refine DesignError_ (by walk_at "n") (by rfl) (by rfl) fun x dx hx hdx nx => ?_
  have hc := cls_DesignError o
  refine ⟨x, c_DesignError, dx, _, _, rfl, (St.set_ne _ _ (Ne.symm nx)).trans (St.set_same ..), St.set_same .., hx, hdx, hc.1, hc.2, St.le_set (St.le_set (St.le_refl st) hx) hdx, hx, hdx, st, St.le_refl _, h⟩
theorem sb_stime_1 {p : Int} {v1 scp : V} (hn : 3 ≤ k.n) (h : X (due "wrong_arguments" p (.str "$stime")) st) : CALL o k st (.ref a_system_type) [scp, .tup [.str "sys", .int p, .str "$stime", .tup [v1]]] Q X := by
  refine call_fn ok_system_type (by omega) (by simp) (by simp) fun L => ?_
  walk_at "w"
  refine call_len_tup (by simp only [List.length_cons, List.length_nil]; decide) ?_
  walk_at "w"
  refine ex_raise ?_
  walk_at "w"
  refine DesignError_ (by walk_at "n") (by rfl) (by rfl) fun x dx hx hdx nx => ?_
  have hc := cls_DesignError o
  refine ⟨x, c_DesignError, dx, _, _, rfl, (St.set_ne _ _ (Ne.symm nx)).trans (St.set_same ..), St.set_same .., hx, hdx, hc.1, hc.2, St.le_set (St.le_set (St.le_refl st) hx) hdx, hx, hdx, st, St.le_refl _, h⟩
theorem sb_realtime_2 {p : Int} {v1 v2 scp : V} (hn : 3 ≤ k.n) (h : X (due "wrong_arguments" p (.str "$realtime")) st) : CALL o k st (.ref a_system_type) [scp, .tup [.str "sys", .int p, .str "$realtime", .tup [v1, v2]]] Q X := by
  refine call_fn ok_system_type (by omega) (by simp) (by simp) fun L => ?_
  walk_at "w"
  refine call_len_tup (by simp only [List.length_cons, List.length_nil]; decide) ?_
  walk_at "w"
  refine ex_raise ?_
  walk_at "w"
  refine DesignError_ (by walk_at "n") (by rfl) (by rfl) fun x dx hx hdx nx => ?_
  have hc := cls_DesignError o
  refine ⟨x, c_DesignError, dx, _, _, rfl, (St.set_ne _ _ (Ne.symm nx)).trans (St.set_same ..), St.set_same .., hx, hdx, hc.1, hc.2, St.le_set (St.le_set (St.le_refl st) hx) hdx, hx, hdx, st, St.le_refl _, h⟩
theorem sb_random_2 {p : Int} {v1 v2 scp : V} (hn : 3 ≤ k.n) (h : X (due "wrong_arguments" p (.str "$random")) st) : CALL o k st (.ref a_system_type) [scp, .tup [.str "sys", .int p, .str "$random", .tup [v1, v2]]] Q X := by
  refine call_fn ok_system_type (by omega) (by simp) (by simp) fun L => ?_
  walk_at "w"
  refine call_len_tup (by simp only [List.length_cons, List.length_nil]; decide) ?_
  walk_at "w"
  refine ex_raise ?_
  walk_at "w"
  refine DesignError_ (by walk_at "n") (by rfl) (by rfl) fun x dx hx hdx nx => ?_
  have hc := cls_DesignError o
  refine ⟨x, c_DesignError, dx, _, _, rfl, (St.set_ne _ _ (Ne.symm nx)).trans (St.set_same ..), St.set_same .., hx, hdx, hc.1, hc.2, St.le_set (St.le_set (St.le_refl st) hx) hdx, hx, hdx, st, St.le_refl _, h⟩
theorem sb_signed_0 {p : Int} {scp : V} (hn : 3 ≤ k.n) (h : X (due "wrong_arguments" p (.str "$signed")) st) : CALL o k st (.ref a_system_type) [scp, .tup [.str "sys", .int p, .str "$signed", .tup []]] Q X := by
  refine call_fn ok_system_type (by omega) (by simp) (by simp) fun L => ?_
  walk_at "w"
  refine call_len_tup (by simp only [List.length_cons, List.length_nil]; decide) ?_
  walk_at "w"
  refine ex_raise ?_
  walk_at "w"
  refine DesignError_ (by walk_at "n") (by rfl) (by rfl) fun x dx hx hdx nx => ?_
  have hc := cls_DesignError o
  refine ⟨x, c_DesignError, dx, _, _, rfl, (St.set_ne _ _ (Ne.symm nx)).trans (St.set_same ..), St.set_same .., hx, hdx, hc.1, hc.2, St.le_set (St.le_set (St.le_refl st) hx) hdx, hx, hdx, st, St.le_refl _, h⟩
theorem sb_unsigned_2 {p : Int} {v1 v2 scp : V} (hn : 3 ≤ k.n) (h : X (due "wrong_arguments" p (.str "$unsigned")) st) : CALL o k st (.ref a_system_type) [scp, .tup [.str "sys", .int p, .str "$unsigned", .tup [v1, v2]]] Q X := by
  refine call_fn ok_system_type (by omega) (by simp) (by simp) fun L => ?_
  walk_at "w"
  refine call_len_tup (by simp only [List.length_cons, List.length_nil]; decide) ?_
  walk_at "w"
  refine ex_raise ?_
  walk_at "w"
  refine DesignError_ (by walk_at "n") (by rfl) (by rfl) fun x dx hx hdx nx => ?_
  have hc := cls_DesignError o
  refine ⟨x, c_DesignError, dx, _, _, rfl, (St.set_ne _ _ (Ne.symm nx)).trans (St.set_same ..), St.set_same .., hx, hdx, hc.1, hc.2, St.le_set (St.le_set (St.le_refl st) hx) hdx, hx, hdx, st, St.le_refl _, h⟩
theorem sb_nothing_1 {p : Int} {v1 scp : V} (hn : 3 ≤ k.n) (h : X (due "unknown_function" p (.str "$nothing")) st) : CALL o k st (.ref a_system_type) [scp, .tup [.str "sys", .int p, .str "$nothing", .tup [v1]]] Q X := by
  refine call_fn ok_system_type (by omega) (by simp) (by simp) fun L => ?_
  walk_at "w"
  refine call_len_tup (by simp only [List.length_cons, List.length_nil]; decide) ?_
  walk_at "w"
  refine ex_raise ?_
  walk_at "w"
  refine DesignError_ (by walk_at "n") (by rfl) (by rfl) fun x dx hx hdx nx => ?_
  have hc := cls_DesignError o
  refine ⟨x, c_DesignError, dx, _, _, rfl, (St.set_ne _ _ (Ne.symm nx)).trans (St.set_same ..), St.set_same .., hx, hdx, hc.1, hc.2, St.le_set (St.le_set (St.le_refl st) hx) hdx, hx, hdx, st, St.le_refl _, h⟩
end
-- text L3e
section
variable {o : Wo} [WO : WoOk o] [W : W3 o] {k : Kx} {st : St} {Q : V → St → Prop} {X : Exc → St → Prop}

theorem forv_tup0 {c : Cx} {loc : LocF} {target : Expr} {body : List Stmt} {QF : Fl → LocF → St → Prop} (fin : QF .next loc st) : FORV o c loc st (.tup []) target body QF :=
  forv_tup (fun i l s => l = loc ∧ s = st) ⟨rfl, rfl⟩ (fun i x _ _ hx => by simp at hx) (by rintro _ _ ⟨rfl, rfl⟩; exact fin)
theorem forv_tup1 {c : Cx} {loc : LocF} {target : Expr} {body : List Stmt} {QF : Fl → LocF → St → Prop} {x : V} (h : ASG o c loc st target x (fun loc₁ st₁ => EXS o c loc₁ st₁ body (fun fl loc₂ st₂ => match fl with
        | .next | .cont => QF .next loc₂ st₂
        | .brk => QF .next loc₂ st₂
        | .ret v => QF (.ret v) loc₂ st₂) (fun _ _ => False)) (fun _ _ => False)) : FORV o c loc st (.tup [x]) target body QF := by
  refine forv_tup (fun i l s => match i with | 0 => l = loc ∧ s = st | 1 => QF .next l s | _ => False) ⟨rfl, rfl⟩ (fun i y l s hy hj => ?_) (fun l s hj => hj)
  cases i with
  | succ i => simp at hy
  | zero =>
    obtain ⟨rfl, rfl⟩ := hj
    have e : x = y := Option.some.inj hy
    subst e
    exact h

theorem build_num {w : Nat} {a b p : Int} {s' sg : Bool} {scp : V} (hn : 5 ≤ k.n) (h1 : w ≤ 2 ^ 20) (h : Q (.tup [.str "const", .int w, .int (a % 2 ^ w), .int (b % 2 ^ w)]) st) : CALL o k st (.ref a_build) [scp, .tup [.str "num", .int p, .tup [.int w, .int a, .int b], .bool s', .bool true], .int w, .bool sg] Q X := by
  refine call_fn ok_build (by omega) (by simp) (by simp) fun L => ?_
  walk_at "w"
  refine number_value_ (by walk_at "n") h1 ?_
  walk_at "w"
  walk_at "x"
  exact h
theorem sd_num {w : Nat} {a b p : Int} {s' : Bool} {scp : V} (hn : 6 ≤ k.n) (h1 : w ≤ 2 ^ 20) (h : Q (.tup [.tup [.str "const", .int w, .int (a % 2 ^ w), .int (b % 2 ^ w)], .bool s']) st) : CALL o k st (.ref a_self_determined) [scp, .tup [.str "num", .int p, .tup [.int w, .int a, .int b], .bool s', .bool true]] Q X := by
  refine call_fn ok_self_determined (by omega) (by simp) (by simp) fun L => ?_
  walk_at "w"
  refine expr_type_num (by walk_at "n") (by rfl) ?_
  walk_at "w"
  refine build_num (by walk_at "n") h1 ?_
  walk_at "w"
  walk_at "x"
  exact h
theorem se_time {p : Int} {scp : V} (hn : 4 ≤ k.n) (h : Q (.tup [.str "sys", .int 64, .str "$time", .tup []]) st) : CALL o k st (.ref a_system_value_elabexpr) [scp, .tup [.str "sys", .int p, .str "$time", .tup []]] Q X := by
  refine call_fn ok_system_value_elabexpr (by omega) (by simp) (by simp) fun L => ?_
  walk_at "w"
  refine st_time_0 (by walk_at "n") ?_
  walk_at "w"
  intro la hla
  walk_at "w"
  refine ex_for (fun _ _ => rfl) ?_
  walk_at "w"
  refine forv_tup0 ?_
  walk_at "w"
  refine call_tuple_lst (St.set_same ..) (by decide) ?_
  walk_at "w"
  refine folded_no (by walk_at "n") (by rfl) ?_
  walk_at "w"
  exact ⟨_, St.le_set (St.le_refl _) hla, h⟩
theorem se_stime {p : Int} {scp : V} (hn : 4 ≤ k.n) (h : Q (.tup [.str "sys", .int 32, .str "$stime", .tup []]) st) : CALL o k st (.ref a_system_value_elabexpr) [scp, .tup [.str "sys", .int p, .str "$stime", .tup []]] Q X := by
  refine call_fn ok_system_value_elabexpr (by omega) (by simp) (by simp) fun L => ?_
  walk_at "w"
  refine st_stime_0 (by walk_at "n") ?_
  walk_at "w"
  intro la hla
  walk_at "w"
  refine ex_for (fun _ _ => rfl) ?_
  walk_at "w"
  refine forv_tup0 ?_
  walk_at "w"
  refine call_tuple_lst (St.set_same ..) (by decide) ?_
  walk_at "w"
  refine folded_no (by walk_at "n") (by rfl) ?_
  walk_at "w"
  exact ⟨_, St.le_set (St.le_refl _) hla, h⟩
theorem se_clog2 {p p' : Int} {w : Nat} {a b : Int} {s' : Bool} {scp : V} (hn : 8 ≤ k.n) (h1 : w ≤ 2 ^ 20) (h0 : a % 2 ^ w ≤ 2 ^ 64) (hx : b % 2 ^ w ≠ 0 → Q (.tup [.str "const", .int 32, .int (2 ^ 32 - 1), .int (2 ^ 32 - 1)]) st)
    (h : ∀ m : Nat, b % 2 ^ w = 0 → m ≤ 64 → a % 2 ^ w ≤ 2 ^ m → (m = 0 ∨ (2 : Int) ^ (m - 1) < a % 2 ^ w) → Q (.tup [.str "const", .int 32, .int m, .int 0]) st) : CALL o k st (.ref a_system_value_elabexpr) [scp, .tup [.str "sys", .int p, .str "$clog2", .tup [.tup [.str "num", .int p', .tup [.int w, .int a, .int b], .bool s', .bool true]]]] Q X := by
  refine call_fn ok_system_value_elabexpr (by omega) (by simp) (by simp) fun L => ?_
  walk_at "w"
  refine st_clog2_1 (by walk_at "n") ?_
  walk_at "w"
  intro la hla
  walk_at "w"
  refine ex_for (fun _ _ => rfl) ?_
  walk_at "w"
  refine forv_tup1 ?_
  walk_at "w"
  refine ⟨_, meth_append (St.set_same ..), by rw [W.k]; rfl, ?_⟩
  walk_at "w"
  refine sd_num (by walk_at "n") h1 ?_
  walk_at "w"
  refine call_append (St.set_same ..) (by decide) ?_
  rw [St.set_set]
  walk_at "w"
  refine call_tuple_lst (St.set_same ..) (by simp only [List.length_append, List.length_cons, List.length_nil]; decide) ?_
  walk_at "w"
  refine folded_clog2 (w := 32) (by walk_at "n") (by decide) h0 (fun hb => ?_) (fun m hb m1 m2 m3 => ?_)
  · walk_at "w"
    exact ⟨_, St.le_set (St.le_refl _) hla, hx hb⟩
  · walk_at "w"
    have e : ((m : Int) % 2 ^ 32) = m := Int.emod_eq_of_lt (by omega) (by omega)
    exact ⟨_, St.le_set (St.le_refl _) hla, by rw [e]; exact h m hb m1 m2 m3⟩

theorem build_sys {w : Int} {p : Int} {nm : Str} {sg : Bool} {as scp : V} (hn : 1 ≤ k.n) (h : ∀ k' : Kx, k'.n = k.n - 1 → CALL o k' st (.ref a_system_value_elabexpr) [scp, .tup [.str "sys", .int p, .str nm, as]] (fun v st' => ∀ k' : Kx, k'.n = k.n - 1 → CALL o k' st' (.ref a_widen) [v, .int w, .bool sg] Q X) X) : CALL o k st (.ref a_build) [scp, .tup [.str "sys", .int p, .str nm, as], .int w, .bool sg] Q X := by
  refine call_fn ok_build (by omega) (by simp) (by simp) fun L => ?_
  walk_at "w"
  refine CALL.mono (h _ rfl) (fun v s' q => ?_) (fun v s' q => ⟨s', St.le_refl _, q⟩)
  walk_at "w"
  exact CALL.mono (q _ rfl) (fun v s' q => ⟨s', St.le_refl _, q⟩) (fun v s' q => ⟨s', St.le_refl _, q⟩)

theorem sd_time {p : Int} {scp : V} (hn : 6 ≤ k.n) (h : Q (.tup [.tup [.str "sys", .int 64, .str "$time", .tup []], .bool false]) st) : CALL o k st (.ref a_self_determined) [scp, .tup [.str "sys", .int p, .str "$time", .tup []]] Q X := by
  refine call_fn ok_self_determined (by omega) (by simp) (by simp) fun L => ?_
  walk_at "w"
  refine expr_type_sys (by walk_at "n") fun k1 e1 => st_time_0 (by rw [e1]; show _ ≤ k.n - 1 - 1; omega) ?_
  walk_at "w"
  refine build_sys (by walk_at "n") fun k1 e1 => se_time (by rw [e1]; show _ ≤ k.n - 1 - 1; omega) fun k1 e1 => ?_
  refine widen_same (by rw [e1]; show _ ≤ k.n - 1 - 1; omega) (by rfl) (by rfl) (by rfl) ?_
  walk_at "w"
  walk_at "x"
  exact h
theorem sd_stime {p : Int} {scp : V} (hn : 6 ≤ k.n) (h : Q (.tup [.tup [.str "sys", .int 32, .str "$stime", .tup []], .bool false]) st) : CALL o k st (.ref a_self_determined) [scp, .tup [.str "sys", .int p, .str "$stime", .tup []]] Q X := by
  refine call_fn ok_self_determined (by omega) (by simp) (by simp) fun L => ?_
  walk_at "w"
  refine expr_type_sys (by walk_at "n") fun k1 e1 => st_stime_0 (by rw [e1]; show _ ≤ k.n - 1 - 1; omega) ?_
  walk_at "w"
  refine build_sys (by walk_at "n") fun k1 e1 => se_stime (by rw [e1]; show _ ≤ k.n - 1 - 1; omega) fun k1 e1 => ?_
  refine widen_same (by rw [e1]; show _ ≤ k.n - 1 - 1; omega) (by rfl) (by rfl) (by rfl) ?_
  walk_at "w"
  walk_at "x"
  exact h
theorem sd_clog2 {p p' : Int} {w : Nat} {a b : Int} {s' : Bool} {scp : V} (hn : 10 ≤ k.n) (h1 : w ≤ 2 ^ 20) (h0 : a % 2 ^ w ≤ 2 ^ 64) (hx : b % 2 ^ w ≠ 0 → Q (.tup [.tup [.str "const", .int 32, .int (2 ^ 32 - 1), .int (2 ^ 32 - 1)], .bool true]) st)
    (h : ∀ m : Nat, b % 2 ^ w = 0 → m ≤ 64 → a % 2 ^ w ≤ 2 ^ m → (m = 0 ∨ (2 : Int) ^ (m - 1) < a % 2 ^ w) → Q (.tup [.tup [.str "const", .int 32, .int m, .int 0], .bool true]) st) : CALL o k st (.ref a_self_determined) [scp, .tup [.str "sys", .int p, .str "$clog2", .tup [.tup [.str "num", .int p', .tup [.int w, .int a, .int b], .bool s', .bool true]]]] Q X := by
  refine call_fn ok_self_determined (by omega) (by simp) (by simp) fun L => ?_
  walk_at "w"
  refine expr_type_sys (by walk_at "n") fun k1 e1 => st_clog2_1 (by rw [e1]; show _ ≤ k.n - 1 - 1; omega) ?_
  walk_at "w"
  refine build_sys (by walk_at "n") fun k1 e1 => se_clog2 (by rw [e1]; show _ ≤ k.n - 1 - 1; omega) h1 h0 (fun hb => ?_) (fun m hb m1 m2 m3 => ?_)
  · intro k1 e1
    refine widen_same (by rw [e1]; show _ ≤ k.n - 1 - 1; omega) (by rfl) (by rfl) (by rfl) ?_
    walk_at "w"
    walk_at "x"
    exact hx hb
  · intro k1 e1
    refine widen_same (by rw [e1]; show _ ≤ k.n - 1 - 1; omega) (by rfl) (by rfl) (by rfl) ?_
    walk_at "w"
    walk_at "x"
    exact h m hb m1 m2 m3
theorem sd_bad {p : Int} {nm : Str} {as scp : V} (hn : 2 ≤ k.n) (h : ∀ k' : Kx, k'.n = k.n - 2 → CALL o k' st (.ref a_system_type) [scp, .tup [.str "sys", .int p, .str nm, as]] (fun _ _ => False) X) : CALL o k st (.ref a_self_determined) [scp, .tup [.str "sys", .int p, .str nm, as]] Q X := by
  refine call_fn ok_self_determined (by omega) (by simp) (by simp) fun L => ?_
  walk_at "w"
  refine expr_type_sys (by walk_at "n") fun k1 e1 => ?_
  exact CALL.mono (h _ (by rw [e1]; rfl)) (fun v s' q => q.elim) (fun v s' q => ⟨s', St.le_refl _, q⟩)
end
-- text L3f
section
variable {o : Wo} [WO : WoOk o] [W : W3 o] {k : Kx} {st : St} {Q : V → St → Prop} {X : Exc → St → Prop}

theorem told_ {e cx scp : V} (hn : 1 ≤ k.n)
    (h : ∀ k' : Kx, k'.n = k.n - 1 → CALL o k' st (.ref a_self_determined) [scp, e] (fun v st1 => ∃ (tg : Str) (wd p q sg : V), wd.plain = true ∧ sg.plain = true ∧ p.plain = true ∧ q.plain = true ∧ v = .tup [.tup [.str tg, wd, p, q], sg] ∧ ∀ k' : Kx, k'.n = k.n - 1 → CALL o k' st1 (.ref a_evaluate) [.tup [.str tg, wd, p, q], cx] (fun r st2 => r.plain = true ∧ Q (.tup [wd, sg, r]) st2) X)
      (fun y st1 => ∃ kd p dt, y = due kd p dt ∧ Q (.str kd) st1)) : CALL o k st (.ref a__law_told) [scp, e, cx] Q X := by
  refine call_fn ok__law_told (by omega) (by simp) (by simp) fun L => ?_
  walk_at "w"
  refine ex_try_attr (T := "DesignError") (CT := c_DesignError) rfl rfl (by rfl) (mg3 (by rfl)) (by rfl) (by rw [W.k]; rfl) (by rw [W.k]; rfl) (by rfl) (by rfl) ?_
  walk_at "w"
  refine CALL.mono (h _ rfl) (fun v s' q => ?_) (fun y s' q => ?_)
  · obtain ⟨tg, wd, p, q', sg, h1, h2, h3, h4, rfl, q⟩ := q
    walk_at "w"
    refine CALL.mono (q _ rfl) (fun v s' q => ?_) (fun v s' q => ⟨s', St.le_refl _, q⟩)
    walk_at "w"
    exact ⟨_, St.le_refl _, q.2⟩
  · obtain ⟨kd, p, dt, rfl, q⟩ := q
    exact ⟨by rw [W.k]; rfl, by rw [W.k]; rfl, .str kd, by rfl, by rfl, _, St.le_refl _, q⟩
-- printed
theorem tb_clog2_0 {p : Int} {scp cx : V} (hn : 6 ≤ k.n) (h : Q (.str "wrong_arguments") st) : CALL o k st (.ref a__law_told) [scp, .tup [.str "sys", .int p, .str "$clog2", .tup []], cx] Q X :=
  told_ (by omega) fun k' e => sd_bad (by omega) fun k2 e2 => sb_clog2_0 (by omega) ⟨_, _, _, rfl, h⟩
theorem tb_clog2_2 {p : Int} {v1 v2 scp cx : V} (hn : 6 ≤ k.n) (h : Q (.str "wrong_arguments") st) : CALL o k st (.ref a__law_told) [scp, .tup [.str "sys", .int p, .str "$clog2", .tup [v1, v2]], cx] Q X :=
  told_ (by omega) fun k' e => sd_bad (by omega) fun k2 e2 => sb_clog2_2 (by omega) ⟨_, _, _, rfl, h⟩
theorem tb_time_1 {p : Int} {v1 scp cx : V} (hn : 6 ≤ k.n) (h : Q (.str "wrong_arguments") st) : CALL o k st (.ref a__law_told) [scp, .tup [.str "sys", .int p, .str "$time", .tup [v1]], cx] Q X :=
  told_ (by omega) fun k' e => sd_bad (by omega) fun k2 e2 => sb_time_1 (by omega) ⟨_, _, _, rfl, h⟩
theorem tb_stime_1 {p : Int} {v1 scp cx : V} (hn : 6 ≤ k.n) (h : Q (.str "wrong_arguments") st) : CALL o k st (.ref a__law_told) [scp, .tup [.str "sys", .int p, .str "$stime", .tup [v1]], cx] Q X :=
  told_ (by omega) fun k' e => sd_bad (by omega) fun k2 e2 => sb_stime_1 (by omega) ⟨_, _, _, rfl, h⟩
theorem tb_realtime_2 {p : Int} {v1 v2 scp cx : V} (hn : 6 ≤ k.n) (h : Q (.str "wrong_arguments") st) : CALL o k st (.ref a__law_told) [scp, .tup [.str "sys", .int p, .str "$realtime", .tup [v1, v2]], cx] Q X :=
  told_ (by omega) fun k' e => sd_bad (by omega) fun k2 e2 => sb_realtime_2 (by omega) ⟨_, _, _, rfl, h⟩
theorem tb_random_2 {p : Int} {v1 v2 scp cx : V} (hn : 6 ≤ k.n) (h : Q (.str "wrong_arguments") st) : CALL o k st (.ref a__law_told) [scp, .tup [.str "sys", .int p, .str "$random", .tup [v1, v2]], cx] Q X :=
  told_ (by omega) fun k' e => sd_bad (by omega) fun k2 e2 => sb_random_2 (by omega) ⟨_, _, _, rfl, h⟩
theorem tb_signed_0 {p : Int} {scp cx : V} (hn : 6 ≤ k.n) (h : Q (.str "wrong_arguments") st) : CALL o k st (.ref a__law_told) [scp, .tup [.str "sys", .int p, .str "$signed", .tup []], cx] Q X :=
  told_ (by omega) fun k' e => sd_bad (by omega) fun k2 e2 => sb_signed_0 (by omega) ⟨_, _, _, rfl, h⟩
theorem tb_unsigned_2 {p : Int} {v1 v2 scp cx : V} (hn : 6 ≤ k.n) (h : Q (.str "wrong_arguments") st) : CALL o k st (.ref a__law_told) [scp, .tup [.str "sys", .int p, .str "$unsigned", .tup [v1, v2]], cx] Q X :=
  told_ (by omega) fun k' e => sd_bad (by omega) fun k2 e2 => sb_unsigned_2 (by omega) ⟨_, _, _, rfl, h⟩
theorem tb_nothing_1 {p : Int} {v1 scp cx : V} (hn : 6 ≤ k.n) (h : Q (.str "unknown_function") st) : CALL o k st (.ref a__law_told) [scp, .tup [.str "sys", .int p, .str "$nothing", .tup [v1]], cx] Q X :=
  told_ (by omega) fun k' e => sd_bad (by omega) fun k2 e2 => sb_nothing_1 (by omega) ⟨_, _, _, rfl, h⟩
theorem told_time {p : Int} {scp : V} {ca cd : Addr} {l : List (Str × V)} {t : Int} (hn : 9 ≤ k.n) (hd : st cd = some (.sd l)) (ht : sget "now" l = some (.int t)) (h : Q (.tup [.int 64, .bool false, .tup [.int 64, .int (t % 2 ^ 64), .int 0]]) st) : CALL o k st (.ref a__law_told) [scp, .tup [.str "sys", .int p, .str "$time", .tup []], .obj ca c_Context cd] Q X :=
  told_ (by omega) fun k' e => sd_time (by omega) ⟨_, _, _, _, _, rfl, rfl, rfl, rfl, rfl, fun k' e => eval_sys (by omega) fun k2 e2 => sv_time (w := 64) (by omega) (by decide) hd ht (.inl rfl) ⟨rfl, h⟩⟩
theorem told_stime {p : Int} {scp : V} {ca cd : Addr} {l : List (Str × V)} {t : Int} (hn : 9 ≤ k.n) (hd : st cd = some (.sd l)) (ht : sget "now" l = some (.int t)) (h : Q (.tup [.int 32, .bool false, .tup [.int 32, .int (t % 2 ^ 32), .int 0]]) st) : CALL o k st (.ref a__law_told) [scp, .tup [.str "sys", .int p, .str "$stime", .tup []], .obj ca c_Context cd] Q X :=
  told_ (by omega) fun k' e => sd_stime (by omega) ⟨_, _, _, _, _, rfl, rfl, rfl, rfl, rfl, fun k' e => eval_sys (by omega) fun k2 e2 => sv_time (w := 32) (by omega) (by decide) hd ht (.inr (.inl rfl)) ⟨rfl, h⟩⟩
theorem told_clog2 {p p' : Int} {w : Nat} {a b : Int} {s' : Bool} {scp cx : V} (hn : 12 ≤ k.n) (h1 : w ≤ 2 ^ 20) (h0 : a % 2 ^ w ≤ 2 ^ 64) (hx : b % 2 ^ w ≠ 0 → Q (.tup [.int 32, .bool true, .tup [.int 32, .int (2 ^ 32 - 1), .int (2 ^ 32 - 1)]]) st)
    (h : ∀ m : Nat, b % 2 ^ w = 0 → m ≤ 64 → a % 2 ^ w ≤ 2 ^ m → (m = 0 ∨ (2 : Int) ^ (m - 1) < a % 2 ^ w) → Q (.tup [.int 32, .bool true, .tup [.int 32, .int m, .int 0]]) st) : CALL o k st (.ref a__law_told) [scp, .tup [.str "sys", .int p, .str "$clog2", .tup [.tup [.str "num", .int p', .tup [.int w, .int a, .int b], .bool s', .bool true]]], cx] Q X :=
  told_ (by omega) fun k' e => sd_clog2 (by omega) h1 h0 (fun hb => ⟨_, _, _, _, _, rfl, rfl, rfl, rfl, rfl, fun k' e => all_const (by omega) ⟨rfl, hx hb⟩⟩) fun m hb m1 m2 m3 => ⟨_, _, _, _, _, rfl, rfl, rfl, rfl, rfl, fun k' e => all_const (by omega) ⟨rfl, h m hb m1 m2 m3⟩⟩
end
-- text L3g
section
variable {o : Wo} [WO : WoOk o] [W : W3 o] {k : Kx} {st : St} {Q : V → St → Prop} {X : Exc → St → Prop}

theorem pys_ints : ∀ xs : List Int, V.pys (xs.map V.int) = some (xs.map PyData.int)
  | [] => rfl
  | x :: xs => by
    simp only [List.map_cons]
    unfold V.pys
    rw [pys_ints xs]
    rfl
theorem lay_ints : ∀ xs : List Int, PyData.canLayAll0 (xs.map PyData.int) = true
  | [] => by rfl
  | x :: xs => by simp only [List.map_cons, PyData.canLayAll0, lay_ints xs, PyData.canLay0, Bool.and_self]
/-- the numbers that a row may hold -/
noncomputable def RowOk (xs : List Int) : Prop := xs.length ≤ 160 ∧ ∀ n ∈ xs, 0 ≤ n ∧ n < 1024
theorem St.set_self {st : St} {a : Addr} {m : MO} (h : st a = some m) : st.set a m = st := by
  funext x; unfold St.set; split
  · rename_i e; subst e; exact h.symm
  · rfl

theorem law_next {r : Addr} {xs : List Int} (hn : 1 ≤ k.n) (hr : st r = some (.lst (xs.map V.int))) (hx : RowOk xs) (h : ∀ n ys, 0 ≤ n → n < 1024 → RowOk ys → Q (.int n) (st.set r (.lst (ys.map V.int)))) : CALL o k st (.ref a__law_next) [.ptr r] Q X := by
  refine call_fn ok__law_next (by omega) (by simp) (by simp) fun L => ?_
  walk_at "w"
  intro a ha
  have na : r ≠ a := by rintro rfl; rw [ha] at hr; cases hr
  have hr' : (st.set a (.lst [])) r = some (.lst (xs.map V.int)) := (St.set_ne _ _ na).trans hr
  refine cmp_ne_lst hr' (St.set_same ..) (pys_ints xs) (by rfl) (lay_ints xs) (by rfl) (Nat.le_trans (Nat.min_le_right _ _) (Nat.le_of_ble_eq_true (by rfl))) ?_
  walk_at "w"
  rcases List.eq_nil_or_concat xs with rfl | ⟨ys, x, rfl⟩
  · walk_at "w"
    refine ⟨_, St.le_set (St.le_refl _) ha, ?_⟩
    have := h 0 [] (by decide) (by decide) hx
    rw [St.set_self hr] at this
    exact this
  · have e : (!PyData.eqv (.list ((ys ++ [x]).map PyData.int)) (.list [])) = true := by
      cases ys <;> rfl
    rw [List.concat_eq_append] at hr' hx ⊢
    refine ite_t e ?_
    walk_at "w"
    rw [List.map_append] at hr'
    refine ⟨_, meth_pop hr', by rw [W.k]; rfl, ?_⟩
    walk_at "w"
    have hl : ys.length + 1 ≤ 160 := by simpa using hx.1
    have hz : sizeLine ≥ 160 := by decide
    refine call_pop (x := .int x) hr' (by simp; omega) ?_
    walk_at "w"
    have hm := hx.2 x (by simp)
    exact ⟨_, St.le_both (St.le_set (St.le_refl _) ha), h x ys hm.1 hm.2 ⟨by omega, fun n hn => hx.2 n (by simp [hn])⟩⟩

theorem slicePart_map {α β : Type} (f : α → β) (xs : List α) (lo hi : Option Int) : slicePart (xs.map f) lo hi = (slicePart xs lo hi).map f := by
  simp [slicePart, List.map_take, List.map_drop]
theorem slicePart_to {α : Type} (xs : List α) (n : Nat) : slicePart xs none (some (n : Int)) = xs.take n := by
  simp only [slicePart, Option.elim, Nat.sub_zero, List.drop_zero]
  have : clipAt xs.length (n : Int) = min n xs.length := by
    unfold clipAt; omega
  rw [this]
  rcases Nat.le_total n xs.length with h | h
  · rw [Nat.min_eq_left h]
  · rw [Nat.min_eq_right h, List.take_of_length_le h, List.take_of_length_le (Nat.le_refl _)]
noncomputable def RowG (n : Nat) (xs : List Int) : Prop := xs.length ≤ n ∧ ∀ m ∈ xs, 0 ≤ m ∧ m < 1024
theorem RowG.push {n : Nat} {xs : List Int} {m : Int} (h : RowG n xs) : RowG (n + 1) (xs ++ [m % 1024]) := by
  refine ⟨by simp; exact h.1, fun y hy => ?_⟩
  rcases List.mem_append.mp hy with q | q
  · exact h.2 y q
  · simp at q; subst q; omega
theorem RowG.mono {n n' : Nat} {xs : List Int} (h : RowG n xs) (hl : n ≤ n') : RowG n' xs := ⟨Nat.le_trans h.1 hl, h.2⟩


theorem law_row {sp : Addr} {xs : List Int} (hn : 1 ≤ k.n) (hs : KL o sp xs) (hx : xs.length ≤ 63) (h : ∀ r ys, st r = none → RowOk ys → Q (.ptr r) (st.set r (.lst (ys.map V.int)))) : CALL o k st (.ref a__law_row) [.ptr sp] Q X := by
  refine call_fn ok__law_row (by omega) (by simp) (by simp) fun L => ?_
  walk_at "w"
  intro r hr
  have hz : sizeLine ≥ 10000 := by decide
  walk_at "w"
  refine ex_for (fun _ _ => rfl) ?_
  walk_at "w"
  refine pt_none (pt_some ?_)
  walk_at "w"
  refine ⟨40, rfl, ?_⟩
  refine slv_klst hs (by omega) fun s2 hs2 => ?_
  have e40 : slicePart xs none (some 40) = xs.take 40 := slicePart_to xs 40
  rw [slicePart_map, e40]
  have n2 : r ≠ s2 := ne_of_set hs2
  rw [St.swap n2]
  refine forv_list (xs := (xs.take 40).map V.int) (fun i loc st' => loc (Str.ofString "row") = some (.ptr r) ∧ ∃ ys, RowG (31 * i) ys ∧ st' = (st.set s2 (.lst ((xs.take 40).map V.int))).set r (.lst (ys.map V.int))) (fun i loc st' hj => ?_) ⟨by rfl, [], ⟨by decide, by simp⟩, rfl⟩ (fun i x loc st' hx hj => ?_) (fun loc st' hj => ?_)
  · obtain ⟨_, ys, _, rfl⟩ := hj
    exact (St.set_ne _ _ (Ne.symm n2)).trans (St.set_same ..)
  · obtain ⟨hl, ys, hy, rfl⟩ := hj
    obtain ⟨c, hc, rfl⟩ : ∃ c, (xs.take 40)[i]? = some c ∧ x = .int c := by
      rw [List.getElem?_map] at hx
      cases e : (xs.take 40)[i]? with
      | none => rw [e] at hx; cases hx
      | some c => rw [e] at hx; exact ⟨c, rfl, (Option.some.inj hx).symm⟩
    have hi : i < 40 := by
      have := (List.getElem?_eq_some_iff.mp hc).1
      simp at this; omega
    walk_at "u"
    refine ite_c (fun _ => ?_) (fun _ => ?_)
    all_goals
      walk_at "u"
      refine ⟨_, meth_append (St.set_same ..), by rw [W.k]; rfl, ?_⟩
      walk_at "u"
      refine opb_mod (by decide) ?_
      rw [Int.fmod_eq_emod_of_nonneg _ (by decide)]
      walk_at "u"
      have hy1 := hy.1
      refine call_append (St.set_same ..) (by simp only [List.length_map]; omega) ?_
      rw [St.set_set]
      walk_at "u"
      refine opb_fdiv (by decide) (by decide +kernel) ?_
      walk_at "u"
      refine ex_for (fun _ _ => rfl) ?_
      walk_at "u"
      refine call_rng1 ?_
      rw [show ∀ q : Int, List.map V.int ys ++ [V.int q] = List.map V.int (ys ++ [q]) from fun q => by simp]
      refine forv_rng (fun j loc st' => loc (Str.ofString "row") = some (.ptr r) ∧ (∃ n, loc (Str.ofString "number") = some (.int n)) ∧ ∃ ys, RowG (31 * i + 1 + j) ys ∧ st' = (st.set s2 (.lst ((xs.take 40).map V.int))).set r (.lst (ys.map V.int))) (by decide) ⟨by assumption, ⟨_, by rfl⟩, _, hy.push, rfl⟩ (fun j x loc st' hx hj => ?_) (fun loc st' hj => ?_)
      · obtain ⟨hl, ⟨n, hnum⟩, ys, hy, rfl⟩ := hj
        have hj : j < 30 := by
          have := (List.getElem?_eq_some_iff.mp hx).1
          rw [rngV_length] at this; simpa using this
        walk_at "u"
        refine ite_c (fun _ => ?_) (fun _ => ?_)
        · walk_at "u"
          refine ⟨_, meth_append (St.set_same ..), by rw [W.k]; rfl, ?_⟩
          walk_at "u"
          refine opb_mod (by decide) ?_
          rw [Int.fmod_eq_emod_of_nonneg _ (by decide)]
          walk_at "u"
          have hy1 := hy.1
          refine call_append (St.set_same ..) (by simp only [List.length_map]; omega) ?_
          rw [St.set_set]
          walk_at "u"
          refine opb_fdiv (by decide) (by decide +kernel) ?_
          walk_at "u"
          refine ⟨by assumption, ⟨_, by rfl⟩, _, hy.push, by rw [List.map_append]; rfl⟩
        · walk_at "u"
          exact ⟨by assumption, ⟨n, by assumption⟩, ys, hy.mono (by omega), rfl⟩
      · obtain ⟨hl, _, ys, hy, rfl⟩ := hj
        walk_at "u"
        exact ⟨hl, ys, hy.mono (by simp; omega), rfl⟩
  · obtain ⟨hl, ys, hy, rfl⟩ := hj
    walk_at "u"
    refine pt_none (pt_some ?_)
    walk_at "u"
    refine ⟨160, rfl, ?_⟩
    have hy1 := hy.1
    have hl40 : (List.map V.int (List.take 40 xs)).length ≤ 40 := by simp; omega
    refine slv_lst (St.set_same ..) (by simp only [List.length_map] at *; omega) fun s3 hs3 => ?_
    have e160 : slicePart ys none (some 160) = ys.take 160 := slicePart_to ys 160
    rw [slicePart_map, e160]
    walk_at "u"
    refine ⟨_, meth_reverse (St.set_same ..), by rw [W.k]; rfl, ?_⟩
    walk_at "u"
    refine call_reverse (St.set_same ..) (by simp; omega) ?_
    rw [St.set_set, ← List.map_reverse]
    walk_at "u"
    have h1 := none_of_set hs3
    have h2 := none_of_set h1
    refine ⟨_, St.le_both (St.le_set (St.le_set (St.le_refl _) (none_of_set hs2)) hr), h s3 _ h2 ⟨?_, fun n hn => ?_⟩⟩
    · simp; omega
    · exact hy.2 n (List.mem_of_mem_take (List.mem_reverse.mp hn))
end
-- text L3h
section
variable {o : Wo} [WO : WoOk o] [W : W3 o] {k : Kx} {st : St} {Q : V → St → Prop} {X : Exc → St → Prop}

theorem law_bits {r : Addr} {xs : List Int} {wide : Nat} (hn : 2 ≤ k.n) (hr : st r = some (.lst (xs.map V.int))) (hx : RowOk xs) (hw : wide ≤ 100) (h : ∀ a (bs ys : List Int), st a = none → RowOk ys → bs.length = wide → (∀ b ∈ bs, (0 : Int) ≤ b ∧ b < 4) → Q (.ptr a) ((st.set r (.lst (ys.map V.int))).set a (.lst (bs.map V.int)))) : CALL o k st (.ref a__law_bits) [.ptr r, .int wide] Q X := by
  refine call_fn ok__law_bits (by omega) (by simp) (by simp) fun L => ?_
  walk_at "w"
  intro bl hb
  have nb : r ≠ bl := by rintro rfl; rw [hb] at hr; cases hr
  have hz : sizeLine ≥ 10000 := by decide
  walk_at "w"
  refine ex_for (fun _ _ => rfl) ?_
  walk_at "w"
  refine opb_fdiv (by decide) (by decide +kernel) ?_
  rw [Int.fdiv_eq_ediv_of_nonneg _ (by decide)]
  walk_at "w"
  refine call_rng1 ?_
  refine forv_rng (fun i loc st' => loc (Str.ofString "row") = some (.ptr r) ∧ loc (Str.ofString "bits") = some (.ptr bl) ∧ loc (Str.ofString "wide") = some (.int wide) ∧ ∃ ys bs : List Int, RowOk ys ∧ bs.length = 5 * i ∧ (∀ b ∈ bs, (0 : Int) ≤ b ∧ b < 4) ∧ st' = (st.set r (.lst (ys.map V.int))).set bl (.lst (bs.map V.int))) (by omega) ⟨by rfl, by rfl, by rfl, xs, [], hx, rfl, by simp, by rw [St.set_self hr]; rfl⟩ (fun i x loc st' hx hj => ?_) (fun loc st' hj => ?_)
  · obtain ⟨l1, l2, l3, ys, bs, hy, hbl, hb4, rfl⟩ := hj
    have hi : i < 21 := by
      have := (List.getElem?_eq_some_iff.mp hx).1
      rw [rngV_length] at this; omega
    walk_at "u"
    refine law_next (by walk_at "n") ((St.set_ne _ _ nb).trans (St.set_same ..)) hy fun n ys' n0 n1 hy' => ?_
    rw [St.swap (Ne.symm nb), St.set_set]
    walk_at "u"
    refine ex_for (fun _ _ => rfl) ?_
    walk_at "u"
    refine call_rng1 ?_
    refine forv_rng (fun j loc st' => loc (Str.ofString "row") = some (.ptr r) ∧ loc (Str.ofString "bits") = some (.ptr bl) ∧ loc (Str.ofString "wide") = some (.int wide) ∧ (∃ m, loc (Str.ofString "number") = some (.int m)) ∧ ∃ bs : List Int, bs.length = 5 * i + j ∧ (∀ b ∈ bs, (0 : Int) ≤ b ∧ b < 4) ∧ st' = (st.set r (.lst (ys'.map V.int))).set bl (.lst (bs.map V.int))) (by decide) ⟨by assumption, by assumption, by assumption, ⟨_, by rfl⟩, bs, hbl, hb4, rfl⟩ (fun j x loc st' hx hj => ?_) (fun loc st' hj => ?_)
    · obtain ⟨l1, l2, l3, ⟨m, hm⟩, bs, hbl, hb4, rfl⟩ := hj
      have hj : j < 5 := by
        have := (List.getElem?_eq_some_iff.mp hx).1
        rw [rngV_length] at this; simpa using this
      walk_at "u"
      refine ⟨_, meth_append (St.set_same ..), by rw [W.k]; rfl, ?_⟩
      walk_at "u"
      refine opb_mod (by decide) ?_
      rw [Int.fmod_eq_emod_of_nonneg _ (by decide)]
      walk_at "u"
      refine call_append (St.set_same ..) (by simp only [List.length_map]; omega) ?_
      rw [St.set_set]
      walk_at "u"
      refine opb_fdiv (by decide) (by decide +kernel) ?_
      walk_at "u"
      refine ⟨by assumption, by assumption, by assumption, ⟨_, by rfl⟩, bs ++ [m % 4], by simp; omega, fun b hb => ?_, by rw [List.map_append]; rfl⟩
      rcases List.mem_append.mp hb with q | q
      · exact hb4 b q
      · simp at q; subst q; omega
    · obtain ⟨l1, l2, l3, _, bs, hbl, hb4, rfl⟩ := hj
      walk_at "u"
      exact ⟨l1, l2, l3, ys', bs, hy', by simpa [Nat.mul_add] using hbl, hb4, rfl⟩
  · obtain ⟨l1, l2, l3, ys, bs, hy, hbl, hb4, rfl⟩ := hj
    walk_at "u"
    refine pt_none (pt_some ?_)
    walk_at "u"
    refine ⟨wide, rfl, ?_⟩
    have hl : bs.length ≤ 105 := by omega
    refine slv_lst (St.set_same ..) (by simp only [List.length_map]; omega) fun s3 hs3 => ?_
    have e160 : slicePart bs none (some (wide : Int)) = bs.take wide := slicePart_to bs wide
    rw [slicePart_map, e160]
    walk_at "u"
    have h1 := none_of_set hs3
    have h2 := none_of_set h1
    have n3 : r ≠ s3 := ne_of_set h1
    have n4 : bl ≠ s3 := ne_of_set hs3
    refine ⟨_, St.le_both (St.le_set (St.le_refl _) ((St.set_ne _ _ (Ne.symm nb)).trans hb)), h s3 _ ys h2 hy (by simp; omega) fun b hb => hb4 b (List.mem_of_mem_take hb)⟩
end
-- text L3i
section
variable {o : Wo} [WO : WoOk o] [W : W3 o] {k : Kx} {st : St} {Q : V → St → Prop} {X : Exc → St → Prop}

theorem law_made {a : Addr} {bs : List Int} (hn : 1 ≤ k.n) (ha : st a = some (.lst (bs.map V.int))) (hl : bs.length ≤ 100) (hb : ∀ b ∈ bs, (0 : Int) ≤ b ∧ b < 4) (h : ∀ low high : Int, 0 ≤ low → low < 2 ^ bs.length → 0 ≤ high → high < 2 ^ bs.length → Q (.tup [.int bs.length, .int low, .int high]) st) : CALL o k st (.ref a__law_made) [.ptr a] Q X := by
  refine call_fn ok__law_made (by omega) (by simp) (by simp) fun L => ?_
  walk_at "w"
  refine ex_for (fun _ _ => rfl) ?_
  walk_at "w"
  refine call_len_lst ha (by simp; omega) ?_
  walk_at "w"
  refine call_rng1 ?_
  refine forv_rng (fun i loc st' => loc (Str.ofString "bits") = some (.ptr a) ∧ (∃ low high : Int, loc (Str.ofString "low") = some (.int low) ∧ loc (Str.ofString "high") = some (.int high) ∧ 0 ≤ low ∧ low < 2 ^ i ∧ 0 ≤ high ∧ high < 2 ^ i) ∧ st' = st) (by simp; omega) ⟨by rfl, ⟨0, 0, by rfl, by rfl, by decide, by decide, by decide, by decide⟩, rfl⟩ (fun i x loc st' hx hj => ?_) (fun loc st' hj => ?_)
  · obtain ⟨l1, ⟨low, high, l2, l3, p1, p2, p3, p4⟩, rfl⟩ := hj
    obtain ⟨rfl, hi'⟩ := rngV_get hx
    have hi : i < bs.length := by simpa using hi'
    rw [Int.zero_add] at *
    have hg : (bs.map V.int)[(i : Int).toNat]? = some (.int bs[i]) := by simp [hi]
    have hm := hb bs[i] (List.getElem_mem ..)
    walk_at "u"
    refine sub_lst ha (by omega) (by omega) hg ?_
    walk_at "u"
    refine opb_mod (by decide) ?_
    rw [Int.fmod_eq_emod_of_nonneg _ (by decide)]
    walk_at "u"
    have q2 : (Builtin.Int.intBits 2 : Int) = 2 := by rfl
    refine opb_pow (by omega) (by rw [q2]; omega) ?_
    have r1 : bs[i] % 2 = 0 ∨ bs[i] % 2 = 1 := by omega
    have r2 : bs[i] / 2 = 0 ∨ bs[i] / 2 = 1 := by omega
    refine opb_mul (IntMulOk.of_left (by rcases r1 with e | e <;> rw [e] <;> decide)) ?_
    walk_at "u"
    refine sub_lst ha (by omega) (by omega) hg ?_
    walk_at "u"
    refine opb_fdiv (by decide) (by decide +kernel) ?_
    rw [Int.fdiv_eq_ediv_of_nonneg _ (by decide)]
    walk_at "u"
    refine opb_pow (by omega) (by rw [q2]; omega) ?_
    refine opb_mul (IntMulOk.of_left (by rcases r2 with e | e <;> rw [e] <;> decide)) ?_
    walk_at "u"
    have q3 : (2 : Int) ^ (i + 1) = 2 ^ i + 2 ^ i := by rw [Int.pow_succ]; omega
    rw [Int.toNat_natCast]
    refine ⟨by assumption, ⟨_, _, by rfl, by rfl, ?_, ?_, ?_, ?_⟩, rfl⟩ <;> rcases r1 with e | e <;> rcases r2 with e' | e' <;> (try rw [e]) <;> (try rw [e']) <;> omega
  · obtain ⟨l1, ⟨low, high, l2, l3, p1, p2, p3, p4⟩, rfl⟩ := hj
    walk_at "u"
    refine call_len_lst ha (by simp; omega) ?_
    walk_at "u"
    simp only [List.length_map, Int.sub_zero, Int.toNat_natCast] at p2 p4 ⊢
    exact ⟨_, St.le_refl _, h low high p1 p2 p3 p4⟩

theorem law_enough {n : Int} (hn : 1 ≤ k.n) (h0 : n ≤ 2 ^ 64) (h : ∀ m : Nat, m ≤ 64 → n ≤ 2 ^ m → (m = 0 ∨ (2 : Int) ^ (m - 1) < n) → Q (.int m) st) : CALL o k st (.ref a__law_enough) [.int n] Q X := by
  refine call_fn ok__law_enough (by omega) (by simp) (by simp) fun L => ?_
  walk_at "w"
  refine ex_while (fun m loc st' => st' = st ∧ ∃ i : Nat, m = 64 - i ∧ i ≤ 64 ∧ loc (Str.ofString "figure") = some (.int n) ∧ loc (Str.ofString "told") = some (.int (2 ^ i)) ∧ loc (Str.ofString "many") = some (.int i) ∧ (i = 0 ∨ (2 : Int) ^ (i - 1) < n)) 64 ⟨rfl, 0, rfl, by omega, by rfl, by rfl, by rfl, .inl rfl⟩ ?_
  rintro m loc st' ⟨rfl, i, rfl, hi, l1, l2, l3, hb⟩
  walk_at "u"
  refine ite_c (fun hc => ?_) fun hc => ?_
  · have hc : (2 : Int) ^ i < n := by simpa using hc
    have hlt : i < 64 := by
      rcases Nat.lt_or_ge i 64 with q | q
      · exact q
      · have : i = 64 := by omega
        subst this; omega
    walk_at "u"
    have q3 : (2 : Int) ^ (i + 1) = 2 ^ i + 2 ^ i := by rw [Int.pow_succ]; omega
    refine ⟨64 - (i + 1), by omega, rfl, i + 1, rfl, hlt, by assumption, ?_, ?_, .inr (by simpa using hc)⟩
    · rw [q3]; rfl
    · rfl
  · have hc : n ≤ (2 : Int) ^ i := by simpa using hc
    walk_at "u"
    exact ⟨_, St.le_refl _, h i hi hc hb⟩

theorem log2_pow {i : Nat} (h : i < 9000) : ((2 : Int) ^ i).natAbs.log2 < 9000 := by
  rw [Int.natAbs_pow]
  show (2 ^ i : Nat).log2 < 9000
  rw [Nat.log2_two_pow]; exact h
theorem law_value {r : Addr} {xs : List Int} (hn : 4 ≤ k.n) (hr : st r = some (.lst (xs.map V.int))) (hx : RowOk xs) (h : ∀ a (bs ys : List Int), st a = none → RowOk ys → 1 ≤ bs.length → bs.length ≤ 40 → (∀ b ∈ bs, (0 : Int) ≤ b ∧ b < 4) → Q (.ptr a) ((st.set r (.lst (ys.map V.int))).set a (.lst (bs.map V.int)))) : CALL o k st (.ref a__law_value) [.ptr r] Q X := by
  refine call_fn ok__law_value (by omega) (by simp) (by simp) fun L => ?_
  walk_at "w"
  refine law_next (by walk_at "n") hr hx fun n1 ys1 n10 n11 hy1 => ?_
  walk_at "w"
  refine opb_mod (by decide) ?_
  rw [Int.fmod_eq_emod_of_nonneg _ (by decide)]
  walk_at "w"
  refine ite_c (fun _ => ?_) fun _ => ?_
  · walk_at "w"
    refine law_next (by walk_at "n") (St.set_same ..) hy1 fun n2 ys2 n20 n21 hy2 => ?_
    rw [St.set_set]
    walk_at "w"
    refine opb_mod (by decide) ?_
    rw [Int.fmod_eq_emod_of_nonneg _ (by decide)]
    walk_at "w"
    obtain ⟨m, hm⟩ : ∃ m : Nat, 1 + n2 % 12 = m := ⟨(1 + n2 % 12).toNat, by omega⟩
    rw [hm]
    refine law_bits (by walk_at "n") (St.set_same ..) hy2 (by omega) fun a bs ys ha hy hl hb => ?_
    rw [St.set_set]
    walk_at "w"
    exact ⟨_, St.le_refl _, h a bs ys (none_of_set ha) hy (by omega) (by omega) hb⟩
  · walk_at "w"
    refine law_next (by walk_at "n") (St.set_same ..) hy1 fun n2 ys2 n20 n21 hy2 => ?_
    rw [St.set_set]
    walk_at "w"
    refine opb_mod (by decide) ?_
    rw [Int.fmod_eq_emod_of_nonneg _ (by decide)]
    walk_at "w"
    obtain ⟨m, hm⟩ : ∃ m : Nat, 1 + n2 % 40 = m := ⟨(1 + n2 % 40).toNat, by omega⟩
    rw [hm]
    have q2 : (Builtin.Int.intBits 2 : Int) = 2 := by rfl
    refine opb_pow (by omega) (by rw [q2]; omega) ?_
    walk_at "w"
    refine law_next (by walk_at "n") (St.set_same ..) hy2 fun n3 ys3 n30 n31 hy3 => ?_
    rw [St.set_set]
    walk_at "w"
    refine opb_mod (by decide) ?_
    rw [Int.fmod_eq_emod_of_nonneg _ (by decide)]
    walk_at "w"
    refine opb_pow (by omega) (by rw [q2]; omega) ?_
    have pp : (0 : Int) < 2 ^ m := Int.pow_pos (by decide)
    rw [Int.toNat_natCast]
    refine opb_mod (by omega) ?_
    rw [Int.fmod_eq_emod_of_nonneg _ (by omega)]
    generalize (2 ^ ((m : Int) - 1).toNat + n3 % 3 - 1) % 2 ^ m = fig
    walk_at "w"
    refine ite_c (fun _ => ?_) fun _ => ?_
    · walk_at "w"
      refine law_next (by walk_at "n") (St.set_same ..) hy3 fun n4 ys4 n40 n41 hy4 => ?_
      rw [St.set_set]
      walk_at "w"
      refine opb_pow (by omega) (by rw [q2]; omega) ?_
      rw [Int.toNat_natCast]
      refine opb_mod (by omega) ?_
      rw [Int.fmod_eq_emod_of_nonneg _ (by omega)]
      generalize n4 % 2 ^ m = fig'
      walk_at "w"
      refine ev_comp _ (fun _ _ => rfl) (by rfl) (by rfl) ?_
      walk_at "w"
      refine call_rng1 ?_
      refine compv_rng (fun i vs st' => st' = st.set r (.lst (ys4.map V.int)) ∧ ∃ bs : List Int, vs = bs.map V.int ∧ bs.length = i ∧ ∀ b ∈ bs, (0 : Int) ≤ b ∧ b < 4) (by omega) (by rfl) (by rfl) (Nat.le_trans (m := 1000) (by omega) (by decide)) ⟨rfl, [], rfl, rfl, by simp⟩ (fun i v ys st' D C hx hj hD => ?_) (fun ys st' D hj hl hD => ?_)
      · obtain ⟨rfl, bs, rfl, hl, hb⟩ := hj
        obtain ⟨rfl, hi⟩ := rngV_get hx
        have hi : i < m := by omega
        rw [Int.zero_add]
        walk_at "w"
        refine opb_pow (by omega) (by rw [q2]; omega) ?_
        rw [Int.toNat_natCast]
        refine opb_fdiv (Int.pow_ne_zero (by decide)) (log2_pow (by omega)) ?_
        walk_at "w"
        refine opb_mod (by decide) ?_
        rw [Int.fmod_eq_emod_of_nonneg _ (by decide)]
        refine ⟨_, rfl, hD, rfl, bs ++ [_], by rw [List.map_append]; rfl, by simp [hl], fun b hb' => ?_⟩
        rcases List.mem_append.mp hb' with q | q
        · exact hb b q
        · simp at q; subst q; omega
      · obtain ⟨rfl, bs, rfl, hl', hb⟩ := hj
        walk_at "w"
        exact ⟨_, St.le_refl _, h D bs ys4 (none_of_set hD) hy4 (by omega) (by omega) hb⟩
    · walk_at "w"
      refine ev_comp _ (fun _ _ => rfl) (by rfl) (by rfl) ?_
      walk_at "w"
      refine call_rng1 ?_
      refine compv_rng (fun i vs st' => st' = st.set r (.lst (ys3.map V.int)) ∧ ∃ bs : List Int, vs = bs.map V.int ∧ bs.length = i ∧ ∀ b ∈ bs, (0 : Int) ≤ b ∧ b < 4) (by omega) (by rfl) (by rfl) (Nat.le_trans (m := 1000) (by omega) (by decide)) ⟨rfl, [], rfl, rfl, by simp⟩ (fun i v ys st' D C hx hj hD => ?_) (fun ys st' D hj hl hD => ?_)
      · obtain ⟨rfl, bs, rfl, hl, hb⟩ := hj
        obtain ⟨rfl, hi⟩ := rngV_get hx
        have hi : i < m := by omega
        rw [Int.zero_add]
        walk_at "w"
        refine opb_pow (by omega) (by rw [q2]; omega) ?_
        rw [Int.toNat_natCast]
        refine opb_fdiv (Int.pow_ne_zero (by decide)) (log2_pow (by omega)) ?_
        walk_at "w"
        refine opb_mod (by decide) ?_
        rw [Int.fmod_eq_emod_of_nonneg _ (by decide)]
        refine ⟨_, rfl, hD, rfl, bs ++ [_], by rw [List.map_append]; rfl, by simp [hl], fun b hb' => ?_⟩
        rcases List.mem_append.mp hb' with q | q
        · exact hb b q
        · simp at q; subst q; omega
      · obtain ⟨rfl, bs, rfl, hl', hb⟩ := hj
        walk_at "w"
        exact ⟨_, St.le_refl _, h D bs ys3 (none_of_set hD) hy3 (by omega) (by omega) hb⟩
end
-- text L3j
section
variable {o : Wo} [WO : WoOk o] [W : W3 o] {k : Kx} {st : St} {Q : V → St → Prop} {X : Exc → St → Prop}

theorem St.keep {S : St} {a b : Addr} {m m' : MO} (h : S a = some m) (hb : S b = none) : (S.set b m') a = some m := by
  have : a ≠ b := by rintro rfl; rw [hb] at h; cases h
  rw [St.set_ne _ _ this]; exact h
theorem cmp_ne_same {a b : V} {d : PyData} (e : a = b) (ha : a.py = some d) (la : d.canLay0 = true) (hd : d.depth ≤ 30) (h : Q (.bool false) st) : CMP o k st .NotEq a b Q X := by
  subst e
  refine cmp_ne ha ha la la (Nat.le_trans (Nat.min_le_left _ _) hd) ?_
  rw [SeqAt.eqv_refl d la]; exact h

theorem fold_list {es : List Expr} {p : Pos} {env : Env} {x : Value} : foldedSetIterable (.List es p) env x = pure x := by unfold foldedSetIterable; rfl
theorem ex_forL {c : Cx} {loc : LocF} {QF : Fl → LocF → St → Prop} {target : Expr} {es : List Expr} {p : Pos} {body : List Stmt} {pos : Pos} (h : EV o c loc st (.List es p) (fun v st₁ => FORV o c loc st₁ v target body QF) X) : EX o c loc st (.For target (.List es p) body [] pos) QF X :=
  ex_for (fun _ _ => fold_list) h
noncomputable def calls6 : List (Str × Nat) := [("$clog2", 0), ("$clog2", 2), ("$time", 1), ("$stime", 1), ("$realtime", 2), ("$random", 2), ("$signed", 0), ("$unsigned", 2)]
theorem tb_6 {nm : Str} {m : Nat} (hm : (nm, m) ∈ calls6) {v : V} {p : Int} {scp cx : V} (hn : 6 ≤ k.n) (h : Q (.str "wrong_arguments") st) : CALL o k st (.ref a__law_told) [scp, .tup [.str "sys", .int p, .str nm, .tup (List.replicate m [v]).flatten], cx] Q X := by
  simp only [calls6, List.mem_cons, Prod.mk.injEq, List.not_mem_nil, or_false] at hm
  rcases hm with ⟨rfl, rfl⟩ | ⟨rfl, rfl⟩ | ⟨rfl, rfl⟩ | ⟨rfl, rfl⟩ | ⟨rfl, rfl⟩ | ⟨rfl, rfl⟩ | ⟨rfl, rfl⟩ | ⟨rfl, rfl⟩
  · exact tb_clog2_0 hn h
  · exact tb_clog2_2 hn h
  · exact tb_time_1 hn h
  · exact tb_stime_1 hn h
  · exact tb_realtime_2 hn h
  · exact tb_random_2 hn h
  · exact tb_signed_0 hn h
  · exact tb_unsigned_2 hn h
/-- the refusals -/
theorem law_p6 {loc : LocF} {S : St} {c : Cx} {n : Int} {low high : Int} {sg : Bool} {scp cx : V} {QF : Fl → LocF → St → Prop} {L : Addr} (hc : c = ⟨k.deep (callEnvC fd_law L a_law), callEnvC fd_law L a_law⟩) (hn : 20 ≤ k.n)
    (l1 : loc (Str.ofString "scope") = some scp) (l2 : loc (Str.ofString "ctx") = some cx) (l3 : loc (Str.ofString "number") = some (.tup [.str "num", .int 0, .tup [.int n, .int low, .int high], .bool sg, .bool true]))
    (h : ∀ loc' S', QF (.ret (.bool true)) loc' S') : EXS o c loc S (body_law.drop 17) QF X := by
  subst hc
  have hz : sizeLine ≥ 10000 := by decide
  walk_at "e"
  refine ex_forL ?_
  walk_at "u"
  intro la hla
  refine forv_list (xs := calls6.map fun p => .tup [.str p.1, .int p.2]) (fun i loc st' => st' la = some (.lst (calls6.map fun p => .tup [.str p.1, .int p.2])) ∧ loc (Str.ofString "scope") = some scp ∧ loc (Str.ofString "ctx") = some cx ∧ loc (Str.ofString "number") = some (.tup [.str "num", .int 0, .tup [.int n, .int low, .int high], .bool sg, .bool true])) (fun i loc st' hj => hj.1) ⟨St.set_same .., l1, l2, l3⟩ (fun i x loc st' hx hj => ?_) (fun loc st' hj => ?_)
  · obtain ⟨hs, l1, l2, l3⟩ := hj
    obtain ⟨nm, m, hm, rfl⟩ : ∃ nm m, (nm, m) ∈ calls6 ∧ x = .tup [.str nm, .int ((m : Nat) : Int)] := by
      rw [List.getElem?_map] at hx
      cases e : calls6[i]? with
      | none => rw [e] at hx; cases hx
      | some q => rw [e] at hx; exact ⟨q.1, q.2, List.mem_of_getElem? e, (Option.some.inj hx).symm⟩
    walk_at "u"
    have hm2 : m ≤ 2 := by
      simp only [calls6, List.mem_cons, Prod.mk.injEq, List.not_mem_nil, or_false] at hm
      omega
    refine opb_mul_tup (by omega) (by omega) (by simp) (by simp; omega) ?_
    rw [Int.toNat_natCast]
    walk_at "u"
    refine tb_6 hm (by walk_at "n") ?_
    walk_at "u"
    exact ⟨hs, by assumption, by assumption, by assumption⟩
  · obtain ⟨hs, l1, l2, l3⟩ := hj
    walk_at "u"
    refine tb_nothing_1 (by walk_at "n") ?_
    walk_at "u"
    exact h _ _

/-- what the world holds while the random numbers are drawn -/
structure Rnd (S : St) (sd cd : Addr) (s : Int) (t : Int) : Prop where
  st : ∃ ca, ∃ lc, S cd = some (.sd lc) ∧ sget "now" lc = some (.int t) ∧ sget "next_random" lc = none ∧ sget "store" lc = some (.obj ca c_Store sd)
  sd : ∃ ls, S sd = some (.sd ls) ∧ sget "random_seed" ls = some (.int s) ∧ ls.length ≤ 20 ∧ sget "now" ls = none
theorem Rnd.ne {S : St} {sd cd : Addr} {s t : Int} (h : Rnd S sd cd s t) : cd ≠ sd := by
  rintro rfl
  obtain ⟨ca, lc, h1, h2, _⟩ := h.st
  obtain ⟨ls, g1, _, _, g2⟩ := h.sd
  rw [h1] at g1; cases g1
  rw [h2] at g2; cases g2
theorem Rnd.keep {S : St} {sd cd : Addr} {s t : Int} (h : Rnd S sd cd s t) {a : Addr} {m : MO} (ha : S a = none) : Rnd (S.set a m) sd cd s t := by
  obtain ⟨⟨ca, lc, h1, h2⟩, ls, g1, g2⟩ := h
  exact ⟨⟨ca, lc, St.keep h1 ha, h2⟩, ls, St.keep g1 ha, g2⟩
theorem Rnd.keepL {S : St} {sd cd : Addr} {s t : Int} (h : Rnd S sd cd s t) {a : Addr} {m : MO} {xs : List V} (ha : S a = some (.lst xs)) : Rnd (S.set a m) sd cd s t := by
  obtain ⟨⟨ca, lc, h1, h2⟩, ls, g1, g2⟩ := h
  have n1 : cd ≠ a := by rintro rfl; rw [h1] at ha; cases ha
  have n2 : sd ≠ a := by rintro rfl; rw [g1] at ha; cases ha
  exact ⟨⟨ca, lc, (St.set_ne _ _ n1).trans h1, h2⟩, ls, (St.set_ne _ _ n2).trans g1, g2⟩
theorem Rnd.keepO {S : St} {sd cd sd' : Addr} {s t : Int} {l : List (Str × V)} (h : Rnd S sd cd s t) (n1 : sd ≠ sd') (n2 : cd ≠ sd') : Rnd (S.set sd' (.sd l)) sd cd s t := by
  obtain ⟨⟨ca, lc, h1, h2⟩, ls, g1, g2⟩ := h
  exact ⟨⟨ca, lc, (St.set_ne _ _ n2).trans h1, h2⟩, ls, (St.set_ne _ _ n1).trans g1, g2⟩
theorem sget_put {x : Str} {v : V} : ∀ {l : List (Str × V)}, sget x (sput x v l) = some v
  | [] => by simp [sput, sget]
  | (k, y) :: r => by
    unfold sput
    split
    · rename_i e; unfold sget; rw [if_pos e]
    · rename_i e; unfold sget; rw [if_neg e]; exact sget_put
theorem sget_put_ne {x y : Str} {v : V} (hne : (x == y) = false) : ∀ {l : List (Str × V)}, sget y (sput x v l) = sget y l
  | [] => by simp [sput, sget, hne]
  | (k, z) :: r => by
    unfold sput
    split
    · rename_i e
      have e : k = x := beq_iff_eq.mp e
      subst e
      simp [sget, hne]
    · unfold sget
      split
      · rfl
      · exact sget_put_ne hne
theorem sput_len_of {x : Str} {v w : V} : ∀ {l : List (Str × V)}, sget x l = some w → (sput x v l).length = l.length
  | [], h => by cases h
  | (k, y) :: r, h => by
    unfold sput
    split
    · rfl
    · rename_i e
      unfold sget at h
      rw [if_neg e] at h
      simp [sput_len_of h]
theorem Rnd.next {S : St} {sd cd : Addr} {s t s' : Int} (h : Rnd S sd cd s t) {ls : List (Str × V)} (g1 : S sd = some (.sd ls)) : Rnd (S.set sd (.sd (sput "random_seed" (.int s') ls))) sd cd s' t := by
  have ne := h.ne
  obtain ⟨⟨ca, lc, h1, h2⟩, ls', g1', g2, g3, g4⟩ := h
  rw [g1] at g1'; cases g1'
  exact ⟨⟨ca, lc, (St.set_ne _ _ ne).trans h1, h2⟩, _, St.set_same .., sget_put, by rw [sput_len_of g2]; exact g3, by rw [sget_put_ne (by decide +kernel)]; exact g4⟩

end
-- text L3k
section
variable {o : Wo} [WO : WoOk o] [W : W3 o] {k : Kx} {st : St} {Q : V → St → Prop} {X : Exc → St → Prop}

theorem law_p5 {loc : LocF} {S : St} {c : Cx} {n t : Int} {wd : Nat} {ys : List Int} {r sd cd ca : Addr} {low high : Int} {sg : Bool} {scp : V} {QF : Fl → LocF → St → Prop} {L : Addr} {rest : List Stmt} (hc : c = ⟨k.deep (callEnvC fd_law L a_law), callEnvC fd_law L a_law⟩) (hn : 20 ≤ k.n)
    (l1 : loc (Str.ofString "scope") = some scp) (l2 : loc (Str.ofString "ctx") = some (.obj ca c_Context cd)) (l3 : loc (Str.ofString "number") = some (.tup [.str "num", .int 0, .tup [.int n, .int low, .int high], .bool sg, .bool true]))
    (l4 : loc (Str.ofString "row") = some (.ptr r)) (l5 : loc (Str.ofString "wide") = some (.int wd)) (hw : wd ≤ 100) (f1 : S r = some (.lst (ys.map V.int))) (hy : RowOk ys) (hr : Rnd S sd cd 1 t)
    (next : ∀ loc' S', loc' (Str.ofString "scope") = some scp → loc' (Str.ofString "ctx") = some (.obj ca c_Context cd) → loc' (Str.ofString "number") = some (.tup [.str "num", .int 0, .tup [.int n, .int low, .int high], .bool sg, .bool true]) → EXS o c loc' S' rest QF X) : EXS o c loc S ((body_law.drop 14).take 3 ++ rest) QF X := by
  subst hc
  have hz : sizeLine ≥ 10000 := by decide
  walk_at "u"
  intro a1 ha1
  walk_at "u"
  have f1 := St.keep (m' := .lst []) f1 ha1
  have hr := hr.keep (m := .lst []) ha1
  generalize (S.set a1 (.lst [])) = S1 at f1 hr
  refine Store_ (by walk_at "n") fun sx sd2 sv sm hsd => ?_
  walk_at "u"
  intro a2 ha2
  walk_at "u"
  have e1 : sd2 ≠ sd := by rintro rfl; obtain ⟨_, _, g, _⟩ := hr; rw [hsd] at g; cases g
  have n2 : cd ≠ sd2 := by rintro rfl; obtain ⟨⟨_, _, g, _⟩, _⟩ := hr; rw [hsd] at g; cases g
  have f1 := St.keep (m' := .sd [("signals", .ptr a1), ("values", .ptr sv), ("memories", .ptr sm), ("random_seed", .int 1)]) f1 hsd
  have hr := hr.keep (m := .sd [("signals", .ptr a1), ("values", .ptr sv), ("memories", .ptr sm), ("random_seed", .int 1)]) hsd
  have g0 : (S1.set sd2 (.sd [("signals", .ptr a1), ("values", .ptr sv), ("memories", .ptr sm), ("random_seed", .int 1)])) sd2 = some (.sd [("signals", .ptr a1), ("values", .ptr sv), ("memories", .ptr sm), ("random_seed", .int 1)]) := St.set_same ..
  generalize (S1.set sd2 (.sd [("signals", .ptr a1), ("values", .ptr sv), ("memories", .ptr sm), ("random_seed", .int 1)])) = S2 at *
  have f1 := St.keep (m' := .lst []) f1 ha2
  have hr := hr.keep (m := .lst []) ha2
  have g0 := St.keep (m' := .lst []) g0 ha2
  generalize (S2.set a2 (.lst [])) = S3 at *
  refine Context0_ (by walk_at "n") fun cx2 cd2 hcd2 => ?_
  walk_at "u"
  have n3 : cd2 ≠ sd := by rintro rfl; obtain ⟨_, _, g, _⟩ := hr; rw [hcd2] at g; cases g
  have hr := hr.keep (m := .sd [("store", .obj sx c_Store sd2), ("frame", .ptr a2), ("now", .int 0)]) hcd2
  have f1 := St.keep (m' := .sd [("store", .obj sx c_Store sd2), ("frame", .ptr a2), ("now", .int 0)]) f1 hcd2
  have g0 := St.keep (m' := .sd [("store", .obj sx c_Store sd2), ("frame", .ptr a2), ("now", .int 0)]) g0 hcd2
  have hr2 : Rnd (S3.set cd2 (.sd [("store", .obj sx c_Store sd2), ("frame", .ptr a2), ("now", .int 0)])) sd2 cd2 1 0 := ⟨⟨sx, _, St.set_same .., by rfl, by rfl, by rfl⟩, _, g0, by rfl, by simp, by rfl⟩
  generalize (S3.set cd2 (.sd [("store", .obj sx c_Store sd2), ("frame", .ptr a2), ("now", .int 0)])) = S4 at *
  clear hcd2 ha2 g0 ha1 hsd
  refine ex_for (fun _ _ => rfl) ?_
  walk_at "u"
  refine law_next (by walk_at "n") f1 hy fun n1 ys1 n10 n11 hy1 => ?_
  walk_at "u"
  refine opb_mod (by decide) ?_
  rw [Int.fmod_eq_emod_of_nonneg _ (by decide)]
  walk_at "u"
  refine call_rng1 ?_
  have hr := hr.keepL (m := .lst (ys1.map V.int)) f1
  have hr2 := hr2.keepL (m := .lst (ys1.map V.int)) f1
  generalize S4.set r (.lst (ys1.map V.int)) = S5 at *
  refine forv_rng (fun i loc st' => loc (Str.ofString "scope") = some scp ∧ loc (Str.ofString "ctx") = some (.obj ca c_Context cd) ∧ loc (Str.ofString "number") = some (.tup [.str "num", .int 0, .tup [.int n, .int low, .int high], .bool sg, .bool true]) ∧ loc (Str.ofString "wide") = some (.int wd) ∧ loc (Str.ofString "other") = some (.obj cx2 c_Context cd2) ∧ ∃ s : Int, 0 ≤ s ∧ s < 2 ^ 32 ∧ loc (Str.ofString "seed") = some (.int s) ∧ Rnd st' sd cd s t ∧ Rnd st' sd2 cd2 s 0) (by omega) ⟨by assumption, by assumption, by assumption, by assumption, by rfl, 1, by decide, by decide, by rfl, hr, hr2⟩ (fun i x loc st' hx hj => ?_) (fun loc st' hj => ?_)
  · clear hr hr2 l1 l2 l3 l4 l5
    obtain ⟨l1, l2, l3, l4, l5, s, s0, s1, l6, hr, hr2⟩ := hj
    walk_at "u"
    refine opb_mul (IntMulOk.of_left (by decide)) ?_
    walk_at "u"
    have q2 : (Builtin.Int.intBits 2 : Int) = 2 := by rfl
    refine opb_pow (by decide) (by rw [q2]; decide) ?_
    refine opb_mod (by decide) ?_
    rw [Int.fmod_eq_emod_of_nonneg _ (by decide), show (69069 * s + 1) % (2 : Int) ^ (32 : Int).toNat = nextSeed s by rfl]
    walk_at "u"
    refine opb_pow (by decide) (by rw [q2]; decide) ?_
    walk_at "u"
    have hs0 : 0 ≤ nextSeed s := by unfold nextSeed; omega
    have hs1 : nextSeed s < 2 ^ 32 := by unfold nextSeed; omega
    refine ite_c (fun hb => ?_) fun hb => ?_
    · have hb' : 2147483648 ≤ nextSeed s := by simpa using hb
      have ef : (if nextSeed s ≥ 2147483648 then nextSeed s - 4294967296 else nextSeed s) = nextSeed s - 2 ^ (32 : Int).toNat := by rw [if_pos hb']; rfl
      walk_at "u"
      refine opb_pow (by decide) (by rw [q2]; decide) ?_
      walk_at "u"
      refine eval_sys (by walk_at "n") fun k' hk' => ?_
      obtain ⟨⟨xa, lc, h1, h2, h3, h4⟩, ls, g1, g2, g3, g4⟩ := id hr
      obtain ⟨⟨xa2, lc2, h12, h22, h32, h42⟩, ls2, g12, g22, g32, g42⟩ := id hr2
      refine sv_random (by rw [hk']; show _ ≤ _ - 1 - 1; omega) (by omega) h1 h3 h4 g1 g2 ⟨s0, s1⟩ (by omega) ?_
      have g12 := (St.set_ne st' (.sd (sput "random_seed" (.int (nextSeed s)) ls)) e1).trans g12
      have h12 := (St.set_ne st' (.sd (sput "random_seed" (.int (nextSeed s)) ls)) n3).trans h12
      have hr := hr.next (s' := nextSeed s) g1
      have hr2 := hr2.keepO (l := sput "random_seed" (.int (nextSeed s)) ls) e1 n3
      generalize (st'.set sd (.sd (sput "random_seed" (.int (nextSeed s)) ls))) = st2 at *
      walk_at "u"
      refine opb_pow (by omega) (by rw [q2]; omega) ?_
      rw [Int.toNat_natCast]
      have pp : (0 : Int) < 2 ^ wd := Int.pow_pos (by decide)
      refine opb_mod (by omega) ?_
      rw [Int.fmod_eq_emod_of_nonneg _ (by omega), ef]
      walk_at "u"
      refine cmp_ne_same rfl (by rfl) (by rfl) (Nat.le_of_ble_eq_true (by rfl)) ?_
      walk_at "u"
      refine ⟨.ref a_Context_next_random, meth_own h12 h32 (by rw [W.k]; rfl), by rw [W.k]; rfl, ?_⟩
      walk_at "u"
      refine next_random_ (by walk_at "n") h12 h42 g12 g22 ⟨s0, s1⟩ (by omega) ?_
      rw [ef]
      have hr := hr.keepO (l := sput "random_seed" (.int (nextSeed s)) ls2) (Ne.symm e1) n2
      have hr2 := hr2.next (s' := nextSeed s) g12
      walk_at "u"
      refine ite_f (by simp) ?_
      walk_at "u"
      exact ⟨by assumption, by assumption, by assumption, by assumption, by assumption, nextSeed s, hs0, hs1, by rfl, hr, hr2⟩
    · have hb' : ¬ 2147483648 ≤ nextSeed s := by simpa using hb
      have ef : (if nextSeed s ≥ 2147483648 then nextSeed s - 4294967296 else nextSeed s) = nextSeed s := by rw [if_neg hb']
      walk_at "u"
      refine eval_sys (by walk_at "n") fun k' hk' => ?_
      obtain ⟨⟨xa, lc, h1, h2, h3, h4⟩, ls, g1, g2, g3, g4⟩ := id hr
      obtain ⟨⟨xa2, lc2, h12, h22, h32, h42⟩, ls2, g12, g22, g32, g42⟩ := id hr2
      refine sv_random (by rw [hk']; show _ ≤ _ - 1 - 1; omega) (by omega) h1 h3 h4 g1 g2 ⟨s0, s1⟩ (by omega) ?_
      have g12 := (St.set_ne st' (.sd (sput "random_seed" (.int (nextSeed s)) ls)) e1).trans g12
      have h12 := (St.set_ne st' (.sd (sput "random_seed" (.int (nextSeed s)) ls)) n3).trans h12
      have hr := hr.next (s' := nextSeed s) g1
      have hr2 := hr2.keepO (l := sput "random_seed" (.int (nextSeed s)) ls) e1 n3
      generalize (st'.set sd (.sd (sput "random_seed" (.int (nextSeed s)) ls))) = st2 at *
      walk_at "u"
      refine opb_pow (by omega) (by rw [q2]; omega) ?_
      rw [Int.toNat_natCast]
      have pp : (0 : Int) < 2 ^ wd := Int.pow_pos (by decide)
      refine opb_mod (by omega) ?_
      rw [Int.fmod_eq_emod_of_nonneg _ (by omega), ef]
      walk_at "u"
      refine cmp_ne_same rfl (by rfl) (by rfl) (Nat.le_of_ble_eq_true (by rfl)) ?_
      walk_at "u"
      refine ⟨.ref a_Context_next_random, meth_own h12 h32 (by rw [W.k]; rfl), by rw [W.k]; rfl, ?_⟩
      walk_at "u"
      refine next_random_ (by walk_at "n") h12 h42 g12 g22 ⟨s0, s1⟩ (by omega) ?_
      rw [ef]
      have hr := hr.keepO (l := sput "random_seed" (.int (nextSeed s)) ls2) (Ne.symm e1) n2
      have hr2 := hr2.next (s' := nextSeed s) g12
      walk_at "u"
      refine ite_f (by simp) ?_
      walk_at "u"
      exact ⟨by assumption, by assumption, by assumption, by assumption, by assumption, nextSeed s, hs0, hs1, by rfl, hr, hr2⟩
  · obtain ⟨l1, l2, l3, l4, l5, s, s0, s1, l6, hr, hr2⟩ := hj
    walk_at "u"
    exact next _ _ l1 l2 l3
end
-- text L3l
section
variable {o : Wo} [WO : WoOk o] [W : W3 o] {k : Kx} {st : St} {Q : V → St → Prop} {X : Exc → St → Prop}

theorem clog2_uniq {n : Int} {a b : Nat} (h1 : n ≤ 2 ^ a) (h2 : a = 0 ∨ (2 : Int) ^ (a - 1) < n) (h3 : n ≤ 2 ^ b) (h4 : b = 0 ∨ (2 : Int) ^ (b - 1) < n) : a = b := by
  have key : ∀ {a b : Nat}, n ≤ 2 ^ a → (b = 0 ∨ (2 : Int) ^ (b - 1) < n) → ¬ a < b := by
    intro a b h1 h4 hlt
    rcases h4 with h4 | h4
    · omega
    · have : (2 : Int) ^ a ≤ 2 ^ (b - 1) := by
        have : (2 : Nat) ^ a ≤ 2 ^ (b - 1) := Nat.pow_le_pow_right (by decide) (by omega)
        exact_mod_cast this
      omega
  have := key h1 h4
  have := key h3 h2
  omega
/-- what is due of $clog2 -/
structure Due (low high d1 d2 : Int) : Prop where
  x : high ≠ 0 → d1 = 2 ^ 32 - 1 ∧ d2 = 2 ^ 32 - 1
  n : high = 0 → d2 = 0 ∧ ∃ m : Nat, d1 = m ∧ low ≤ 2 ^ m ∧ (m = 0 ∨ (2 : Int) ^ (m - 1) < low)
theorem told_due {p p' : Int} {n : Nat} {low high d1 d2 : Int} {s' : Bool} {scp cx : V} (hn : 12 ≤ k.n) (h1 : n ≤ 2 ^ 20) (h0 : low ≤ 2 ^ 64) (em : low % 2 ^ n = low) (eh : high % 2 ^ n = high) (d : Due low high d1 d2)
    (h : Q (.tup [.int 32, .bool true, .tup [.int 32, .int d1, .int d2]]) st) : CALL o k st (.ref a__law_told) [scp, .tup [.str "sys", .int p, .str "$clog2", .tup [.tup [.str "num", .int p', .tup [.int n, .int low, .int high], .bool s', .bool true]]], cx] Q X := by
  refine told_clog2 hn h1 (by rw [em]; exact h0) (fun hx => ?_) (fun m hx m1 m2 m3 => ?_)
  · rw [eh] at hx
    obtain ⟨e1, e2⟩ := d.x hx
    subst e1 e2; exact h
  · rw [eh] at hx
    rw [em] at m2 m3
    obtain ⟨e1, m', e2, e3, e4⟩ := d.n hx
    obtain rfl := clog2_uniq m2 m3 e3 e4
    subst e1 e2; exact h
theorem sv_due {n : Nat} {low high d1 d2 : Int} {cx : V} (hn : 4 ≤ k.n) (h0 : low ≤ 2 ^ 64) (d : Due low high d1 d2)
    (h : Q (.tup [.int (9 : Nat), .int (d1 % 512), .int (d2 % 512)]) st) : CALL o k st (.ref a_system_value_evaluate) [.tup [.str "sys", .int (9 : Nat), .str "$clog2", .tup [.tup [.str "const", .int n, .int low, .int high]]], cx] Q X := by
  refine sv_clog2 hn (by decide) h0 (fun hx => ?_) (fun m hx m1 m2 m3 => ?_)
  · obtain ⟨e1, e2⟩ := d.x hx
    subst e1 e2; exact h
  · obtain ⟨e1, m', e2, e3, e4⟩ := d.n hx
    obtain rfl := clog2_uniq m2 m3 e3 e4
    subst e1 e2; exact h
theorem law_p4 {loc : LocF} {S : St} {c : Cx} {t : Int} {wd n : Nat} {cd ca : Addr} {low high d1 d2 : Int} {sg : Bool} {scp : V} {QF : Fl → LocF → St → Prop} {L : Addr} {rest : List Stmt} {lc : List (Str × V)} (hc : c = ⟨k.deep (callEnvC fd_law L a_law), callEnvC fd_law L a_law⟩) (hn : 20 ≤ k.n)
    (l1 : loc (Str.ofString "scope") = some scp) (l2 : loc (Str.ofString "ctx") = some (.obj ca c_Context cd)) (l3 : loc (Str.ofString "number") = some (.tup [.str "num", .int 0, .tup [.int n, .int low, .int high], .bool sg, .bool true]))
    (l4 : loc (Str.ofString "wide") = some (.int wd)) (l5 : loc (Str.ofString "now") = some (.int t)) (l6 : loc (Str.ofString "v") = some (.tup [.int n, .int low, .int high])) (l7 : loc (Str.ofString "due") = some (.tup [.int 32, .int d1, .int d2]))
    (hw : wd ≤ 100) (hcd : S cd = some (.sd lc)) (hnow : sget "now" lc = some (.int t)) (hn40 : n ≤ 40) (b1 : 0 ≤ low) (b2 : low < 2 ^ n) (b3 : 0 ≤ high) (b4 : high < 2 ^ n)
    (d : Due low high d1 d2)
    (next : EXS o c loc S rest QF X) : EXS o c loc S ((body_law.drop 9).take 5 ++ rest) QF X := by
  subst hc
  have hz : sizeLine ≥ 10000 := by decide
  have em : low % 2 ^ n = low := Int.emod_eq_of_lt b1 b2
  have eh : high % 2 ^ n = high := Int.emod_eq_of_lt b3 b4
  have h64 : low ≤ 2 ^ 64 := by
    have : (2 : Int) ^ n ≤ 2 ^ 64 := by
      have : (2 : Nat) ^ n ≤ 2 ^ 64 := Nat.pow_le_pow_right (by decide) (by omega)
      exact_mod_cast this
    omega
  have k1 : (k.deep (callEnvC fd_law L a_law)).n = k.n - 1 := rfl
  have q2 : (Builtin.Int.intBits 2 : Int) = 2 := by rfl
  have pp : (0 : Int) < 2 ^ wd := Int.pow_pos (by decide)
  walk_at "u"
  refine told_due (by walk_at "n") (Nat.le_trans hn40 (by decide)) h64 em eh d ?_
  walk_at "u"
  refine cmp_ne_same rfl (by rfl) (by rfl) (Nat.le_of_ble_eq_true (by rfl)) ?_
  walk_at "u"
  refine eval_sys (by walk_at "n") fun k' hk' => ?_
  refine sv_due (by rw [hk']; show _ ≤ _ - 1 - 1; omega) h64 d ?_
  walk_at "u"
  refine opb_mod (by decide) ?_
  rw [Int.fmod_eq_emod_of_nonneg _ (by decide)]
  walk_at "u"
  refine opb_mod (by decide) ?_
  rw [Int.fmod_eq_emod_of_nonneg _ (by decide)]
  walk_at "u"
  refine cmp_ne_same rfl (by rfl) (by rfl) (Nat.le_of_ble_eq_true (by rfl)) ?_
  walk_at "u"
  refine told_time (by walk_at "n") hcd hnow ?_
  walk_at "u"
  refine opb_pow (by decide) (by rw [q2]; decide) ?_
  refine opb_mod (by decide) ?_
  rw [Int.fmod_eq_emod_of_nonneg _ (by decide)]
  walk_at "u"
  refine cmp_ne_same rfl (by rfl) (by rfl) (Nat.le_of_ble_eq_true (by rfl)) ?_
  walk_at "u"
  refine told_stime (by walk_at "n") hcd hnow ?_
  walk_at "u"
  refine opb_pow (by decide) (by rw [q2]; decide) ?_
  refine opb_mod (by decide) ?_
  rw [Int.fmod_eq_emod_of_nonneg _ (by decide)]
  walk_at "u"
  refine cmp_ne_same rfl (by rfl) (by rfl) (Nat.le_of_ble_eq_true (by rfl)) ?_
  walk_at "u"
  refine eval_sys (by walk_at "n") fun k' hk' => ?_
  refine sv_time (by rw [hk']; show _ ≤ _ - 1 - 1; omega) (by omega) hcd hnow (.inr (.inr rfl)) ?_
  walk_at "u"
  refine opb_pow (by omega) (by rw [q2]; omega) ?_
  rw [Int.toNat_natCast]
  refine opb_mod (by omega) ?_
  rw [Int.fmod_eq_emod_of_nonneg _ (by omega)]
  walk_at "u"
  refine cmp_ne_same rfl (by rfl) (by rfl) (Nat.le_of_ble_eq_true (by rfl)) ?_
  walk_at "u"
  exact next
end
-- text L3m
section
variable {o : Wo} [WO : WoOk o] [W : W3 o] {k : Kx} {st : St} {Q : V → St → Prop} {X : Exc → St → Prop}

theorem law_p3 {loc : LocF} {S : St} {c : Cx} {n : Nat} {r : Addr} {ys : List Int} {low high : Int} {QF : Fl → LocF → St → Prop} {L : Addr} {rest : List Stmt} {mid : LocF → Prop} (hc : c = ⟨k.deep (callEnvC fd_law L a_law), callEnvC fd_law L a_law⟩) (hn : 20 ≤ k.n)
    (l1 : loc (Str.ofString "row") = some (.ptr r)) (l2 : loc (Str.ofString "v") = some (.tup [.int n, .int low, .int high])) (f1 : S r = some (.lst (ys.map V.int))) (hy : RowOk ys)
    (hn40 : n ≤ 40) (b1 : 0 ≤ low) (b2 : low < 2 ^ n) (b3 : 0 ≤ high)
    (next : ∀ ys' d1 d2 sg, RowOk ys' → Due low high d1 d2 → EXS o c ((loc.set (Str.ofString "due") (.tup [.int 32, .int d1, .int d2])).set (Str.ofString "number") (.tup [.str "num", .int 0, .tup [.int n, .int low, .int high], .bool sg, .bool true])) (S.set r (.lst (ys'.map V.int))) rest QF X) : EXS o c loc S ((body_law.drop 7).take 2 ++ rest) QF X := by
  subst hc
  have hz : sizeLine ≥ 10000 := by decide
  have h64 : low ≤ 2 ^ 64 := by
    have : (2 : Int) ^ n ≤ 2 ^ 64 := by
      have : (2 : Nat) ^ n ≤ 2 ^ 64 := Nat.pow_le_pow_right (by decide) (by omega)
      exact_mod_cast this
    omega
  have q2 : (Builtin.Int.intBits 2 : Int) = 2 := by rfl
  walk_at "u"
  refine ite_c (fun hb => ?_) fun hb => ?_
  · have hb : 0 < high := by simpa using hb
    walk_at "u"
    refine opb_pow (by decide) (by rw [q2]; decide) ?_
    walk_at "u"
    refine opb_pow (by decide) (by rw [q2]; decide) ?_
    walk_at "u"
    refine law_next (by walk_at "n") f1 hy fun n1 ys1 n10 n11 hy1 => ?_
    walk_at "u"
    refine opb_mod (by decide) ?_
    rw [Int.fmod_eq_emod_of_nonneg _ (by decide)]
    walk_at "u"
    exact next _ _ _ _ hy1 ⟨fun _ => ⟨rfl, rfl⟩, fun e => absurd e (by omega)⟩
  · have hb : ¬ 0 < high := by simpa using hb
    walk_at "u"
    refine law_enough (by walk_at "n") h64 fun m m1 m2 m3 => ?_
    walk_at "u"
    refine law_next (by walk_at "n") f1 hy fun n1 ys1 n10 n11 hy1 => ?_
    walk_at "u"
    refine opb_mod (by decide) ?_
    rw [Int.fmod_eq_emod_of_nonneg _ (by decide)]
    walk_at "u"
    exact next _ _ _ _ hy1 ⟨fun e => absurd e (by omega), fun _ => ⟨rfl, m, rfl, m2, m3⟩⟩

theorem drop_split {α : Type} (l : List α) (n m : Nat) : l.drop n = (l.drop n).take m ++ l.drop (n + m) := by
  rw [← List.drop_drop, List.take_append_drop]
/-- from the numbers on -/
theorem law_q {loc : LocF} {S : St} {c : Cx} {t : Int} {wd n : Nat} {r sd cd ca : Addr} {ys : List Int} {low high : Int} {scp : V} {QF : Fl → LocF → St → Prop} {L : Addr} (hc : c = ⟨k.deep (callEnvC fd_law L a_law), callEnvC fd_law L a_law⟩) (hn : 20 ≤ k.n)
    (l1 : loc (Str.ofString "row") = some (.ptr r)) (l2 : loc (Str.ofString "v") = some (.tup [.int n, .int low, .int high])) (l3 : loc (Str.ofString "scope") = some scp) (l4 : loc (Str.ofString "ctx") = some (.obj ca c_Context cd)) (l5 : loc (Str.ofString "wide") = some (.int wd)) (l6 : loc (Str.ofString "now") = some (.int t))
    (f1 : S r = some (.lst (ys.map V.int))) (hy : RowOk ys) (hr : Rnd S sd cd 1 t) (hw : wd ≤ 100)
    (hn40 : n ≤ 40) (b1 : 0 ≤ low) (b2 : low < 2 ^ n) (b3 : 0 ≤ high) (b4 : high < 2 ^ n)
    (h : ∀ loc' S', QF (.ret (.bool true)) loc' S') : EXS o c loc S (body_law.drop 7) QF X := by
  rw [drop_split body_law 7 2]
  refine @law_p3 o WO W k X loc S c n r ys low high QF L _ (fun _ => True) hc hn l1 l2 f1 hy hn40 b1 b2 b3 fun ys' d1 d2 sg hy' d => ?_
  rw [drop_split body_law 9 5]
  have hr := hr.keepL (m := .lst (ys'.map V.int)) f1
  have f1 : (S.set r (.lst (ys'.map V.int))) r = some (.lst (ys'.map V.int)) := St.set_same ..
  generalize (S.set r (.lst (ys'.map V.int))) = S1 at *
  obtain ⟨⟨xa, lc, h1, h2, h3, h4⟩, _⟩ := id hr
  refine @law_p4 o WO W k X _ S1 c t wd n cd ca low high d1 d2 sg scp QF L _ lc hc hn (by assumption) (by assumption) (by rfl) (by assumption) (by assumption) (by assumption) (by rfl) hw h1 h2 hn40 b1 b2 b3 b4 d ?_
  rw [drop_split body_law 14 3]
  refine @law_p5 o WO W k X _ S1 c n t wd ys' r sd cd ca low high sg scp QF L _ hc hn (by assumption) (by assumption) (by rfl) (by assumption) (by assumption) hw f1 hy' hr fun loc' S' m1 m2 m3 => ?_
  exact @law_p6 o WO W k X loc' S' c n low high sg scp (.obj ca c_Context cd) QF L hc hn m1 m2 m3 h
end
-- text L3n
section
variable {o : Wo} [WO : WoOk o] [W : W3 o] {k : Kx} {st : St} {Q : V → St → Prop} {X : Exc → St → Prop}

/-- from the width on -/
theorem law_p2 {loc : LocF} {S : St} {c : Cx} {r ba : Addr} {t : Int} {ys bs : List Int} {QF : Fl → LocF → St → Prop} {L : Addr} {rest : List Stmt} (hc : c = ⟨k.deep (callEnvC fd_law L a_law), callEnvC fd_law L a_law⟩) (hn : 20 ≤ k.n)
    (l1 : loc (Str.ofString "row") = some (.ptr r)) (l2 : loc (Str.ofString "bits") = some (.ptr ba)) (l3 : loc (Str.ofString "now") = some (.int t))
    (f2 : S r = some (.lst (ys.map V.int))) (f3 : S ba = some (.lst (bs.map V.int))) (hy : RowOk ys) (hb40 : bs.length ≤ 40) (hb4 : ∀ b ∈ bs, (0 : Int) ≤ b ∧ b < 4) (nb : r ≠ ba)
    (next : ∀ (loc' : LocF) (S' : St) (ys' : List Int) (wd n : Nat) (low high : Int) (scp : V) (ca cd sd : Addr), loc' (Str.ofString "row") = some (.ptr r) → loc' (Str.ofString "v") = some (.tup [.int n, .int low, .int high]) → loc' (Str.ofString "scope") = some scp → loc' (Str.ofString "ctx") = some (.obj ca c_Context cd) → loc' (Str.ofString "wide") = some (.int wd) → loc' (Str.ofString "now") = some (.int t) →
      S' r = some (.lst (ys'.map V.int)) → RowOk ys' → Rnd S' sd cd 1 t → wd ≤ 100 → n ≤ 40 → 0 ≤ low → low < 2 ^ n → 0 ≤ high → high < 2 ^ n → EXS o c loc' S' rest QF X) : EXS o c loc S ((body_law.drop 3).take 4 ++ rest) QF X := by
  subst hc
  walk_at "u"
  refine law_next (by walk_at "n") f2 hy fun n1 ys1 n10 n11 hy1 => ?_
  have g3 : (S.set r (.lst (ys1.map V.int))) ba = some (.lst (bs.map V.int)) := (St.set_ne _ _ (Ne.symm nb)).trans f3
  have g2 : (S.set r (.lst (ys1.map V.int))) r = some (.lst (ys1.map V.int)) := St.set_same ..
  generalize (S.set r (.lst (ys1.map V.int))) = S1 at g2 g3
  clear f2 f3 hy
  walk_at "u"
  refine opb_mod (by decide) ?_
  rw [Int.fmod_eq_emod_of_nonneg _ (by decide)]
  walk_at "u"
  obtain ⟨wd, hwd⟩ : ∃ m : Nat, 1 + n1 % 70 = m := ⟨(1 + n1 % 70).toNat, by omega⟩
  rw [hwd]
  have hw2 : wd ≤ 100 := by omega
  refine Design_ (by walk_at "n") fun x dx sc l hdx hsc nds q1 q2 q3 => ?_
  walk_at "u"
  refine Scope_ (by walk_at "n") (St.set_same ..) ((St.set_ne _ _ (Ne.symm nds)).trans (St.set_same ..)) q1 q2 fun z dz => ?_
  rw [St.swap (Ne.symm nds), St.set_set]
  have hsc1 : (S1.set dx (.sd l)) sc = none := (St.set_ne _ _ (Ne.symm nds)).trans hsc
  have g2 := St.keep (m' := .lst [.str "top"]) (St.keep (m' := .sd l) g2 hdx) hsc1
  have g3 := St.keep (m' := .lst [.str "top"]) (St.keep (m' := .sd l) g3 hdx) hsc1
  generalize ((S1.set dx (.sd l)).set sc (.lst [.str "top"])) = S2 at *
  clear hsc1 hdx hsc q1 q2 q3
  walk_at "u"
  intro a1 ha1
  have g2 := St.keep (m' := .lst []) g2 ha1
  have g3 := St.keep (m' := .lst []) g3 ha1
  generalize (S2.set a1 (.lst [])) = S3 at *
  walk_at "u"
  refine Store_ (by walk_at "n") fun sx sd sv sm hsd => ?_
  have g2 := St.keep (m' := .sd [("signals", .ptr a1), ("values", .ptr sv), ("memories", .ptr sm), ("random_seed", .int 1)]) g2 hsd
  have g3 := St.keep (m' := .sd [("signals", .ptr a1), ("values", .ptr sv), ("memories", .ptr sm), ("random_seed", .int 1)]) g3 hsd
  have g4 : (S3.set sd (.sd [("signals", .ptr a1), ("values", .ptr sv), ("memories", .ptr sm), ("random_seed", .int 1)])) sd = some (.sd [("signals", .ptr a1), ("values", .ptr sv), ("memories", .ptr sm), ("random_seed", .int 1)]) := St.set_same ..
  generalize (S3.set sd (.sd [("signals", .ptr a1), ("values", .ptr sv), ("memories", .ptr sm), ("random_seed", .int 1)])) = S4 at *
  clear hsd ha1
  walk_at "u"
  intro a2 ha2
  have g2 := St.keep (m' := .lst []) g2 ha2
  have g3 := St.keep (m' := .lst []) g3 ha2
  have g4 := St.keep (m' := .lst []) g4 ha2
  generalize (S4.set a2 (.lst [])) = S5 at *
  clear ha2
  walk_at "u"
  refine Context_ (by walk_at "n") fun cx cd hcd => ?_
  have g2 := St.keep (m' := .sd [("store", .obj sx c_Store sd), ("frame", .ptr a2), ("now", .int t)]) g2 hcd
  have g3 := St.keep (m' := .sd [("store", .obj sx c_Store sd), ("frame", .ptr a2), ("now", .int t)]) g3 hcd
  have g4 := St.keep (m' := .sd [("store", .obj sx c_Store sd), ("frame", .ptr a2), ("now", .int t)]) g4 hcd
  have hr : Rnd (S5.set cd (.sd [("store", .obj sx c_Store sd), ("frame", .ptr a2), ("now", .int t)])) sd cd 1 t := ⟨⟨sx, _, St.set_same .., by rfl, by rfl, by rfl⟩, _, g4, by rfl, by simp, by rfl⟩
  generalize (S5.set cd (.sd [("store", .obj sx c_Store sd), ("frame", .ptr a2), ("now", .int t)])) = S6 at *
  clear hcd g4
  walk_at "u"
  refine law_made (by walk_at "n") g3 (by omega) hb4 fun low high p1 p2 p3 p4 => ?_
  walk_at "u"
  exact next _ _ _ _ _ _ _ _ _ _ _ (by assumption) (by rfl) (by rfl) (by rfl) (by rfl) (by assumption) g2 hy1 hr hw2 hb40 p1 p2 p3 p4

theorem law_rest {loc : LocF} {S : St} {c : Cx} {r ba : Addr} {t : Int} {ys bs : List Int} {QF : Fl → LocF → St → Prop} {L : Addr} (hc : c = ⟨k.deep (callEnvC fd_law L a_law), callEnvC fd_law L a_law⟩) (hn : 20 ≤ k.n)
    (l1 : loc (Str.ofString "row") = some (.ptr r)) (l2 : loc (Str.ofString "bits") = some (.ptr ba)) (l3 : loc (Str.ofString "now") = some (.int t))
    (f2 : S r = some (.lst (ys.map V.int))) (f3 : S ba = some (.lst (bs.map V.int))) (hy : RowOk ys) (hb40 : bs.length ≤ 40) (hb4 : ∀ b ∈ bs, (0 : Int) ≤ b ∧ b < 4) (nb : r ≠ ba)
    (h : ∀ loc' S', QF (.ret (.bool true)) loc' S') : EXS o c loc S (body_law.drop 3) QF X := by
  rw [drop_split body_law 3 4]
  refine @law_p2 o WO W k X loc S c r ba t ys bs QF L _ hc hn l1 l2 l3 f2 f3 hy hb40 hb4 nb fun loc' S' ys' wd n low high scp ca cd sd m1 m2 m3 m4 m5 m6 m7 m8 m9 m10 m11 m12 m13 m14 m15 => ?_
  exact @law_q o WO W k X loc' S' c t wd n r sd cd ca ys' low high scp QF L hc hn m1 m2 m3 m4 m5 m6 m7 m8 m9 m10 m11 m12 m13 m14 m15 h

theorem law_p1 {loc : LocF} {S : St} {c : Cx} {sp : Addr} {xs : List Int} {QF : Fl → LocF → St → Prop} {L : Addr} {rest : List Stmt} (hc : c = ⟨k.deep (callEnvC fd_law L a_law), callEnvC fd_law L a_law⟩) (hn : 20 ≤ k.n)
    (l1 : loc (Str.ofString "script") = some (.ptr sp)) (hs : KL o sp xs) (hx : xs.length ≤ 63)
    (next : ∀ (loc' : LocF) (S' : St) (r ba : Addr) (t : Int) (ys bs : List Int), loc' (Str.ofString "row") = some (.ptr r) → loc' (Str.ofString "bits") = some (.ptr ba) → loc' (Str.ofString "now") = some (.int t) →
      S' r = some (.lst (ys.map V.int)) → S' ba = some (.lst (bs.map V.int)) → RowOk ys → bs.length ≤ 40 → (∀ b ∈ bs, (0 : Int) ≤ b ∧ b < 4) → r ≠ ba → EXS o c loc' S' rest QF X) : EXS o c loc S (body_law.take 3 ++ rest) QF X := by
  subst hc
  walk_at "u"
  refine law_row (by walk_at "n") hs hx fun r ys hr hy => ?_
  walk_at "u"
  refine law_value (by walk_at "n") (St.set_same ..) hy fun ba bs ys1 hba hy1 hb1 hb40 hb4 => ?_
  rw [St.set_set]
  have nb : r ≠ ba := ne_of_set hba
  have f2 : ((S.set r (.lst (ys1.map V.int))).set ba (.lst (bs.map V.int))) r = some (.lst (ys1.map V.int)) := (St.set_ne _ _ nb).trans (St.set_same ..)
  have f3 : ((S.set r (.lst (ys1.map V.int))).set ba (.lst (bs.map V.int))) ba = some (.lst (bs.map V.int)) := St.set_same ..
  generalize ((S.set r (.lst (ys1.map V.int))).set ba (.lst (bs.map V.int))) = S1 at f2 f3
  have hz : sizeLine ≥ 10000 := by decide
  walk_at "u"
  intro a ha
  have f2 := St.keep (m' := .lst []) f2 ha
  have f3 := St.keep (m' := .lst []) f3 ha
  have f4 : (S1.set a (.lst [])) a = some (.lst []) := St.set_same ..
  generalize (S1.set a (.lst [])) = S2 at *
  refine cmp_ne_klst hs f4 (pys_ints xs) (by rfl) (lay_ints xs) (by rfl) (Nat.le_trans (Nat.min_le_right _ _) (Nat.le_of_ble_eq_true (by rfl))) ?_
  walk_at "u"
  rcases List.eq_nil_or_concat xs with rfl | ⟨zs, z, rfl⟩
  · walk_at "u"
    exact next _ _ _ _ _ _ _ (by rfl) (by rfl) (by rfl) f2 f3 hy1 hb40 hb4 nb
  · rw [List.concat_eq_append] at *
    have e : (!PyData.eqv (.list ((zs ++ [z]).map PyData.int)) (.list [])) = true := by
      cases zs <;> rfl
    refine ite_t e ?_
    walk_at "u"
    have hl : zs.length + 1 ≤ 63 := by simpa using hx
    have eg : (zs ++ [z])[((-1 : Int) + (zs ++ [z]).length).toNat]? = some z := by
      have e : ((-1 : Int) + (zs ++ [z]).length).toNat = zs.length := by simp; omega
      rw [e]; simp
    refine sub_klst_neg hs (by decide) (by simp; omega) (by decide) eg ?_
    walk_at "u"
    refine call_abs ?_
    walk_at "u"
    exact next _ _ _ _ _ _ _ (by rfl) (by rfl) (by rfl) f2 f3 hy1 hb40 hb4 nb

theorem law_ {sp : Addr} {xs : List Int} (hn : 21 ≤ k.n) (hs : KL o sp xs) (hx : xs.length ≤ 63) (h : ∀ st', Q (.bool true) st') : CALL o k st (.ref a_law) [.ptr sp] Q X := by
  refine call_fn ok_law (by omega) (by simp) (by simp) fun L => ?_
  have e : body_law = body_law.take 3 ++ body_law.drop 3 := (List.take_append_drop 3 body_law).symm
  rw [e]
  refine @law_p1 o WO W k _ _ st _ sp xs _ L _ rfl (by omega) (by rfl) hs hx fun loc' S' r ba t ys bs m1 m2 m3 m4 m5 m6 m7 m8 m9 => ?_
  exact @law_rest o WO W k _ loc' S' _ r ba t ys bs _ L rfl (by omega) m1 m2 m3 m4 m5 m6 m7 m8 m9 fun loc' S' => ⟨S', St.le_refl _, h _⟩
end
end NN
end

-- part: the joining
section
open PySem PySem.W PyProof.Rows PySem.Calls
set_option maxRecDepth 100000
set_option linter.all false
set_option maxHeartbeats 400000
namespace NN
theorem ints_R {P : Params} {h : Heap} : ∀ {ns : List Int} {vs : List Value}, WellAll P h vs (ns.map .int) → ∀ h', VRs h' (ns.map V.int) vs
  | [], _, .nil, _ => .nil
  | _ :: _, _, .cons (.int i t) r, h' => .cons (.int i t) (ints_R r h')

theorem lookup_app {K X : Frag} {a : Addr} (h : K.lookup a = none) : (K ++ X).lookup a = X.lookup a := by
  rw [List.lookup_append, h]; rfl

theorem join3 {w : World} {s₀ s₁ : Shared} {mg mb : Str → Option Value} {a sp : Addr} {vs : List Value} {ns : List Int}
    (g1 : s₁.heap.Ns mainGlobals mg) (g2 : s₁.heap.Ns builtinsNs mb) (g3 : ∀ x : Str, x ≠ "__name__" → mb x = bootBuiltins x) (g4 : s₁.heap.NoLimit) (Y : yf s₀ = ya w) (hmg : mg (Str.ofString "law") = some (.ref a))
    (hgens : s₁.gens = #[]) (keeps : ∀ b o, s₀.heap.get? b = some o → s₁.heap.get? b = some o) (new : s₀.heap.get? sp = none) (hsp : s₁.heap.get? sp = some { cls := .type "list", data := .seq vs.toArray }) (hws : ∀ h', VRs h' (ns.map V.int) vs) (hlen : ns.length ≤ 63)
    (hfr : ∀ b o, s₁.heap.get? b = some o → s₀.heap.get? b = none → frO o = true) {Q : Value → Shared → Prop} {E : Value → Shared → Prop}
    (hq : ∀ s', s'.gens = #[] → s'.os = s₁.os → OldK s₁.heap s'.heap → Q (.bool true) s') :
    wpAny (model PySem.Challenge.pw_nn0344_03 w) callerA (PySem.call (.ref a) [.ref sp]) Q E s₁ := by
  have y1 : as3.map s₀.heap.get? = (K3 w.params).map fun p => some p.2 := congrArg (·.1) Y
  have y2 : (G3.map fun p => s₀.heap.nsMap mainGlobals p.1) = G3.map fun p => p.2 := congrArg (·.2.1) Y
  have y3 : s₀.heap.objs.toList.all frO = true := congrArg (·.2.2) Y
  have in0 : (K3 w.params).In s₀.heap := Frag.in_of (as3_ok w.params) y1
  have hg0 : ∀ p ∈ G3, s₀.heap.nsMap mainGlobals p.1 = p.2 := List.map_inj_left.mp y2
  have hmain : s₀.heap.nsMap mainGlobals = mg := by
    have e := g1.eq_nsMap
    rw [e]
    have : (s₀.heap.get? mainGlobals).isSome = true := by
      have := hg0 (Str.ofString "law", some (.ref a_law)) (mem_lookup (by rfl))
      unfold Heap.nsMap at this
      split at this
      · rename_i h; rw [h]; rfl
      · cases this
    obtain ⟨ob, hob⟩ := Option.isSome_iff_exists.mp this
    funext x
    unfold Heap.nsMap
    rw [hob, keeps _ _ hob]
  have hg : ∀ p ∈ G3, mg p.1 = p.2 := fun p hp => by rw [← hmain]; exact hg0 p hp
  have ea : a = a_law := by
    have := hg (Str.ofString "law", some (.ref a_law)) (mem_lookup (by rfl))
    rw [hmg] at this
    cases this; rfl
  subst ea
  have hKsp : (K3 w.params).lookup sp = none := by
    cases e : (K3 w.params).lookup sp with
    | none => rfl
    | some ob => have := in0 sp ob e; rw [new] at this; cases this
  let o : Wo := ⟨PySem.Challenge.pw_nn0344_03, w, K3 w.params ++ [(sp, listO vs 0)], mg, mb⟩
  let W : W3 o := ⟨[(sp, listO vs 0)], rfl, fun p hp => by simp at hp; subst hp; simp, hg⟩
  have WO : WoOk o := woOk W
  have hIn : o.In s₁.heap := by
    refine ⟨fun b ob e => ?_, g1, g2, g3, g4⟩
    by_cases q : (K3 w.params).lookup b = none
    · have e : (K3 w.params ++ [(sp, listO vs 0)]).lookup b = some ob := e
      rw [lookup_app q, List.lookup_cons] at e
      cases hb : b == sp with
      | true => rw [hb] at e; cases e; rw [beq_iff_eq.mp hb]; exact hsp
      | false => rw [hb] at e; cases e
    · obtain ⟨ob', h⟩ := Option.ne_none_iff_exists'.mp q
      have e : (K3 w.params ++ [(sp, listO vs 0)]).lookup b = some ob := e
      rw [List.lookup_append, h] at e
      have e : ob' = ob := Option.some.inj e
      subst e
      exact keeps _ _ (in0 b ob' h)
  have hk : KxOk ⟨callerA, [], 100⟩ := ⟨rfl, by decide +kernel, by decide +kernel, rfl⟩
  have hS : SI o ⟨callerA, [], 100⟩ St.nil s₁ := ⟨hk, hIn, (fun _ h => by cases h), (fun b m e => nomatch (show (none : Option MO) = some m from e)), fun _ _ => rfl⟩
  have hKL : KL o sp ns := ⟨vs, 0, by
    show (K3 w.params ++ [(sp, listO vs 0)]).lookup sp = _
    rw [lookup_app hKsp, List.lookup_cons, beq_self_eq_true], hws⟩
  have main := @law_ o WO W ⟨callerA, [], 100⟩ St.nil (fun v _ => v = .bool true) (fun _ _ => False) sp ns (by show 21 ≤ 100; decide) hKL hlen (fun _ => rfl)
  refine wpAny_mono (main s₁ [.ref sp] hS (.cons (.ptr sp) .nil)) (fun v s' ⟨r, st', hr, S, e⟩ => ?_) (fun e s' ⟨_, _, _, _, _, _, _, q⟩ => q.elim)
  subst e
  cases hr
  refine hq s' (S.gens.trans hgens) S.os (OldK.of_keep fun b ob hb => ?_)
  obtain ⟨ob', h1, h2⟩ := S.ext b ob (fun q => q) rfl hb
  rcases h2 with e | ⟨⟨c1, es, n, c2⟩, _⟩
  · rw [h1, e]
  · exfalso
    have hf : frO ob = true := by
      cases e : s₀.heap.get? b with
      | none => exact hfr b ob hb e
      | some ob0 =>
        have : ob0 = ob := Option.some.inj ((keeps _ _ e).symm.trans hb)
        subst this
        have hm := (Heap.get?_some_iff.mp e).1
        exact List.all_eq_true.mp y3 _ (Array.mem_toList_iff.mpr (Array.mem_of_getElem? hm))
    unfold frO at hf
    rw [c2] at hf
    simp [c1] at hf
theorem push_new {h : Heap} {ob o : Obj} {b : Addr} (e : (h.push ob).get? b = some o) (n : h.get? b = none) : o = ob := by
  obtain ⟨e1, e2⟩ := Heap.get?_some_iff.mp e
  by_cases q : b = h.objs.size
  · subst q
    have : (h.push ob).objs[h.objs.size]? = some ob := by cases h; simp [Heap.push]
    rw [this] at e1; exact (Option.some.inj e1).symm
  · have : (h.push ob).objs[b]? = h.objs[b]? := by cases h; simp only [Heap.push, Array.getElem?_push]; rw [if_neg q]
    rw [this] at e1
    have := Heap.get?_some_iff.mpr ⟨e1, e2⟩
    rw [n] at this; cases this
theorem lay_heap {R : WRecords} {cl : Str → Option Addr} {P : Params} {ord : List DictEntry → List DictEntry} : ∀ {ns : List Int} {s s' : Shared} {vs : List Value}, layAllW R cl P ord (ns.map .int) s = some (vs, s') → s'.heap = s.heap
  | [], s, s', vs, e => by simp [layAllW] at e; rw [← e.2]
  | n :: ns, s, s', vs, e => by
    simp only [List.map_cons, layAllW, layW] at e
    split at e
    · rename_i r hr
      cases e
      have := lay_heap (ns := ns) (vs := r.1) (s' := r.2) hr
      exact this
    · cases e

theorem post3 {ns : List Int} : PySem.Challenge.rw_nn0344_03.row.claim.post [WData.list (List.map WData.int ns)] (WData.bool true) [WData.list (List.map WData.int ns)] = true := by
  show (WShape.has [] (.bool true) .bool && WTm.holds [] (.eq .res (.lit (.bool true))) _) = true
  simp [WShape.has, WShape.arms, WTm.holds, WTm.value, same]
theorem walk3 {d : DefRec} {kwd : List (Str × Expr)} (hd : d.name = Str.ofString "law") : WalkX qv looseN (fun _ _ => True) yf ya PySem.Challenge.rw_nn0344_03.row.toRowW d kwd (fun f vs => PySem.call f vs) := by
  intro w s₀ s₁ mg mb G Y a ob pm cd doc dV kV ha hdat hcd hdf hmg hgens args vals as L hpre hlay hrd hwell hsm
  obtain ⟨h1, h2⟩ := pre_splitW hpre
  obtain ⟨x, r, rfl, hx, hr⟩ := hasAllW_cons (e := .list .int) (es := []) h1
  obtain rfl := hasAllW_nil hr
  obtain ⟨xs, rfl, hi⟩ := hasW_list hx
  obtain ⟨ns, rfl⟩ := items_int hi
  have hlen : ns.length ≤ 63 := by
    clear G ha hdat hcd hdf hmg hgens L hrd hwell
    have : ¬ ((63 : Int) < ns.length) := by
      have h3 : WTm.holds [] PySem.Challenge.rw_nn0344_03.row.pre { args := [WData.list (List.map WData.int ns)] } = true := h2
      unfold WTm.holds at h3
      simp only [OpenLaw.row, OpenLaw.pre, PySem.Challenge.rw_nn0344_03, WTm.value] at h3
      intro hc
      simp [WTm.value, hc, less?, Num.less?] at h3
    omega
  obtain ⟨ord, hord, hlaid⟩ := L.laid
  simp only [layAllW, layW] at hlaid
  split at hlaid
  · rename_i q hq
    split at hq
    · rename_i q' hq'
      cases hq
      cases hlaid
      have eh := lay_heap (ns := ns) (vs := q'.1) (s' := q'.2) hq'
      cases hwell with
      | cons hw _ =>
      cases hw with
      | list hl hw =>
      rename_i vs
      rw [hd] at hmg
      have hnew : s₀.heap.get? q'.2.heap.objs.size = none := by rw [eh]; exact Heap.get?_none_of_le (Nat.le_refl _)
      refine join3 G.T.g G.T.b G.T.builtins G.T.nolimit Y hmg hgens L.keeps hnew hl (ints_R hw) hlen (fun b o hb hn => ?_) (fun s' k1 k2 k3 => ?_)
      · have : o = _ := push_new hb (by show q'.2.heap.get? b = none; rw [eh]; exact hn)
        rw [this]; rfl
      · exact ⟨.inl ⟨.bool true, .bool true, [], rfl, fun _ => rfl, .bool true, post3, fun _ => ⟨List.nodup_nil, fun _ h => by cases h⟩⟩, k3, k2, AllBare.of_eq k1⟩
    · cases hq
  · cases hlaid
end NN
end

theorem PySem.Challenge.cw_nn0344_03_holds : PySem.Challenge.rw_nn0344_03.Holds :=
  NN.head3 fun d kwd h => NN.walk3 h
