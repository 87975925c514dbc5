import PyProof.Rows.All
import Wide.All
import OpenK.AllK
import Wide.FinOn
import Lean
import PySem.Challenge.RW_xm0769_01
open PySem PySem.W PySem.Spec PySem.Calls PyProof.Rows
set_option Elab.async false
set_option compiler.extract_closed false
set_option maxRecDepth 100000
set_option maxHeartbeats 0
set_option pp.deepTerms.threshold 4
set_option pp.maxSteps 3000
namespace Mine
noncomputable def runG (thr ok : Thread → Bool) (stp : SharedT → Thread → Option (SharedT × Thread)) : Nat → SharedT → Thread → Option SharedT
  | 0, _, _ => none
  | n + 1, s, t => match thr t with
    | true => some s
    | false => match ok t with
      | false => none
      | true => match stp s t with
        | some (s', t') => runG thr ok stp n s' t'
        | none => none
theorem runG_top {tb : String → Option Builtin} {p : Program} {w : World} {n₀ : Nat} {ann : Option Value} : ∀ (n : Nat) (s : SharedT) (t : Thread) (s' : SharedT), runG through (stepOk n₀ ann) (stepT (denote tb) p w) n s t = some s' → topRun tb p w n₀ ann n s.abs t = some s'.abs
  | 0, s, t, s', h => by simp [runG] at h
  | n + 1, s, t, s', h => by
    unfold runG at h
    unfold topRun
    cases ht : through t with
    | true => rw [ht] at h; rw [← Option.some.inj h]
    | false =>
      rw [ht] at h
      cases hk : stepOk n₀ ann t with
      | false => rw [hk] at h; cases h
      | true =>
        rw [hk] at h
        cases hs : stepT (denote tb) p w s t with
        | none => rw [hs] at h; cases h
        | some x =>
          obtain ⟨s₂, t₂⟩ := x
          rw [hs] at h
          dsimp only at h ⊢
          rw [stepT_spec hs]
          exact runG_top n s₂ t₂ s' h
noncomputable def bootTree (P : Params) : BT := ((boot_heap P).objs.toList.foldl (fun (x : BT × Nat) o => (x.1.ins x.2 o, x.2 + 1)) (BT.nil, 0)).1
noncomputable def start0 (w : World) (os : OsState) : SharedT := ⟨bootTree w.params, (boot_heap w.params).objs.size, (boot_heap w.params).life, Array.mk [], boot_drawn, boot_toks, os⟩
theorem start0_abs (w : World) (os : OsState) : (start0 w os).abs = ⟨boot_heap w.params, Array.mk [], boot_drawn, boot_toks, os⟩ := by kernel_rfl
noncomputable abbrev looksAt {α : Type} (p q : Program) (loose : List Str) (Xt : Shared → Bool) (Yf : Shared → α) (H₀ : Heap) (s : Shared) :=
  (staticsOk (importedModules p.main.body) H₀ s.heap && namesBound p s.heap && gensDone s && laidKept H₀ s.heap, openSeen q loose (importedModules p.main.body) Xt true s, Yf s)
theorem leftO_of_run {p q : Program} {loose : List Str} {Xt : Shared → Bool} {α : Type} {Yf : Shared → α} {Ya : World → α} {N m₀ : Nat} {ann : Option Value} {M : Nat}
    (open_ : ∀ w : World, (fencedOpening treeTable p w N).map (fun s => (s.heap, s.gens, s.drawn, s.toks)) = some (boot_heap w.params, Array.mk [], boot_drawn, boot_toks))
    (size : ∀ w : World, ((boot_heap w.params).isNs mainGlobals && (Array.mk [] : Array GenState).size == 0, (boot_heap w.params).objs.size, (boot_heap w.params).nsMap mainGlobals "__annotations__") = (true, m₀, ann))
    (le : Nat.ble M N = true)
    (run : ∀ w : World, (fun os => (runG through (stepOk m₀ ann) (stepT (denote treeTable) p w) M (start0 w os) (topStub p)).map fun s => looksAt p q loose Xt Yf (boot_heap w.params) s.abs) = fun _ => some (true, openGood q loose, Ya w)) :
    LeftO p q loose Xt Yf Ya N true := fun w => by
  obtain ⟨⟨h, gs, d, k, os⟩, e, e'⟩ := Option.map_eq_some_iff.mp (open_ w)
  obtain ⟨rfl, rfl, rfl, rfl⟩ : h = boot_heap w.params ∧ gs = Array.mk [] ∧ d = boot_drawn ∧ k = boot_toks := by simpa using e'
  obtain ⟨z1, z2, z3⟩ : _ ∧ _ ∧ _ := by simpa only [Prod.mk.injEq] using size w
  obtain ⟨sT, r0, l0⟩ := Option.map_eq_some_iff.mp (congrFun (run w) os)
  obtain ⟨l1, l2, l3⟩ : _ ∧ _ ∧ _ := by simpa only [looksAt, Prod.mk.injEq] using l0
  have r := runG_top _ _ _ _ r0
  rw [start0_abs] at r
  have r := topRun_mono (N - M) _ _ _ _ r
  rw [show M + (N - M) = N by have := Nat.le_of_ble_eq_true le; omega] at r
  have t : topFrom treeTable p w N ⟨boot_heap w.params, Array.mk [], boot_drawn, boot_toks, os⟩ = some sT.abs := by
    unfold topFrom
    dsimp only
    rw [z1, z2, z3, r]
    show (match staticsOk (importedModules p.main.body) (boot_heap w.params) sT.abs.heap && namesBound p sT.abs.heap && gensDone sT.abs && laidKept (boot_heap w.params) sT.abs.heap with | true => _ | false => _) = _
    rw [l1]
  unfold openEnds
  rw [e]
  show (topFrom treeTable p w N _).map _ = _
  rw [t]
  exact congrArg some (Prod.ext l2 l3)
noncomputable abbrev prog : Program := PySem.Challenge.pw_xm0769_01
noncomputable def qv : Program := view prog [80]
noncomputable def looseL : List Str := (prog.main.scope.names.map (·.1)).filter fun n => n != Str.ofString "law"
theorem size0 : ∀ w : World, ((boot_heap w.params).isNs mainGlobals && (Array.mk [] : Array GenState).size == 0, (boot_heap w.params).objs.size, (boot_heap w.params).nsMap mainGlobals "__annotations__") = (true, 11, some (.ref 6)) := by
  intro w; kernel_rfl
theorem boot0 : opening prog = plainProg prog.main.scope.names := by kernel_rfl
theorem fence0 : ∀ s, fenceModules? prog s = some s := by intro s; kernel_rfl
theorem open0 : ∀ w : World, (fencedOpening treeTable prog w 20140).map (fun s => (s.heap, s.gens, s.drawn, s.toks)) = some (boot_heap w.params, Array.mk [], boot_drawn, boot_toks) := boot_open boot0 (by decide) fence0
noncomputable def stm (i : Nat) : Stmt := (prog.main.body[i]?).getD default
noncomputable def stm2 (i j : Nat) : Stmt := match stm i with
  | .ClassDef _ _ _ b _ _ _ _ _ _ _ => (b[j]?).getD default
  | _ => default
noncomputable def bodyOf : Stmt → List Stmt
  | .FunctionDef _ _ b _ _ _ _ _ _ _ => b
  | _ => []
noncomputable def paramsOf : Stmt → Arguments
  | .FunctionDef _ a _ _ _ _ _ _ _ _ => a
  | _ => default
noncomputable def scopeOf : Stmt → Scope
  | .FunctionDef _ _ _ _ _ _ sc _ _ _ => sc
  | _ => default
noncomputable abbrev the {α : Type} (a : α) (s : α) (_ : a = s) : α := s
noncomputable def fs_0 : Stmt := the (stm 0) _ (by conv => lhs; whnf)
noncomputable def fs_2_0 : Stmt := the (stm2 2 0) _ (by conv => lhs; whnf)
noncomputable def fs_13_0 : Stmt := the (stm2 13 0) _ (by conv => lhs; whnf)
noncomputable def fs_16_0 : Stmt := the (stm2 16 0) _ (by conv => lhs; whnf)
noncomputable def fs_17_0 : Stmt := the (stm2 17 0) _ (by conv => lhs; whnf)
noncomputable def fs_20_0 : Stmt := the (stm2 20 0) _ (by conv => lhs; whnf)
noncomputable def fs_21_0 : Stmt := the (stm2 21 0) _ (by conv => lhs; whnf)
noncomputable def fs_22_0 : Stmt := the (stm2 22 0) _ (by conv => lhs; whnf)
noncomputable def fs_24_0 : Stmt := the (stm2 24 0) _ (by conv => lhs; whnf)
noncomputable def fs_29_0 : Stmt := the (stm2 29 0) _ (by conv => lhs; whnf)
noncomputable def fs_30_0 : Stmt := the (stm2 30 0) _ (by conv => lhs; whnf)
noncomputable def fs_31_0 : Stmt := the (stm2 31 0) _ (by conv => lhs; whnf)
noncomputable def fs_32_0 : Stmt := the (stm2 32 0) _ (by conv => lhs; whnf)
noncomputable def fs_33_0 : Stmt := the (stm2 33 0) _ (by conv => lhs; whnf)
noncomputable def fs_34_0 : Stmt := the (stm2 34 0) _ (by conv => lhs; whnf)
noncomputable def fs_36 : Stmt := the (stm 36) _ (by conv => lhs; whnf)
noncomputable def fs_37 : Stmt := the (stm 37) _ (by conv => lhs; whnf)
noncomputable def fs_40 : Stmt := the (stm 40) _ (by conv => lhs; whnf)
noncomputable def fs_44 : Stmt := the (stm 44) _ (by conv => lhs; whnf)
noncomputable def fs_45 : Stmt := the (stm 45) _ (by conv => lhs; whnf)
noncomputable def fs_46 : Stmt := the (stm 46) _ (by conv => lhs; whnf)
noncomputable def fs_47 : Stmt := the (stm 47) _ (by conv => lhs; whnf)
noncomputable def fs_50 : Stmt := the (stm 50) _ (by conv => lhs; whnf)
noncomputable def fs_51 : Stmt := the (stm 51) _ (by conv => lhs; whnf)
noncomputable def fs_56_0 : Stmt := the (stm2 56 0) _ (by conv => lhs; whnf)
noncomputable def fs_58_0 : Stmt := the (stm2 58 0) _ (by conv => lhs; whnf)
noncomputable def fs_58_1 : Stmt := the (stm2 58 1) _ (by conv => lhs; whnf)
noncomputable def fs_58_2 : Stmt := the (stm2 58 2) _ (by conv => lhs; whnf)
noncomputable def fs_58_3 : Stmt := the (stm2 58 3) _ (by conv => lhs; whnf)
noncomputable def fs_59 : Stmt := the (stm 59) _ (by conv => lhs; whnf)
noncomputable def fs_62 : Stmt := the (stm 62) _ (by conv => lhs; whnf)
noncomputable def fs_63 : Stmt := the (stm 63) _ (by conv => lhs; whnf)
noncomputable def fs_64 : Stmt := the (stm 64) _ (by conv => lhs; whnf)
noncomputable def fs_65 : Stmt := the (stm 65) _ (by conv => lhs; whnf)
noncomputable def fs_66_0 : Stmt := the (stm2 66 0) _ (by conv => lhs; whnf)
noncomputable def fs_66_1 : Stmt := the (stm2 66 1) _ (by conv => lhs; whnf)
noncomputable def fs_66_2 : Stmt := the (stm2 66 2) _ (by conv => lhs; whnf)
noncomputable def fs_66_3 : Stmt := the (stm2 66 3) _ (by conv => lhs; whnf)
noncomputable def fs_66_4 : Stmt := the (stm2 66 4) _ (by conv => lhs; whnf)
noncomputable def fs_66_5 : Stmt := the (stm2 66 5) _ (by conv => lhs; whnf)
noncomputable def fs_66_6 : Stmt := the (stm2 66 6) _ (by conv => lhs; whnf)
noncomputable def fs_66_7 : Stmt := the (stm2 66 7) _ (by conv => lhs; whnf)
noncomputable def fs_66_8 : Stmt := the (stm2 66 8) _ (by conv => lhs; whnf)
noncomputable def fs_66_9 : Stmt := the (stm2 66 9) _ (by conv => lhs; whnf)
noncomputable def fs_66_10 : Stmt := the (stm2 66 10) _ (by conv => lhs; whnf)
noncomputable def fs_66_11 : Stmt := the (stm2 66 11) _ (by conv => lhs; whnf)
noncomputable def fs_67 : Stmt := the (stm 67) _ (by conv => lhs; whnf)
noncomputable def fs_69 : Stmt := the (stm 69) _ (by conv => lhs; whnf)
noncomputable def fs_70 : Stmt := the (stm 70) _ (by conv => lhs; whnf)
noncomputable def fs_71 : Stmt := the (stm 71) _ (by conv => lhs; whnf)
noncomputable def fs_72 : Stmt := the (stm 72) _ (by conv => lhs; whnf)
noncomputable def fs_73 : Stmt := the (stm 73) _ (by conv => lhs; whnf)
noncomputable def fs_74 : Stmt := the (stm 74) _ (by conv => lhs; whnf)
noncomputable def fs_75 : Stmt := the (stm 75) _ (by conv => lhs; whnf)
noncomputable def fs_76 : Stmt := the (stm 76) _ (by conv => lhs; whnf)
noncomputable def fs_77 : Stmt := the (stm 77) _ (by conv => lhs; whnf)
noncomputable def fs_78 : Stmt := the (stm 78) _ (by conv => lhs; whnf)
noncomputable def fs_79 : Stmt := the (stm 79) _ (by conv => lhs; whnf)
noncomputable def fs_80 : Stmt := the (stm 80) _ (by conv => lhs; whnf)
noncomputable abbrev en (P : Params) (k : String) (t : Tok) (v : Value) : DictEntry := ⟨PyData.keyHash P (Str.ofString k), .str (Str.ofString k) t, v⟩
namespace hd
noncomputable def heap_39 : Params → Frag := fun P =>
  (nat_lit 2, ⟨.none, .none, .dict #[⟨PyData.keyHash P "type.__subclasses__.Exception.0", .str "type.__subclasses__.Exception.0" 221, .int 38 0⟩, ⟨PyData.keyHash P "type.__subclasses__.Exception.n", .str "type.__subclasses__.Exception.n" 222, .int 1 0⟩] 2, #[]⟩) ::
  (nat_lit 3, ⟨.type "dict", .none, .dict #[⟨PyData.keyHash P "__name__", .str "__name__" 165, .str "law_xm0769_01" 1599⟩, ⟨PyData.keyHash P "__doc__", .str "__doc__" 166, .none⟩, ⟨PyData.keyHash P "__package__", .str "__package__" 167, .none⟩, ⟨PyData.keyHash P "__loader__", .str "__loader__" 168, .builtin "__main__.__loader__#opaque"⟩, ⟨PyData.keyHash P "__spec__", .str "__spec__" 169, .none⟩, ⟨PyData.keyHash P "__annotations__", .str "__annotations__" 170, .ref 6⟩, ⟨PyData.keyHash P "__builtins__", .str "__builtins__" 171, .ref 4⟩, ⟨PyData.keyHash P "__file__", .str "__file__" 173, .str "/claim/cut.py" 172⟩, ⟨PyData.keyHash P "__cached__", .str "__cached__" 174, .none⟩, ⟨PyData.keyHash P "_wall", .str "_wall" 193, .ref 21⟩, ⟨PyData.keyHash P "PagebaseError", .str "PagebaseError" 224, .ref 38⟩, ⟨PyData.keyHash P "SqlError", .str "SqlError" 240, .ref 51⟩, ⟨PyData.keyHash P "AGGREGATES", .str "AGGREGATES" 267, .ref 54⟩, ⟨PyData.keyHash P "fits", .str "fits" 275, .ref 67⟩, ⟨PyData.keyHash P "is_aggregate", .str "is_aggregate" 285, .ref 75⟩, ⟨PyData.keyHash P "row_of", .str "row_of" 294, .ref 82⟩, ⟨PyData.keyHash P "rows_of", .str "rows_of" 300, .ref 87⟩, ⟨PyData.keyHash P "Node", .str "Node" 327, .ref 104⟩, ⟨PyData.keyHash P "Expr", .str "Expr" 343, .ref 118⟩, ⟨PyData.keyHash P "Literal", .str "Literal" 375, .ref 144⟩, ⟨PyData.keyHash P "Name", .str "Name" 412, .ref 170⟩, ⟨PyData.keyHash P "Variable", .str "Variable" 444, .ref 196⟩, ⟨PyData.keyHash P "Unary", .str "Unary" 478, .ref 222⟩, ⟨PyData.keyHash P "Binary", .str "Binary" 514, .ref 248⟩, ⟨PyData.keyHash P "Between", .str "Between" 552, .ref 274⟩, ⟨PyData.keyHash P "InList", .str "InList" 588, .ref 300⟩, ⟨PyData.keyHash P "InSelect", .str "InSelect" 624, .ref 326⟩, ⟨PyData.keyHash P "Exists", .str "Exists" 658, .ref 352⟩, ⟨PyData.keyHash P "Scalar", .str "Scalar" 690, .ref 378⟩, ⟨PyData.keyHash P "Case", .str "Case" 725, .ref 402⟩, ⟨PyData.keyHash P "Call", .str "Call" 763, .ref 428⟩, ⟨PyData.keyHash P "Cast", .str "Cast" 797, .ref 454⟩, ⟨PyData.keyHash P "Collate", .str "Collate" 831, .ref 480⟩, ⟨PyData.keyHash P "IsNull", .str "IsNull" 865, .ref 506⟩, ⟨PyData.keyHash P "Match", .str "Match" 906, .ref 532⟩, ⟨PyData.keyHash P "ResultColumn", .str "ResultColumn" 942, .ref 558⟩, ⟨PyData.keyHash P "Core", .str "Core" 985, .ref 584⟩, ⟨PyData.keyHash P "Values", .str "Values" 1016, .ref 608⟩, ⟨PyData.keyHash P "Select", .str "Select" 1055, .ref 634⟩, ⟨PyData.keyHash P "ColumnDef", .str "ColumnDef" 1094, .ref 660⟩, ⟨PyData.keyHash P "CreateTable", .str "CreateTable" 1134, .ref 686⟩, ⟨PyData.keyHash P "fold", .str "fold" 1142, .ref 693⟩, ⟨PyData.keyHash P "children", .str "children" 1152, .ref 700⟩, ⟨PyData.keyHash P "is_aggregate_call", .str "is_aggregate_call" 1159, .ref 707⟩, ⟨PyData.keyHash P "aggregates_in", .str "aggregates_in" 1168, .ref 714⟩, ⟨PyData.keyHash P "has_subquery", .str "has_subquery" 1174, .ref 719⟩, ⟨PyData.keyHash P "has_variable", .str "has_variable" 1180, .ref 724⟩, ⟨PyData.keyHash P "names_in", .str "names_in" 1189, .ref 731⟩, ⟨PyData.keyHash P "wanted_place", .str "wanted_place" 1201, .ref 738⟩, ⟨PyData.keyHash P "insert_places", .str "insert_places" 1211, .ref 745⟩, ⟨PyData.keyHash P "check_width", .str "check_width" 1222, .ref 752⟩, ⟨PyData.keyHash P "is_plain_values", .str "is_plain_values" 1231, .ref 759⟩, ⟨PyData.keyHash P "SPACES", .str "SPACES" 1235, .str " \t\n\x0b\x0c\r" 1234⟩, ⟨PyData.keyHash P "fold_ascii", .str "fold_ascii" 1244, .ref 766⟩, ⟨PyData.keyHash P "affinity_of_type", .str "affinity_of_type" 1253, .ref 773⟩, ⟨PyData.keyHash P "ROWID_NAMES", .str "ROWID_NAMES" 1259, .ref 774⟩, ⟨PyData.keyHash P "COLLATIONS", .str "COLLATIONS" 1263, .ref 775⟩, ⟨PyData.keyHash P "AUTO_PREFIX", .str "AUTO_PREFIX" 1265, .str "pagebase_auto_" 1264⟩, ⟨PyData.keyHash P "Column", .str "Column" 1300, .ref 793⟩, ⟨PyData.keyHash P "Index", .str "Index" 1354, .ref 826⟩, ⟨PyData.keyHash P "Table", .str "Table" 1417, .ref 868⟩, ⟨PyData.keyHash P "check_collation", .str "check_collation" 1424, .ref 879⟩, ⟨PyData.keyHash P "MOST_COLUMNS", .str "MOST_COLUMNS" 1428, .int 2000 1427⟩, ⟨PyData.keyHash P "check_default", .str "check_default" 1436, .ref 886⟩, ⟨PyData.keyHash P "check_check", .str "check_check" 1443, .ref 893⟩, ⟨PyData.keyHash P "check_names", .str "check_names" 1454, .ref 900⟩, ⟨PyData.keyHash P "is_integer_type", .str "is_integer_type" 1461, .ref 907⟩, ⟨PyData.keyHash P "TableMaker", .str "TableMaker" 1588, .ref 993⟩, ⟨PyData.keyHash P "table_from", .str "table_from" 1598, .ref 1005⟩, ⟨PyData.keyHash P "_law_pool", .str "_law_pool" 1611, .ref 1012⟩, ⟨PyData.keyHash P "_law_take", .str "_law_take" 1620, .ref 1019⟩, ⟨PyData.keyHash P "_law_one", .str "_law_one" 1628, .ref 1026⟩, ⟨PyData.keyHash P "_law_letters", .str "_law_letters" 1636, .ref 1033⟩, ⟨PyData.keyHash P "_law_table", .str "_law_table" 1646, .ref 1040⟩, ⟨PyData.keyHash P "_law_tried", .str "_law_tried" 1654, .ref 1047⟩, ⟨PyData.keyHash P "_law_place", .str "_law_place" 1660, .ref 1052⟩, ⟨PyData.keyHash P "_law_places_right", .str "_law_places_right" 1666, .ref 1057⟩, ⟨PyData.keyHash P "_law_expression", .str "_law_expression" 1679, .ref 1064⟩, ⟨PyData.keyHash P "_law_values_right", .str "_law_values_right" 1685, .ref 1069⟩, ⟨PyData.keyHash P "_law_right", .str "_law_right" 1691, .ref 1074⟩, ⟨PyData.keyHash P "law", .str "law" 1699, .ref 1081⟩] 81, #[]⟩) ::
  (nat_lit 20, ⟨.type "code", .none, .fields #[.str "_wall" 187, .str "_wall" 188, .str "/claim/cut.py" 189, .int 1 0, .int 1 0, .int 0 0, .int 0 0, .int 3 0, .ref 15, .bool true, .int 181 0, .ref 16, .none, .ref 17, .ref 18, .ref 19, .int 191 0, .int 1 0, .str "/claim/cut.py" 192], #[]⟩) ::
  (nat_lit 21, ⟨.type "function", .none, .func ((fun (d : FuncData) (_ : { name := "_wall", qualname := "_wall", params := paramsOf fs_0, body := .stmts (bodyOf fs_0), scope := scopeOf fs_0, globals := 3, closure := [], defaults := .none, kwdefaults := .none, doc := .none, pyModule := .str "__main__" 164, annotations := .none, code := .ref 20, closureTuple := .none, builtins := 0 } = d) => d) _ (by dsimp only [fs_0, the, paramsOf, bodyOf, scopeOf])), #[]⟩) ::
  (nat_lit 22, ⟨.type "tuple", .none, .seq #[.type "Exception"] 0, #[]⟩) ::
  (nat_lit 34, ⟨.type "code", .none, .fields #[.str "__init__" 208, .str "PagebaseError.__init__" 209, .str "/claim/cut.py" 210, .int 7 0, .int 2 0, .int 0 0, .int 0 0, .int 3 0, .ref 29, .bool true, .int 181 0, .ref 30, .none, .ref 31, .ref 32, .ref 33, .int 213 0, .int 7 0, .str "/claim/cut.py" 214], #[]⟩) ::
  (nat_lit 35, ⟨.type "function", .none, .func ((fun (d : FuncData) (_ : { name := "__init__", qualname := "PagebaseError.__init__", params := paramsOf fs_2_0, body := .stmts (bodyOf fs_2_0), scope := scopeOf fs_2_0, globals := 3, closure := [], defaults := .none, kwdefaults := .none, doc := .none, pyModule := .str "pagebase.errors" 194, annotations := .none, code := .ref 34, closureTuple := .none, builtins := 0 } = d) => d) _ (by dsimp only [fs_2_0, the, paramsOf, bodyOf, scopeOf])), #[]⟩) ::
  (nat_lit 36, ⟨.type "tuple", .none, .seq #[.str "message" 216] 0, #[]⟩) ::
  (nat_lit 37, ⟨.type "dict", .none, .dict #[⟨PyData.keyHash P "__module__", .str "__module__" 203, .str "pagebase.errors" 194⟩, ⟨PyData.keyHash P "__firstlineno__", .str "__firstlineno__" 207, .int 5 206⟩, ⟨PyData.keyHash P "__init__", .str "__init__" 215, .ref 35⟩, ⟨PyData.keyHash P "__static_attributes__", .str "__static_attributes__" 217, .ref 36⟩, ⟨PyData.keyHash P "__weakref__", .str "__weakref__" 219, .ref 39⟩, ⟨PyData.keyHash P "__doc__", .str "__doc__" 220, .none⟩] 3, #[]⟩) ::
  (nat_lit 38, ⟨.type "type", .none, .cls { name := "PagebaseError", bases := [.type "Exception"], mro := [.ref 38, .type "Exception", .type "BaseException", .type "object"], ns := 37, qualname := "PagebaseError", hasDict := true, slotNames := [], subclasses := [.ref 51], abstract := false, collection := .none, hasDel := false }, #[(.some (.ref 22)), .none, (.some (.str "PagebaseError" 196)), (.some (.str "PagebaseError" 204)), (.some (.builtin "Exception.__new__")), (.some (.bool true))]⟩) ::
  (nat_lit 39, ⟨.type "getset_descriptor", .none, .fields #[.str "__weakref__" 218, .ref 38, .builtin "ExceptionGroup.__weakref__", .none], #[]⟩) ::
  (nat_lit 42, ⟨.type "tuple", .none, .seq #[.ref 38] 0, #[]⟩) ::
  (nat_lit 49, ⟨.type "tuple", .none, .seq #[] 0, #[]⟩) ::
  (nat_lit 50, ⟨.type "dict", .none, .dict #[⟨PyData.keyHash P "__module__", .str "__module__" 232, .str "pagebase.errors" 194⟩, ⟨PyData.keyHash P "__firstlineno__", .str "__firstlineno__" 236, .int 9 235⟩, ⟨PyData.keyHash P "__static_attributes__", .str "__static_attributes__" 237, .ref 49⟩, ⟨PyData.keyHash P "__doc__", .str "__doc__" 238, .none⟩] 2, #[]⟩) ::
  (nat_lit 51, ⟨.type "type", .none, .cls { name := "SqlError", bases := [.ref 38], mro := [.ref 51, .ref 38, .type "Exception", .type "BaseException", .type "object"], ns := 50, qualname := "SqlError", hasDict := true, slotNames := [], subclasses := [], abstract := false, collection := .none, hasDel := false }, #[(.some (.ref 42)), .none, (.some (.str "SqlError" 225)), (.some (.str "SqlError" 233)), (.some (.builtin "Exception.__new__")), (.some (.bool true))]⟩) ::
  (nat_lit 54, ⟨.type "dict", .none, .dict #[⟨PyData.keyHash P "count", .str "count" 243, .ref 55⟩, ⟨PyData.keyHash P "group_concat", .str "group_concat" 246, .ref 56⟩, ⟨PyData.keyHash P "max", .str "max" 249, .ref 57⟩, ⟨PyData.keyHash P "min", .str "min" 252, .ref 58⟩, ⟨PyData.keyHash P "sum", .str "sum" 255, .ref 59⟩, ⟨PyData.keyHash P "total", .str "total" 258, .ref 60⟩] 6, #[]⟩) ::
  (nat_lit 55, ⟨.type "tuple", .none, .seq #[.int 0 244, .int 1 245] 0, #[]⟩) ::
  (nat_lit 56, ⟨.type "tuple", .none, .seq #[.int 1 247, .int 2 248] 0, #[]⟩) ::
  (nat_lit 57, ⟨.type "tuple", .none, .seq #[.int 1 250, .int 1 251] 0, #[]⟩) ::
  (nat_lit 58, ⟨.type "tuple", .none, .seq #[.int 1 253, .int 1 254] 0, #[]⟩) ::
  (nat_lit 59, ⟨.type "tuple", .none, .seq #[.int 1 256, .int 1 257] 0, #[]⟩) ::
  (nat_lit 60, ⟨.type "tuple", .none, .seq #[.int 1 259, .int 1 260] 0, #[]⟩) ::
  (nat_lit 68, ⟨.type "tuple", .none, .seq #[.bool false] 0, #[]⟩) ::
  (nat_lit 102, ⟨.type "tuple", .none, .seq #[] 0, #[]⟩) ::
  (nat_lit 103, ⟨.type "dict", .none, .dict #[⟨PyData.keyHash P "__module__", .str "__module__" 308, .str "pagebase.nodes" 286⟩, ⟨PyData.keyHash P "__firstlineno__", .str "__firstlineno__" 312, .int 25 311⟩, ⟨PyData.keyHash P "row", .str "row" 319, .ref 101⟩, ⟨PyData.keyHash P "__static_attributes__", .str "__static_attributes__" 320, .ref 102⟩, ⟨PyData.keyHash P "__dict__", .str "__dict__" 322, .ref 105⟩, ⟨PyData.keyHash P "__weakref__", .str "__weakref__" 324, .ref 106⟩, ⟨PyData.keyHash P "__doc__", .str "__doc__" 325, .none⟩] 4, #[]⟩) ::
  (nat_lit 104, ⟨.type "type", .none, .cls { name := "Node", bases := [.type "object"], mro := [.ref 104, .type "object"], ns := 103, qualname := "Node", hasDict := true, slotNames := [], subclasses := [.ref 118, .ref 558, .ref 584, .ref 608, .ref 634, .ref 660, .ref 686], abstract := false, collection := .none, hasDel := false }, #[.none, .none, (.some (.str "Node" 301)), (.some (.str "Node" 309)), (.some (.builtin "object.__new__")), (.some (.bool true))]⟩) ::
  (nat_lit 105, ⟨.type "getset_descriptor", .none, .fields #[.str "__dict__" 321, .ref 104, .builtin "function.__dict__", .builtin "function.__dict__#set"], #[]⟩) ::
  (nat_lit 106, ⟨.type "getset_descriptor", .none, .fields #[.str "__weakref__" 323, .ref 104, .builtin "ExceptionGroup.__weakref__", .none], #[]⟩) ::
  (nat_lit 109, ⟨.type "tuple", .none, .seq #[.ref 104] 0, #[]⟩) ::
  (nat_lit 116, ⟨.type "tuple", .none, .seq #[] 0, #[]⟩) ::
  (nat_lit 117, ⟨.type "dict", .none, .dict #[⟨PyData.keyHash P "__module__", .str "__module__" 335, .str "pagebase.nodes" 286⟩, ⟨PyData.keyHash P "__firstlineno__", .str "__firstlineno__" 339, .int 29 338⟩, ⟨PyData.keyHash P "__static_attributes__", .str "__static_attributes__" 340, .ref 116⟩, ⟨PyData.keyHash P "__doc__", .str "__doc__" 341, .none⟩] 2, #[]⟩) ::
  (nat_lit 118, ⟨.type "type", .none, .cls { name := "Expr", bases := [.ref 104], mro := [.ref 118, .ref 104, .type "object"], ns := 117, qualname := "Expr", hasDict := true, slotNames := [], subclasses := [.ref 144, .ref 170, .ref 196, .ref 222, .ref 248, .ref 274, .ref 300, .ref 326, .ref 352, .ref 378, .ref 402, .ref 428, .ref 454, .ref 480, .ref 506, .ref 532], abstract := false, collection := .none, hasDel := false }, #[(.some (.ref 109)), .none, (.some (.str "Expr" 328)), (.some (.str "Expr" 336)), (.some (.builtin "object.__new__")), (.some (.bool true))]⟩) ::
  (nat_lit 121, ⟨.type "tuple", .none, .seq #[.ref 118] 0, #[]⟩) ::
  (nat_lit 133, ⟨.type "code", .none, .fields #[.str "__init__" 356, .str "Literal.__init__" 357, .str "/claim/cut.py" 358, .int 33 0, .int 2 0, .int 0 0, .int 0 0, .int 3 0, .ref 128, .bool true, .int 181 0, .ref 129, .none, .ref 130, .ref 131, .ref 132, .int 361 0, .int 33 0, .str "/claim/cut.py" 362], #[]⟩) ::
  (nat_lit 134, ⟨.type "function", .none, .func ((fun (d : FuncData) (_ : { name := "__init__", qualname := "Literal.__init__", params := paramsOf fs_13_0, body := .stmts (bodyOf fs_13_0), scope := scopeOf fs_13_0, globals := 3, closure := [], defaults := .none, kwdefaults := .none, doc := .none, pyModule := .str "pagebase.nodes" 286, annotations := .none, code := .ref 133, closureTuple := .none, builtins := 0 } = d) => d) _ (by dsimp only [fs_13_0, the, paramsOf, bodyOf, scopeOf])), #[]⟩) ::
  (nat_lit 142, ⟨.type "tuple", .none, .seq #[.str "value" 371] 0, #[]⟩) ::
  (nat_lit 143, ⟨.type "dict", .none, .dict #[⟨PyData.keyHash P "__module__", .str "__module__" 351, .str "pagebase.nodes" 286⟩, ⟨PyData.keyHash P "__firstlineno__", .str "__firstlineno__" 355, .int 31 354⟩, ⟨PyData.keyHash P "__init__", .str "__init__" 363, .ref 134⟩, ⟨PyData.keyHash P "row", .str "row" 370, .ref 141⟩, ⟨PyData.keyHash P "__static_attributes__", .str "__static_attributes__" 372, .ref 142⟩, ⟨PyData.keyHash P "__doc__", .str "__doc__" 373, .none⟩] 2, #[]⟩) ::
  (nat_lit 144, ⟨.type "type", .none, .cls { name := "Literal", bases := [.ref 118], mro := [.ref 144, .ref 118, .ref 104, .type "object"], ns := 143, qualname := "Literal", hasDict := true, slotNames := [], subclasses := [], abstract := false, collection := .none, hasDel := false }, #[(.some (.ref 121)), .none, (.some (.str "Literal" 344)), (.some (.str "Literal" 352)), (.some (.builtin "object.__new__")), (.some (.bool true))]⟩) ::
  (nat_lit 147, ⟨.type "tuple", .none, .seq #[.ref 118] 0, #[]⟩) ::
  (nat_lit 168, ⟨.type "tuple", .none, .seq #[.str "column" 404, .str "depth" 405, .str "place" 406, .str "source" 407, .str "table" 408] 0, #[]⟩) ::
  (nat_lit 169, ⟨.type "dict", .none, .dict #[⟨PyData.keyHash P "__module__", .str "__module__" 383, .str "pagebase.nodes" 286⟩, ⟨PyData.keyHash P "__firstlineno__", .str "__firstlineno__" 387, .int 42 386⟩, ⟨PyData.keyHash P "__init__", .str "__init__" 396, .ref 160⟩, ⟨PyData.keyHash P "row", .str "row" 403, .ref 167⟩, ⟨PyData.keyHash P "__static_attributes__", .str "__static_attributes__" 409, .ref 168⟩, ⟨PyData.keyHash P "__doc__", .str "__doc__" 410, .none⟩] 2, #[]⟩) ::
  (nat_lit 170, ⟨.type "type", .none, .cls { name := "Name", bases := [.ref 118], mro := [.ref 170, .ref 118, .ref 104, .type "object"], ns := 169, qualname := "Name", hasDict := true, slotNames := [], subclasses := [], abstract := false, collection := .none, hasDel := false }, #[(.some (.ref 147)), .none, (.some (.str "Name" 376)), (.some (.str "Name" 384)), (.some (.builtin "object.__new__")), (.some (.bool true))]⟩) ::
  (nat_lit 173, ⟨.type "tuple", .none, .seq #[.ref 118] 0, #[]⟩) ::
  (nat_lit 194, ⟨.type "tuple", .none, .seq #[.str "number" 440] 0, #[]⟩) ::
  (nat_lit 195, ⟨.type "dict", .none, .dict #[⟨PyData.keyHash P "__module__", .str "__module__" 420, .str "pagebase.nodes" 286⟩, ⟨PyData.keyHash P "__firstlineno__", .str "__firstlineno__" 424, .int 53 423⟩, ⟨PyData.keyHash P "__init__", .str "__init__" 432, .ref 186⟩, ⟨PyData.keyHash P "row", .str "row" 439, .ref 193⟩, ⟨PyData.keyHash P "__static_attributes__", .str "__static_attributes__" 441, .ref 194⟩, ⟨PyData.keyHash P "__doc__", .str "__doc__" 442, .none⟩] 2, #[]⟩) ::
  (nat_lit 196, ⟨.type "type", .none, .cls { name := "Variable", bases := [.ref 118], mro := [.ref 196, .ref 118, .ref 104, .type "object"], ns := 195, qualname := "Variable", hasDict := true, slotNames := [], subclasses := [], abstract := false, collection := .none, hasDel := false }, #[(.some (.ref 173)), .none, (.some (.str "Variable" 413)), (.some (.str "Variable" 421)), (.some (.builtin "object.__new__")), (.some (.bool true))]⟩) ::
  (nat_lit 199, ⟨.type "tuple", .none, .seq #[.ref 118] 0, #[]⟩) ::
  (nat_lit 211, ⟨.type "code", .none, .fields #[.str "__init__" 457, .str "Unary.__init__" 458, .str "/claim/cut.py" 459, .int 62 0, .int 3 0, .int 0 0, .int 0 0, .int 3 0, .ref 206, .bool true, .int 181 0, .ref 207, .none, .ref 208, .ref 209, .ref 210, .int 463 0, .int 62 0, .str "/claim/cut.py" 464], #[]⟩) ::
  (nat_lit 212, ⟨.type "function", .none, .func ((fun (d : FuncData) (_ : { name := "__init__", qualname := "Unary.__init__", params := paramsOf fs_16_0, body := .stmts (bodyOf fs_16_0), scope := scopeOf fs_16_0, globals := 3, closure := [], defaults := .none, kwdefaults := .none, doc := .none, pyModule := .str "pagebase.nodes" 286, annotations := .none, code := .ref 211, closureTuple := .none, builtins := 0 } = d) => d) _ (by dsimp only [fs_16_0, the, paramsOf, bodyOf, scopeOf])), #[]⟩) ::
  (nat_lit 220, ⟨.type "tuple", .none, .seq #[.str "op" 473, .str "operand" 474] 0, #[]⟩) ::
  (nat_lit 221, ⟨.type "dict", .none, .dict #[⟨PyData.keyHash P "__module__", .str "__module__" 452, .str "pagebase.nodes" 286⟩, ⟨PyData.keyHash P "__firstlineno__", .str "__firstlineno__" 456, .int 60 455⟩, ⟨PyData.keyHash P "__init__", .str "__init__" 465, .ref 212⟩, ⟨PyData.keyHash P "row", .str "row" 472, .ref 219⟩, ⟨PyData.keyHash P "__static_attributes__", .str "__static_attributes__" 475, .ref 220⟩, ⟨PyData.keyHash P "__doc__", .str "__doc__" 476, .none⟩] 2, #[]⟩) ::
  (nat_lit 222, ⟨.type "type", .none, .cls { name := "Unary", bases := [.ref 118], mro := [.ref 222, .ref 118, .ref 104, .type "object"], ns := 221, qualname := "Unary", hasDict := true, slotNames := [], subclasses := [], abstract := false, collection := .none, hasDel := false }, #[(.some (.ref 199)), .none, (.some (.str "Unary" 445)), (.some (.str "Unary" 453)), (.some (.builtin "object.__new__")), (.some (.bool true))]⟩) ::
  (nat_lit 225, ⟨.type "tuple", .none, .seq #[.ref 118] 0, #[]⟩) ::
  (nat_lit 237, ⟨.type "code", .none, .fields #[.str "__init__" 491, .str "Binary.__init__" 492, .str "/claim/cut.py" 493, .int 70 0, .int 4 0, .int 0 0, .int 0 0, .int 3 0, .ref 232, .bool true, .int 181 0, .ref 233, .none, .ref 234, .ref 235, .ref 236, .int 498 0, .int 70 0, .str "/claim/cut.py" 499], #[]⟩) ::
  (nat_lit 238, ⟨.type "function", .none, .func ((fun (d : FuncData) (_ : { name := "__init__", qualname := "Binary.__init__", params := paramsOf fs_17_0, body := .stmts (bodyOf fs_17_0), scope := scopeOf fs_17_0, globals := 3, closure := [], defaults := .none, kwdefaults := .none, doc := .none, pyModule := .str "pagebase.nodes" 286, annotations := .none, code := .ref 237, closureTuple := .none, builtins := 0 } = d) => d) _ (by dsimp only [fs_17_0, the, paramsOf, bodyOf, scopeOf])), #[]⟩) ::
  (nat_lit 246, ⟨.type "tuple", .none, .seq #[.str "left" 508, .str "op" 509, .str "right" 510] 0, #[]⟩) ::
  (nat_lit 247, ⟨.type "dict", .none, .dict #[⟨PyData.keyHash P "__module__", .str "__module__" 486, .str "pagebase.nodes" 286⟩, ⟨PyData.keyHash P "__firstlineno__", .str "__firstlineno__" 490, .int 68 489⟩, ⟨PyData.keyHash P "__init__", .str "__init__" 500, .ref 238⟩, ⟨PyData.keyHash P "row", .str "row" 507, .ref 245⟩, ⟨PyData.keyHash P "__static_attributes__", .str "__static_attributes__" 511, .ref 246⟩, ⟨PyData.keyHash P "__doc__", .str "__doc__" 512, .none⟩] 2, #[]⟩) ::
  (nat_lit 248, ⟨.type "type", .none, .cls { name := "Binary", bases := [.ref 118], mro := [.ref 248, .ref 118, .ref 104, .type "object"], ns := 247, qualname := "Binary", hasDict := true, slotNames := [], subclasses := [], abstract := false, collection := .none, hasDel := false }, #[(.some (.ref 225)), .none, (.some (.str "Binary" 479)), (.some (.str "Binary" 487)), (.some (.builtin "object.__new__")), (.some (.bool true))]⟩) ::
  (nat_lit 251, ⟨.type "tuple", .none, .seq #[.ref 118] 0, #[]⟩) ::
  (nat_lit 272, ⟨.type "tuple", .none, .seq #[.str "high" 545, .str "low" 546, .str "negated" 547, .str "value" 548] 0, #[]⟩) ::
  (nat_lit 273, ⟨.type "dict", .none, .dict #[⟨PyData.keyHash P "__module__", .str "__module__" 522, .str "pagebase.nodes" 286⟩, ⟨PyData.keyHash P "__firstlineno__", .str "__firstlineno__" 526, .int 77 525⟩, ⟨PyData.keyHash P "__init__", .str "__init__" 537, .ref 264⟩, ⟨PyData.keyHash P "row", .str "row" 544, .ref 271⟩, ⟨PyData.keyHash P "__static_attributes__", .str "__static_attributes__" 549, .ref 272⟩, ⟨PyData.keyHash P "__doc__", .str "__doc__" 550, .none⟩] 2, #[]⟩) ::
  (nat_lit 274, ⟨.type "type", .none, .cls { name := "Between", bases := [.ref 118], mro := [.ref 274, .ref 118, .ref 104, .type "object"], ns := 273, qualname := "Between", hasDict := true, slotNames := [], subclasses := [], abstract := false, collection := .none, hasDel := false }, #[(.some (.ref 251)), .none, (.some (.str "Between" 515)), (.some (.str "Between" 523)), (.some (.builtin "object.__new__")), (.some (.bool true))]⟩) ::
  (nat_lit 277, ⟨.type "tuple", .none, .seq #[.ref 118] 0, #[]⟩) ::
  (nat_lit 298, ⟨.type "tuple", .none, .seq #[.str "items" 582, .str "negated" 583, .str "value" 584] 0, #[]⟩) ::
  (nat_lit 299, ⟨.type "dict", .none, .dict #[⟨PyData.keyHash P "__module__", .str "__module__" 560, .str "pagebase.nodes" 286⟩, ⟨PyData.keyHash P "__firstlineno__", .str "__firstlineno__" 564, .int 87 563⟩, ⟨PyData.keyHash P "__init__", .str "__init__" 574, .ref 290⟩, ⟨PyData.keyHash P "row", .str "row" 581, .ref 297⟩, ⟨PyData.keyHash P "__static_attributes__", .str "__static_attributes__" 585, .ref 298⟩, ⟨PyData.keyHash P "__doc__", .str "__doc__" 586, .none⟩] 2, #[]⟩) ::
  (nat_lit 300, ⟨.type "type", .none, .cls { name := "InList", bases := [.ref 118], mro := [.ref 300, .ref 118, .ref 104, .type "object"], ns := 299, qualname := "InList", hasDict := true, slotNames := [], subclasses := [], abstract := false, collection := .none, hasDel := false }, #[(.some (.ref 277)), .none, (.some (.str "InList" 553)), (.some (.str "InList" 561)), (.some (.builtin "object.__new__")), (.some (.bool true))]⟩) ::
  (nat_lit 303, ⟨.type "tuple", .none, .seq #[.ref 118] 0, #[]⟩) ::
  (nat_lit 315, ⟨.type "code", .none, .fields #[.str "__init__" 601, .str "InSelect.__init__" 602, .str "/claim/cut.py" 603, .int 98 0, .int 4 0, .int 0 0, .int 0 0, .int 3 0, .ref 310, .bool true, .int 181 0, .ref 311, .none, .ref 312, .ref 313, .ref 314, .int 608 0, .int 98 0, .str "/claim/cut.py" 609], #[]⟩) ::
  (nat_lit 316, ⟨.type "function", .none, .func ((fun (d : FuncData) (_ : { name := "__init__", qualname := "InSelect.__init__", params := paramsOf fs_20_0, body := .stmts (bodyOf fs_20_0), scope := scopeOf fs_20_0, globals := 3, closure := [], defaults := .none, kwdefaults := .none, doc := .none, pyModule := .str "pagebase.nodes" 286, annotations := .none, code := .ref 315, closureTuple := .none, builtins := 0 } = d) => d) _ (by dsimp only [fs_20_0, the, paramsOf, bodyOf, scopeOf])), #[]⟩) ::
  (nat_lit 324, ⟨.type "tuple", .none, .seq #[.str "negated" 618, .str "select" 619, .str "value" 620] 0, #[]⟩) ::
  (nat_lit 325, ⟨.type "dict", .none, .dict #[⟨PyData.keyHash P "__module__", .str "__module__" 596, .str "pagebase.nodes" 286⟩, ⟨PyData.keyHash P "__firstlineno__", .str "__firstlineno__" 600, .int 96 599⟩, ⟨PyData.keyHash P "__init__", .str "__init__" 610, .ref 316⟩, ⟨PyData.keyHash P "row", .str "row" 617, .ref 323⟩, ⟨PyData.keyHash P "__static_attributes__", .str "__static_attributes__" 621, .ref 324⟩, ⟨PyData.keyHash P "__doc__", .str "__doc__" 622, .none⟩] 2, #[]⟩) ::
  (nat_lit 326, ⟨.type "type", .none, .cls { name := "InSelect", bases := [.ref 118], mro := [.ref 326, .ref 118, .ref 104, .type "object"], ns := 325, qualname := "InSelect", hasDict := true, slotNames := [], subclasses := [], abstract := false, collection := .none, hasDel := false }, #[(.some (.ref 303)), .none, (.some (.str "InSelect" 589)), (.some (.str "InSelect" 597)), (.some (.builtin "object.__new__")), (.some (.bool true))]⟩) ::
  (nat_lit 329, ⟨.type "tuple", .none, .seq #[.ref 118] 0, #[]⟩) ::
  (nat_lit 341, ⟨.type "code", .none, .fields #[.str "__init__" 637, .str "Exists.__init__" 638, .str "/claim/cut.py" 639, .int 107 0, .int 3 0, .int 0 0, .int 0 0, .int 3 0, .ref 336, .bool true, .int 181 0, .ref 337, .none, .ref 338, .ref 339, .ref 340, .int 643 0, .int 107 0, .str "/claim/cut.py" 644], #[]⟩) ::
  (nat_lit 342, ⟨.type "function", .none, .func ((fun (d : FuncData) (_ : { name := "__init__", qualname := "Exists.__init__", params := paramsOf fs_21_0, body := .stmts (bodyOf fs_21_0), scope := scopeOf fs_21_0, globals := 3, closure := [], defaults := .none, kwdefaults := .none, doc := .none, pyModule := .str "pagebase.nodes" 286, annotations := .none, code := .ref 341, closureTuple := .none, builtins := 0 } = d) => d) _ (by dsimp only [fs_21_0, the, paramsOf, bodyOf, scopeOf])), #[]⟩) ::
  (nat_lit 350, ⟨.type "tuple", .none, .seq #[.str "negated" 653, .str "select" 654] 0, #[]⟩) ::
  (nat_lit 351, ⟨.type "dict", .none, .dict #[⟨PyData.keyHash P "__module__", .str "__module__" 632, .str "pagebase.nodes" 286⟩, ⟨PyData.keyHash P "__firstlineno__", .str "__firstlineno__" 636, .int 105 635⟩, ⟨PyData.keyHash P "__init__", .str "__init__" 645, .ref 342⟩, ⟨PyData.keyHash P "row", .str "row" 652, .ref 349⟩, ⟨PyData.keyHash P "__static_attributes__", .str "__static_attributes__" 655, .ref 350⟩, ⟨PyData.keyHash P "__doc__", .str "__doc__" 656, .none⟩] 2, #[]⟩) ::
  (nat_lit 352, ⟨.type "type", .none, .cls { name := "Exists", bases := [.ref 118], mro := [.ref 352, .ref 118, .ref 104, .type "object"], ns := 351, qualname := "Exists", hasDict := true, slotNames := [], subclasses := [], abstract := false, collection := .none, hasDel := false }, #[(.some (.ref 329)), .none, (.some (.str "Exists" 625)), (.some (.str "Exists" 633)), (.some (.builtin "object.__new__")), (.some (.bool true))]⟩) ::
  (nat_lit 355, ⟨.type "tuple", .none, .seq #[.ref 118] 0, #[]⟩) ::
  (nat_lit 367, ⟨.type "code", .none, .fields #[.str "__init__" 671, .str "Scalar.__init__" 672, .str "/claim/cut.py" 673, .int 115 0, .int 2 0, .int 0 0, .int 0 0, .int 3 0, .ref 362, .bool true, .int 181 0, .ref 363, .none, .ref 364, .ref 365, .ref 366, .int 676 0, .int 115 0, .str "/claim/cut.py" 677], #[]⟩) ::
  (nat_lit 368, ⟨.type "function", .none, .func ((fun (d : FuncData) (_ : { name := "__init__", qualname := "Scalar.__init__", params := paramsOf fs_22_0, body := .stmts (bodyOf fs_22_0), scope := scopeOf fs_22_0, globals := 3, closure := [], defaults := .none, kwdefaults := .none, doc := .none, pyModule := .str "pagebase.nodes" 286, annotations := .none, code := .ref 367, closureTuple := .none, builtins := 0 } = d) => d) _ (by dsimp only [fs_22_0, the, paramsOf, bodyOf, scopeOf])), #[]⟩) ::
  (nat_lit 376, ⟨.type "tuple", .none, .seq #[.str "select" 686] 0, #[]⟩) ::
  (nat_lit 377, ⟨.type "dict", .none, .dict #[⟨PyData.keyHash P "__module__", .str "__module__" 666, .str "pagebase.nodes" 286⟩, ⟨PyData.keyHash P "__firstlineno__", .str "__firstlineno__" 670, .int 113 669⟩, ⟨PyData.keyHash P "__init__", .str "__init__" 678, .ref 368⟩, ⟨PyData.keyHash P "row", .str "row" 685, .ref 375⟩, ⟨PyData.keyHash P "__static_attributes__", .str "__static_attributes__" 687, .ref 376⟩, ⟨PyData.keyHash P "__doc__", .str "__doc__" 688, .none⟩] 2, #[]⟩) ::
  (nat_lit 378, ⟨.type "type", .none, .cls { name := "Scalar", bases := [.ref 118], mro := [.ref 378, .ref 118, .ref 104, .type "object"], ns := 377, qualname := "Scalar", hasDict := true, slotNames := [], subclasses := [], abstract := false, collection := .none, hasDel := false }, #[(.some (.ref 355)), .none, (.some (.str "Scalar" 659)), (.some (.str "Scalar" 667)), (.some (.builtin "object.__new__")), (.some (.bool true))]⟩) ::
  (nat_lit 381, ⟨.type "tuple", .none, .seq #[.ref 118] 0, #[]⟩) ::
  (nat_lit 400, ⟨.type "tuple", .none, .seq #[.str "base" 719, .str "other" 720, .str "whens" 721] 0, #[]⟩) ::
  (nat_lit 401, ⟨.type "dict", .none, .dict #[⟨PyData.keyHash P "__module__", .str "__module__" 698, .str "pagebase.nodes" 286⟩, ⟨PyData.keyHash P "__firstlineno__", .str "__firstlineno__" 702, .int 120 701⟩, ⟨PyData.keyHash P "__init__", .str "__init__" 712, .ref 394⟩, ⟨PyData.keyHash P "row", .str "row" 718, .ref 399⟩, ⟨PyData.keyHash P "__static_attributes__", .str "__static_attributes__" 722, .ref 400⟩, ⟨PyData.keyHash P "__doc__", .str "__doc__" 723, .none⟩] 2, #[]⟩) ::
  (nat_lit 402, ⟨.type "type", .none, .cls { name := "Case", bases := [.ref 118], mro := [.ref 402, .ref 118, .ref 104, .type "object"], ns := 401, qualname := "Case", hasDict := true, slotNames := [], subclasses := [], abstract := false, collection := .none, hasDel := false }, #[(.some (.ref 381)), .none, (.some (.str "Case" 691)), (.some (.str "Case" 699)), (.some (.builtin "object.__new__")), (.some (.bool true))]⟩) ::
  (nat_lit 405, ⟨.type "tuple", .none, .seq #[.ref 118] 0, #[]⟩) ::
  (nat_lit 417, ⟨.type "code", .none, .fields #[.str "__init__" 738, .str "Call.__init__" 739, .str "/claim/cut.py" 740, .int 132 0, .int 5 0, .int 0 0, .int 0 0, .int 3 0, .ref 412, .bool true, .int 181 0, .ref 413, .none, .ref 414, .ref 415, .ref 416, .int 746 0, .int 132 0, .str "/claim/cut.py" 747], #[]⟩) ::
  (nat_lit 418, ⟨.type "function", .none, .func ((fun (d : FuncData) (_ : { name := "__init__", qualname := "Call.__init__", params := paramsOf fs_24_0, body := .stmts (bodyOf fs_24_0), scope := scopeOf fs_24_0, globals := 3, closure := [], defaults := .none, kwdefaults := .none, doc := .none, pyModule := .str "pagebase.nodes" 286, annotations := .none, code := .ref 417, closureTuple := .none, builtins := 0 } = d) => d) _ (by dsimp only [fs_24_0, the, paramsOf, bodyOf, scopeOf])), #[]⟩) ::
  (nat_lit 426, ⟨.type "tuple", .none, .seq #[.str "arguments" 756, .str "distinct" 757, .str "name" 758, .str "star" 759] 0, #[]⟩) ::
  (nat_lit 427, ⟨.type "dict", .none, .dict #[⟨PyData.keyHash P "__module__", .str "__module__" 733, .str "pagebase.nodes" 286⟩, ⟨PyData.keyHash P "__firstlineno__", .str "__firstlineno__" 737, .int 130 736⟩, ⟨PyData.keyHash P "__init__", .str "__init__" 748, .ref 418⟩, ⟨PyData.keyHash P "row", .str "row" 755, .ref 425⟩, ⟨PyData.keyHash P "__static_attributes__", .str "__static_attributes__" 760, .ref 426⟩, ⟨PyData.keyHash P "__doc__", .str "__doc__" 761, .none⟩] 2, #[]⟩) ::
  (nat_lit 428, ⟨.type "type", .none, .cls { name := "Call", bases := [.ref 118], mro := [.ref 428, .ref 118, .ref 104, .type "object"], ns := 427, qualname := "Call", hasDict := true, slotNames := [], subclasses := [], abstract := false, collection := .none, hasDel := false }, #[(.some (.ref 405)), .none, (.some (.str "Call" 726)), (.some (.str "Call" 734)), (.some (.builtin "object.__new__")), (.some (.bool true))]⟩) ::
  (nat_lit 431, ⟨.type "tuple", .none, .seq #[.ref 118] 0, #[]⟩) ::
  (nat_lit 452, ⟨.type "tuple", .none, .seq #[.str "type_name" 792, .str "value" 793] 0, #[]⟩) ::
  (nat_lit 453, ⟨.type "dict", .none, .dict #[⟨PyData.keyHash P "__module__", .str "__module__" 771, .str "pagebase.nodes" 286⟩, ⟨PyData.keyHash P "__firstlineno__", .str "__firstlineno__" 775, .int 140 774⟩, ⟨PyData.keyHash P "__init__", .str "__init__" 784, .ref 444⟩, ⟨PyData.keyHash P "row", .str "row" 791, .ref 451⟩, ⟨PyData.keyHash P "__static_attributes__", .str "__static_attributes__" 794, .ref 452⟩, ⟨PyData.keyHash P "__doc__", .str "__doc__" 795, .none⟩] 2, #[]⟩) ::
  (nat_lit 454, ⟨.type "type", .none, .cls { name := "Cast", bases := [.ref 118], mro := [.ref 454, .ref 118, .ref 104, .type "object"], ns := 453, qualname := "Cast", hasDict := true, slotNames := [], subclasses := [], abstract := false, collection := .none, hasDel := false }, #[(.some (.ref 431)), .none, (.some (.str "Cast" 764)), (.some (.str "Cast" 772)), (.some (.builtin "object.__new__")), (.some (.bool true))]⟩) ::
  (nat_lit 457, ⟨.type "tuple", .none, .seq #[.ref 118] 0, #[]⟩) ::
  (nat_lit 478, ⟨.type "tuple", .none, .seq #[.str "collation" 826, .str "value" 827] 0, #[]⟩) ::
  (nat_lit 479, ⟨.type "dict", .none, .dict #[⟨PyData.keyHash P "__module__", .str "__module__" 805, .str "pagebase.nodes" 286⟩, ⟨PyData.keyHash P "__firstlineno__", .str "__firstlineno__" 809, .int 148 808⟩, ⟨PyData.keyHash P "__init__", .str "__init__" 818, .ref 470⟩, ⟨PyData.keyHash P "row", .str "row" 825, .ref 477⟩, ⟨PyData.keyHash P "__static_attributes__", .str "__static_attributes__" 828, .ref 478⟩, ⟨PyData.keyHash P "__doc__", .str "__doc__" 829, .none⟩] 2, #[]⟩) ::
  (nat_lit 480, ⟨.type "type", .none, .cls { name := "Collate", bases := [.ref 118], mro := [.ref 480, .ref 118, .ref 104, .type "object"], ns := 479, qualname := "Collate", hasDict := true, slotNames := [], subclasses := [], abstract := false, collection := .none, hasDel := false }, #[(.some (.ref 457)), .none, (.some (.str "Collate" 798)), (.some (.str "Collate" 806)), (.some (.builtin "object.__new__")), (.some (.bool true))]⟩) ::
  (nat_lit 483, ⟨.type "tuple", .none, .seq #[.ref 118] 0, #[]⟩) ::
  (nat_lit 504, ⟨.type "tuple", .none, .seq #[.str "negated" 860, .str "value" 861] 0, #[]⟩) ::
  (nat_lit 505, ⟨.type "dict", .none, .dict #[⟨PyData.keyHash P "__module__", .str "__module__" 839, .str "pagebase.nodes" 286⟩, ⟨PyData.keyHash P "__firstlineno__", .str "__firstlineno__" 843, .int 156 842⟩, ⟨PyData.keyHash P "__init__", .str "__init__" 852, .ref 496⟩, ⟨PyData.keyHash P "row", .str "row" 859, .ref 503⟩, ⟨PyData.keyHash P "__static_attributes__", .str "__static_attributes__" 862, .ref 504⟩, ⟨PyData.keyHash P "__doc__", .str "__doc__" 863, .none⟩] 2, #[]⟩) ::
  (nat_lit 506, ⟨.type "type", .none, .cls { name := "IsNull", bases := [.ref 118], mro := [.ref 506, .ref 118, .ref 104, .type "object"], ns := 505, qualname := "IsNull", hasDict := true, slotNames := [], subclasses := [], abstract := false, collection := .none, hasDel := false }, #[(.some (.ref 483)), .none, (.some (.str "IsNull" 832)), (.some (.str "IsNull" 840)), (.some (.builtin "object.__new__")), (.some (.bool true))]⟩) ::
  (nat_lit 509, ⟨.type "tuple", .none, .seq #[.ref 118] 0, #[]⟩) ::
  (nat_lit 530, ⟨.type "tuple", .none, .seq #[.str "escape" 898, .str "negated" 899, .str "pattern" 900, .str "value" 901, .str "word" 902] 0, #[]⟩) ::
  (nat_lit 531, ⟨.type "dict", .none, .dict #[⟨PyData.keyHash P "__module__", .str "__module__" 873, .str "pagebase.nodes" 286⟩, ⟨PyData.keyHash P "__firstlineno__", .str "__firstlineno__" 877, .int 164 876⟩, ⟨PyData.keyHash P "__init__", .str "__init__" 889, .ref 522⟩, ⟨PyData.keyHash P "row", .str "row" 897, .ref 529⟩, ⟨PyData.keyHash P "__static_attributes__", .str "__static_attributes__" 903, .ref 530⟩, ⟨PyData.keyHash P "__doc__", .str "__doc__" 904, .none⟩] 2, #[]⟩) ::
  (nat_lit 532, ⟨.type "type", .none, .cls { name := "Match", bases := [.ref 118], mro := [.ref 532, .ref 118, .ref 104, .type "object"], ns := 531, qualname := "Match", hasDict := true, slotNames := [], subclasses := [], abstract := false, collection := .none, hasDel := false }, #[(.some (.ref 509)), .none, (.some (.str "Match" 866)), (.some (.str "Match" 874)), (.some (.builtin "object.__new__")), (.some (.bool true))]⟩) ::
  (nat_lit 535, ⟨.type "tuple", .none, .seq #[.ref 104] 0, #[]⟩) ::
  (nat_lit 547, ⟨.type "code", .none, .fields #[.str "__init__" 919, .str "ResultColumn.__init__" 920, .str "/claim/cut.py" 921, .int 178 0, .int 4 0, .int 0 0, .int 0 0, .int 3 0, .ref 542, .bool true, .int 181 0, .ref 543, .none, .ref 544, .ref 545, .ref 546, .int 926 0, .int 178 0, .str "/claim/cut.py" 927], #[]⟩) ::
  (nat_lit 548, ⟨.type "function", .none, .func ((fun (d : FuncData) (_ : { name := "__init__", qualname := "ResultColumn.__init__", params := paramsOf fs_29_0, body := .stmts (bodyOf fs_29_0), scope := scopeOf fs_29_0, globals := 3, closure := [], defaults := .none, kwdefaults := .none, doc := .none, pyModule := .str "pagebase.nodes" 286, annotations := .none, code := .ref 547, closureTuple := .none, builtins := 0 } = d) => d) _ (by dsimp only [fs_29_0, the, paramsOf, bodyOf, scopeOf])), #[]⟩) ::
  (nat_lit 556, ⟨.type "tuple", .none, .seq #[.str "alias" 936, .str "star_table" 937, .str "value" 938] 0, #[]⟩) ::
  (nat_lit 557, ⟨.type "dict", .none, .dict #[⟨PyData.keyHash P "__module__", .str "__module__" 914, .str "pagebase.nodes" 286⟩, ⟨PyData.keyHash P "__firstlineno__", .str "__firstlineno__" 918, .int 176 917⟩, ⟨PyData.keyHash P "__init__", .str "__init__" 928, .ref 548⟩, ⟨PyData.keyHash P "row", .str "row" 935, .ref 555⟩, ⟨PyData.keyHash P "__static_attributes__", .str "__static_attributes__" 939, .ref 556⟩, ⟨PyData.keyHash P "__doc__", .str "__doc__" 940, .none⟩] 2, #[]⟩) ::
  (nat_lit 558, ⟨.type "type", .none, .cls { name := "ResultColumn", bases := [.ref 104], mro := [.ref 558, .ref 104, .type "object"], ns := 557, qualname := "ResultColumn", hasDict := true, slotNames := [], subclasses := [], abstract := false, collection := .none, hasDel := false }, #[(.some (.ref 535)), .none, (.some (.str "ResultColumn" 907)), (.some (.str "ResultColumn" 915)), (.some (.builtin "object.__new__")), (.some (.bool true))]⟩) ::
  (nat_lit 561, ⟨.type "tuple", .none, .seq #[.ref 104] 0, #[]⟩) ::
  (nat_lit 573, ⟨.type "code", .none, .fields #[.str "__init__" 955, .str "Core.__init__" 956, .str "/claim/cut.py" 957, .int 187 0, .int 7 0, .int 0 0, .int 0 0, .int 3 0, .ref 568, .bool true, .int 181 0, .ref 569, .none, .ref 570, .ref 571, .ref 572, .int 965 0, .int 187 0, .str "/claim/cut.py" 966], #[]⟩) ::
  (nat_lit 574, ⟨.type "function", .none, .func ((fun (d : FuncData) (_ : { name := "__init__", qualname := "Core.__init__", params := paramsOf fs_30_0, body := .stmts (bodyOf fs_30_0), scope := scopeOf fs_30_0, globals := 3, closure := [], defaults := .none, kwdefaults := .none, doc := .none, pyModule := .str "pagebase.nodes" 286, annotations := .none, code := .ref 573, closureTuple := .none, builtins := 0 } = d) => d) _ (by dsimp only [fs_30_0, the, paramsOf, bodyOf, scopeOf])), #[]⟩) ::
  (nat_lit 582, ⟨.type "tuple", .none, .seq #[.str "columns" 976, .str "distinct" 977, .str "groups" 978, .str "having" 979, .str "source" 980, .str "where" 981] 0, #[]⟩) ::
  (nat_lit 583, ⟨.type "dict", .none, .dict #[⟨PyData.keyHash P "__module__", .str "__module__" 950, .str "pagebase.nodes" 286⟩, ⟨PyData.keyHash P "__firstlineno__", .str "__firstlineno__" 954, .int 185 953⟩, ⟨PyData.keyHash P "__init__", .str "__init__" 967, .ref 574⟩, ⟨PyData.keyHash P "row", .str "row" 975, .ref 581⟩, ⟨PyData.keyHash P "__static_attributes__", .str "__static_attributes__" 982, .ref 582⟩, ⟨PyData.keyHash P "__doc__", .str "__doc__" 983, .none⟩] 2, #[]⟩) ::
  (nat_lit 584, ⟨.type "type", .none, .cls { name := "Core", bases := [.ref 104], mro := [.ref 584, .ref 104, .type "object"], ns := 583, qualname := "Core", hasDict := true, slotNames := [], subclasses := [], abstract := false, collection := .none, hasDel := false }, #[(.some (.ref 561)), .none, (.some (.str "Core" 943)), (.some (.str "Core" 951)), (.some (.builtin "object.__new__")), (.some (.bool true))]⟩) ::
  (nat_lit 587, ⟨.type "tuple", .none, .seq #[.ref 104] 0, #[]⟩) ::
  (nat_lit 599, ⟨.type "code", .none, .fields #[.str "__init__" 998, .str "Values.__init__" 999, .str "/claim/cut.py" 1000, .int 200 0, .int 2 0, .int 0 0, .int 0 0, .int 3 0, .ref 594, .bool true, .int 181 0, .ref 595, .none, .ref 596, .ref 597, .ref 598, .int 1003 0, .int 200 0, .str "/claim/cut.py" 1004], #[]⟩) ::
  (nat_lit 600, ⟨.type "function", .none, .func ((fun (d : FuncData) (_ : { name := "__init__", qualname := "Values.__init__", params := paramsOf fs_31_0, body := .stmts (bodyOf fs_31_0), scope := scopeOf fs_31_0, globals := 3, closure := [], defaults := .none, kwdefaults := .none, doc := .none, pyModule := .str "pagebase.nodes" 286, annotations := .none, code := .ref 599, closureTuple := .none, builtins := 0 } = d) => d) _ (by dsimp only [fs_31_0, the, paramsOf, bodyOf, scopeOf])), #[]⟩) ::
  (nat_lit 606, ⟨.type "tuple", .none, .seq #[.str "rows" 1012] 0, #[]⟩) ::
  (nat_lit 607, ⟨.type "dict", .none, .dict #[⟨PyData.keyHash P "__module__", .str "__module__" 993, .str "pagebase.nodes" 286⟩, ⟨PyData.keyHash P "__firstlineno__", .str "__firstlineno__" 997, .int 198 996⟩, ⟨PyData.keyHash P "__init__", .str "__init__" 1005, .ref 600⟩, ⟨PyData.keyHash P "row", .str "row" 1011, .ref 605⟩, ⟨PyData.keyHash P "__static_attributes__", .str "__static_attributes__" 1013, .ref 606⟩, ⟨PyData.keyHash P "__doc__", .str "__doc__" 1014, .none⟩] 2, #[]⟩) ::
  (nat_lit 608, ⟨.type "type", .none, .cls { name := "Values", bases := [.ref 104], mro := [.ref 608, .ref 104, .type "object"], ns := 607, qualname := "Values", hasDict := true, slotNames := [], subclasses := [], abstract := false, collection := .none, hasDel := false }, #[(.some (.ref 587)), .none, (.some (.str "Values" 986)), (.some (.str "Values" 994)), (.some (.builtin "object.__new__")), (.some (.bool true))]⟩) ::
  (nat_lit 611, ⟨.type "tuple", .none, .seq #[.ref 104] 0, #[]⟩) ::
  (nat_lit 623, ⟨.type "code", .none, .fields #[.str "__init__" 1029, .str "Select.__init__" 1030, .str "/claim/cut.py" 1031, .int 207 0, .int 5 0, .int 0 0, .int 0 0, .int 3 0, .ref 618, .bool true, .int 181 0, .ref 619, .none, .ref 620, .ref 621, .ref 622, .int 1037 0, .int 207 0, .str "/claim/cut.py" 1038], #[]⟩) ::
  (nat_lit 624, ⟨.type "function", .none, .func ((fun (d : FuncData) (_ : { name := "__init__", qualname := "Select.__init__", params := paramsOf fs_32_0, body := .stmts (bodyOf fs_32_0), scope := scopeOf fs_32_0, globals := 3, closure := [], defaults := .none, kwdefaults := .none, doc := .none, pyModule := .str "pagebase.nodes" 286, annotations := .none, code := .ref 623, closureTuple := .none, builtins := 0 } = d) => d) _ (by dsimp only [fs_32_0, the, paramsOf, bodyOf, scopeOf])), #[]⟩) ::
  (nat_lit 632, ⟨.type "tuple", .none, .seq #[.str "body" 1048, .str "limit" 1049, .str "offset" 1050, .str "order" 1051] 0, #[]⟩) ::
  (nat_lit 633, ⟨.type "dict", .none, .dict #[⟨PyData.keyHash P "__module__", .str "__module__" 1024, .str "pagebase.nodes" 286⟩, ⟨PyData.keyHash P "__firstlineno__", .str "__firstlineno__" 1028, .int 205 1027⟩, ⟨PyData.keyHash P "__init__", .str "__init__" 1039, .ref 624⟩, ⟨PyData.keyHash P "row", .str "row" 1047, .ref 631⟩, ⟨PyData.keyHash P "__static_attributes__", .str "__static_attributes__" 1052, .ref 632⟩, ⟨PyData.keyHash P "__doc__", .str "__doc__" 1053, .none⟩] 2, #[]⟩) ::
  (nat_lit 634, ⟨.type "type", .none, .cls { name := "Select", bases := [.ref 104], mro := [.ref 634, .ref 104, .type "object"], ns := 633, qualname := "Select", hasDict := true, slotNames := [], subclasses := [], abstract := false, collection := .none, hasDel := false }, #[(.some (.ref 611)), .none, (.some (.str "Select" 1017)), (.some (.str "Select" 1025)), (.some (.builtin "object.__new__")), (.some (.bool true))]⟩) ::
  (nat_lit 637, ⟨.type "tuple", .none, .seq #[.ref 104] 0, #[]⟩) ::
  (nat_lit 649, ⟨.type "code", .none, .fields #[.str "__init__" 1068, .str "ColumnDef.__init__" 1069, .str "/claim/cut.py" 1070, .int 218 0, .int 4 0, .int 0 0, .int 0 0, .int 3 0, .ref 644, .bool true, .int 181 0, .ref 645, .none, .ref 646, .ref 647, .ref 648, .int 1075 0, .int 218 0, .str "/claim/cut.py" 1076], #[]⟩) ::
  (nat_lit 650, ⟨.type "function", .none, .func ((fun (d : FuncData) (_ : { name := "__init__", qualname := "ColumnDef.__init__", params := paramsOf fs_33_0, body := .stmts (bodyOf fs_33_0), scope := scopeOf fs_33_0, globals := 3, closure := [], defaults := .none, kwdefaults := .none, doc := .none, pyModule := .str "pagebase.nodes" 286, annotations := .none, code := .ref 649, closureTuple := .none, builtins := 0 } = d) => d) _ (by dsimp only [fs_33_0, the, paramsOf, bodyOf, scopeOf])), #[]⟩) ::
  (nat_lit 658, ⟨.type "tuple", .none, .seq #[.str "constraints" 1088, .str "name" 1089, .str "type_name" 1090] 0, #[]⟩) ::
  (nat_lit 659, ⟨.type "dict", .none, .dict #[⟨PyData.keyHash P "__module__", .str "__module__" 1063, .str "pagebase.nodes" 286⟩, ⟨PyData.keyHash P "__firstlineno__", .str "__firstlineno__" 1067, .int 216 1066⟩, ⟨PyData.keyHash P "__init__", .str "__init__" 1077, .ref 650⟩, ⟨PyData.keyHash P "row", .str "row" 1087, .ref 657⟩, ⟨PyData.keyHash P "__static_attributes__", .str "__static_attributes__" 1091, .ref 658⟩, ⟨PyData.keyHash P "__doc__", .str "__doc__" 1092, .none⟩] 2, #[]⟩) ::
  (nat_lit 660, ⟨.type "type", .none, .cls { name := "ColumnDef", bases := [.ref 104], mro := [.ref 660, .ref 104, .type "object"], ns := 659, qualname := "ColumnDef", hasDict := true, slotNames := [], subclasses := [], abstract := false, collection := .none, hasDel := false }, #[(.some (.ref 637)), .none, (.some (.str "ColumnDef" 1056)), (.some (.str "ColumnDef" 1064)), (.some (.builtin "object.__new__")), (.some (.bool true))]⟩) ::
  (nat_lit 663, ⟨.type "tuple", .none, .seq #[.ref 104] 0, #[]⟩) ::
  (nat_lit 675, ⟨.type "code", .none, .fields #[.str "__init__" 1107, .str "CreateTable.__init__" 1108, .str "/claim/cut.py" 1109, .int 230 0, .int 6 0, .int 0 0, .int 0 0, .int 3 0, .ref 670, .bool true, .int 181 0, .ref 671, .none, .ref 672, .ref 673, .ref 674, .int 1116 0, .int 230 0, .str "/claim/cut.py" 1117], #[]⟩) ::
  (nat_lit 676, ⟨.type "function", .none, .func ((fun (d : FuncData) (_ : { name := "__init__", qualname := "CreateTable.__init__", params := paramsOf fs_34_0, body := .stmts (bodyOf fs_34_0), scope := scopeOf fs_34_0, globals := 3, closure := [], defaults := .none, kwdefaults := .none, doc := .none, pyModule := .str "pagebase.nodes" 286, annotations := .none, code := .ref 675, closureTuple := .none, builtins := 0 } = d) => d) _ (by dsimp only [fs_34_0, the, paramsOf, bodyOf, scopeOf])), #[]⟩) ::
  (nat_lit 684, ⟨.type "tuple", .none, .seq #[.str "columns" 1126, .str "constraints" 1127, .str "if_missing" 1128, .str "name" 1129, .str "text" 1130] 0, #[]⟩) ::
  (nat_lit 685, ⟨.type "dict", .none, .dict #[⟨PyData.keyHash P "__module__", .str "__module__" 1102, .str "pagebase.nodes" 286⟩, ⟨PyData.keyHash P "__firstlineno__", .str "__firstlineno__" 1106, .int 228 1105⟩, ⟨PyData.keyHash P "__init__", .str "__init__" 1118, .ref 676⟩, ⟨PyData.keyHash P "row", .str "row" 1125, .ref 683⟩, ⟨PyData.keyHash P "__static_attributes__", .str "__static_attributes__" 1131, .ref 684⟩, ⟨PyData.keyHash P "__doc__", .str "__doc__" 1132, .none⟩] 2, #[]⟩) ::
  (nat_lit 686, ⟨.type "type", .none, .cls { name := "CreateTable", bases := [.ref 104], mro := [.ref 686, .ref 104, .type "object"], ns := 685, qualname := "CreateTable", hasDict := true, slotNames := [], subclasses := [], abstract := false, collection := .none, hasDel := false }, #[(.some (.ref 663)), .none, (.some (.str "CreateTable" 1095)), (.some (.str "CreateTable" 1103)), (.some (.builtin "object.__new__")), (.some (.bool true))]⟩) ::
  (nat_lit 692, ⟨.type "code", .none, .fields #[.str "fold" 1137, .str "fold" 1138, .str "/claim/cut.py" 1139, .int 240 0, .int 1 0, .int 0 0, .int 0 0, .int 3 0, .ref 689, .bool true, .int 181 0, .ref 690, .none, .none, .none, .ref 691, .int 1140 0, .int 240 0, .str "/claim/cut.py" 1141], #[]⟩) ::
  (nat_lit 693, ⟨.type "function", .none, .func ((fun (d : FuncData) (_ : { name := "fold", qualname := "fold", params := paramsOf fs_36, body := .stmts (bodyOf fs_36), scope := scopeOf fs_36, globals := 3, closure := [], defaults := .none, kwdefaults := .none, doc := .none, pyModule := .str "pagebase.expr_tools" 1135, annotations := .none, code := .ref 692, closureTuple := .none, builtins := 0 } = d) => d) _ (by dsimp only [fs_36, the, paramsOf, bodyOf, scopeOf])), #[]⟩) ::
  (nat_lit 699, ⟨.type "code", .none, .fields #[.str "children" 1143, .str "children" 1144, .str "/claim/cut.py" 1145, .int 242 0, .int 1 0, .int 0 0, .int 0 0, .int 3 0, .ref 694, .bool true, .int 181 0, .ref 695, .none, .ref 696, .ref 697, .ref 698, .int 1150 0, .int 242 0, .str "/claim/cut.py" 1151], #[]⟩) ::
  (nat_lit 700, ⟨.type "function", .none, .func ((fun (d : FuncData) (_ : { name := "children", qualname := "children", params := paramsOf fs_37, body := .stmts (bodyOf fs_37), scope := scopeOf fs_37, globals := 3, closure := [], defaults := .none, kwdefaults := .none, doc := .none, pyModule := .str "pagebase.expr_tools" 1135, annotations := .none, code := .ref 699, closureTuple := .none, builtins := 0 } = d) => d) _ (by dsimp only [fs_37, the, paramsOf, bodyOf, scopeOf])), #[]⟩) ::
  (nat_lit 718, ⟨.type "code", .none, .fields #[.str "has_subquery" 1169, .str "has_subquery" 1170, .str "/claim/cut.py" 1171, .int 276 0, .int 1 0, .int 0 0, .int 0 0, .int 3 0, .ref 715, .bool true, .int 181 0, .ref 716, .none, .none, .none, .ref 717, .int 1172 0, .int 276 0, .str "/claim/cut.py" 1173], #[]⟩) ::
  (nat_lit 719, ⟨.type "function", .none, .func ((fun (d : FuncData) (_ : { name := "has_subquery", qualname := "has_subquery", params := paramsOf fs_40, body := .stmts (bodyOf fs_40), scope := scopeOf fs_40, globals := 3, closure := [], defaults := .none, kwdefaults := .none, doc := .none, pyModule := .str "pagebase.expr_tools" 1135, annotations := .none, code := .ref 718, closureTuple := .none, builtins := 0 } = d) => d) _ (by dsimp only [fs_40, the, paramsOf, bodyOf, scopeOf])), #[]⟩) ::
  (nat_lit 737, ⟨.type "code", .none, .fields #[.str "wanted_place" 1192, .str "wanted_place" 1193, .str "/claim/cut.py" 1194, .int 290 0, .int 3 0, .int 0 0, .int 0 0, .int 3 0, .ref 732, .bool true, .int 181 0, .ref 733, .none, .ref 734, .ref 735, .ref 736, .int 1199 0, .int 290 0, .str "/claim/cut.py" 1200], #[]⟩) ::
  (nat_lit 738, ⟨.type "function", .none, .func ((fun (d : FuncData) (_ : { name := "wanted_place", qualname := "wanted_place", params := paramsOf fs_44, body := .stmts (bodyOf fs_44), scope := scopeOf fs_44, globals := 3, closure := [], defaults := .none, kwdefaults := .none, doc := .none, pyModule := .str "pagebase.code_change" 1190, annotations := .none, code := .ref 737, closureTuple := .none, builtins := 0 } = d) => d) _ (by dsimp only [fs_44, the, paramsOf, bodyOf, scopeOf])), #[]⟩) ::
  (nat_lit 744, ⟨.type "code", .none, .fields #[.str "insert_places" 1202, .str "insert_places" 1203, .str "/claim/cut.py" 1204, .int 297 0, .int 2 0, .int 0 0, .int 0 0, .int 3 0, .ref 739, .bool true, .int 181 0, .ref 740, .none, .ref 741, .ref 742, .ref 743, .int 1209 0, .int 297 0, .str "/claim/cut.py" 1210], #[]⟩) ::
  (nat_lit 745, ⟨.type "function", .none, .func ((fun (d : FuncData) (_ : { name := "insert_places", qualname := "insert_places", params := paramsOf fs_45, body := .stmts (bodyOf fs_45), scope := scopeOf fs_45, globals := 3, closure := [], defaults := .none, kwdefaults := .none, doc := .none, pyModule := .str "pagebase.code_change" 1190, annotations := .none, code := .ref 744, closureTuple := .none, builtins := 0 } = d) => d) _ (by dsimp only [fs_45, the, paramsOf, bodyOf, scopeOf])), #[]⟩) ::
  (nat_lit 751, ⟨.type "code", .none, .fields #[.str "check_width" 1212, .str "check_width" 1213, .str "/claim/cut.py" 1214, .int 304 0, .int 4 0, .int 0 0, .int 0 0, .int 3 0, .ref 746, .bool true, .int 181 0, .ref 747, .none, .ref 748, .ref 749, .ref 750, .int 1220 0, .int 304 0, .str "/claim/cut.py" 1221], #[]⟩) ::
  (nat_lit 752, ⟨.type "function", .none, .func ((fun (d : FuncData) (_ : { name := "check_width", qualname := "check_width", params := paramsOf fs_46, body := .stmts (bodyOf fs_46), scope := scopeOf fs_46, globals := 3, closure := [], defaults := .none, kwdefaults := .none, doc := .none, pyModule := .str "pagebase.code_change" 1190, annotations := .none, code := .ref 751, closureTuple := .none, builtins := 0 } = d) => d) _ (by dsimp only [fs_46, the, paramsOf, bodyOf, scopeOf])), #[]⟩) ::
  (nat_lit 758, ⟨.type "code", .none, .fields #[.str "is_plain_values" 1223, .str "is_plain_values" 1224, .str "/claim/cut.py" 1225, .int 311 0, .int 1 0, .int 0 0, .int 0 0, .int 3 0, .ref 753, .bool true, .int 181 0, .ref 754, .none, .ref 755, .ref 756, .ref 757, .int 1229 0, .int 311 0, .str "/claim/cut.py" 1230], #[]⟩) ::
  (nat_lit 759, ⟨.type "function", .none, .func ((fun (d : FuncData) (_ : { name := "is_plain_values", qualname := "is_plain_values", params := paramsOf fs_47, body := .stmts (bodyOf fs_47), scope := scopeOf fs_47, globals := 3, closure := [], defaults := .none, kwdefaults := .none, doc := .none, pyModule := .str "pagebase.code_change" 1190, annotations := .none, code := .ref 758, closureTuple := .none, builtins := 0 } = d) => d) _ (by dsimp only [fs_47, the, paramsOf, bodyOf, scopeOf])), #[]⟩) ::
  (nat_lit 765, ⟨.type "code", .none, .fields #[.str "fold_ascii" 1236, .str "fold_ascii" 1237, .str "/claim/cut.py" 1238, .int 321 0, .int 1 0, .int 0 0, .int 0 0, .int 3 0, .ref 760, .bool true, .int 181 0, .ref 761, .none, .ref 762, .ref 763, .ref 764, .int 1242 0, .int 321 0, .str "/claim/cut.py" 1243], #[]⟩) ::
  (nat_lit 766, ⟨.type "function", .none, .func ((fun (d : FuncData) (_ : { name := "fold_ascii", qualname := "fold_ascii", params := paramsOf fs_50, body := .stmts (bodyOf fs_50), scope := scopeOf fs_50, globals := 3, closure := [], defaults := .none, kwdefaults := .none, doc := .none, pyModule := .str "pagebase.values" 1232, annotations := .none, code := .ref 765, closureTuple := .none, builtins := 0 } = d) => d) _ (by dsimp only [fs_50, the, paramsOf, bodyOf, scopeOf])), #[]⟩) ::
  (nat_lit 772, ⟨.type "code", .none, .fields #[.str "affinity_of_type" 1245, .str "affinity_of_type" 1246, .str "/claim/cut.py" 1247, .int 329 0, .int 1 0, .int 0 0, .int 0 0, .int 3 0, .ref 767, .bool true, .int 181 0, .ref 768, .none, .ref 769, .ref 770, .ref 771, .int 1251 0, .int 329 0, .str "/claim/cut.py" 1252], #[]⟩) ::
  (nat_lit 773, ⟨.type "function", .none, .func ((fun (d : FuncData) (_ : { name := "affinity_of_type", qualname := "affinity_of_type", params := paramsOf fs_51, body := .stmts (bodyOf fs_51), scope := scopeOf fs_51, globals := 3, closure := [], defaults := .none, kwdefaults := .none, doc := .none, pyModule := .str "pagebase.values" 1232, annotations := .none, code := .ref 772, closureTuple := .none, builtins := 0 } = d) => d) _ (by dsimp only [fs_51, the, paramsOf, bodyOf, scopeOf])), #[]⟩) ::
  (nat_lit 774, ⟨.type "tuple", .none, .seq #[.str "rowid" 1256, .str "oid" 1257, .str "_rowid_" 1258] 0, #[]⟩) ::
  (nat_lit 775, ⟨.type "tuple", .none, .seq #[.str "binary" 1260, .str "nocase" 1261, .str "rtrim" 1262] 0, #[]⟩) ::
  (nat_lit 783, ⟨.type "tuple", .none, .seq #[.none] 0, #[]⟩) ::
  (nat_lit 789, ⟨.type "code", .none, .fields #[.str "__init__" 1278, .str "Column.__init__" 1279, .str "/claim/cut.py" 1280, .int 347 0, .int 3 0, .int 0 0, .int 0 0, .int 3 0, .ref 784, .bool true, .int 181 0, .ref 785, .none, .ref 786, .ref 787, .ref 788, .int 1284 0, .int 347 0, .str "/claim/cut.py" 1285], #[]⟩) ::
  (nat_lit 790, ⟨.type "function", .none, .func ((fun (d : FuncData) (_ : { name := "__init__", qualname := "Column.__init__", params := paramsOf fs_56_0, body := .stmts (bodyOf fs_56_0), scope := scopeOf fs_56_0, globals := 3, closure := [], defaults := .ref 783, kwdefaults := .none, doc := .none, pyModule := .str "pagebase.tables" 1254, annotations := .none, code := .ref 789, closureTuple := .none, builtins := 0 } = d) => d) _ (by dsimp only [fs_56_0, the, paramsOf, bodyOf, scopeOf])), #[]⟩) ::
  (nat_lit 791, ⟨.type "tuple", .none, .seq #[.str "affinity" 1287, .str "collation" 1288, .str "default" 1289, .str "name" 1290, .str "not_null" 1291, .str "type_name" 1292] 0, #[]⟩) ::
  (nat_lit 792, ⟨.type "dict", .none, .dict #[⟨PyData.keyHash P "__module__", .str "__module__" 1273, .str "pagebase.tables" 1254⟩, ⟨PyData.keyHash P "__firstlineno__", .str "__firstlineno__" 1277, .int 345 1276⟩, ⟨PyData.keyHash P "__init__", .str "__init__" 1286, .ref 790⟩, ⟨PyData.keyHash P "__static_attributes__", .str "__static_attributes__" 1293, .ref 791⟩, ⟨PyData.keyHash P "__dict__", .str "__dict__" 1295, .ref 794⟩, ⟨PyData.keyHash P "__weakref__", .str "__weakref__" 1297, .ref 795⟩, ⟨PyData.keyHash P "__doc__", .str "__doc__" 1298, .none⟩] 4, #[]⟩) ::
  (nat_lit 793, ⟨.type "type", .none, .cls { name := "Column", bases := [.type "object"], mro := [.ref 793, .type "object"], ns := 792, qualname := "Column", hasDict := true, slotNames := [], subclasses := [], abstract := false, collection := .none, hasDel := false }, #[.none, .none, (.some (.str "Column" 1266)), (.some (.str "Column" 1274)), (.some (.builtin "object.__new__")), (.some (.bool true))]⟩) ::
  (nat_lit 794, ⟨.type "getset_descriptor", .none, .fields #[.str "__dict__" 1294, .ref 793, .builtin "function.__dict__", .builtin "function.__dict__#set"], #[]⟩) ::
  (nat_lit 795, ⟨.type "getset_descriptor", .none, .fields #[.str "__weakref__" 1296, .ref 793, .builtin "ExceptionGroup.__weakref__", .none], #[]⟩) ::
  (nat_lit 824, ⟨.type "tuple", .none, .seq #[.str "columns" 1340, .str "name" 1341, .str "origin" 1342, .str "root" 1343, .str "sql" 1344, .str "table" 1345, .str "unique" 1346] 0, #[]⟩) ::
  (nat_lit 825, ⟨.type "dict", .none, .dict #[⟨PyData.keyHash P "__module__", .str "__module__" 1308, .str "pagebase.tables" 1254⟩, ⟨PyData.keyHash P "__firstlineno__", .str "__firstlineno__" 1312, .int 354 1311⟩, ⟨PyData.keyHash P "__init__", .str "__init__" 1326, .ref 811⟩, ⟨PyData.keyHash P "info", .str "info" 1333, .ref 818⟩, ⟨PyData.keyHash P "places", .str "places" 1339, .ref 823⟩, ⟨PyData.keyHash P "__static_attributes__", .str "__static_attributes__" 1347, .ref 824⟩, ⟨PyData.keyHash P "__dict__", .str "__dict__" 1349, .ref 827⟩, ⟨PyData.keyHash P "__weakref__", .str "__weakref__" 1351, .ref 828⟩, ⟨PyData.keyHash P "__doc__", .str "__doc__" 1352, .none⟩] 4, #[]⟩) ::
  (nat_lit 826, ⟨.type "type", .none, .cls { name := "Index", bases := [.type "object"], mro := [.ref 826, .type "object"], ns := 825, qualname := "Index", hasDict := true, slotNames := [], subclasses := [], abstract := false, collection := .none, hasDel := false }, #[.none, .none, (.some (.str "Index" 1301)), (.some (.str "Index" 1309)), (.some (.builtin "object.__new__")), (.some (.bool true))]⟩) ::
  (nat_lit 827, ⟨.type "getset_descriptor", .none, .fields #[.str "__dict__" 1348, .ref 826, .builtin "function.__dict__", .builtin "function.__dict__#set"], #[]⟩) ::
  (nat_lit 828, ⟨.type "getset_descriptor", .none, .fields #[.str "__weakref__" 1350, .ref 826, .builtin "ExceptionGroup.__weakref__", .none], #[]⟩) ::
  (nat_lit 843, ⟨.type "code", .none, .fields #[.str "__init__" 1367, .str "Table.__init__" 1368, .str "/claim/cut.py" 1369, .int 372 0, .int 5 0, .int 0 0, .int 0 0, .int 3 0, .ref 838, .bool true, .int 181 0, .ref 839, .none, .ref 840, .ref 841, .ref 842, .int 1375 0, .int 372 0, .str "/claim/cut.py" 1376], #[]⟩) ::
  (nat_lit 844, ⟨.type "function", .none, .func ((fun (d : FuncData) (_ : { name := "__init__", qualname := "Table.__init__", params := paramsOf fs_58_0, body := .stmts (bodyOf fs_58_0), scope := scopeOf fs_58_0, globals := 3, closure := [], defaults := .none, kwdefaults := .none, doc := .none, pyModule := .str "pagebase.tables" 1254, annotations := .none, code := .ref 843, closureTuple := .none, builtins := 0 } = d) => d) _ (by dsimp only [fs_58_0, the, paramsOf, bodyOf, scopeOf])), #[]⟩) ::
  (nat_lit 850, ⟨.type "code", .none, .fields #[.str "place_of" 1378, .str "Table.place_of" 1379, .str "/claim/cut.py" 1380, .int 382 0, .int 2 0, .int 0 0, .int 0 0, .int 3 0, .ref 845, .bool true, .int 181 0, .ref 846, .none, .ref 847, .ref 848, .ref 849, .int 1385 0, .int 382 0, .str "/claim/cut.py" 1386], #[]⟩) ::
  (nat_lit 851, ⟨.type "function", .none, .func ((fun (d : FuncData) (_ : { name := "place_of", qualname := "Table.place_of", params := paramsOf fs_58_1, body := .stmts (bodyOf fs_58_1), scope := scopeOf fs_58_1, globals := 3, closure := [], defaults := .none, kwdefaults := .none, doc := .none, pyModule := .str "pagebase.tables" 1254, annotations := .none, code := .ref 850, closureTuple := .none, builtins := 0 } = d) => d) _ (by dsimp only [fs_58_1, the, paramsOf, bodyOf, scopeOf])), #[]⟩) ::
  (nat_lit 857, ⟨.type "code", .none, .fields #[.str "affinities" 1388, .str "Table.affinities" 1389, .str "/claim/cut.py" 1390, .int 389 0, .int 1 0, .int 0 0, .int 0 0, .int 3 0, .ref 852, .bool true, .int 181 0, .ref 853, .none, .ref 854, .ref 855, .ref 856, .int 1392 0, .int 389 0, .str "/claim/cut.py" 1393], #[]⟩) ::
  (nat_lit 858, ⟨.type "function", .none, .func ((fun (d : FuncData) (_ : { name := "affinities", qualname := "Table.affinities", params := paramsOf fs_58_2, body := .stmts (bodyOf fs_58_2), scope := scopeOf fs_58_2, globals := 3, closure := [], defaults := .none, kwdefaults := .none, doc := .none, pyModule := .str "pagebase.tables" 1254, annotations := .none, code := .ref 857, closureTuple := .none, builtins := 0 } = d) => d) _ (by dsimp only [fs_58_2, the, paramsOf, bodyOf, scopeOf])), #[]⟩) ::
  (nat_lit 864, ⟨.type "code", .none, .fields #[.str "column_names" 1395, .str "Table.column_names" 1396, .str "/claim/cut.py" 1397, .int 392 0, .int 1 0, .int 0 0, .int 0 0, .int 3 0, .ref 859, .bool true, .int 181 0, .ref 860, .none, .ref 861, .ref 862, .ref 863, .int 1399 0, .int 392 0, .str "/claim/cut.py" 1400], #[]⟩) ::
  (nat_lit 865, ⟨.type "function", .none, .func ((fun (d : FuncData) (_ : { name := "column_names", qualname := "Table.column_names", params := paramsOf fs_58_3, body := .stmts (bodyOf fs_58_3), scope := scopeOf fs_58_3, globals := 3, closure := [], defaults := .none, kwdefaults := .none, doc := .none, pyModule := .str "pagebase.tables" 1254, annotations := .none, code := .ref 864, closureTuple := .none, builtins := 0 } = d) => d) _ (by dsimp only [fs_58_3, the, paramsOf, bodyOf, scopeOf])), #[]⟩) ::
  (nat_lit 866, ⟨.type "tuple", .none, .seq #[.str "checks" 1402, .str "columns" 1403, .str "indexes" 1404, .str "name" 1405, .str "primary" 1406, .str "root" 1407, .str "rowid_place" 1408, .str "sql" 1409] 0, #[]⟩) ::
  (nat_lit 867, ⟨.type "dict", .none, .dict #[⟨PyData.keyHash P "__module__", .str "__module__" 1362, .str "pagebase.tables" 1254⟩, ⟨PyData.keyHash P "__firstlineno__", .str "__firstlineno__" 1366, .int 370 1365⟩, ⟨PyData.keyHash P "__init__", .str "__init__" 1377, .ref 844⟩, ⟨PyData.keyHash P "place_of", .str "place_of" 1387, .ref 851⟩, ⟨PyData.keyHash P "affinities", .str "affinities" 1394, .ref 858⟩, ⟨PyData.keyHash P "column_names", .str "column_names" 1401, .ref 865⟩, ⟨PyData.keyHash P "__static_attributes__", .str "__static_attributes__" 1410, .ref 866⟩, ⟨PyData.keyHash P "__dict__", .str "__dict__" 1412, .ref 869⟩, ⟨PyData.keyHash P "__weakref__", .str "__weakref__" 1414, .ref 870⟩, ⟨PyData.keyHash P "__doc__", .str "__doc__" 1415, .none⟩] 4, #[]⟩) ::
  (nat_lit 868, ⟨.type "type", .none, .cls { name := "Table", bases := [.type "object"], mro := [.ref 868, .type "object"], ns := 867, qualname := "Table", hasDict := true, slotNames := [], subclasses := [], abstract := false, collection := .none, hasDel := false }, #[.none, .none, (.some (.str "Table" 1355)), (.some (.str "Table" 1363)), (.some (.builtin "object.__new__")), (.some (.bool true))]⟩) ::
  (nat_lit 869, ⟨.type "getset_descriptor", .none, .fields #[.str "__dict__" 1411, .ref 868, .builtin "function.__dict__", .builtin "function.__dict__#set"], #[]⟩) ::
  (nat_lit 870, ⟨.type "getset_descriptor", .none, .fields #[.str "__weakref__" 1413, .ref 868, .builtin "ExceptionGroup.__weakref__", .none], #[]⟩) ::
  (nat_lit 878, ⟨.type "code", .none, .fields #[.str "check_collation" 1418, .str "check_collation" 1419, .str "/claim/cut.py" 1420, .int 394 0, .int 1 0, .int 0 0, .int 0 0, .int 3 0, .ref 873, .bool true, .int 181 0, .ref 874, .none, .ref 875, .ref 876, .ref 877, .int 1422 0, .int 394 0, .str "/claim/cut.py" 1423], #[]⟩) ::
  (nat_lit 879, ⟨.type "function", .none, .func ((fun (d : FuncData) (_ : { name := "check_collation", qualname := "check_collation", params := paramsOf fs_59, body := .stmts (bodyOf fs_59), scope := scopeOf fs_59, globals := 3, closure := [], defaults := .none, kwdefaults := .none, doc := .none, pyModule := .str "pagebase.tables" 1254, annotations := .none, code := .ref 878, closureTuple := .none, builtins := 0 } = d) => d) _ (by dsimp only [fs_59, the, paramsOf, bodyOf, scopeOf])), #[]⟩) ::
  (nat_lit 885, ⟨.type "code", .none, .fields #[.str "check_default" 1429, .str "check_default" 1430, .str "/claim/cut.py" 1431, .int 400 0, .int 2 0, .int 0 0, .int 0 0, .int 3 0, .ref 880, .bool true, .int 181 0, .ref 881, .none, .ref 882, .ref 883, .ref 884, .int 1434 0, .int 400 0, .str "/claim/cut.py" 1435], #[]⟩) ::
  (nat_lit 886, ⟨.type "function", .none, .func ((fun (d : FuncData) (_ : { name := "check_default", qualname := "check_default", params := paramsOf fs_62, body := .stmts (bodyOf fs_62), scope := scopeOf fs_62, globals := 3, closure := [], defaults := .none, kwdefaults := .none, doc := .none, pyModule := .str "pagebase.table_maker" 1425, annotations := .none, code := .ref 885, closureTuple := .none, builtins := 0 } = d) => d) _ (by dsimp only [fs_62, the, paramsOf, bodyOf, scopeOf])), #[]⟩) ::
  (nat_lit 892, ⟨.type "code", .none, .fields #[.str "check_check" 1437, .str "check_check" 1438, .str "/claim/cut.py" 1439, .int 403 0, .int 1 0, .int 0 0, .int 0 0, .int 3 0, .ref 887, .bool true, .int 181 0, .ref 888, .none, .ref 889, .ref 890, .ref 891, .int 1441 0, .int 403 0, .str "/claim/cut.py" 1442], #[]⟩) ::
  (nat_lit 893, ⟨.type "function", .none, .func ((fun (d : FuncData) (_ : { name := "check_check", qualname := "check_check", params := paramsOf fs_63, body := .stmts (bodyOf fs_63), scope := scopeOf fs_63, globals := 3, closure := [], defaults := .none, kwdefaults := .none, doc := .none, pyModule := .str "pagebase.table_maker" 1425, annotations := .none, code := .ref 892, closureTuple := .none, builtins := 0 } = d) => d) _ (by dsimp only [fs_63, the, paramsOf, bodyOf, scopeOf])), #[]⟩) ::
  (nat_lit 899, ⟨.type "code", .none, .fields #[.str "check_names" 1444, .str "check_names" 1445, .str "/claim/cut.py" 1446, .int 410 0, .int 2 0, .int 0 0, .int 0 0, .int 3 0, .ref 894, .bool true, .int 181 0, .ref 895, .none, .ref 896, .ref 897, .ref 898, .int 1452 0, .int 410 0, .str "/claim/cut.py" 1453], #[]⟩) ::
  (nat_lit 900, ⟨.type "function", .none, .func ((fun (d : FuncData) (_ : { name := "check_names", qualname := "check_names", params := paramsOf fs_64, body := .stmts (bodyOf fs_64), scope := scopeOf fs_64, globals := 3, closure := [], defaults := .none, kwdefaults := .none, doc := .none, pyModule := .str "pagebase.table_maker" 1425, annotations := .none, code := .ref 899, closureTuple := .none, builtins := 0 } = d) => d) _ (by dsimp only [fs_64, the, paramsOf, bodyOf, scopeOf])), #[]⟩) ::
  (nat_lit 906, ⟨.type "code", .none, .fields #[.str "is_integer_type" 1455, .str "is_integer_type" 1456, .str "/claim/cut.py" 1457, .int 416 0, .int 1 0, .int 0 0, .int 0 0, .int 3 0, .ref 901, .bool true, .int 181 0, .ref 902, .none, .ref 903, .ref 904, .ref 905, .int 1459 0, .int 416 0, .str "/claim/cut.py" 1460], #[]⟩) ::
  (nat_lit 907, ⟨.type "function", .none, .func ((fun (d : FuncData) (_ : { name := "is_integer_type", qualname := "is_integer_type", params := paramsOf fs_65, body := .stmts (bodyOf fs_65), scope := scopeOf fs_65, globals := 3, closure := [], defaults := .none, kwdefaults := .none, doc := .none, pyModule := .str "pagebase.table_maker" 1425, annotations := .none, code := .ref 906, closureTuple := .none, builtins := 0 } = d) => d) _ (by dsimp only [fs_65, the, paramsOf, bodyOf, scopeOf])), #[]⟩) ::
  (nat_lit 920, ⟨.type "code", .none, .fields #[.str "__init__" 1474, .str "TableMaker.__init__" 1475, .str "/claim/cut.py" 1476, .int 420 0, .int 3 0, .int 0 0, .int 0 0, .int 3 0, .ref 915, .bool true, .int 181 0, .ref 916, .none, .ref 917, .ref 918, .ref 919, .int 1480 0, .int 420 0, .str "/claim/cut.py" 1481], #[]⟩) ::
  (nat_lit 921, ⟨.type "function", .none, .func ((fun (d : FuncData) (_ : { name := "__init__", qualname := "TableMaker.__init__", params := paramsOf fs_66_0, body := .stmts (bodyOf fs_66_0), scope := scopeOf fs_66_0, globals := 3, closure := [], defaults := .none, kwdefaults := .none, doc := .none, pyModule := .str "pagebase.table_maker" 1425, annotations := .none, code := .ref 920, closureTuple := .none, builtins := 0 } = d) => d) _ (by dsimp only [fs_66_0, the, paramsOf, bodyOf, scopeOf])), #[]⟩) ::
  (nat_lit 927, ⟨.type "code", .none, .fields #[.str "root_at" 1483, .str "TableMaker.root_at" 1484, .str "/claim/cut.py" 1485, .int 426 0, .int 2 0, .int 0 0, .int 0 0, .int 3 0, .ref 922, .bool true, .int 181 0, .ref 923, .none, .ref 924, .ref 925, .ref 926, .int 1488 0, .int 426 0, .str "/claim/cut.py" 1489], #[]⟩) ::
  (nat_lit 928, ⟨.type "function", .none, .func ((fun (d : FuncData) (_ : { name := "root_at", qualname := "TableMaker.root_at", params := paramsOf fs_66_1, body := .stmts (bodyOf fs_66_1), scope := scopeOf fs_66_1, globals := 3, closure := [], defaults := .none, kwdefaults := .none, doc := .none, pyModule := .str "pagebase.table_maker" 1425, annotations := .none, code := .ref 927, closureTuple := .none, builtins := 0 } = d) => d) _ (by dsimp only [fs_66_1, the, paramsOf, bodyOf, scopeOf])), #[]⟩) ::
  (nat_lit 934, ⟨.type "code", .none, .fields #[.str "read" 1491, .str "TableMaker.read" 1492, .str "/claim/cut.py" 1493, .int 429 0, .int 1 0, .int 0 0, .int 0 0, .int 3 0, .ref 929, .bool true, .int 181 0, .ref 930, .none, .ref 931, .ref 932, .ref 933, .int 1501 0, .int 429 0, .str "/claim/cut.py" 1502], #[]⟩) ::
  (nat_lit 935, ⟨.type "function", .none, .func ((fun (d : FuncData) (_ : { name := "read", qualname := "TableMaker.read", params := paramsOf fs_66_2, body := .stmts (bodyOf fs_66_2), scope := scopeOf fs_66_2, globals := 3, closure := [], defaults := .none, kwdefaults := .none, doc := .none, pyModule := .str "pagebase.table_maker" 1425, annotations := .none, code := .ref 934, closureTuple := .none, builtins := 0 } = d) => d) _ (by dsimp only [fs_66_2, the, paramsOf, bodyOf, scopeOf])), #[]⟩) ::
  (nat_lit 941, ⟨.type "code", .none, .fields #[.str "add_column" 1504, .str "TableMaker.add_column" 1505, .str "/claim/cut.py" 1506, .int 441 0, .int 2 0, .int 0 0, .int 0 0, .int 3 0, .ref 936, .bool true, .int 181 0, .ref 937, .none, .ref 938, .ref 939, .ref 940, .int 1509 0, .int 441 0, .str "/claim/cut.py" 1510], #[]⟩) ::
  (nat_lit 942, ⟨.type "function", .none, .func ((fun (d : FuncData) (_ : { name := "add_column", qualname := "TableMaker.add_column", params := paramsOf fs_66_3, body := .stmts (bodyOf fs_66_3), scope := scopeOf fs_66_3, globals := 3, closure := [], defaults := .none, kwdefaults := .none, doc := .none, pyModule := .str "pagebase.table_maker" 1425, annotations := .none, code := .ref 941, closureTuple := .none, builtins := 0 } = d) => d) _ (by dsimp only [fs_66_3, the, paramsOf, bodyOf, scopeOf])), #[]⟩) ::
  (nat_lit 948, ⟨.type "code", .none, .fields #[.str "add_column_constraint" 1512, .str "TableMaker.add_column_constraint" 1513, .str "/claim/cut.py" 1514, .int 448 0, .int 4 0, .int 0 0, .int 0 0, .int 3 0, .ref 943, .bool true, .int 181 0, .ref 944, .none, .ref 945, .ref 946, .ref 947, .int 1520 0, .int 448 0, .str "/claim/cut.py" 1521], #[]⟩) ::
  (nat_lit 949, ⟨.type "function", .none, .func ((fun (d : FuncData) (_ : { name := "add_column_constraint", qualname := "TableMaker.add_column_constraint", params := paramsOf fs_66_4, body := .stmts (bodyOf fs_66_4), scope := scopeOf fs_66_4, globals := 3, closure := [], defaults := .none, kwdefaults := .none, doc := .none, pyModule := .str "pagebase.table_maker" 1425, annotations := .none, code := .ref 948, closureTuple := .none, builtins := 0 } = d) => d) _ (by dsimp only [fs_66_4, the, paramsOf, bodyOf, scopeOf])), #[]⟩) ::
  (nat_lit 953, ⟨.type "code", .none, .fields #[.str "add_table_constraint" 1523, .str "TableMaker.add_table_constraint" 1524, .str "/claim/cut.py" 1525, .int 465 0, .int 2 0, .int 0 0, .int 0 0, .int 3 0, .ref 950, .bool true, .int 181 0, .ref 951, .none, .none, .none, .ref 952, .int 1526 0, .int 465 0, .str "/claim/cut.py" 1527], #[]⟩) ::
  (nat_lit 954, ⟨.type "function", .none, .func ((fun (d : FuncData) (_ : { name := "add_table_constraint", qualname := "TableMaker.add_table_constraint", params := paramsOf fs_66_5, body := .stmts (bodyOf fs_66_5), scope := scopeOf fs_66_5, globals := 3, closure := [], defaults := .none, kwdefaults := .none, doc := .none, pyModule := .str "pagebase.table_maker" 1425, annotations := .none, code := .ref 953, closureTuple := .none, builtins := 0 } = d) => d) _ (by dsimp only [fs_66_5, the, paramsOf, bodyOf, scopeOf])), #[]⟩) ::
  (nat_lit 960, ⟨.type "code", .none, .fields #[.str "constraint_column" 1529, .str "TableMaker.constraint_column" 1530, .str "/claim/cut.py" 1531, .int 477 0, .int 2 0, .int 0 0, .int 0 0, .int 3 0, .ref 955, .bool true, .int 181 0, .ref 956, .none, .ref 957, .ref 958, .ref 959, .int 1536 0, .int 477 0, .str "/claim/cut.py" 1537], #[]⟩) ::
  (nat_lit 961, ⟨.type "function", .none, .func ((fun (d : FuncData) (_ : { name := "constraint_column", qualname := "TableMaker.constraint_column", params := paramsOf fs_66_6, body := .stmts (bodyOf fs_66_6), scope := scopeOf fs_66_6, globals := 3, closure := [], defaults := .none, kwdefaults := .none, doc := .none, pyModule := .str "pagebase.table_maker" 1425, annotations := .none, code := .ref 960, closureTuple := .none, builtins := 0 } = d) => d) _ (by dsimp only [fs_66_6, the, paramsOf, bodyOf, scopeOf])), #[]⟩) ::
  (nat_lit 965, ⟨.type "code", .none, .fields #[.str "add_primary" 1539, .str "TableMaker.add_primary" 1540, .str "/claim/cut.py" 1541, .int 484 0, .int 3 0, .int 0 0, .int 0 0, .int 3 0, .ref 962, .bool true, .int 181 0, .ref 963, .none, .none, .none, .ref 964, .int 1542 0, .int 484 0, .str "/claim/cut.py" 1543], #[]⟩) ::
  (nat_lit 966, ⟨.type "function", .none, .func ((fun (d : FuncData) (_ : { name := "add_primary", qualname := "TableMaker.add_primary", params := paramsOf fs_66_7, body := .stmts (bodyOf fs_66_7), scope := scopeOf fs_66_7, globals := 3, closure := [], defaults := .none, kwdefaults := .none, doc := .none, pyModule := .str "pagebase.table_maker" 1425, annotations := .none, code := .ref 965, closureTuple := .none, builtins := 0 } = d) => d) _ (by dsimp only [fs_66_7, the, paramsOf, bodyOf, scopeOf])), #[]⟩) ::
  (nat_lit 972, ⟨.type "code", .none, .fields #[.str "add_unique" 1545, .str "TableMaker.add_unique" 1546, .str "/claim/cut.py" 1547, .int 494 0, .int 3 0, .int 0 0, .int 0 0, .int 3 0, .ref 967, .bool true, .int 181 0, .ref 968, .none, .ref 969, .ref 970, .ref 971, .int 1551 0, .int 494 0, .str "/claim/cut.py" 1552], #[]⟩) ::
  (nat_lit 973, ⟨.type "function", .none, .func ((fun (d : FuncData) (_ : { name := "add_unique", qualname := "TableMaker.add_unique", params := paramsOf fs_66_8, body := .stmts (bodyOf fs_66_8), scope := scopeOf fs_66_8, globals := 3, closure := [], defaults := .none, kwdefaults := .none, doc := .none, pyModule := .str "pagebase.table_maker" 1425, annotations := .none, code := .ref 972, closureTuple := .none, builtins := 0 } = d) => d) _ (by dsimp only [fs_66_8, the, paramsOf, bodyOf, scopeOf])), #[]⟩) ::
  (nat_lit 977, ⟨.type "code", .none, .fields #[.str "settle" 1554, .str "TableMaker.settle" 1555, .str "/claim/cut.py" 1556, .int 497 0, .int 1 0, .int 0 0, .int 0 0, .int 3 0, .ref 974, .bool true, .int 181 0, .ref 975, .none, .none, .none, .ref 976, .int 1557 0, .int 497 0, .str "/claim/cut.py" 1558], #[]⟩) ::
  (nat_lit 978, ⟨.type "function", .none, .func ((fun (d : FuncData) (_ : { name := "settle", qualname := "TableMaker.settle", params := paramsOf fs_66_9, body := .stmts (bodyOf fs_66_9), scope := scopeOf fs_66_9, globals := 3, closure := [], defaults := .none, kwdefaults := .none, doc := .none, pyModule := .str "pagebase.table_maker" 1425, annotations := .none, code := .ref 977, closureTuple := .none, builtins := 0 } = d) => d) _ (by dsimp only [fs_66_9, the, paramsOf, bodyOf, scopeOf])), #[]⟩) ::
  (nat_lit 984, ⟨.type "code", .none, .fields #[.str "settled" 1560, .str "TableMaker.settled" 1561, .str "/claim/cut.py" 1562, .int 508 0, .int 2 0, .int 0 0, .int 0 0, .int 3 0, .ref 979, .bool true, .int 181 0, .ref 980, .none, .ref 981, .ref 982, .ref 983, .int 1568 0, .int 508 0, .str "/claim/cut.py" 1569], #[]⟩) ::
  (nat_lit 985, ⟨.type "function", .none, .func ((fun (d : FuncData) (_ : { name := "settled", qualname := "TableMaker.settled", params := paramsOf fs_66_10, body := .stmts (bodyOf fs_66_10), scope := scopeOf fs_66_10, globals := 3, closure := [], defaults := .none, kwdefaults := .none, doc := .none, pyModule := .str "pagebase.table_maker" 1425, annotations := .none, code := .ref 984, closureTuple := .none, builtins := 0 } = d) => d) _ (by dsimp only [fs_66_10, the, paramsOf, bodyOf, scopeOf])), #[]⟩) ::
  (nat_lit 989, ⟨.type "code", .none, .fields #[.str "is_needless" 1571, .str "TableMaker.is_needless" 1572, .str "/claim/cut.py" 1573, .int 512 0, .int 3 0, .int 0 0, .int 0 0, .int 3 0, .ref 986, .bool true, .int 181 0, .ref 987, .none, .none, .none, .ref 988, .int 1574 0, .int 512 0, .str "/claim/cut.py" 1575], #[]⟩) ::
  (nat_lit 990, ⟨.type "function", .none, .func ((fun (d : FuncData) (_ : { name := "is_needless", qualname := "TableMaker.is_needless", params := paramsOf fs_66_11, body := .stmts (bodyOf fs_66_11), scope := scopeOf fs_66_11, globals := 3, closure := [], defaults := .none, kwdefaults := .none, doc := .none, pyModule := .str "pagebase.table_maker" 1425, annotations := .none, code := .ref 989, closureTuple := .none, builtins := 0 } = d) => d) _ (by dsimp only [fs_66_11, the, paramsOf, bodyOf, scopeOf])), #[]⟩) ::
  (nat_lit 991, ⟨.type "tuple", .none, .seq #[.str "has_primary" 1577, .str "roots" 1578, .str "statement" 1579, .str "table" 1580] 0, #[]⟩) ::
  (nat_lit 992, ⟨.type "dict", .none, .dict #[⟨PyData.keyHash P "__module__", .str "__module__" 1469, .str "pagebase.table_maker" 1425⟩, ⟨PyData.keyHash P "__firstlineno__", .str "__firstlineno__" 1473, .int 418 1472⟩, ⟨PyData.keyHash P "__init__", .str "__init__" 1482, .ref 921⟩, ⟨PyData.keyHash P "root_at", .str "root_at" 1490, .ref 928⟩, ⟨PyData.keyHash P "read", .str "read" 1503, .ref 935⟩, ⟨PyData.keyHash P "add_column", .str "add_column" 1511, .ref 942⟩, ⟨PyData.keyHash P "add_column_constraint", .str "add_column_constraint" 1522, .ref 949⟩, ⟨PyData.keyHash P "add_table_constraint", .str "add_table_constraint" 1528, .ref 954⟩, ⟨PyData.keyHash P "constraint_column", .str "constraint_column" 1538, .ref 961⟩, ⟨PyData.keyHash P "add_primary", .str "add_primary" 1544, .ref 966⟩, ⟨PyData.keyHash P "add_unique", .str "add_unique" 1553, .ref 973⟩, ⟨PyData.keyHash P "settle", .str "settle" 1559, .ref 978⟩, ⟨PyData.keyHash P "settled", .str "settled" 1570, .ref 985⟩, ⟨PyData.keyHash P "is_needless", .str "is_needless" 1576, .ref 990⟩, ⟨PyData.keyHash P "__static_attributes__", .str "__static_attributes__" 1581, .ref 991⟩, ⟨PyData.keyHash P "__dict__", .str "__dict__" 1583, .ref 994⟩, ⟨PyData.keyHash P "__weakref__", .str "__weakref__" 1585, .ref 995⟩, ⟨PyData.keyHash P "__doc__", .str "__doc__" 1586, .none⟩] 4, #[]⟩) ::
  (nat_lit 993, ⟨.type "type", .none, .cls { name := "TableMaker", bases := [.type "object"], mro := [.ref 993, .type "object"], ns := 992, qualname := "TableMaker", hasDict := true, slotNames := [], subclasses := [], abstract := false, collection := .none, hasDel := false }, #[.none, .none, (.some (.str "TableMaker" 1462)), (.some (.str "TableMaker" 1470)), (.some (.builtin "object.__new__")), (.some (.bool true))]⟩) ::
  (nat_lit 994, ⟨.type "getset_descriptor", .none, .fields #[.str "__dict__" 1582, .ref 993, .builtin "function.__dict__", .builtin "function.__dict__#set"], #[]⟩) ::
  (nat_lit 995, ⟨.type "getset_descriptor", .none, .fields #[.str "__weakref__" 1584, .ref 993, .builtin "ExceptionGroup.__weakref__", .none], #[]⟩) ::
  (nat_lit 998, ⟨.type "tuple", .none, .seq #[.none] 0, #[]⟩) ::
  (nat_lit 1004, ⟨.type "code", .none, .fields #[.str "table_from" 1589, .str "table_from" 1590, .str "/claim/cut.py" 1591, .int 522 0, .int 2 0, .int 0 0, .int 0 0, .int 3 0, .ref 999, .bool true, .int 181 0, .ref 1000, .none, .ref 1001, .ref 1002, .ref 1003, .int 1596 0, .int 522 0, .str "/claim/cut.py" 1597], #[]⟩) ::
  (nat_lit 1005, ⟨.type "function", .none, .func ((fun (d : FuncData) (_ : { name := "table_from", qualname := "table_from", params := paramsOf fs_67, body := .stmts (bodyOf fs_67), scope := scopeOf fs_67, globals := 3, closure := [], defaults := .ref 998, kwdefaults := .none, doc := .none, pyModule := .str "pagebase.table_maker" 1425, annotations := .none, code := .ref 1004, closureTuple := .none, builtins := 0 } = d) => d) _ (by dsimp only [fs_67, the, paramsOf, bodyOf, scopeOf])), #[]⟩) ::
  (nat_lit 1011, ⟨.type "code", .none, .fields #[.str "_law_pool" 1601, .str "_law_pool" 1602, .str "/claim/cut.py" 1603, .int 528 0, .int 2 0, .int 0 0, .int 0 0, .int 3 0, .ref 1006, .bool true, .int 181 0, .ref 1007, .none, .ref 1008, .ref 1009, .ref 1010, .int 1609 0, .int 528 0, .str "/claim/cut.py" 1610], #[]⟩) ::
  (nat_lit 1012, ⟨.type "function", .none, .func ((fun (d : FuncData) (_ : { name := "_law_pool", qualname := "_law_pool", params := paramsOf fs_69, body := .stmts (bodyOf fs_69), scope := scopeOf fs_69, globals := 3, closure := [], defaults := .none, kwdefaults := .none, doc := .none, pyModule := .str "law_xm0769_01" 1599, annotations := .none, code := .ref 1011, closureTuple := .none, builtins := 0 } = d) => d) _ (by dsimp only [fs_69, the, paramsOf, bodyOf, scopeOf])), #[]⟩) ::
  (nat_lit 1018, ⟨.type "code", .none, .fields #[.str "_law_take" 1612, .str "_law_take" 1613, .str "/claim/cut.py" 1614, .int 535 0, .int 2 0, .int 0 0, .int 0 0, .int 3 0, .ref 1013, .bool true, .int 181 0, .ref 1014, .none, .ref 1015, .ref 1016, .ref 1017, .int 1618 0, .int 535 0, .str "/claim/cut.py" 1619], #[]⟩) ::
  (nat_lit 1019, ⟨.type "function", .none, .func ((fun (d : FuncData) (_ : { name := "_law_take", qualname := "_law_take", params := paramsOf fs_70, body := .stmts (bodyOf fs_70), scope := scopeOf fs_70, globals := 3, closure := [], defaults := .none, kwdefaults := .none, doc := .none, pyModule := .str "law_xm0769_01" 1599, annotations := .none, code := .ref 1018, closureTuple := .none, builtins := 0 } = d) => d) _ (by dsimp only [fs_70, the, paramsOf, bodyOf, scopeOf])), #[]⟩) ::
  (nat_lit 1025, ⟨.type "code", .none, .fields #[.str "_law_one" 1621, .str "_law_one" 1622, .str "/claim/cut.py" 1623, .int 542 0, .int 2 0, .int 0 0, .int 0 0, .int 3 0, .ref 1020, .bool true, .int 181 0, .ref 1021, .none, .ref 1022, .ref 1023, .ref 1024, .int 1626 0, .int 542 0, .str "/claim/cut.py" 1627], #[]⟩) ::
  (nat_lit 1026, ⟨.type "function", .none, .func ((fun (d : FuncData) (_ : { name := "_law_one", qualname := "_law_one", params := paramsOf fs_71, body := .stmts (bodyOf fs_71), scope := scopeOf fs_71, globals := 3, closure := [], defaults := .none, kwdefaults := .none, doc := .none, pyModule := .str "law_xm0769_01" 1599, annotations := .none, code := .ref 1025, closureTuple := .none, builtins := 0 } = d) => d) _ (by dsimp only [fs_71, the, paramsOf, bodyOf, scopeOf])), #[]⟩) ::
  (nat_lit 1032, ⟨.type "code", .none, .fields #[.str "_law_letters" 1629, .str "_law_letters" 1630, .str "/claim/cut.py" 1631, .int 544 0, .int 2 0, .int 0 0, .int 0 0, .int 3 0, .ref 1027, .bool true, .int 181 0, .ref 1028, .none, .ref 1029, .ref 1030, .ref 1031, .int 1634 0, .int 544 0, .str "/claim/cut.py" 1635], #[]⟩) ::
  (nat_lit 1033, ⟨.type "function", .none, .func ((fun (d : FuncData) (_ : { name := "_law_letters", qualname := "_law_letters", params := paramsOf fs_72, body := .stmts (bodyOf fs_72), scope := scopeOf fs_72, globals := 3, closure := [], defaults := .none, kwdefaults := .none, doc := .none, pyModule := .str "law_xm0769_01" 1599, annotations := .none, code := .ref 1032, closureTuple := .none, builtins := 0 } = d) => d) _ (by dsimp only [fs_72, the, paramsOf, bodyOf, scopeOf])), #[]⟩) ::
  (nat_lit 1039, ⟨.type "code", .none, .fields #[.str "_law_table" 1637, .str "_law_table" 1638, .str "/claim/cut.py" 1639, .int 546 0, .int 2 0, .int 0 0, .int 0 0, .int 3 0, .ref 1034, .bool true, .int 181 0, .ref 1035, .none, .ref 1036, .ref 1037, .ref 1038, .int 1644 0, .int 546 0, .str "/claim/cut.py" 1645], #[]⟩) ::
  (nat_lit 1040, ⟨.type "function", .none, .func ((fun (d : FuncData) (_ : { name := "_law_table", qualname := "_law_table", params := paramsOf fs_73, body := .stmts (bodyOf fs_73), scope := scopeOf fs_73, globals := 3, closure := [], defaults := .none, kwdefaults := .none, doc := .none, pyModule := .str "law_xm0769_01" 1599, annotations := .none, code := .ref 1039, closureTuple := .none, builtins := 0 } = d) => d) _ (by dsimp only [fs_73, the, paramsOf, bodyOf, scopeOf])), #[]⟩) ::
  (nat_lit 1046, ⟨.type "code", .none, .fields #[.str "_law_tried" 1647, .str "_law_tried" 1648, .str "/claim/cut.py" 1649, .int 551 0, .int 1 0, .int 0 0, .int 0 0, .int 3 0, .ref 1041, .bool true, .int 181 0, .ref 1042, .none, .ref 1043, .ref 1044, .ref 1045, .int 1652 0, .int 551 0, .str "/claim/cut.py" 1653], #[]⟩) ::
  (nat_lit 1047, ⟨.type "function", .none, .func ((fun (d : FuncData) (_ : { name := "_law_tried", qualname := "_law_tried", params := paramsOf fs_74, body := .stmts (bodyOf fs_74), scope := scopeOf fs_74, globals := 3, closure := [], defaults := .none, kwdefaults := .none, doc := .none, pyModule := .str "law_xm0769_01" 1599, annotations := .none, code := .ref 1046, closureTuple := .none, builtins := 0 } = d) => d) _ (by dsimp only [fs_74, the, paramsOf, bodyOf, scopeOf])), #[]⟩) ::
  (nat_lit 1051, ⟨.type "code", .none, .fields #[.str "_law_place" 1655, .str "_law_place" 1656, .str "/claim/cut.py" 1657, .int 556 0, .int 3 0, .int 0 0, .int 0 0, .int 3 0, .ref 1048, .bool true, .int 181 0, .ref 1049, .none, .none, .none, .ref 1050, .int 1658 0, .int 556 0, .str "/claim/cut.py" 1659], #[]⟩) ::
  (nat_lit 1052, ⟨.type "function", .none, .func ((fun (d : FuncData) (_ : { name := "_law_place", qualname := "_law_place", params := paramsOf fs_75, body := .stmts (bodyOf fs_75), scope := scopeOf fs_75, globals := 3, closure := [], defaults := .none, kwdefaults := .none, doc := .none, pyModule := .str "law_xm0769_01" 1599, annotations := .none, code := .ref 1051, closureTuple := .none, builtins := 0 } = d) => d) _ (by dsimp only [fs_75, the, paramsOf, bodyOf, scopeOf])), #[]⟩) ::
  (nat_lit 1056, ⟨.type "code", .none, .fields #[.str "_law_places_right" 1661, .str "_law_places_right" 1662, .str "/claim/cut.py" 1663, .int 563 0, .int 4 0, .int 0 0, .int 0 0, .int 3 0, .ref 1053, .bool true, .int 181 0, .ref 1054, .none, .none, .none, .ref 1055, .int 1664 0, .int 563 0, .str "/claim/cut.py" 1665], #[]⟩) ::
  (nat_lit 1057, ⟨.type "function", .none, .func ((fun (d : FuncData) (_ : { name := "_law_places_right", qualname := "_law_places_right", params := paramsOf fs_76, body := .stmts (bodyOf fs_76), scope := scopeOf fs_76, globals := 3, closure := [], defaults := .none, kwdefaults := .none, doc := .none, pyModule := .str "law_xm0769_01" 1599, annotations := .none, code := .ref 1056, closureTuple := .none, builtins := 0 } = d) => d) _ (by dsimp only [fs_76, the, paramsOf, bodyOf, scopeOf])), #[]⟩) ::
  (nat_lit 1063, ⟨.type "code", .none, .fields #[.str "_law_expression" 1667, .str "_law_expression" 1668, .str "/claim/cut.py" 1669, .int 579 0, .int 2 0, .int 0 0, .int 0 0, .int 3 0, .ref 1058, .bool true, .int 181 0, .ref 1059, .none, .ref 1060, .ref 1061, .ref 1062, .int 1677 0, .int 579 0, .str "/claim/cut.py" 1678], #[]⟩) ::
  (nat_lit 1064, ⟨.type "function", .none, .func ((fun (d : FuncData) (_ : { name := "_law_expression", qualname := "_law_expression", params := paramsOf fs_77, body := .stmts (bodyOf fs_77), scope := scopeOf fs_77, globals := 3, closure := [], defaults := .none, kwdefaults := .none, doc := .none, pyModule := .str "law_xm0769_01" 1599, annotations := .none, code := .ref 1063, closureTuple := .none, builtins := 0 } = d) => d) _ (by dsimp only [fs_77, the, paramsOf, bodyOf, scopeOf])), #[]⟩) ::
  (nat_lit 1068, ⟨.type "code", .none, .fields #[.str "_law_values_right" 1680, .str "_law_values_right" 1681, .str "/claim/cut.py" 1682, .int 590 0, .int 1 0, .int 0 0, .int 0 0, .int 3 0, .ref 1065, .bool true, .int 181 0, .ref 1066, .none, .none, .none, .ref 1067, .int 1683 0, .int 590 0, .str "/claim/cut.py" 1684], #[]⟩) ::
  (nat_lit 1069, ⟨.type "function", .none, .func ((fun (d : FuncData) (_ : { name := "_law_values_right", qualname := "_law_values_right", params := paramsOf fs_78, body := .stmts (bodyOf fs_78), scope := scopeOf fs_78, globals := 3, closure := [], defaults := .none, kwdefaults := .none, doc := .none, pyModule := .str "law_xm0769_01" 1599, annotations := .none, code := .ref 1068, closureTuple := .none, builtins := 0 } = d) => d) _ (by dsimp only [fs_78, the, paramsOf, bodyOf, scopeOf])), #[]⟩) ::
  (nat_lit 1073, ⟨.type "code", .none, .fields #[.str "_law_right" 1686, .str "_law_right" 1687, .str "/claim/cut.py" 1688, .int 597 0, .int 1 0, .int 0 0, .int 0 0, .int 3 0, .ref 1070, .bool true, .int 181 0, .ref 1071, .none, .none, .none, .ref 1072, .int 1689 0, .int 597 0, .str "/claim/cut.py" 1690], #[]⟩) ::
  (nat_lit 1074, ⟨.type "function", .none, .func ((fun (d : FuncData) (_ : { name := "_law_right", qualname := "_law_right", params := paramsOf fs_79, body := .stmts (bodyOf fs_79), scope := scopeOf fs_79, globals := 3, closure := [], defaults := .none, kwdefaults := .none, doc := .none, pyModule := .str "law_xm0769_01" 1599, annotations := .none, code := .ref 1073, closureTuple := .none, builtins := 0 } = d) => d) _ (by dsimp only [fs_79, the, paramsOf, bodyOf, scopeOf])), #[]⟩) ::
  (nat_lit 1080, ⟨.type "code", .none, .fields #[.str "law" 1692, .str "law" 1693, .str "/claim/cut.py" 1694, .int 608 0, .int 1 0, .int 0 0, .int 0 0, .int 3 0, .ref 1075, .bool true, .int 181 0, .ref 1076, .none, .ref 1077, .ref 1078, .ref 1079, .int 1697 0, .int 608 0, .str "/claim/cut.py" 1698], #[]⟩) ::
  (nat_lit 1081, ⟨.type "function", .none, .func ((fun (d : FuncData) (_ : { name := "law", qualname := "law", params := paramsOf fs_80, body := .stmts (bodyOf fs_80), scope := scopeOf fs_80, globals := 3, closure := [], defaults := .none, kwdefaults := .none, doc := .none, pyModule := .str "law_xm0769_01" 1599, annotations := .none, code := .ref 1080, closureTuple := .none, builtins := 0 } = d) => d) _ (by dsimp only [fs_80, the, paramsOf, bodyOf, scopeOf])), #[]⟩) :: []
end hd
noncomputable def asL : List Addr := [2, 3, 20, 21, 22, 34, 35, 36, 37, 38, 39, 42, 49, 50, 51, 54, 55, 56, 57, 58, 59, 60, 68, 102, 103, 104, 105, 106, 109, 116, 117, 118, 121, 133, 134, 142, 143, 144, 147, 168, 169, 170, 173, 194, 195, 196, 199, 211, 212, 220, 221, 222, 225, 237, 238, 246, 247, 248, 251, 272, 273, 274, 277, 298, 299, 300, 303, 315, 316, 324, 325, 326, 329, 341, 342, 350, 351, 352, 355, 367, 368, 376, 377, 378, 381, 400, 401, 402, 405, 417, 418, 426, 427, 428, 431, 452, 453, 454, 457, 478, 479, 480, 483, 504, 505, 506, 509, 530, 531, 532, 535, 547, 548, 556, 557, 558, 561, 573, 574, 582, 583, 584, 587, 599, 600, 606, 607, 608, 611, 623, 624, 632, 633, 634, 637, 649, 650, 658, 659, 660, 663, 675, 676, 684, 685, 686, 692, 693, 699, 700, 718, 719, 737, 738, 744, 745, 751, 752, 758, 759, 765, 766, 772, 773, 774, 775, 783, 789, 790, 791, 792, 793, 794, 795, 824, 825, 826, 827, 828, 843, 844, 850, 851, 857, 858, 864, 865, 866, 867, 868, 869, 870, 878, 879, 885, 886, 892, 893, 899, 900, 906, 907, 920, 921, 927, 928, 934, 935, 941, 942, 948, 949, 953, 954, 960, 961, 965, 966, 972, 973, 977, 978, 984, 985, 989, 990, 991, 992, 993, 994, 995, 998, 1004, 1005, 1011, 1012, 1018, 1019, 1025, 1026, 1032, 1033, 1039, 1040, 1046, 1047, 1051, 1052, 1056, 1057, 1063, 1064, 1068, 1069, 1073, 1074, 1080, 1081]
noncomputable abbrev HK : Hook := kmHook hd.heap_39 asL (fun _ => by kernel_rfl) [1054, 1071]
noncomputable def XtQ : Shared → Bool := fun s => xlAt qv [] s && recOk (RowW.records PySem.Challenge.rw_xm0769_01.row.toRowW) s
theorem obs_of {t : BT} {n : Nat} {life : Life} : ∀ {as : List Addr} {os : List Obj}, as.map t.get = os.map some → (as.all fun a => Nat.blt a n) = true → (os.all fun o => !o.isFreed) = true → as.map (absHeap t n life).get? = os.map some
  | [], [], _, _, _ => rfl
  | [], _ :: _, h, _, _ => by simp at h
  | _ :: _, [], h, _, _ => by simp at h
  | a :: as, o :: os, h, h1, h2 => by
    rw [List.map_cons, List.map_cons] at h ⊢
    simp only [List.all_cons, Bool.and_eq_true] at h1 h2
    obtain ⟨ha, hr⟩ := List.cons.inj h
    rw [obs_of hr h1.2 h2.2]
    have hlt : a < n := by simpa [Nat.blt_eq] using h1.1
    rw [abs_get hlt ha]
    have : alive o = some o := by
      unfold alive
      have := h2.1
      revert this
      unfold Obj.isFreed
      split <;> split <;> simp_all
    rw [this]
theorem run_turn {α β γ δ : Type} {r : OsState → Option α} {f : α → β × γ × δ} {g : α → β × γ × ε} {b : β} {c : γ} {d : δ} {e : ε} (h : (fun os => (r os).map f) = fun _ => some (b, c, d)) (k : ∀ a, f a = (b, c, d) → g a = (b, c, e)) : (fun os => (r os).map g) = fun _ => some (b, c, e) := by
  funext os
  obtain ⟨a, h1, h2⟩ := Option.map_eq_some_iff.mp (congrFun h os)
  rw [h1]
  exact congrArg some (k a h2)
noncomputable abbrev runP (w : World) : Prop := (fun os => (runG through (Fast.tw6613529449190102663 11 (some (.ref 6))) (Fast.tw10156331382660048174 (Fast.tw11892475500146522536 Fast.tw14364793385576792824) prog w) 20140 (start0 w os) (topStub prog)).map fun s =>
  (staticsOk (Fast.tw5923862056798008813 prog.main.body) (boot_heap w.params) s.abs.heap && namesBound prog s.abs.heap && gensDone s.abs && laidKept (boot_heap w.params) s.abs.heap, Fast.tw4187177175401517315 qv looseL (Fast.tw5923862056798008813 prog.main.body) XtQ true s.abs, (s.n, asL.map s.tree.get, ([1054, 1071] : List Addr).map s.tree.get))) =
  fun _ => some (true, openGood qv looseL, (1082, ((hd.heap_39 w.params).map (·.2)).map some, ([tabObj #[], tabObj #[]] : List Obj).map some))
theorem run_f (w : World) : runP (w.withFollow "special-get-raises" false) := by kernel_rfl
theorem run_t (w : World) : runP (w.withFollow "special-get-raises" true) := by kernel_rfl
theorem run_all (w : World) : runP w := byRow2 "special-get-raises" run_f run_t w
theorem run_O (w : World) : (fun os => (runG through (stepOk 11 (some (.ref 6))) (stepT (denote treeTable) prog w) 20140 (start0 w os) (topStub prog)).map fun s => looksAt prog qv looseL XtQ (Hook.obs HK) (boot_heap w.params) s.abs) = fun _ => some (true, openGood qv looseL, Hook.val HK w) := by
  have h := run_all w
  unfold runP at h
  rw [← Fast.te6613529449190102663, ← Fast.te10156331382660048174, ← Fast.te11892475500146522536, ← Fast.te14364793385576792824, ← Fast.te5923862056798008813, ← Fast.te4187177175401517315] at h
  refine run_turn h fun s hs => ?_
  obtain ⟨h1, h2, h3⟩ : _ ∧ _ ∧ _ := by simpa only [Prod.mk.injEq] using hs
  obtain ⟨h3, h4, h5⟩ : _ ∧ _ ∧ _ := by simpa only [Prod.mk.injEq] using h3
  refine Prod.ext h1 (Prod.ext h2 (Prod.ext ?_ ?_))
  · show asL.map (absHeap s.tree s.n s.life).get? = (hd.heap_39 w.params).map fun p => some p.2
    rw [h3, obs_of h4 (by kernel_rfl) (by kernel_rfl), List.map_map]
    rfl
  · show ([1054, 1071] : List Addr).map (absHeap s.tree s.n s.life).get? = ([1054, 1071] : List Addr).map fun _ => some (tabObj #[])
    rw [h3, obs_of h5 (by kernel_rfl) (by kernel_rfl)]
    rfl
theorem leftO : LeftO prog qv looseL XtQ (Hook.obs HK) (Hook.val HK) 20140 true := leftO_of_run open0 size0 (by decide) run_O
theorem ok0 : PySem.Challenge.rw_xm0769_01.wellSaid = true := by
  rw [Fast.te9446332074065402090]
  kernel_rfl
theorem wit0 : PySem.Challenge.rw_xm0769_01.row.toRowW.promised := by w_witness2
theorem ne_of_allLt {d : Addr} {l : List (Addr × Obj)} (h : AllLt d l) : ∀ p ∈ l, p.1 ≠ d := fun p hp => Nat.ne_of_lt (ktn_ltOf h p hp)
theorem ne_of_lts {d : Addr} {l : List (Addr × Obj)} (h : ∀ p ∈ l, p.1 < d) : ∀ p ∈ l, p.1 ≠ d := fun p hp => Nat.ne_of_lt (h p hp)
theorem fm_bd (z : Int) : 0 ≤ z.fmod 2147483647 ∧ z.fmod 2147483647 < 2147483647 := by
  rw [Int.fmod_eq_emod_of_nonneg z (by decide)]
  exact ⟨Int.emod_nonneg z (by decide), Int.emod_lt_of_pos z (by decide)⟩
theorem fm_ok (z a : Int) : IntMulOk a (z.fmod 2147483647) := IntMulOk.of_right (intBits_le_64 (by have := (fm_bd z).1; omega) (by have := (fm_bd z).2; omega))
theorem fmod_lo {t : Int} (h : 0 < t) (z : Int) : 0 ≤ z.fmod t := by
  rw [Int.fmod_eq_emod_of_nonneg z (Int.le_of_lt h)]; exact Int.emod_nonneg z (by omega)
theorem fmod_hi {t : Int} (h : 0 < t) (z : Int) : z.fmod t < t := by
  rw [Int.fmod_eq_emod_of_nonneg z (Int.le_of_lt h)]; exact Int.emod_lt_of_pos z h
theorem fdiv_lo {t z : Int} (h : 0 < t) (hz : 0 ≤ z) : 0 ≤ z.fdiv t := by
  rw [Int.fdiv_eq_ediv_of_nonneg z (Int.le_of_lt h)]; exact Int.ediv_nonneg hz (Int.le_of_lt h)
theorem fdiv_le {t z : Int} (h : 0 < t) (hz : 0 ≤ z) : z.fdiv t ≤ z := by
  rw [Int.fdiv_eq_ediv_of_nonneg z (Int.le_of_lt h)]; exact Int.ediv_le_self t hz
noncomputable abbrev P0 : Program := PySem.Challenge.rw_xm0769_01.row.prog
noncomputable def Ctr (w : World) (led : List (Addr × Obj)) (need : Nat) (f : Value) (vs : List Value) (R : Value → List (Addr × Obj) → Prop) : Prop :=
  ∀ (p : Program) (loose : List Str) (mean : ExcName → Option Value) (mg mb : Str → Option Value) (dp un : Nat) (gd : Option (List Code)) (cn : Str) (cs : Scope) (a : Addr) (ccd : Value) (cl : List (Str × Addr)) (outer : List Env) (A₀ : Around) (base h₀ : Heap) (L : Addr) (m : Str → Option Value) (sh : Heap) (sg : Array GenState) (sd : Drawn) (st : Nat) (so : OsState) (Q E : Value → Shared → Prop),
    Below A₀ base outer h₀ → Fr h₀ L sh m → (hd.heap_39 w.params).In h₀ → News h₀ L sh led → Top p loose mean mg mb h₀ → cs.kind = .function → dp + need < recursionLimit → un + 8 * need < cLine →
    (∀ v led' h' tk', R v led' → Fr h₀ L h' m → News h₀ L h' led' → Q v ⟨h', sg, sd, tk', so⟩) →
    wpAny (model PySem.Challenge.rw_xm0769_01.row.prog w) (ktrTop dp un gd cn cs L a ccd cl outer) (call f vs) Q E ⟨sh, sg, sd, st, so⟩
inductive SrcO (o : Obj) : Prop
  | mk (x : Int) (y : Int) (t1 : Nat) (t2 : Nat) (n : Nat) (y1 : o = W.listOf #[.int x t1, .int y t2] n) (y2 : 0 ≤ x) (y3 : x.natAbs.log2 < 2 ^ 22) (y4 : 0 ≤ y) (y5 : y < 2147483647) : SrcO o
theorem log2_mono_nat {x x' k : Nat} (h : x' ≤ x) (hk : 0 < k) (hl : x.log2 < k) : x'.log2 < k := by
  by_cases hz : x' = 0
  · rw [hz, Nat.log2_zero]; exact hk
  · have hx : x ≠ 0 := fun e => hz (Nat.le_zero.mp (e ▸ h))
    rw [Nat.log2_lt hz]
    rw [Nat.log2_lt hx] at hl
    exact Nat.lt_of_le_of_lt h hl
theorem log2_mono_int {x x' : Int} (h0 : 0 ≤ x') (h : x' ≤ x) (hl : x.natAbs.log2 < 2 ^ 22) : x'.natAbs.log2 < 2 ^ 22 := log2_mono_nat (by omega) (Nat.two_pow_pos 22) hl
inductive Pick (p : Addr × Obj) : List (Addr × Obj) → List (Addr × Obj) → Prop
  | head {l : List (Addr × Obj)} : Pick p (p :: l) l
  | tail {q : Addr × Obj} {l r : List (Addr × Obj)} : Pick p l r → Pick p (q :: l) (q :: r)
theorem Pick.sub {p : Addr × Obj} {l r : List (Addr × Obj)} (h : Pick p l r) : ∀ q ∈ p :: r, q ∈ l := by
  induction h with
  | head => exact fun _ h => h
  | tail _ ih =>
    intro q hq
    rcases List.mem_cons.mp hq with rfl | hq
    · exact .tail _ (ih _ (.head _))
    · rcases List.mem_cons.mp hq with rfl | hq
      · exact .head _
      · exact .tail _ (ih _ (.tail _ hq))
section
variable {w : World} {led : List (Addr × Obj)} {need : Nat} {f : Value} {vs : List Value} {R : Value → List (Addr × Obj) → Prop} {p : Program} {loose : List Str} {mean : ExcName → Option Value} {mg mb : Str → Option Value} {dp un : Nat} {gd : Option (List Code)} {cn : Str} {cs : Scope} {a : Addr} {ccd : Value} {cl : List (Str × Addr)} {outer : List Env} {A₀ : Around} {base h₀ : Heap} {L : Addr} {m : Str → Option Value} {s : Shared} {Q E : Value → Shared → Prop} {news : List (Addr × Obj)}
theorem ctr_use (C : Ctr w led need f vs R) (B : Below A₀ base outer h₀) (F : Fr h₀ L s.heap m) (X : (hd.heap_39 w.params).In h₀) (N : News h₀ L s.heap news) (sub : ∀ p ∈ led, p ∈ news) (T : Top p loose mean mg mb h₀) (hk : cs.kind = .function) (hd : dp + need < recursionLimit) (hu : un + 8 * need < cLine)
    (ret : ∀ v led' h' tk', R v led' → Fr h₀ L h' m → News h₀ L h' led' → Q v { s with heap := h', toks := tk' }) :
    wpAny (model PySem.Challenge.rw_xm0769_01.row.prog w) (ktrTop dp un gd cn cs L a ccd cl outer) (call f vs) Q E s :=
  C p loose mean mg mb dp un gd cn cs a ccd cl outer A₀ base h₀ L m s.heap s.gens s.drawn s.toks s.os Q E B F X (cb_drop N sub) T hk hd hu ret
end
section
variable {prog : Program} {w : World} {A : Around} {E : Value → Shared → Prop} {s : Shared}
theorem my_len {l : Addr} {vs : List Value} {Q : Value → Shared → Prop} (hl : s.heap.IsList l vs.toArray) (hfit : vs.length < 2 ^ 30)
    (h : Q (.int (vs.length : Int) (s.toks + 1)) { s with toks := s.toks + 1 + 1 }) : wpAny (model prog w) A (call (.builtin "len") [.ref l]) Q E s :=
  len_list hl (by rw [List.size_toArray]; omega) (by rw [List.size_toArray]; exact h)
theorem my_item {value slice : PySem.Expr} {l : Addr} {vs : List Value} {k : Int} {u : Tok} {Q : Value → Shared → Prop} (hl : s.heap.IsList l vs.toArray) (hfit : vs.length < 2 ^ 30)
    (h0 : 0 ≤ k) (h1 : k < (vs.length : Int)) (h : ∀ v, vs[k.toNat]? = some v → Q v s)
    (hs : subscripted slice false (.ref l) (.int k u) = operate [.ref l, .int k u] (getItem (.ref l) (.int k u)) := by with_unfolding_all rfl) :
    wpAny (model prog w) A (subscriptTail value slice (.ref l) (.int k u)) Q E s := by
  have hlt : k.toNat < vs.length := by omega
  refine tail_any hl.typeIs slot_list_getitem.lookup (wpAny_getItem_list hl h0 (by omega) (x := vs[k.toNat]) (by simp [hlt]) (h _ (by simp [hlt]))) hs
end
noncomputable def lowS (x : Str) : Str := ⟨x.cps.map fun c => if 65 ≤ c ∧ c ≤ 90 then c + 32 else c⟩
theorem ite_p {c : Prop} [Decidable c] {P Q : Prop} (hc : c) (h : P) : if c then P else Q := by rw [if_pos hc]; exact h
theorem ite_n {c : Prop} [Decidable c] {P Q : Prop} (hc : ¬ c) (h : Q) : if c then P else Q := by rw [if_neg hc]; exact h
inductive ColO (P : Params) (nm : Str) : Obj → Prop
  | mk (t1 t2 t3 t4 t5 t6 u1 u2 u3 u4 : Nat) : ColO P nm (dictOf [en P "name" t1 (.str nm u1), en P "type_name" t2 (.str "INTEGER" u2), en P "affinity" t3 (.str "integer" u3), en P "collation" t4 (.str "binary" u4), en P "not_null" t5 (.bool false), en P "default" t6 .none] 6)
inductive TabO (P : Params) (lc : Addr) (rp : Value) : Obj → Prop
  | mk (t1 t2 t3 t4 t5 t6 t7 t8 u1 u2 u7 i5 i6 i8 : Nat) : TabO P lc rp (dictOf [en P "name" t1 (.str "Tab" u1), en P "root" t2 (.int 0 u2), en P "columns" t3 (.ref lc), en P "rowid_place" t4 rp, en P "indexes" t5 (.ref i5), en P "checks" t6 (.ref i6), en P "sql" t7 (.str "" u7), en P "primary" t8 (.ref i8)] 8)
inductive ColV (P : Params) (led : List (Addr × Obj)) (names : List Str) (i : Nat) (c : Addr) : Prop
  | mk (nm : Str) (d : Nat) (o : Obj) (y1 : names[i]? = some nm) (y2 : (c, instObj 793 d) ∈ led) (y3 : (d, o) ∈ led) (y4 : ColO P nm o) : ColV P led names i c
noncomputable def ColsAt (P : Params) (led : List (Addr × Obj)) (cols : List Addr) (names : List Str) : Prop :=
  cols.length = names.length ∧ ∀ (i : Nat) (c : Addr), cols[i]? = some c → ColV P led names i c
theorem room_lt {d k c n : Nat} (h : d + k < n) (e : Nat.ble c k = true) : d + c < n := Nat.lt_of_le_of_lt (Nat.add_le_add_left (Nat.le_of_ble_eq_true e) d) h
theorem room_lt0 {d k n : Nat} (h : d + k < n) : d < n := Nat.lt_of_le_of_lt (Nat.le_add_right d k) h
theorem dig0 {a b x : Nat} {R : Prop} (h : x < b ∧ R) (k : x < b ∧ R → a < b) : a < b := k h
theorem dig2 {A B C : Prop} (k : B → C) : A ∧ B → C := fun h => k h.2
theorem node_cur {P : Obj → Prop} {n : Nat} {led : List (Addr × Obj)} {K : Value → List (Addr × Obj) → Heap → Nat → Prop} (k9 : ∀ c d o, P o → (∀ p ∈ led, p.1 < d) → d < c → ∀ h u, K (.ref c) ((c, instObj n d) :: (d, o) :: led) h u) : ∀ v led' h u, (∃ c d o, v = .ref c ∧ P o ∧ (∀ p ∈ led, p.1 < d) ∧ d < c ∧ led' = (c, instObj n d) :: (d, o) :: led) → K v led' h u := by
  rintro _ _ h u ⟨c, d, o, rfl, a1, a2, a3, rfl⟩
  exact k9 c d o a1 a2 a3 h u
theorem cls_cur {n : Nat} {led : List (Addr × Obj)} {K : Value → List (Addr × Obj) → Heap → Nat → Prop} (k9 : ∀ c d, (∀ p ∈ led, p.1 < c) → ∀ h u, K (.ref c) ((c, instObj n d) :: led) h u) : ∀ v led' h u, (∃ c d, v = .ref c ∧ (∀ p ∈ led, p.1 < c) ∧ led' = (c, instObj n d) :: led) → K v led' h u := by
  rintro _ _ h u ⟨c, d, rfl, a1, rfl⟩
  exact k9 c d a1 h u
theorem child_cur {o : Nat → Obj} {led : List (Addr × Obj)} {K : Value → List (Addr × Obj) → Heap → Nat → Prop} (k9 : ∀ l k, (∀ p ∈ led, p.1 < l) → ∀ h u, K (.ref l) ((l, o k) :: led) h u) : ∀ v led' h u, (∃ l k, v = .ref l ∧ led' = (l, o k) :: led ∧ (∀ p ∈ led, p.1 < l)) → K v led' h u := by
  rintro _ _ h u ⟨l, k, rfl, rfl, a1⟩
  exact k9 l k a1 h u
theorem str_cur {x : Str} {led : List (Addr × Obj)} {K : Value → List (Addr × Obj) → Heap → Nat → Prop} (k9 : ∀ t, ∀ h u, K (.str x t) led h u) : ∀ v led' h u, (∃ t', v = .str x t' ∧ led' = led) → K v led' h u := by
  rintro _ _ h u ⟨t, rfl, rfl⟩
  exact k9 t h u
theorem eq_cur {x : Value} {led : List (Addr × Obj)} {K : Value → List (Addr × Obj) → Heap → Nat → Prop} (k9 : ∀ h u, K x led h u) : ∀ v led' h u, (v = x ∧ led' = led) → K v led' h u := by
  rintro _ _ h u ⟨rfl, rfl⟩
  exact k9 h u
theorem pair_cur {P : Value → Prop} {led : List (Addr × Obj)} {K : Value → List (Addr × Obj) → Heap → Nat → Prop} (k9 : ∀ v, P v → ∀ h u, K v led h u) : ∀ v led' h u, (P v ∧ led' = led) → K v led' h u := by
  rintro v _ h u ⟨a1, rfl⟩
  exact k9 v a1 h u
theorem small_ok {n : Nat} (h : n ≤ 100000) : Builtin.Range.small 0 (n : Int) 1 = true := small_one (by omega) (by omega) (by omega) (by omega)
theorem rsz0 {n : Nat} : Builtin.Range.rangeSize 0 (n : Int) 1 = (n : Int) := by simp only [Builtin.Range.rangeSize]; omega
theorem rngI {d : Int} (h0 : 0 ≤ d) (h1 : d < 1000) : Builtin.Range.small 0 d 1 = true ∧ Builtin.Range.rangeSize 0 d 1 = ((d.toNat : Nat) : Int) ∧ d.toNat ≤ sizeLine := ⟨small_one (by omega) (by omega) (by omega) (by omega), by simp only [Builtin.Range.rangeSize]; omega, by rw [sizeLine_eq]; omega⟩
theorem up (k : Nat) {a b : Nat} (h : a < b) : a ≠ b + k := by omega
theorem upk (k : Nat) {n : Nat} : n ≠ n + (k + 1) := by omega
theorem toNat_le {n k : Nat} {d : Int} (h : n = d.toNat) (h1 : d < (k : Int) + 1) : n ≤ k := by omega
noncomputable def Held (P : Prop) : Prop := P
theorem Held.mk {P : Prop} (h : Held P) : P := h
theorem Held.out {P : Prop} (h : P) : Held P := h
noncomputable def heldL : List Nat := [966, 942, 949, 993, 935, 978, 660, 686, 1005, 700, 719, 634, 1026, 1064, 759, 1047, 1033, 1052, 1057, 1069, 1040, 1012, 1074]
theorem Held.at {M : Model} {A : Around} {n : Nat} {vs : List Value} {Q E : Value → Shared → Prop} {s : Shared} (l : List Nat) (h : l.contains n = true) (k : Held (wpAny M A (call (.ref n) vs) Q E s)) : wpAny M A (call (.ref n) vs) Q E s := k
example : (Mine.hd.heap_39 = Mine.hd.heap_39) ∧ (PySem.Challenge.rw_xm0769_01 = PySem.Challenge.rw_xm0769_01) := by
  k_fill
  exact ⟨rfl, rfl⟩
local macro_rules | `(tactic| k_mem) => `(tactic| first | exact List.Mem.head _ | assumption | (refine' List.Mem.tail _ ?_; k_mem) | (refine' List.mem_append_left _ ?_; k_mem) | (refine' List.mem_append_right _ ?_; k_mem))
local macro_rules | `(tactic| k_all) => `(tactic| first | assumption | exact ne_of_lts (by assumption) | exact ne_of_allLt (by assumption))
local macro_rules | `(tactic| walk_at "binaryOp Mult") => `(tactic| (k_here; k_dflt (refine PyProof.Rows.mul_int ?_ (fm_ok _ _))))
local macro_rules | `(tactic| walk_at "pick") => `(tactic| first | exact Pick.head | (refine Pick.tail ?_; walk_at "pick"))
local macro_rules | `(tactic| walk_at "use4") => `(tactic| ((case X => k_asm); (case T => k_asm); (case hk => first | exact rfl | assumption); (case hd => ktr_room); (case hu => ktr_units)))
local macro_rules | `(tactic| walk_at "use") => `(tactic| ((case B => k_asm); (case F => k_asm); (case N => k_asm); walk_at "use4"))
local macro_rules | `(tactic| walk_at "cur") => `(tactic| first | (refine str_cur ?_; intro t9 h9 tk9 F9 N9) | (refine eq_cur ?_; intro h9 tk9 F9 N9) | (refine node_cur ?_; intro c9 d9 o9 O9 l9 l8 h9 tk9 F9 N9) | (refine pair_cur ?_; intro v9 pR9 h9 tk9 F9 N9))
local macro_rules | `(tactic| walk_at "call ref") => `(tactic| (k_here; k_dflt (refine' ctr_use ?C ?B ?F ?X ?N (fun _ hp => hp) ?T ?hk ?hd ?hu ?_; (case B => k_asm); (case F => k_asm); (case N => k_asm); (case C => walk_at "ctrs"); walk_at "use4"); walk_at "cur"; (try dsimp only); (try k_fold)))
local macro_rules | `(tactic| walk_at "mget") => `(tactic| first | exact rfl | assumption | (refine Eq.trans (if_neg (by decide)) ?_; walk_at "mget") | (refine Eq.trans (if_pos rfl) ?_; exact rfl))
local macro_rules | `(tactic| walk_at "eval Name") => `(tactic| (k_here; (with_reducible show wpAny _ _ (eval (Expr.Name _ _) (envOf _ _ _ _ _)) _ _ _); k_dflt (refine' ld ?k1 ?k2 ?_; (case k1 => k_asm); (case k2 => walk_at "mget"); k_whole)))
local macro_rules | `(tactic| walk_at "fits") => `(tactic| ((try simp only [List.size_toArray, List.length_append, List.length_cons, List.length_nil, List.length_map]); (try rw [sizeLine_eq]); omega))
local macro_rules | `(tactic| walk_at "call builtin:list.append") => `(tactic| (k_here; k_dflt (refine append_K (by k_asm) (by k_asm) (by k_upd) ?_ (by walk_at "fits"); k_whole); intro h' F' N'; (try k_sweep)))
local macro_rules | `(tactic| walk_at "ite") => `(tactic| first | refine ite_p (by decide +kernel) ?_ | refine ite_n (by decide +kernel) ?_)
local macro_rules | `(tactic| ktr_units) => `(tactic| ((try simp only [units_under_make, units_in1, units_deeper, Around.mark_units, units_caller]); (try dsimp only [ktrTop]); omega))
local macro_rules | `(tactic| k_room) => `(tactic| ktr_room)
local macro_rules | `(tactic| walk_at "in9") => `(tactic| (intro v9 led9 h9 tk9 hR9 F9 N9))
local macro_rules | `(tactic| walk_at "sub") => `(tactic| first | exact fun _ hp => hp | exact fun _ hp => .tail _ hp | exact fun _ hp => .tail _ (.tail _ hp) | exact fun _ hp => .tail _ (.tail _ (.tail _ hp)) | exact fun _ hp => .tail _ (.tail _ (.tail _ (.tail _ hp))))
local macro_rules | `(tactic| walk_at "room") => `(tactic| ((try simp only [units_under_make, units_in1, units_deeper, Around.mark_units, units_caller, depth_under_make, depth_under_kw, depth_in1, depth_deeper, depth_caller, Nat.add_assoc, Nat.reduceAdd, Nat.reduceMul]); (try dsimp only [ktrTop]); (try simp only [Nat.add_assoc, Nat.reduceAdd, Nat.reduceMul]); first | (refine room_lt (by assumption) ?_; exact rfl) | exact room_lt0 (by assumption)))
local macro_rules | `(tactic| ktr_room) => `(tactic| walk_at "room")
local macro_rules | `(tactic| ktr_units) => `(tactic| walk_at "room")
local macro_rules | `(tactic| walk_at "dig") => `(tactic| first | exact fun h => h.1 | (refine dig2 ?_; walk_at "dig"))
local macro_rules | `(tactic| walk_at "lt") => `(tactic| first | with_reducible assumption | (refine dig0 (by assumption) ?_; walk_at "dig") | (refine Nat.lt_trans ?_ (by with_reducible assumption); refine dig0 (by assumption) ?_; walk_at "dig"))
local macro_rules | `(tactic| walk_at "nec1") => `(tactic| first | exact up 1 (by assumption) | exact up 2 (by assumption) | exact up 3 (by assumption) | exact up 4 (by assumption) | exact up 5 (by assumption) | exact up 6 (by assumption) | exact up 7 (by assumption) | exact up 8 (by assumption) | exact up 9 (by assumption) | exact upk 0 | exact upk 1 | exact upk 2 | exact upk 3 | exact upk 4 | exact upk 5 | exact upk 6 | exact upk 7 )
local macro_rules | `(tactic| k_ne) => `(tactic| (refine neN ?_; (try dsimp only); first | assumption | exact Ne.symm (by assumption) | walk_at "nec1" | exact Ne.symm (by walk_at "nec1") | exact Nat.ne_of_lt (by walk_at "lt") | exact Nat.ne_of_gt (by walk_at "lt") | omega))
local macro_rules | `(tactic| walk_at "nec") => `(tactic| first | assumption | k_ne)
local macro_rules | `(tactic| walk_at "lec") => `(tactic| first | exact Nat.le_refl _ | exact Nat.le_of_lt (by walk_at "lt") | omega)
local macro_rules | `(tactic| walk_at "call ref") => `(tactic| (k_here; k_dflt (refine Held.at heldL rfl ?_)))
theorem paired_signs {y : Str} {g : Nat → Str} {ys : List Value} : ∀ {vs : List Value} (k : Nat), (∀ j v, vs[j]? = some v → SignAt y (k + j) v) → k + vs.length = y.cps.size →
    Paired (fun v r => ∃ c u u', v = Value.str ⟨#[c]⟩ u ∧ r = Value.str (g c) u') vs ys → StrsAre ys ((y.cps.toList.drop k).map g)
  | [], k, _, hl, .nil => by
    have : y.cps.toList.drop k = [] := List.drop_eq_nil_of_le (by simp at hl; simp [← hl])
    rw [this]; exact .nil
  | v :: vs, k, hP, hl, .cons (l₂ := l₂) ⟨c, u, u', e1, e2⟩ hr => by
    obtain ⟨c', u2, hc, e3⟩ := hP 0 v rfl
    rw [e1] at e3
    injection e3 with e3 _
    have ec : c = c' := by injection e3 with e3; injection e3 with e3; injection e3
    subst ec
    have hlt : k < y.cps.toList.length := by rw [List.length_cons] at hl; simp; omega
    rw [List.drop_eq_getElem_cons hlt, List.map_cons, e2]
    have hg : y.cps.toList[k] = c := by
      have : y.cps.toList[k]? = some c := by rw [← hc]; simp
      rw [List.getElem?_eq_getElem hlt] at this
      exact Option.some.inj this
    rw [hg]
    exact .cons _ _ (paired_signs (k + 1) (fun j v h => by have := hP (j + 1) v (by simpa using h); rwa [Nat.add_comm j 1, ← Nat.add_assoc] at this) (by rw [List.length_cons] at hl; omega) hr)
theorem lc_signs {prog : Program} {w : World} {A : Around} {E : Value → Shared → Prop} {s : Shared} {h₀ : Heap} {L : Addr} {m : Str → Option Value} {news : List (Addr × Obj)} {env : Env} {elt iter : PySem.Expr} {x : Str} {px : Pos} {scope : Scope} {pos : Pos} {Q : Value → Shared → Prop} {g : Nat → Str}
    (_F₀ : Fr h₀ L s.heap m) (_N₀ : News h₀ L s.heap news) (hh : A.handled = none) (hfree : ∀ y ∈ scope.names, y.2 ≠ .free) (hcell : ∀ y ∈ scope.names, y.2 ≠ .cell) (hkind : scope.kind = .function)
    (hnames : ∀ y ∈ scope.names, y.2 = .local → scope.names.lookup y.1 = some .local) (hx : scope.names.lookup x = some .local)
    (h : wpAny (model prog w) A (eval iter env) (fun xv s₁ => ∃ y t, xv = .str y t ∧ y.length ≤ sizeLine ∧ Fr h₀ L s₁.heap m ∧ News h₀ L s₁.heap news ∧
      (∀ C c u s₂ m₂ E', (∀ b o, h₀.get? b = some o → s₂.heap.get? b = some o) → s₂.heap.Ns (compEnv scope C env).locals m₂ → m₂ x = some (.str ⟨#[c]⟩ u) →
        wpAny (model prog w) A (eval elt (compEnv scope C env)) (fun r s₃ => (∃ u', r = .str (g c) u') ∧ Keeps s₂ s₃) E' s₂) ∧
      (∀ D (ys : List Value) h' tk, Fr h₀ L h' m → News h₀ L h' news → h'.IsList D ys.toArray → StrsAre ys (y.cps.toList.map g) → Q (.ref D) { s₁ with heap := h', toks := tk })) E s)
    (hs : ∀ x, foldedSetIterable iter env x = pure x) :
    wpAny (model prog w) A (eval (.ListComp elt [⟨.Name x px, iter, [], 0⟩] scope pos) env) Q E s := by
  refine wpAny_ListComp_walk (fun _ => true) (fun v r => ∃ c u u', v = Value.str ⟨#[c]⟩ u ∧ r = Value.str (g c) u') hfree hcell hkind hnames hx
    (wpAny_mono h (fun xv s₁ h₁ => ?_) fun _ _ e => e) hs
  obtain ⟨y, t, rfl, hsz, F, N, helt, hQ⟩ := h₁
  refine wpAny_pyIter_str fun o St W hst => ?_
  have up : ∀ (h' : Heap), (∀ b o', b ∉ [s₁.heap.objs.size] → (s₁.heap.push o).get? b = some o' → h'.get? b = some o') → ∀ b o', s₁.heap.get? b = some o' → h'.get? b = some o' :=
    fun h' hk b o' e => hk b o' (old_not_new e) (Heap.get?_push_of_some _ e)
  refine ⟨s₁.heap.objs.size, [s₁.heap.objs.size], [s₁.heap.objs.size], y.cps.size, SignAt y, St, rfl, W A hh, hsz, hst, ?_, ⟨?_, ?_⟩, ?_⟩
  · intro b hb
    show b < (s₁.heap.push o).objs.size
    rw [Heap.size_push, List.mem_singleton.mp hb]
    exact Nat.lt_succ_self _
  · intro C i v s₃ m₃ E' hP hn hm _ _
    exact wpAny_pure ⟨rfl, _, _, rfl, fun _ _ e => e⟩
  · intro C i v s₃ m₃ E' hP hp hn hm hk _
    obtain ⟨c, u, _, rfl⟩ := hP
    exact wpAny_mono (helt C c u s₃ m₃ E' (fun b o' e => up _ hk b o' (F.keep b o' e)) hn hm) (fun r s₄ h₄ => ⟨let ⟨u', e⟩ := h₄.1; ⟨c, u, u', rfl, e⟩, h₄.2⟩) fun _ _ e => e
  · intro D h' tk ys vs hnew hlD hplD hlen hP hF hk
    refine hQ D ys.toList h' tk (F.keeps (up h' hk)) (N.grown (up h' hk)) (by rw [Array.toArray_toList]; exact hlD) ?_
    have e : vs.filter (fun _ => true) = vs := List.filter_eq_self.mpr fun _ _ => rfl
    rw [e] at hF
    have := paired_signs (y := y) (g := g) 0 (fun j v hj => by rw [Nat.zero_add]; exact hP j v hj) (by rw [Nat.zero_add]; exact hlen) hF
    simpa using this
noncomputable def ElP (x : Str) (s₂ : Shared) (r : Value) (s₃ : Shared) : Prop := (∃ u', r = .str x u') ∧ Keeps s₂ s₃
theorem ElP.mk' {x : Str} {s₂ s₃ : Shared} {r : Value} {u : Nat} (h : r = .str x u) (k : Keeps s₂ s₃) : ElP x s₂ r s₃ := ⟨⟨_, h⟩, k⟩
section
variable {M : Model} {A : Around} {E : Value → Shared → Prop} {s : Shared} {K : Frag} {h₀ : Heap} {C : Addr} {mg mb : Str → Option Value} {scope : Scope} {env : Env} {p : Program} {loose : List Str} {mean : ExcName → Option Value} {x : Str} {pos : Pos} {v : Value} {Q : Value → Shared → Prop}
theorem ce_built (k : ∀ b o, h₀.get? b = some o → s.heap.get? b = some o) (X : K.In h₀) (T : Top p loose mean mg mb h₀) (e : nsIn K mainGlobals x = some none) (hv : bootBuiltins x = some v) (hn : x ≠ "__name__") (h : Q v s) (hg : env.globals = mainGlobals := by rfl) (hb : env.builtins = builtinsNs := by rfl)
    (hk : (compEnv scope C env).scope.kind = .function := by rfl) (hx : (compEnv scope C env).kindOf x = some .globalImplicit := by rfl) (hd : (x == ("__debug__" : Str)) = false := by decide) :
    wpAny M A (eval (.Name x pos) (compEnv scope C env)) Q E s :=
  Name_function_global hk hx (loadGlobal_builtin (env := compEnv scope C env) (show s.heap.Ns env.globals mg from hg ▸ T.g.keeps k) (mg_none_of X T.g e) (show s.heap.Ns env.builtins mb from hb ▸ T.b.keeps k) ((T.builtins x hn).trans hv) h) hd
end
theorem lt1 (c d : Nat) : ([c] : List Nat) < [d] ↔ c < d := by
  constructor
  · intro h
    cases h with
    | rel h => exact h
    | cons h => cases h
  · intro h; exact .rel h
theorem fold_c1 {c : Nat} (h : (⟨#[c]⟩ : Str).cps.toList < (Str.ofString "A").cps.toList) : ¬ (65 ≤ c ∧ c ≤ 90) := by
  have h' : ([c] : List Nat) < [65] := h
  rw [lt1] at h'; omega
theorem fold_c2 {c : Nat} (h : (Str.ofString "Z").cps.toList < (⟨#[c]⟩ : Str).cps.toList) : ¬ (65 ≤ c ∧ c ≤ 90) := by
  have h' : ([90] : List Nat) < [c] := h
  rw [lt1] at h'; omega
theorem fold_c3 {c : Nat} (h1 : ¬ (⟨#[c]⟩ : Str).cps.toList < (Str.ofString "A").cps.toList) (h2 : ¬ (Str.ofString "Z").cps.toList < (⟨#[c]⟩ : Str).cps.toList) : 65 ≤ c ∧ c ≤ 90 := by
  have h1' : ¬ ([c] : List Nat) < [65] := h1
  have h2' : ¬ ([90] : List Nat) < [c] := h2
  rw [lt1] at h1' h2'; omega
theorem fold_sum_aux (l : List Nat) : ((l.map fun c => if 65 ≤ c ∧ c ≤ 90 then (⟨#[c + 32]⟩ : Str) else ⟨#[c]⟩).map (·.length)).sum = l.length := by
  induction l with
  | nil => rfl
  | cons c l ih =>
    rw [List.map_cons, List.map_cons, List.sum_cons, ih, List.length_cons]
    have : (if 65 ≤ c ∧ c ≤ 90 then (⟨#[c + 32]⟩ : Str) else ⟨#[c]⟩).length = 1 := by split <;> rfl
    rw [this]; omega
theorem fold_sum {x : Str} (hx : x.length ≤ 1000) : ((x.cps.toList.map fun c => if 65 ≤ c ∧ c ≤ 90 then (⟨#[c + 32]⟩ : Str) else ⟨#[c]⟩).map (·.length)).sum + (x.cps.toList.map fun c => if 65 ≤ c ∧ c ≤ 90 then (⟨#[c + 32]⟩ : Str) else ⟨#[c]⟩).length * 64 ≤ 16777216 := by
  rw [fold_sum_aux, List.length_map]
  have : x.cps.toList.length ≤ 1000 := by simpa [Str.length] using hx
  omega
theorem join_cps_nil (l : List Str) : (Str.join (Str.ofString "") l).cps.toList = l.flatMap (·.cps.toList) := by
  induction l with
  | nil => rfl
  | cons a l ih =>
    cases l with
    | nil => simp [Str.join]
    | cons b r =>
      show ((a ++ Str.ofString "" ++ Str.join (Str.ofString "") (b :: r)) : Str).cps.toList = _
      rw [Str.cps_append, Str.cps_append, Array.toList_append, Array.toList_append, ih]
      simp
      rfl
theorem fold_join (x : Str) : Txt.join (Str.ofString "") (x.cps.toList.map fun c => if 65 ≤ c ∧ c ≤ 90 then (⟨#[c + 32]⟩ : Str) else ⟨#[c]⟩) = lowS x := by
  apply Str.ext'
  apply Array.toList_inj.mp
  unfold Txt.join
  rw [StrLaws.glued_eq_join, join_cps_nil]
  unfold lowS
  rw [Array.toList_map]
  generalize x.cps.toList = l
  induction l with
  | nil => rfl
  | cons c l ih =>
    rw [List.map_cons, List.flatMap_cons, ih, List.map_cons]
    split <;> rfl
section
section
local macro_rules | `(tactic| walk_at "eval Name") => `(tactic| (k_here; (with_reducible show wpAny _ _ (eval (Expr.Name _ _) (compEnv _ _ _)) _ _ _); k_dflt (refine ce_built (by assumption) (by k_asm) (by k_asm) (by k_is) (by boot_by_name) (by decide) ?_)))
theorem fold_ctr {w : World} {led : List (Addr × Obj)} {x : Str} {t : Nat} (hx : x.length ≤ 1000) :
    Ctr w led 1 (.ref 693) [.str x t] (fun v led' => ∃ (t' : Nat), v = .str (lowS x) t' ∧ led' = led) := by
  intro p loose mean mg mb dp un gd cn cs a ccd cl outer A₀ base h₀ L m hh9 gg9 dd9 tt9 oo9 Q E B F X N T hk hd hu hret
  refine wpAny_call ?_
  k_dflt cell_enter
  iterate 8 walk1
  k_dflt (refine lc_signs (g := fun c => if 65 ≤ c ∧ c ≤ 90 then ⟨#[c + 32]⟩ else ⟨#[c]⟩) (by k_asm) (by k_asm) rfl (by decide) (by decide) rfl (by decide) rfl ?_ (by intro _; rfl))
  walk1
  refine ⟨x, t, rfl, ?_, by k_asm, by k_asm, ?_, ?_⟩
  · exact Nat.le_trans hx (by decide)
  · intro C c u s₂ m₂ E' hkp hns hm
    show wpAny _ _ _ (ElP _ _) _ _
    k_steps
    · rw [if_neg (fold_c1 (by assumption))]
      exact ⟨⟨_, rfl⟩, _, _, rfl, fun _ _ e => e⟩
    · rw [if_neg (fold_c2 (by assumption))]
      exact ⟨⟨_, rfl⟩, _, _, rfl, fun _ _ e => e⟩
    · have hc := fold_c3 (c := c) (by assumption) (by assumption)
      refine chr_of_range (by omega) (by omega) ?_
      rw [if_pos hc]
      exact ⟨⟨_, by rw [show ((c : Int) + 32).toNat = c + 32 by omega]⟩, _, _, rfl, fun _ _ e => e⟩
  · intro D ys h' tk F' N' hl hstr
    walk1
    refine join_listC hl (by simpa using hstr) (by decide) ?_ ?_
    · exact fold_sum hx
    · intro t' k
      k_steps
      (rename News _ _ _ _ => kN)
      (rename Fr _ _ _ _ => kF)
      exact hret _ _ _ _ ⟨_, by rw [fold_join], rfl⟩ kF kN
end
end
local macro_rules | `(tactic| walk_at "ctrs") => `(tactic| exact fold_ctr (by first | assumption | omega | decide +kernel))
section
variable {prog : Program} {w : World} {A : Around} {E : Value → Shared → Prop} {s : Shared} {env : Env} {h₀ : Heap} {x : Str} {body : List Stmt} {Q : Flow → Shared → Prop}
theorem loop_any {I : Addr} {fp : List Addr} {n : Nat} {P : Nat → Value → Prop} {St : Nat → Heap → Prop} {m₀ : Str → Option Value} {news : List (Addr × Obj)} (J : Nat → (Str → Option Value) → List (Addr × Obj) → Prop)
    (W : Walks prog w A I fp [I] n P St) (hSt : ∀ i h, St i h → ∃ o, h.get? I = some o) (hLf : env.locals ∉ fp) (hw : h₀.get? I = none) (hn : ∀ p ∈ news, p.1 ≠ I) (st0 : St 0 s.heap) (F : Fr h₀ env.locals s.heap m₀) (N : News h₀ env.locals s.heap news) (J0 : J 0 m₀ news)
    (hJ : ∀ i m n, J i m n → ∀ p ∈ news, p.1 ∈ fp → p ∈ n)
    (hfp : ∀ b ∈ fp, b = I ∨ (∃ o, (b, o) ∈ news) ∨ h₀.get? b ≠ none)
    (step : ∀ i v m₁ n₁ it h tk, i < n → P i v → J i m₁ n₁ → (∀ p ∈ n₁, p.1 ≠ I) → Fr h₀ env.locals h (fun z => if z = x then some v else m₁ z) → News h₀ env.locals h ((I, it) :: n₁) →
      wpAny (model prog w) A (execs body env) (UnrPost h₀ env.locals { s with heap := h, toks := tk } I it (J (i + 1)) Q) E { s with heap := h, toks := tk })
    (fin : ∀ m₁ n₁ h tk, J n m₁ n₁ → (∀ p ∈ n₁, p.1 ≠ I) → Fr h₀ env.locals h m₁ → News h₀ env.locals h n₁ → Q .next { s with heap := h, toks := tk }) :
    LoopAtV prog w A h₀ env x body Q E (.ref I) s := by
  refine ⟨I, fp, [I], n, P, St, m₀, news, J, rfl, W, hLf, fun b hb => by rw [List.mem_singleton.mp hb]; exact hw, fun p hp hI => hn p hp (List.mem_singleton.mp hI), st0, F, N, J0, ?_, fun h' tk m' news' F' N' ho hj => fin m' news' h' tk hj (fun p hp e => ho p hp (List.mem_singleton.mpr e)) F' N'⟩
  rintro i v m₁ news₁ s₁ own ⟨hh', tk', rfl⟩ hin hP hj hoff hown hget hall hst F₁ N₁
  obtain ⟨it, hit⟩ := hSt _ _ hst
  have hmem := hall I (W.sub I (List.mem_singleton.mpr rfl)) hw _ hit
  have N₂ : News h₀ env.locals hh' ((I, it) :: news₁) := fun p hp => by
    rcases List.mem_cons.mp hp with rfl | hp
    · exact N₁ _ (List.mem_append_left _ hmem)
    · exact N₁ _ (List.mem_append_right _ hp)
  refine wpAny_mono (step i v m₁ news₁ it hh' tk' hin hP hj (fun p hp e => hoff p hp (List.mem_singleton.mpr e)) F₁ N₂) (fun f s₂ p => ?_) fun _ _ e => e
  have fin : UnrEnd h₀ env.locals { s with heap := hh', toks := tk' } I it (J (i + 1)) s₂ →
      LoopStepU h₀ env.locals [I] own (J (i + 1)) { s with heap := hh', toks := tk' } .next s₂ := by
    rintro ⟨h', tk, m', news', e, F', N', ho, r⟩
    refine ⟨rfl, h', tk, m', news', e, F', fun p hp => ?_, fun p hp hI => ho p hp (List.mem_singleton.mp hI), r⟩
    rcases List.mem_append.mp hp with hp | hp
    · rcases hfp p.1 (hown p hp) with h1 | ⟨o, h1⟩ | h1
      · have h2 : hh'.get? p.1 = some p.2 := hget p hp
        have h3 : p = (I, it) := by
          rw [h1, hit] at h2
          exact Prod.ext h1 (Option.some.inj h2).symm
        rw [h3]; exact N' _ (List.mem_cons_self ..)
      · have hm := hJ _ _ _ hj _ h1 (hown p hp)
        have h2 := (N₁ _ (List.mem_append_right _ hm)).1
        have h3 := hget p hp
        have h4 : p = (p.1, o) := Prod.ext rfl (Option.some.inj (h3.symm.trans h2))
        rw [h4]
        exact N' _ (List.mem_cons_of_mem _ (hJ _ _ _ r _ h1 (hown p hp)))
      · exact absurd (N₁ _ (List.mem_append_left _ hp)).2.2 h1
    · exact N' _ (List.mem_cons_of_mem _ hp)
  cases f with
  | ret v => exact .ret p
  | brk => exact .brk p
  | next => exact .next (fin p)
  | cont => exact .cont (fin p)

theorem loop_str {y : Str} {t₀ : Tok} {m₀ : Str → Option Value} {news : List (Addr × Obj)} (J : Nat → (Str → Option Value) → List (Addr × Obj) → Prop)
    (ha : y.cps.all (· < 128) = true) (hh : A.handled = none) (F : Fr h₀ env.locals s.heap m₀) (N : News h₀ env.locals s.heap news) (J0 : J 0 m₀ news)
    (step : ∀ I i c u m₁ n₁ it h tk, (∀ p ∈ news, p.1 < I) → y.cps[i]? = some c → J i m₁ n₁ → (∀ p ∈ n₁, p.1 ≠ I) → Fr h₀ env.locals h (fun z => if z = x then some (.str ⟨#[c]⟩ u) else m₁ z) → News h₀ env.locals h ((I, it) :: n₁) →
      wpAny (model prog w) A (execs body env) (UnrPost h₀ env.locals { s with heap := h, toks := tk } I it (J (i + 1)) Q) E { s with heap := h, toks := tk })
    (fin : ∀ m₁ n₁ h tk, J y.cps.size m₁ n₁ → Fr h₀ env.locals h m₁ → News h₀ env.locals h n₁ → Q .next { s with heap := h, toks := tk }) :
    wpAny (model prog w) A (pyIter (.str y t₀)) (fun it s₂ => LoopAtV prog w A h₀ env x body Q E it s₂) E s := by
  refine wpAny_pyIter_ascii ha ?_
  have hnew := next_is_new F
  refine loop_any J (Walks.strAscii hh _ y t₀) (fun i h st => let ⟨o, e, _⟩ := st; ⟨o, e⟩) ?_ hnew (fun p hp => Nat.ne_of_lt (Heap.lt_size (N p hp).1)) ⟨_, Heap.get?_push_size _ rfl, rfl, rfl⟩ (F.push _) (fun p hp => ⟨Heap.get?_push_of_some _ (N p hp).1, (N p hp).2⟩) J0 ?_ (fun b hb => .inl (List.mem_singleton.mp hb)) ?_ ?_
  · intro hm
    exact absurd F.ns.lt ((List.mem_singleton.mp hm) ▸ Nat.lt_irrefl _)
  · intro i m n _ p hp hI
    exact absurd (Heap.lt_size (N p hp).1) ((List.mem_singleton.mp hI) ▸ Nat.lt_irrefl _)
  · rintro i v m₁ n₁ it h tk hi ⟨c, u, hc, rfl⟩ hJ hoff F₁ N₁
    exact step _ i c u m₁ n₁ it h tk (fun p hp => Heap.lt_size (N p hp).1) hc hJ hoff F₁ N₁
  · exact fun m₁ n₁ h tk hj _ F₁ N₁ => fin m₁ n₁ h tk hj F₁ N₁

theorem loop_list {ax : Addr} {vs : List Value} {k : Nat} {m₀ : Str → Option Value} {news : List (Addr × Obj)} (J : Nat → (Str → Option Value) → List (Addr × Obj) → Prop)
    (hh : A.handled = none) (F : Fr h₀ env.locals s.heap m₀) (N : News h₀ env.locals s.heap news) (hm : (ax, W.listOf vs.toArray k) ∈ news) (J0 : J 0 m₀ news) (hJ : ∀ i m n, J i m n → (ax, W.listOf vs.toArray k) ∈ n)
    (step : ∀ I i v m₁ n₁ it h tk, (∀ p ∈ news, p.1 < I) → vs[i]? = some v → J i m₁ n₁ → (∀ p ∈ n₁, p.1 ≠ I) → Fr h₀ env.locals h (fun z => if z = x then some v else m₁ z) → News h₀ env.locals h ((I, it) :: n₁) →
      wpAny (model prog w) A (execs body env) (UnrPost h₀ env.locals { s with heap := h, toks := tk } I it (J (i + 1)) Q) E { s with heap := h, toks := tk })
    (fin : ∀ m₁ n₁ h tk, J vs.length m₁ n₁ → Fr h₀ env.locals h m₁ → News h₀ env.locals h n₁ → Q .next { s with heap := h, toks := tk }) :
    wpAny (model prog w) A (pyIter (.ref ax)) (fun it s₂ => LoopAtV prog w A h₀ env x body Q E it s₂) E s := by
  have hax := N _ hm
  have hl : s.heap.IsList ax vs.toArray := ⟨_, hax.1, rfl, k, rfl⟩
  have hlt : ax < s.heap.objs.size := Heap.lt_size hax.1
  refine wpAny_pyIter_list hl ?_
  have hnew := next_is_new F
  have Wk := Walks.list (prog := prog) (w := w) hh s.heap.objs.size ax (Nat.ne_of_lt hlt) vs.toArray
  rw [List.size_toArray] at Wk
  refine loop_any J Wk (fun i h st => let ⟨o, e, _⟩ := st.1; ⟨o, e⟩) ?_ hnew (fun p hp => Nat.ne_of_lt (Heap.lt_size (N p hp).1)) ⟨⟨_, Heap.get?_push_size _ rfl, rfl, rfl⟩, hl.at fun o e => Heap.get?_push_of_some _ e⟩ (F.push _) (fun p hp => ⟨Heap.get?_push_of_some _ (N p hp).1, (N p hp).2⟩) J0 ?_ ?_ ?_ ?_
  · intro hmm
    rcases List.mem_cons.mp hmm with e | hmm
    · exact absurd F.ns.lt (e ▸ Nat.lt_irrefl _)
    · exact hax.2.1 (List.mem_singleton.mp hmm).symm
  · intro i m n hj p hp hI
    rcases List.mem_cons.mp hI with e | hI
    · exact absurd (Heap.lt_size (N p hp).1) (e ▸ Nat.lt_irrefl _)
    · have e1 := List.mem_singleton.mp hI
      have h2 := (N p hp).1
      rw [e1, hax.1] at h2
      have : p = (ax, W.listOf vs.toArray k) := Prod.ext e1 (Option.some.inj h2).symm
      rw [this]; exact hJ _ _ _ hj
  · intro b hb
    rcases List.mem_cons.mp hb with e | hb
    · exact .inl e
    · rw [List.mem_singleton.mp hb]; exact .inr (.inl ⟨_, hm⟩)
  · rintro i v m₁ n₁ it h tk hi hP hJ hoff F₁ N₁
    exact step _ i v m₁ n₁ it h tk (fun p hp => Heap.lt_size (N p hp).1) (by simpa using hP) hJ hoff F₁ N₁
  · exact fun m₁ n₁ h tk hj _ F₁ N₁ => fin m₁ n₁ h tk hj F₁ N₁

theorem loop_range {r : Addr} {a₀ b₀ : Int} {t₀ u₀ v₀ : Tok} {n : Nat} {m₀ : Str → Option Value} {news : List (Addr × Obj)} (J : Nat → (Str → Option Value) → List (Addr × Obj) → Prop)
    (hh : A.handled = none) (hr : IsRange s.heap r a₀ b₀ 1 t₀ u₀ v₀) (hsmall : Builtin.Range.small a₀ b₀ 1 = true) (hn : Builtin.Range.rangeSize a₀ b₀ 1 = (n : Int)) (F : Fr h₀ env.locals s.heap m₀) (N : News h₀ env.locals s.heap news) (J0 : J 0 m₀ news)
    (step : ∀ I i t m₁ n₁ it h tk, (∀ p ∈ news, p.1 < I) → i < n → J i m₁ n₁ → (∀ p ∈ n₁, p.1 ≠ I) → Fr h₀ env.locals h (fun z => if z = x then some (.int (a₀ + (i : Int)) t) else m₁ z) → News h₀ env.locals h ((I, it) :: n₁) →
      wpAny (model prog w) A (execs body env) (UnrPost h₀ env.locals { s with heap := h, toks := tk } I it (J (i + 1)) Q) E { s with heap := h, toks := tk })
    (fin : ∀ m₁ n₁ h tk, J n m₁ n₁ → Fr h₀ env.locals h m₁ → News h₀ env.locals h n₁ → Q .next { s with heap := h, toks := tk }) :
    wpAny (model prog w) A (pyIter (.ref r)) (fun it s₂ => LoopAtV prog w A h₀ env x body Q E it s₂) E s := by
  refine wpAny_pyIter_range hr hsmall ?_
  have hnew := next_is_new F
  have Wk : Walks prog w A s.heap.objs.size [s.heap.objs.size] [s.heap.objs.size] n (fun i v => i < n ∧ ∃ t, v = .int (a₀ + i * 1) t)
      (fun i h => IsRangeIter h s.heap.objs.size (a₀ + (i : Nat) * 1) ((n : Int) - (i : Nat)) 1) := (Walks.range hh _ a₀ 1 n).bound
  refine loop_any J Wk (fun i h st => ⟨_, st⟩) ?_ hnew (fun p hp => Nat.ne_of_lt (Heap.lt_size (N p hp).1)) (by show IsRangeIter _ _ _ _ _; rw [hn]; simpa using Heap.get?_push_size _ rfl) (F.push _) (fun p hp => ⟨Heap.get?_push_of_some _ (N p hp).1, (N p hp).2⟩) J0 ?_ (fun b hb => .inl (List.mem_singleton.mp hb)) ?_ ?_
  · intro hm
    exact absurd F.ns.lt ((List.mem_singleton.mp hm) ▸ Nat.lt_irrefl _)
  · intro i m n _ p hp hI
    exact absurd (Heap.lt_size (N p hp).1) ((List.mem_singleton.mp hI) ▸ Nat.lt_irrefl _)
  · rintro i v m₁ n₁ it h tk hi ⟨hin, t, rfl⟩ hJ hoff F₁ N₁
    rw [Int.mul_one] at F₁
    exact step _ i t m₁ n₁ it h tk (fun p hp => Heap.lt_size (N p hp).1) hin hJ hoff F₁ N₁
  · exact fun m₁ n₁ h tk hj _ F₁ N₁ => fin m₁ n₁ h tk hj F₁ N₁
end
section
noncomputable def g1 (c : Nat) : Str := if 65 ≤ c ∧ c ≤ 90 then ⟨#[c + 32]⟩ else ⟨#[c]⟩
inductive JA (led : List (Addr × Obj)) (x : Str) (i : Nat) (m : Str → Option Value) (n : List (Addr × Obj)) : Prop
  | mk (l : Addr) (ys : List Value) (k : Nat) (y1 : m "signs" = some (.ref l)) (y2 : (∀ p ∈ led, p.1 ≠ l)) (y3 : n = (l, W.listOf ys.toArray k) :: led) (y4 : StrsAre ys ((x.cps.toList.take i).map g1)) (y5 : ys.length = i) : JA led x i m n
theorem JA.next {led : List (Addr × Obj)} {x : Str} {i c l k u : Nat} {ys : List Value} {m : Str → Option Value} {y : Str} (hm : m "signs" = some (.ref l)) (hl : ∀ p ∈ led, p.1 ≠ l) (hys : StrsAre ys ((x.cps.toList.take i).map g1)) (hlen : ys.length = i) (hc : x.cps[i]? = some c) (hy : g1 c = y) :
    JA led x (i + 1) m ((l, W.listOf (ys.toArray.push (.str y u)) (k + 1)) :: led) := by
  subst hy
  refine ⟨l, ys ++ [.str (g1 c) u], k + 1, hm, hl, by rw [List.push_toArray], ?_, by rw [List.length_append, hlen]; rfl⟩
  have e : (x.cps.toList.take (i + 1)) = x.cps.toList.take i ++ [c] := by
    have hlt : x.cps.toList[i]? = some c := by rw [← hc]; simp
    rw [List.take_add_one, hlt]; rfl
  rw [e, List.map_append]
  exact hys.append' (.cons _ _ .nil)
theorem JA.sz {led : List (Addr × Obj)} {x : Str} {i c : Nat} (hx : x.length ≤ 1000) (hc : x.cps[i]? = some c) : i < 1000 := by
  have h := (Array.getElem?_eq_some_iff.mp hc).1
  unfold Str.length at hx
  omega
section
local macro_rules | `(tactic| walk_at "call builtin:chr") => `(tactic| (have hc9 := fold_c3 (by assumption) (by assumption); refine chr_of_range (by omega) (by omega) ?_))
theorem foldascii_ctr {w : World} {led : List (Addr × Obj)} {x : Str} {t : Nat} (hx : x.length ≤ 1000) (ha : x.cps.all (· < 128) = true) :
    Ctr w led 1 (.ref 766) [.str x t] (fun v led' => ∃ (t' : Nat), v = .str (lowS x) t' ∧ led' = led) := by
  intro p loose mean mg mb dp un gd cn cs a ccd cl outer A₀ base h₀ L m hh9 gg9 dd9 tt9 oo9 Q E B F X N T hk hd hu hret
  refine wpAny_call ?_
  k_dflt cell_enter
  iterate 8 walk1
  (rename Fr _ _ _ _ => lF'); (rename News _ _ _ _ => lN')
  with_unfolding_all refine' For_invVF lF' ?k1 ?k2 ?_
  case k1 => exact rfl
  case k2 => exact rfl
  walk1
  refine loop_str (JA led x) ha rfl (by k_asm) (by k_asm) ?_ ?_ ?_
  · exact ⟨_, _, _, by walk_at "mget", by k_all, rfl, .nil, rfl⟩
  · rintro I i c u m₁ n₁ it h tk hlt hc ⟨l, ys, k, hm, hl, rfl, hys, hlen⟩ hoff F1 N1
    have hoffI : ∀ p ∈ led, p.1 ≠ I := fun p hp => hoff p (.tail _ hp)
    have hlI : @Ne Nat l I := hoff _ (.head _)
    clear hlt hoff
    have hyl : ys.length < 1000 := by rw [hlen]; exact JA.sz (led := led) hx hc
    have hoff2 : ∀ o, ∀ p ∈ (l, o) :: led, p.1 ≠ I := fun o p hp => by
      rcases List.mem_cons.mp hp with rfl | hp
      · exact hlI
      · exact hoffI p hp
    k_steps
    · exact UnrEnd.intro (by assumption) (by assumption) _ (fun p hp => hp) (hoff2 _) (JA.next (by walk_at "mget") hl hys hlen hc (if_neg (fold_c1 (by assumption))))
    · exact UnrEnd.intro (by assumption) (by assumption) _ (fun p hp => hp) (hoff2 _) (JA.next (by walk_at "mget") hl hys hlen hc (if_neg (fold_c2 (by assumption))))
    · have hc9 := fold_c3 (c := c) (by assumption) (by assumption)
      exact UnrEnd.intro (by assumption) (by assumption) _ (fun p hp => hp) (hoff2 _) (JA.next (by walk_at "mget") hl hys hlen hc ((if_pos hc9).trans (by rw [show ((c : Int) + 32).toNat = c + 32 by omega])))
  · rintro m₁ n₁ h tk ⟨l, ys, k, hm, hl, rfl, hys, hlen⟩ F1 N1
    k_steps
    rw [show x.cps.toList.take x.cps.size = x.cps.toList from List.take_of_length_le (by simp)] at hys
    refine join_listC (ys := x.cps.toList.map fun c => if 65 ≤ c ∧ c ≤ 90 then (⟨#[c + 32]⟩ : Str) else ⟨#[c]⟩) (News.isList (by k_asm) (by k_mem)) (by exact hys) (by decide) (fold_sum hx) ?_
    intro t' k
    k_steps
    (rename News _ _ _ _ => kN)
    (rename Fr _ _ _ _ => kF)
    exact hret _ _ _ _ ⟨_, by rw [fold_join], rfl⟩ kF (cb_drop kN fun p hp => .tail _ hp)
end
theorem low_int : lowS (Str.ofString "INTEGER") = Str.ofString "integer" := by decide +kernel
theorem foldascii_int {w : World} {led : List (Addr × Obj)} {t : Nat} :
    Ctr w led 1 (.ref 766) [.str "INTEGER" t] (fun v led' => ∃ (t' : Nat), v = .str "integer" t' ∧ led' = led) := by
  have h := foldascii_ctr (w := w) (led := led) (x := Str.ofString "INTEGER") (t := t) (by decide +kernel) (by decide +kernel)
  rw [low_int] at h
  exact h
end
local macro_rules | `(tactic| walk_at "ctrs") => `(tactic| exact foldascii_ctr (by first | assumption | decide +kernel | omega) (by first | assumption | decide +kernel))
section
section
local macro_rules | `(tactic| walk_at "ctrs") => `(tactic| exact foldascii_int)
theorem aff_ctr {w : World} {led : List (Addr × Obj)} {t : Nat} :
    Ctr w led 2 (.ref 773) [.str "INTEGER" t] (fun v led' => ∃ (t' : Nat), v = .str "integer" t' ∧ led' = led) := by
  intro p loose mean mg mb dp un gd cn cs a ccd cl outer A₀ base h₀ L m hh9 gg9 dd9 tt9 oo9 Q E B F X N T hk hd hu hret
  refine wpAny_call ?_
  k_dflt cell_enter
  k_steps
  (rename News _ _ _ _ => kN)
  (rename Fr _ _ _ _ => kF)
  exact hret _ _ _ _ ⟨_, rfl, rfl⟩ kF kN
end
end
local macro_rules | `(tactic| walk_at "ctrs") => `(tactic| exact aff_ctr)
local macro_rules | `(tactic| walk_at "isl") => `(tactic| first | exact News.isList (by k_asm) (by k_mem) | exact Heap.IsList.at (by assumption) (fun o e => Fr.keep (by k_asm) _ o e))
local macro_rules | `(tactic| walk_at "call builtin:len") => `(tactic| (k_here; k_dflt (refine my_len (by walk_at "isl") (by walk_at "fits") ?_)))
local macro_rules | `(tactic| walk_at "item sym") => `(tactic| (k_here; k_dflt (refine' my_item ?k1 ?k2 ?k3 ?k4 ?_ ?k5; (case k5 => with_unfolding_all rfl); (case k1 => walk_at "isl"); (case k2 => walk_at "fits"); (case k3 => walk_at "fits"); (case k4 => walk_at "fits")); intro v8 hv8))
local macro_rules | `(tactic| walk_at "execs cons") => `(tactic| (k_here; (try k_gentoks); (with_reducible refine wpAny_execs_cons ?_); (try dsimp only); k_fold))
local macro_rules | `(tactic| walk_at "eval Call") => `(tactic| (k_here; k_fold))
theorem take_cur {src : Addr} {rest : List (Addr × Obj)} {top : Int} {K : Value → List (Addr × Obj) → Heap → Nat → Prop} (k9 : ∀ d, ∀ t, ∀ o', (0 ≤ d) → (d < top) → (SrcO o') → ∀ h_ t_, K (.int d t) ((src, o') :: rest) h_ t_) : ∀ v led' h_ t_, (∃ d t o', v = .int d t ∧ 0 ≤ d ∧ d < top ∧ SrcO o' ∧ led' = (src, o') :: rest) → K v led' h_ t_ := by
  rintro _ _ h_ t_ ⟨d, t, o', rfl, a1, a2, a3, rfl⟩
  exact k9 d t o' a1 a2 a3 h_ t_
theorem take_ctr {w : World} {src : Addr} {o : Obj} {rest : List (Addr × Obj)} {top : Int} {t3 : Nat} (ho : SrcO o) (hr : ∀ p ∈ rest, p.1 ≠ src) (ht0 : 0 < top) (ht : top < 1048576) :
    Ctr w ((src, o) :: rest) 1 (.ref 1019) [.ref src, .int top t3] (fun v led' => ∃ d t o', v = .int d t ∧ 0 ≤ d ∧ d < top ∧ SrcO o' ∧ led' = (src, o') :: rest) := by
  intro p loose mean mg mb dp un gd cn cs a ccd cl outer A₀ base h₀ L m hh9 gg9 dd9 tt9 oo9 Q E B F X N T hk hd hu hret
  obtain ⟨x, y, t1, t2, n, rfl, hx, hxs, hy0, hy⟩ := ho
  refine wpAny_call ?_
  k_dflt cell_enter
  k_steps
  · (rename News _ _ _ _ => kN)
    (rename Fr _ _ _ _ => kF)
    exact hret _ _ _ _ ⟨_, _, _, rfl, fmod_lo ht0 _, fmod_hi ht0 _, ⟨_, _, _, _, _, rfl, fdiv_lo ht0 hx, log2_mono_int (fdiv_lo ht0 hx) (fdiv_le ht0 hx) hxs, hy0, hy⟩, rfl⟩ kF kN
  · (rename News _ _ _ _ => kN)
    (rename Fr _ _ _ _ => kF)
    exact hret _ _ _ _ ⟨_, _, _, rfl, fmod_lo ht0 _, fmod_hi ht0 _, ⟨_, _, _, _, _, rfl, hx, hxs, (fm_bd _).1, (fm_bd _).2⟩, rfl⟩ kF kN
local macro_rules | `(tactic| walk_at "call ref") => `(tactic| (k_here; k_dflt (refine' ctr_use (take_ctr (rest := ?r) ?ho ?hr ?t0 ?t1) ?B ?F ?X ?N (Pick.sub ?pk) ?T ?hk ?hd ?hu ?_; walk_at "use"; (case pk => walk_at "pick"); (case ho => assumption); (case hr => k_all); (case t0 => first | decide | omega); (case t1 => first | decide | omega)); refine take_cur ?_; intro d9 t9 o9 hd9 he9 hS9 h9 tk9 F9 N9; (try dsimp only); (try k_fold)))
section
section
local macro_rules | `(tactic| walk_at "subscriptTail") => `(tactic| walk_at "item sym")
theorem one_cur {src : Addr} {rest : List (Addr × Obj)} {vs : List Value} {K : Value → List (Addr × Obj) → Heap → Nat → Prop} (k9 : ∀ v : Value, ∀ i : Nat, ∀ o' : Obj, (vs[i]? = some v) → (SrcO o') → ∀ h_ t_, K (v) ((src, o') :: rest) h_ t_) : ∀ v led' h_ t_, (∃ (i : Nat) (o' : Obj), vs[i]? = some v ∧ SrcO o' ∧ led' = (src, o') :: rest) → K v led' h_ t_ := by
  rintro v _ h_ t_ ⟨i, o', a1, a2, rfl⟩
  exact k9 v i o' a1 a2 h_ t_
theorem one_ctr {w : World} {src : Addr} {o : Obj} {rest : List (Addr × Obj)} {vs : List Value} {l : Addr} {n : Nat} (ho : SrcO o) (hr : ∀ p ∈ rest, p.1 ≠ src) (hl : (l, W.listOf vs.toArray n) ∈ rest) (h0 : 0 < vs.length) (h1 : vs.length < 1000) :
    Ctr w ((src, o) :: rest) 2 (.ref 1026) [.ref src, .ref l] (fun v led' => ∃ (i : Nat) (o' : Obj), vs[i]? = some v ∧ SrcO o' ∧ led' = (src, o') :: rest) := by
  intro p loose mean mg mb dp un gd cn cs a ccd cl outer A₀ base h₀ L m hh9 gg9 dd9 tt9 oo9 Q E B F X N T hk hd hu hret
  refine wpAny_call ?_
  k_dflt cell_enter
  k_steps
  (rename News _ _ _ _ => kN)
  (rename Fr _ _ _ _ => kF)
  exact hret _ _ _ _ ⟨_, _, by assumption, by assumption, rfl⟩ kF kN
end
theorem letters_cur {src : Addr} {rest : List (Addr × Obj)} {x : Str} {K : Value → List (Addr × Obj) → Heap → Nat → Prop} (k9 : ∀ v : Value, ∀ t' : Nat, ∀ o' : Obj, ((v = .str x t' ∨ v = .str (Txt.upper x) t')) → (SrcO o') → ∀ h_ t_, K (v) ((src, o') :: rest) h_ t_) : ∀ v led' h_ t_, (∃ (t' : Nat) (o' : Obj), (v = .str x t' ∨ v = .str (Txt.upper x) t') ∧ SrcO o' ∧ led' = (src, o') :: rest) → K v led' h_ t_ := by
  rintro v _ h_ t_ ⟨t', o', a1, a2, rfl⟩
  exact k9 v t' o' a1 a2 h_ t_
theorem letters_ctr {w : World} {src : Addr} {o : Obj} {rest : List (Addr × Obj)} {x : Str} {t : Nat} (ho : SrcO o) (hr : ∀ p ∈ rest, p.1 ≠ src) (hx : x.length ≤ 1000) :
    Ctr w ((src, o) :: rest) 2 (.ref 1033) [.ref src, .str x t] (fun v led' => ∃ (t' : Nat) (o' : Obj), (v = .str x t' ∨ v = .str (Txt.upper x) t') ∧ SrcO o' ∧ led' = (src, o') :: rest) := by
  intro p loose mean mg mb dp un gd cn cs a ccd cl outer A₀ base h₀ L m hh9 gg9 dd9 tt9 oo9 Q E B F X N T hk hd hu hret
  refine wpAny_call ?_
  k_dflt cell_enter
  k_steps
  · (rename News _ _ _ _ => kN)
    (rename Fr _ _ _ _ => kF)
    exact hret _ _ _ _ ⟨_, _, .inl rfl, by assumption, rfl⟩ kF kN
  · (rename News _ _ _ _ => kN)
    (rename Fr _ _ _ _ => kF)
    exact hret _ _ _ _ ⟨_, _, .inr rfl, by assumption, rfl⟩ kF kN
end
theorem col_ctr {w : World} {led : List (Addr × Obj)} {nm : Str} {t t2 : Nat} :
    Ctr w led 5 (.ref 793) [.str nm t, .str "INTEGER" t2] (fun v led' => ∃ c d o, v = .ref c ∧ ColO w.params nm o ∧ (∀ p ∈ led, p.1 < d) ∧ d < c ∧ led' = (c, instObj 793 d) :: (d, o) :: led) := by
  intro p loose mean mg mb dp un gd cn cs a ccd cl outer A₀ base h₀ L m hh9 gg9 dd9 tt9 oo9 Q E B F X N T hk hd hu hret
  k_dflt ((refine' call_cls ?k1 ?k2 ?k3 ?k4 ?k5 ?k6 ?_; (case k1 => k_asm); (case k2 => k_asm); (case k3 => k_asm); (case k4 => k_is); (case k5 => k_is); (case k6 => k_is); k_whole; intro x9z d9z h9z F9z N9z l19z l29z; (try k_lt l19z); (try k_lt2 l29z); (try k_sweep)); (refine' code_def ?k1 ?k2 ?k3 ?k4 ?k5 ?kA ?kF ?kK ?k6 ?k7 ?k8 ?k9 ?kB ?_ ?c2 ?c3 ?c4 ?c5; (case kA => exact rfl); (case kF => exact rfl); (case kK => first | assumption | exact rfl); (case k1 => k_asm); (case k2 => k_asm); (case k3 => k_asm); (case k4 => k_asm); (case k5 => k_asm); (case k6 => k_is); (case k7 => k_is); (case k8 => ktr_room); (case k9 => first | exact BindsTo.of_eq rfl | exact binds_K (by k_in) rfl (by k_is) rfl rfl rfl); (case c5 => decide); (case kB => exact locs rfl); (case c2 => exact rfl); (case c3 => exact rfl); (case c4 => exact rfl); k_whole; intro g9z9z L9z9z h9z9z FG9z9z F9z9z N9z9z B9z9z X9z9z T9z9z; (try dsimp only); (try k_fold)))
  k_steps
  (rename News _ _ _ _ => kN)
  (rename Fr _ _ _ _ => kF)
  exact hret _ _ _ _ ⟨_, _, _, rfl, ⟨_, _, _, _, _, _, _, _, _, _⟩, by assumption, by assumption, rfl⟩ kF kN
local macro_rules | `(tactic| walk_at "ctrs") => `(tactic| exact col_ctr)
section
noncomputable def rowNm (x : Str) : Bool := [Str.ofString "rowid", Str.ofString "oid", Str.ofString "_rowid_"].any (· == x)
inductive PlaceR (names : List Str) (x : Str) : Value → Prop
  | found (i t : Nat) (nm : Str) : names[i]? = some nm → lowS nm = lowS x → (∀ j nm', j < i → names[j]? = some nm' → lowS nm' ≠ lowS x) → PlaceR names x (.int i t)
  | row (t : Nat) : (∀ nm ∈ names, lowS nm ≠ lowS x) → rowNm (lowS x) = true → PlaceR names x (.int (-1) t)
  | none : (∀ nm ∈ names, lowS nm ≠ lowS x) → rowNm (lowS x) = false → PlaceR names x .none
inductive JP (led : List (Addr × Obj)) (tb : Addr) (names : List Str) (x : Str) (i : Nat) (m : Str → Option Value) (n : List (Addr × Obj)) : Prop
  | mk (t : Nat) (y1 : m "self" = some (.ref tb)) (y2 : m "wanted" = some (.str (lowS x) t)) (y3 : led = n) (y4 : ∀ j nm, j < i → names[j]? = some nm → lowS nm ≠ lowS x) : JP led tb names x i m n
section
local macro_rules | `(tactic| walk_at "subscriptTail") => `(tactic| walk_at "item sym")
local macro_rules | `(tactic| walk_at "compareOp In str ref") => `(tactic| (k_here; k_dflt (refine in_tuple_strs (by kun_tup) (by kde_strs) ?_; k_whole)))
theorem place_ctr {w : World} {led : List (Addr × Obj)} {x : Str} {tx tb dt lc k : Nat} {rp : Value} {o : Obj} {cols : List Addr} {names : List Str}
    (hx : x.length ≤ 1000) (h1 : (tb, instObj 868 dt) ∈ led) (h2 : (dt, o) ∈ led) (hT : TabO w.params lc rp o) (h3 : (lc, W.listOf (cols.map Value.ref).toArray k) ∈ led) (hC : ColsAt w.params led cols names) (hn : names.length ≤ 100) (hns : ∀ nm ∈ names, nm.length ≤ 1000) :
    Ctr w led 4 (.ref 851) [.ref tb, .str x tx] (fun v led' => PlaceR names x v ∧ led' = led) := by
  intro p loose mean mg mb dp un gd cn cs a ccd cl outer A₀ base h₀ L m hh9 gg9 dd9 tt9 oo9 Q E B F X N T hk hd hu hret
  obtain ⟨t1, t2, t3, t4, t5, t6, t7, t8, u1, u2, u7, i5, i6, i8⟩ := hT
  have hcl : cols.length ≤ 100 := by rw [hC.1]; exact hn
  refine wpAny_call ?_
  k_dflt (refine' code_def ?k1 ?k2 ?k3 ?k4 ?k5 ?kA ?kF ?kK ?k6 ?k7 ?k8 ?k9 ?kB ?_ ?c2 ?c3 ?c4 ?c5; (case kA => exact rfl); (case kF => exact rfl); (case kK => first | assumption | exact rfl); (case k1 => k_asm); (case k2 => k_asm); (case k3 => k_asm); (case k4 => k_asm); (case k5 => k_asm); (case k6 => k_is); (case k7 => k_is); (case k8 => ktr_room); (case k9 => first | exact BindsTo.of_eq rfl | exact binds_K (by k_in) rfl (by k_is) rfl rfl rfl); (case c5 => decide); (case kB => exact locs rfl); (case c2 => exact rfl); (case c3 => exact rfl); (case c4 => exact rfl); k_whole; intro g9z L9z h9z FG9z F9z N9z B9z X9z T9z; (try dsimp only); (try k_fold))
  (repeat ((fail_if_success (with_reducible show wpAny _ _ (pyIter _) _ _ _)); first | (k_unfold; (try dsimp only)) | walk1 | (dsimp only; walk1)))
  refine loop_range (n := cols.length) (JP led tb names x) rfl (by assumption) (small_ok (by rw [List.length_map]; omega)) (by rw [List.length_map]; exact rsz0) (by k_asm) (by k_asm) ?_ ?_ ?_
  · exact ⟨_, by walk_at "mget", by walk_at "mget", rfl, fun j nm h => absurd h (Nat.not_lt_zero _)⟩
  · rintro I i t m₁ n₁ it h tk hlt hi ⟨t', hm1, hm2, rfl, hj⟩ hoff F1 N1
    k_steps
    (rename_i v8 hv8)
    obtain ⟨cc, hcc⟩ : ∃ cc, cols[i]? = some cc := ⟨_, List.getElem?_eq_getElem hi⟩
    obtain ⟨nm, dd, oo, hnm, g1, g2, gC⟩ := hC.2 _ _ hcc
    obtain ⟨a1, a2, a3, a4, a5, a6, b1, b2, b3, b4⟩ := gC
    have hnml : nm.length ≤ 1000 := hns _ (List.mem_of_getElem? hnm)
    have e8 : v8 = .ref cc := by
      rw [show (0 + (i : Int)).toNat = i by omega, List.getElem?_map, hcc] at hv8
      exact (Option.some.inj hv8).symm
    subst e8
    k_steps
    · (rename _ = true => he)
      (rename News h₀ _ _ _ => kN)
      (rename Fr h₀ _ _ _ => kF)
      exact hret _ _ _ _ ⟨by rw [Int.zero_add]; exact .found i t nm hnm (by simpa using he) (fun j nm' hji e => hj j nm' hji e), rfl⟩ kF (cb_drop kN fun p hp => .tail _ hp)
    · (rename _ = false => he)
      exact UnrEnd.intro (by assumption) (by assumption) _ (fun p hp => hp) hoff ⟨t', by walk_at "mget", by walk_at "mget", rfl, fun j nm' hji e => by
        rcases Nat.lt_succ_iff_lt_or_eq.mp hji with h | h
        · exact hj j nm' h e
        · rw [h, hnm] at e; rw [← Option.some.inj e]; simpa using he⟩
  · rintro m₁ n₁ h tk ⟨t', hm1, hm2, rfl, hj⟩ F1 N1
    have hn9 : ∀ nm ∈ names, lowS nm ≠ lowS x := fun nm hm => by
      obtain ⟨j, hj', e⟩ := List.mem_iff_getElem.mp hm
      exact hj j nm (by rw [hC.1]; exact hj') (by rw [List.getElem?_eq_getElem hj', e])
    k_steps
    · (rename _ = true => he)
      (rename News h₀ _ _ _ => kN)
      (rename Fr h₀ _ _ _ => kF)
      exact hret _ _ _ _ ⟨.row _ hn9 he, rfl⟩ kF kN
    · (rename _ = false => he)
      (rename News h₀ _ _ _ => kN)
      (rename Fr h₀ _ _ _ => kF)
      exact hret _ _ _ _ ⟨.none hn9 he, rfl⟩ kF kN
end
end
local macro_rules | `(tactic| walk_at "ctrs") => `(tactic| exact place_ctr (by assumption) (by k_mem) (by k_mem) (by assumption) (by k_mem) (by assumption) (by assumption) (by assumption))
noncomputable def DictKept (h h' : Heap) : Prop := ∀ b o, h.get? b = some o → ∃ o', h'.get? b = some o' ∧ o'.dict = o.dict
theorem DictKept.refl (h : Heap) : DictKept h h := fun _ o e => ⟨o, e, rfl⟩
theorem DictKept.trans {h₁ h₂ h₃ : Heap} (x : DictKept h₁ h₂) (y : DictKept h₂ h₃) : DictKept h₁ h₃ := fun b o e => by
  obtain ⟨o', e', d'⟩ := x b o e
  obtain ⟨o'', e'', d''⟩ := y b o' e'
  exact ⟨o'', e'', d''.trans d'⟩
noncomputable def KeepF (f : Obj → Obj) : Prop := ∀ o, (f o).dict = o.dict ∧ (o.isFreed = false → (f o).isFreed = false)
noncomputable def SafeT {α : Type} : Sem α → Prop
  | .pure _ => True
  | .raise _ => True
  | .unsupported _ => True
  | .finish _ => True
  | .rule _ k => SafeT (k ())
  | .at _ k => SafeT (k ())
  | .load _ _ k => ∀ o, SafeT (k o)
  | .update _ _ f k => KeepF f ∧ SafeT (k ())
  | .loadIfAlive _ k => ∀ o, SafeT (k o)
  | .point _ k => SafeT (k ())
  | .register _ _ => True
  | .alloc _ k => ∀ a, SafeT (k a)
  | .fresh k => ∀ a, SafeT (k a)
  | .ask k => ∀ a, SafeT (k a)
  | .choose _ _ k => ∀ a, SafeT (k a)
  | .os _ _ k => ∀ a, SafeT (k a)
  | .call .. => False
  | .handled _ k => ∀ a, SafeT (k a)
  | .genState _ k => ∀ a, SafeT (k a)
  | .newGen _ k => ∀ a, SafeT (k a)
  | .resume .. => False
  | .yield .. => True
  | .stack k => ∀ a, SafeT (k a)
  | .fork .. => True
  | .thread k => ∀ a, SafeT (k a)
  | .await .. => True
theorem SafeT.bind {α β : Type} {t : Sem α} {f : α → Sem β} (h : SafeT t) (k : ∀ a, SafeT (f a)) : SafeT (t >>= f) := by
  show SafeT (t.bind f)
  induction t with
  | pure a => exact k a
  | raise e => exact h
  | unsupported w => exact h
  | finish w => exact h
  | rule _ _ ih => exact ih () h
  | «at» _ _ ih => exact ih () h
  | load _ _ _ ih => exact fun o => ih o (h o)
  | update _ _ _ _ ih => exact ⟨h.1, ih () h.2⟩
  | loadIfAlive _ _ ih => exact fun o => ih o (h o)
  | point _ _ ih => exact ih () h
  | register _ _ ih => exact h
  | alloc _ _ ih => exact fun o => ih o (h o)
  | fresh _ ih => exact fun o => ih o (h o)
  | ask _ ih => exact fun o => ih o (h o)
  | choose _ _ _ ih => exact fun o => ih o (h o)
  | os _ _ _ ih => exact fun o => ih o (h o)
  | call _ _ _ _ _ ih => exact h
  | handled _ _ ih => exact fun o => ih o (h o)
  | genState _ _ ih => exact fun o => ih o (h o)
  | newGen _ _ ih => exact fun o => ih o (h o)
  | resume _ _ _ _ ih => exact h
  | «yield» => exact h
  | stack _ ih => exact fun o => ih o (h o)
  | fork => exact h
  | thread _ ih => exact fun o => ih o (h o)
  | await => exact h
theorem upd_kept {h : Heap} {a : Addr} {f : Obj → Obj} (hf : KeepF f) : DictKept h (h.update a f) := fun b o e => by
  by_cases hb : a = b
  · subst hb
    have hfr := (Heap.get?_some_iff.mp e).2
    exact ⟨f o, Heap.get?_update_self _ e ((hf o).2 hfr), (hf o).1⟩
  · exact ⟨o, (Heap.get?_update_other _ _ hb).trans e, rfl⟩
theorem push_kept {h : Heap} {o : Obj} : DictKept h (h.push o) := fun _ o e => ⟨o, Heap.get?_push_of_some _ e, rfl⟩
theorem SafeT.kept {α : Type} {t : Sem α} (hs : SafeT t) {M : Model} {Γ : PySem.Ctx} {Q : α → Pos → Shared → Prop} {E : Value → Pos → Shared → Prop} {p : Pos} {s : Shared} {h₀ : Heap} (h0 : DictKept h₀ s.heap) (h : Sem.wp M Γ t Q E p s) :
    Sem.wp M Γ t (fun a p' s' => Q a p' s' ∧ DictKept h₀ s'.heap) (fun e p' s' => E e p' s' ∧ DictKept h₀ s'.heap) p s := by
  induction t generalizing p s with
  | pure a => unfold Sem.wp at h ⊢; exact ⟨h, h0⟩
  | raise e => unfold Sem.wp at h ⊢; exact ⟨h, h0⟩
  | unsupported w => unfold Sem.wp at h; exact h.elim
  | finish w => unfold Sem.wp at h; exact h.elim
  | rule _ _ ih => unfold Sem.wp at h ⊢; exact ih () hs h0 h
  | «at» _ _ ih => unfold Sem.wp at h ⊢; exact ih () hs h0 h
  | load _ _ _ ih => unfold Sem.wp at h ⊢; obtain ⟨o, e, h⟩ := h; exact ⟨o, e, ih o (hs o) h0 h⟩
  | update _ _ _ _ ih => unfold Sem.wp at h ⊢; exact ⟨h.1, ih () hs.2 (h0.trans (upd_kept hs.1)) h.2⟩
  | loadIfAlive _ _ ih => unfold Sem.wp at h ⊢; exact ih _ (hs _) h0 h
  | point _ _ ih => unfold Sem.wp at h ⊢; exact ih () hs h0 h
  | register _ _ ih => unfold Sem.wp at h; exact h.elim
  | alloc _ _ ih => unfold Sem.wp at h ⊢; exact ih _ (hs _) (h0.trans push_kept) h
  | fresh _ ih => unfold Sem.wp at h ⊢; exact ih _ (hs _) h0 h
  | ask _ ih => unfold Sem.wp at h ⊢; exact ih _ (hs _) h0 h
  | choose _ _ _ ih => unfold Sem.wp at h ⊢; exact ⟨h.1, ih _ (hs _) h0 h.2⟩
  | os _ _ _ ih => unfold Sem.wp at h ⊢; exact ih _ (hs _) h0 h
  | call _ _ _ _ _ ih => exact hs.elim
  | handled _ _ ih => unfold Sem.wp at h ⊢; exact ih _ (hs _) h0 h
  | genState _ _ ih => unfold Sem.wp at h ⊢; obtain ⟨o, e, h⟩ := h; exact ⟨o, e, ih _ (hs _) h0 h⟩
  | newGen _ _ ih => unfold Sem.wp at h ⊢; exact ih _ (hs _) h0 h
  | resume _ _ _ _ ih => exact hs.elim
  | «yield» => unfold Sem.wp at h; exact h.elim
  | stack _ ih => unfold Sem.wp at h ⊢; exact ih _ (hs _) h0 h
  | fork => unfold Sem.wp at h; exact h.elim
  | thread _ ih => unfold Sem.wp at h ⊢; exact ih _ (hs _) h0 h
  | await => unfold Sem.wp at h; exact h.elim
theorem SafeT.any {α : Type} {t : Sem α} (hs : SafeT t) {M : Model} {A : Around} {Q : α → Shared → Prop} {E : Value → Shared → Prop} {s : Shared} (h : wpAny M A t Q E s) :
    wpAny M A t (fun a s' => Q a s' ∧ DictKept s.heap s'.heap) (fun e s' => E e s' ∧ DictKept s.heap s'.heap) s := fun Γ p hΓ => hs.kept (DictKept.refl _) (h Γ p hΓ)
theorem safe_pure {α : Type} (a : α) : SafeT (pure a : Sem α) := trivial
theorem safe_unsup {α : Type} (w : String) : SafeT (unsupported w : Sem α) := trivial
theorem safe_throw {α : Type} (e : Value) : SafeT (throw e : Sem α) := trivial
theorem safe_load (a : Addr) : SafeT (load a) := fun _ => trivial
theorem safe_stack : SafeT PySem.stack := fun _ => trivial
theorem safe_update {a : Addr} {f : Obj → Obj} (h : KeepF f) : SafeT (update a f) := ⟨h, trivial⟩
theorem keep_map (g : Array Value → Array Value) : KeepF (Obj.mapFields g) := fun o => by
  obtain ⟨c, d, dt, sl⟩ := o
  cases dt <;> exact ⟨rfl, fun h => h⟩
theorem keep_slots (g : Obj → Array (Option Value)) : KeepF (fun o => { o with slots := g o }) := fun o => by
  obtain ⟨c, d, dt, sl⟩ := o
  cases dt <;> exact ⟨rfl, fun h => h⟩
theorem safe_lookBehind (a : Addr) (part : Option Value) : SafeT (lookBehind a part) := by
  unfold lookBehind
  refine SafeT.bind (fun _ => trivial) ?_
  (repeat (first | exact safe_pure _ | exact safe_unsup _ | exact safe_throw _ | exact safe_load _ | exact safe_stack | exact trivial | exact safe_update (keep_map _) | exact safe_update (keep_slots _) | assumption | fail "safe_more" | refine SafeT.bind ?_ ?_ | intro _ | split | (dsimp only)))
theorem safe_fieldsOf (v : Value) : SafeT (fieldsOf v) := by
  unfold fieldsOf
  (repeat (first | exact safe_pure _ | exact safe_unsup _ | exact safe_throw _ | exact safe_load _ | exact safe_stack | exact trivial | exact safe_update (keep_map _) | exact safe_update (keep_slots _) | assumption | (first | exact safe_lookBehind _ _) | refine SafeT.bind ?_ ?_ | intro _ | split | (dsimp only)))
theorem safe_field (v : Value) (i : Nat) : SafeT (field v i) := by
  unfold field
  (repeat (first | exact safe_pure _ | exact safe_unsup _ | exact safe_throw _ | exact safe_load _ | exact safe_stack | exact trivial | exact safe_update (keep_map _) | exact safe_update (keep_slots _) | assumption | (first | exact safe_fieldsOf _ | exact safe_lookBehind _ _) | refine SafeT.bind ?_ ?_ | intro _ | split | (dsimp only)))
theorem safe_setField (v : Value) (i : Nat) (x : Value) : SafeT (setField v i x) := by
  unfold setField updateField
  (repeat (first | exact safe_pure _ | exact safe_unsup _ | exact safe_throw _ | exact safe_load _ | exact safe_stack | exact trivial | exact safe_update (keep_map _) | exact safe_update (keep_slots _) | assumption | (first | exact safe_field _ _ | exact safe_fieldsOf _ | exact safe_lookBehind _ _) | refine SafeT.bind ?_ ?_ | intro _ | split | (dsimp only)))
theorem safe_setFlight (e : Value) (f : Option Addr) : SafeT (setFlight e f) := by
  unfold setFlight
  (repeat (first | exact safe_pure _ | exact safe_unsup _ | exact safe_throw _ | exact safe_load _ | exact safe_stack | exact trivial | exact safe_update (keep_map _) | exact safe_update (keep_slots _) | assumption | (first | exact safe_setField _ _ _ | exact safe_field _ _ | exact safe_fieldsOf _ | exact safe_lookBehind _ _) | refine SafeT.bind ?_ ?_ | intro _ | split | (dsimp only)))
theorem safe_behind (env : Env) (l : List Env) : SafeT (behindIsImport env l) := by
  unfold behindIsImport
  (repeat (first | exact safe_pure _ | exact safe_unsup _ | exact safe_throw _ | exact safe_load _ | exact safe_stack | exact trivial | exact safe_update (keep_map _) | exact safe_update (keep_slots _) | assumption | (first | exact safe_setFlight _ _ | exact safe_setField _ _ _ | exact safe_field _ _ | exact safe_fieldsOf _ | exact safe_lookBehind _ _) | refine SafeT.bind ?_ ?_ | intro _ | split | (dsimp only)))
theorem safe_kept (env : Env) (b : Bool) (l : List Env) : SafeT (keptBack env b l) := by
  unfold keptBack underTheClaimsCaller
  (repeat (first | exact safe_pure _ | exact safe_unsup _ | exact safe_throw _ | exact safe_load _ | exact safe_stack | exact trivial | exact safe_update (keep_map _) | exact safe_update (keep_slots _) | assumption | (first | exact safe_behind _ _ | exact safe_setFlight _ _ | exact safe_setField _ _ _ | exact safe_field _ _ | exact safe_fieldsOf _ | exact safe_lookBehind _ _) | refine SafeT.bind ?_ ?_ | intro _ | split | (dsimp only)))
theorem safe_ready : ∀ l : List Env, SafeT (readyFrames l)
  | [] => trivial
  | env :: outer => by
    have ih := safe_ready outer
    unfold readyFrames
    (repeat (first | exact safe_pure _ | exact safe_unsup _ | exact safe_throw _ | exact safe_load _ | exact safe_stack | exact trivial | exact safe_update (keep_map _) | exact safe_update (keep_slots _) | assumption | (first | exact safe_kept _ _ _ | exact safe_behind _ _ | exact safe_setFlight _ _ | exact safe_setField _ _ _ | exact safe_field _ _ | exact safe_fieldsOf _ | exact safe_lookBehind _ _) | refine SafeT.bind ?_ ?_ | intro _ | split | (dsimp only)))
theorem safe_frameObject (l : List Env) : SafeT (frameObject l) := by
  unfold frameObject
  (repeat (first | exact safe_pure _ | exact safe_unsup _ | exact safe_throw _ | exact safe_load _ | exact safe_stack | exact trivial | exact safe_update (keep_map _) | exact safe_update (keep_slots _) | assumption | (first | exact safe_ready _ | exact safe_kept _ _ _ | exact safe_behind _ _ | exact safe_setFlight _ _ | exact safe_setField _ _ _ | exact safe_field _ _ | exact safe_fieldsOf _ | exact safe_lookBehind _ _) | refine SafeT.bind ?_ ?_ | intro _ | split | (dsimp only)))
theorem safe_frameEnvs : SafeT frameEnvs := by
  unfold frameEnvs
  (repeat (first | exact safe_pure _ | exact safe_unsup _ | exact safe_throw _ | exact safe_load _ | exact safe_stack | exact trivial | exact safe_update (keep_map _) | exact safe_update (keep_slots _) | assumption | (first | exact safe_frameObject _ | exact safe_ready _ | exact safe_kept _ _ _ | exact safe_behind _ _ | exact safe_setFlight _ _ | exact safe_setField _ _ _ | exact safe_field _ _ | exact safe_fieldsOf _ | exact safe_lookBehind _ _) | refine SafeT.bind ?_ ?_ | intro _ | split | (dsimp only)))
theorem safe_frameOf (env : Env) : SafeT (PySem.frameOf env) := by
  unfold PySem.frameOf
  (repeat (first | exact safe_pure _ | exact safe_unsup _ | exact safe_throw _ | exact safe_load _ | exact safe_stack | exact trivial | exact safe_update (keep_map _) | exact safe_update (keep_slots _) | assumption | (first | exact safe_frameEnvs | exact safe_frameObject _ | exact safe_ready _ | exact safe_kept _ _ _ | exact safe_behind _ _ | exact safe_setFlight _ _ | exact safe_setField _ _ _ | exact safe_field _ _ | exact safe_fieldsOf _ | exact safe_lookBehind _ _) | refine SafeT.bind ?_ ?_ | intro _ | split | (dsimp only)))
theorem safe_place (f : Addr) (b : Bool) : SafeT (entryPlaceOf f b) := by
  unfold entryPlaceOf
  (repeat (first | exact safe_pure _ | exact safe_unsup _ | exact safe_throw _ | exact safe_load _ | exact safe_stack | exact trivial | exact safe_update (keep_map _) | exact safe_update (keep_slots _) | assumption | (first | exact safe_frameOf _ | exact safe_frameEnvs | exact safe_frameObject _ | exact safe_ready _ | exact safe_kept _ _ _ | exact safe_behind _ _ | exact safe_setFlight _ _ | exact safe_setField _ _ _ | exact safe_field _ _ | exact safe_fieldsOf _ | exact safe_lookBehind _ _) | refine SafeT.bind ?_ ?_ | intro _ | split | (dsimp only)))
theorem safe_newFields (ty : String) (vs : List Value) : SafeT (newFields ty vs) := by
  unfold newFields newObj newObjAsIs
  (repeat (first | exact safe_pure _ | exact safe_unsup _ | exact safe_throw _ | exact safe_load _ | exact safe_stack | exact trivial | exact safe_update (keep_map _) | exact safe_update (keep_slots _) | assumption | (first | exact safe_place _ _ | exact safe_frameOf _ | exact safe_frameEnvs | exact safe_frameObject _ | exact safe_ready _ | exact safe_kept _ _ _ | exact safe_behind _ _ | exact safe_setFlight _ _ | exact safe_setField _ _ _ | exact safe_field _ _ | exact safe_fieldsOf _ | exact safe_lookBehind _ _) | refine SafeT.bind ?_ ?_ | intro _ | split | (dsimp only)))
theorem safe_noteFrame (e : Value) (env : Env) : SafeT (noteFrame e env) := by
  unfold noteFrame EntryCells.newEntry
  (repeat (first | exact safe_pure _ | exact safe_unsup _ | exact safe_throw _ | exact safe_load _ | exact safe_stack | exact trivial | exact safe_update (keep_map _) | exact safe_update (keep_slots _) | assumption | (first | exact safe_newFields _ _ | exact safe_place _ _ | exact safe_frameOf _ | exact safe_frameEnvs | exact safe_frameObject _ | exact safe_ready _ | exact safe_kept _ _ _ | exact safe_behind _ _ | exact safe_setFlight _ _ | exact safe_setField _ _ _ | exact safe_field _ _ | exact safe_fieldsOf _ | exact safe_lookBehind _ _) | refine SafeT.bind ?_ ?_ | intro _ | split | (dsimp only)))
theorem safe_leaving (e : Value) (env : Env) : SafeT (leaving env e) := by
  unfold leaving
  (repeat (first | exact safe_pure _ | exact safe_unsup _ | exact safe_throw _ | exact safe_load _ | exact safe_stack | exact trivial | exact safe_update (keep_map _) | exact safe_update (keep_slots _) | assumption | (first | exact safe_noteFrame _ _ | exact safe_newFields _ _ | exact safe_place _ _ | exact safe_frameOf _ | exact safe_frameEnvs | exact safe_frameObject _ | exact safe_ready _ | exact safe_kept _ _ _ | exact safe_behind _ _ | exact safe_setFlight _ _ | exact safe_setField _ _ _ | exact safe_field _ _ | exact safe_fieldsOf _ | exact safe_lookBehind _ _) | refine SafeT.bind ?_ ?_ | intro _ | split | (dsimp only)))
noncomputable abbrev excO (C t : Addr) (dct : Option Addr) : Obj := { cls := .ref C, dict := dct, data := .fields #[.ref t, .none, .none, .none, .bool false, .none] }
section
variable {prog : Program} {w : World} {A : Around} {E : Value → Shared → Prop} {R : Result → Shared → Prop} {s : Shared} {K : Frag} {C : Addr} {cd : ClassData} {h₀ : Heap} {L : Addr} {m : Str → Option Value}
theorem osa_openE {x : Addr} {ox : Obj} {od : Option Obj} {name : Str} {tk : Tok} {v : Value} (X : K.In s.heap) (I : InstAt s.heap x ox C od) (hc : clsIn K C = some cd) (ne : cd.mro.isEmpty = false) (ho : cd.mro.contains (.type "object") = true)
    (pass : refuseLoop (.ref x) "__setattr__" cd.mro = pure ()) (ht : findIn K (.ref C) name = some none)
    (h : wpAny (model prog w) A.in1 (Builtin.ObjectAttr.storeInOwnDict (.ref x) (.ref C) (.str name tk) name v false)
      (fun fin s' => match fin with | .done f => R (.ok f) s' | .again c' => c'.quiet = true ∧ codeAny (model prog w) A c' R s') (fun e s' => R (.error e) s') s) :
    codeAny (model prog w) A (.call (.builtin "object.__setattr__") ⟨[.ref x, .str name tk, v], []⟩) R s := by
  have SF := PySem.F.store_object
  have sub : Looks (model prog w) s.heap (isInstance (.ref x) (.type "object")) true := I.type.andThen (looks_mroIn X (by unfold mroIn; rw [hc, Option.bind_some, if_neg (by rw [ne]; decide), ho]))
  refine codeAny_call_builtin SF.slot.plain SF.entry (@check_slot (model prog w) _ _ s "object.__setattr__" "object" "__setattr__" (.ref x) [.str name tk, v] [] _ SF.kind SF.split sub (SF.args (.ref x) (.str name tk) v) ?_)
  have hm : Looks (model prog w) s.heap (mroOf (.ref C)) cd.mro := (looks_clsIn X hc).andThen .now
  have L3 : Looks (model prog w) s.heap (Builtin.ObjectAttr.storeTaker? none) none := .now
  rw [osa_eq, refuse_eq]
  refine wpAny_bind (wpAny_bind (I.type.here (wpAny_bind (hm.here ?_))))
  rw [pass]
  exact wpAny_pure (wpAny_bind (I.type.here (wpAny_bind ((looks_findIn X ht).here (wpAny_bind (L3.here h))))))
theorem store_exc {e t : Addr} {led : List (Addr × Obj)} {name : Str} {v : Value} {Q : Unit → Shared → Prop} (F : Fr h₀ L s.heap m) (X₀ : K.In h₀) (N : News h₀ L s.heap ((e, excO C t none) :: led)) (hne : ∀ p ∈ led, p.1 ≠ e)
    (hs : findIn K (.ref C) "__setattr__" = some (some (.builtin "object.__setattr__"))) (hc : clsIn K C = some cd) (hdict : cd.hasDict = true) (ne : cd.mro.isEmpty = false) (ho : cd.mro.contains (.type "object") = true)
    (pass : refuseLoop (.ref e) "__setattr__" cd.mro = pure ()) (ht : findIn K (.ref C) name = some none)
    (h : ∀ d tk h', Fr h₀ L h' m → News h₀ L h' ((d, dictOf [⟨PyData.keyHash w.params name, .str name tk, v⟩] 1) :: (e, excO C t (some d)) :: led) → (∀ p ∈ led, p.1 < d) → e < d → Q () { s with heap := h', toks := s.toks + 2 }) :
    wpAny (model prog w) A (setAttr (.ref e) name v) Q E s := by
  have X := X₀.keeps F.keep
  have hx := (N _ (.head _)).1
  have I : InstAt s.heap e (excO C t none) C none := ⟨hx, rfl, rfl, trivial⟩
  refine set_plain X I hs (osa_openE (s := { s with toks := s.toks + 1 }) X I hc ne ho pass ht ?_)
  refine wpAny_bind (wpAny_pure (wpAny_bind (wpAny_bind (wpAny_loadPart hx (wpAny_bind (looks_clsIn X hc _ _ _ _ (fun _ _ e => e) ?_))))))
  rw [hdict]
  have hes : e ≠ s.heap.objs.size := Nat.ne_of_lt (Heap.lt_size hx)
  have F₁ := F.push emptyDict
  have N₁ := N.push F emptyDict
  have hx₁ := (N₁ _ (.tail _ (.head _))).1
  have hlt : ∀ p ∈ led, p.1 < s.heap.objs.size := fun p hp => Heap.lt_size (N p (.tail _ hp)).1
  obtain ⟨F₂, N₂⟩ := news_upd (pre := [(s.heap.objs.size, emptyDict)]) (post := led) (o := excO C t none) (o' := excO C t (some s.heap.objs.size)) (f := fun o => { o with dict := some s.heap.objs.size }) F₁ N₁
    (fun p hp => by rw [List.mem_singleton.mp hp]; exact hes.symm) hne rfl rfl
  refine wpAny_bind (wpAny_alloc ?_)
  refine wpAny_bind (wpAny_update' hx₁ ?_)
  refine wpAny_pure (wpAny_bind (wpAny_pure (wpAny_bind ?_)))
  unfold nsSet
  have D := (N₂ _ (.head _)).1
  obtain ⟨F₃, N₃⟩ := news_upd (pre := []) (post := (e, excO C t (some s.heap.objs.size)) :: led) (o := emptyDict) (o' := dictOf [⟨PyData.keyHash w.params name, .str name (s.toks + 1), v⟩] 1) (f := Obj.putName name (PyData.keyHash w.params name) (.str name (s.toks + 1)) v) F₂ N₂
    (fun p hp => (nomatch hp)) (fun p hp => by
      rcases List.mem_cons.mp hp with rfl | hp
      · exact hes
      · exact Nat.ne_of_lt (hlt p hp)) (by exact putName_dict name _ _ v [] 0) rfl
  have D' := (N₃ _ (.head _)).1
  refine wpAny_bind (wpAny_bind (wpAny_askSetting (wpAny_pure (wpAny_bind (wpAny_mkText (wpAny_bind (wpAny_loadPart D ?_)))))))
  dsimp only [emptyDict]
  rw [aRefKeyMayBeTheName_at, show ((!(#[] : Array DictEntry).any (·.key.isStr name) && (#[] : Array DictEntry).any (·.refKey))) = false by simp]
  refine wpAny_updatePart D ?_
  refine wpAny_bind (wpAny_lookBehind D' (pastItsLine_dict (by rw [sizeLine_eq]; exact Nat.le_of_ble_eq_true rfl)) ?_)
  exact wpAny_pure (h _ _ _ F₃ N₃ hlt (Heap.lt_size hx))
end
section
variable {M : Model} {prog : Program} {w : World} {A : Around} {E : Value → Shared → Prop} {R : Result → Shared → Prop} {h : Heap} {g : Array GenState} {d : Drawn} {t : Nat} {os : OsState}
variable {nm q : Str} {C N : Addr} {bs bm bmN : List Value} {hdct : Bool} {sn : List Str} {sub : List Value} {ab : Bool} {col : Option Bool} {dd : Option Addr} {k0 k1 k2 k3 k5 : Option Value} {B newId initId : String}
theorem check_new_D (Fn : ExcBaseFacts B newId initId bmN) (hcont : (Value.ref C :: bm).contains (.type B) = true) {rest : List Value} {Q : Unit → Shared → Prop} (hC : h.get? C = some (excClassObj nm q C N bs bm hdct sn sub ab col dd k0 k1 k2 k3 k5 newId))
    (hq : Q () ⟨h, g, d, t, os⟩) : wpAny M A (checkBuiltinCall newId ⟨.ref C :: rest, []⟩) Q E ⟨h, g, d, t, os⟩ := by
  have hstar := Fn.noStar
  simp only [checkBuiltinCall, Fn.newKind, Fn.newSplit, Fn.newRow]
  repeat (first | refine wpAny_loadPart_at hC ?_ | (refine wpAny_isSubtype_exc hC ?_; rw [hcont]) | refine wpAny_staticBase_exc hC ?_ | refine wpAny_madeBy_exc hC ?_ | simp only [bne_self_eq_false, Bool.false_eq_true, if_false] | wp_step)
  exact hq
theorem new_D (Fn : ExcBaseFacts B newId initId bmN) (hcB : (Value.ref C :: bm).contains (.type B) = true) (hcA : (Value.ref C :: bm).contains (.type "AttributeError") = false) (hcN : (Value.ref C :: bm).contains (.type "NameError") = false) {rest : List Value}
    (hC : h.get? C = some (excClassObj nm q C N bs bm hdct sn sub ab col dd k0 k1 k2 k3 k5 newId))
    (hq : R (.ok (.ret (.ref (h.objs.size + 1)))) ⟨(h.push { cls := .type "tuple", data := .seq rest.toArray }).push (excO C h.objs.size none), g, d, t, os⟩) (hrest : rest.length ≤ sizeLine) :
    codeAny (model prog w) A (.builtin newId ⟨.ref C :: rest, []⟩) R ⟨h, g, d, t, os⟩ := by
  have hends := Fn.ends
  refine codeAny_builtinAt Fn.entry ?_
  unfold Builtin.«BaseException.__new__»
  refine PySem.wpAt_bind ?_
  show PySem.wpAt _ _ _ (PySem.stack >>= _) _ _ _
  refine PySem.wpAt_bind (PySem.wpAt_stack fun p below => PySem.wpAt_of_wpAny ?_)
  wp_walk
  refine PySem.wpAt_of_wpAny ?_
  rw [Fn.owner]
  repeat (first | with_reducible refine wpAny_madeHere_exc Fn.canon hC ?_ | with_reducible refine wpAny_loadPart_at hC ?_ | (with_reducible refine wpAny_isSubtype_exc hC ?_; first | rw [hcB] | rw [hcA] | rw [hcN]) | wp_step)
  show R _ _
  rw [Heap.size_push]
  exact hq
theorem type_call_D {K : Frag} (X : K.In h) (Fn : ExcBaseFacts B newId initId bmN) (hcB : (Value.ref C :: bm).contains (.type B) = true) (hcA : (Value.ref C :: bm).contains (.type "AttributeError") = false) (hcN : (Value.ref C :: bm).contains (.type "NameError") = false) {rest : List Value} {fI : Addr} {Q : Fin → Shared → Prop}
    (hC : h.get? C = some (excClassObj nm q C N bs bm hdct sn sub ab col dd k0 k1 k2 k3 k5 newId)) (hi : findIn K (.ref C) "__init__" = some (some (.ref fI))) (hf : typeIn K (.ref fI) = some (.type "function"))
    (hq : wpAny (model prog w) A (call (.ref fI) (.ref (h.objs.size + 1) :: rest)) (fun r s' => r = .none ∧ Q (.done (.ret (.ref (h.objs.size + 1)))) s') E ⟨(h.push { cls := .type "tuple", data := .seq rest.toArray }).push (excO C h.objs.size none), g, d, t, os⟩)
    (hrest : rest.length ≤ sizeLine) :
    wpAny (model prog w) A (Builtin.«type.__call__» ⟨.ref C :: rest, []⟩) Q E ⟨h, g, d, t, os⟩ := by
  repeat (first | with_reducible refine wpAny_loadPart_at hC ?_ | with_reducible refine wpAny_madeBy_exc hC ?_ | wp_step)
  refine codeAny_call_builtin_code (Code.quiet_builtin _ Fn.quiet) (check_new_D Fn hcB hC ?_)
  refine new_D Fn hcB hcA hcN hC ?_ hrest
  show wpAny _ _ _ _ _ _
  have kp : ∀ b o, h.get? b = some o → ((h.push { cls := .type "tuple", data := .seq rest.toArray }).push (excO C h.objs.size none)).get? b = some o := fun b o e => Heap.get?_push_of_some _ (Heap.get?_push_of_some _ e)
  have hC₁ := kp _ _ hC
  have X₁ := X.keeps kp
  have hget : ((h.push { cls := .type "tuple", data := .seq rest.toArray }).push (excO C h.objs.size none)).get? (h.objs.size + 1) = some (excO C h.objs.size none) := by heap_get
  have hcC : (Value.ref C :: bm).contains (.ref C) = true := by simp
  unfold isInstance
  repeat (first | with_reducible refine wpAny_loadPart_at hget ?_ | (with_reducible refine wpAny_isSubtype_exc hC₁ ?_; rw [hcC]) | wp_step)
  show wpAny _ _ (typeLookup (.ref C) _) _ _ _
  refine (looks_findIn X₁ hi) _ _ _ _ (fun _ _ e => e) ?_
  refine wpAny_holding (wpAny_bind ((bind_fn X₁ _ hf) _ _ _ _ (fun _ _ e => e) ?_))
  refine wpAny_bind (wpAny_mono hq (fun r s' hr => ?_) fun _ _ e => e)
  obtain ⟨rfl, hQ⟩ := hr
  wp_walk
  exact hQ
end
section
section
variable {prog : Program} {w : World} {A : Around} {E : Value → Shared → Prop} {h : Heap} {g : Array GenState} {d : Drawn} {t : Nat} {os : OsState}
variable {nm q : Str} {C N : Addr} {bs bm bmN : List Value} {hdct : Bool} {sn : List Str} {sub : List Value} {ab : Bool} {col : Option Bool} {dd : Option Addr} {k0 k1 k2 k3 k5 : Option Value} {B newId initId : String}
theorem call_D {K : Frag} (X : K.In h) (Fn : ExcBaseFacts B newId initId bmN) (hcB : (Value.ref C :: bm).contains (.type B) = true) (hcA : (Value.ref C :: bm).contains (.type "AttributeError") = false) (hcN : (Value.ref C :: bm).contains (.type "NameError") = false) {rest : List Value} {fI : Addr} {Q : Value → Shared → Prop}
    (hC : h.get? C = some (excClassObj nm q C N bs bm hdct sn sub ab col dd k0 k1 k2 k3 k5 newId)) (hi : findIn K (.ref C) "__init__" = some (some (.ref fI))) (hf : typeIn K (.ref fI) = some (.type "function")) (hrest : rest.length ≤ sizeLine)
    (hq : wpAny (model prog w) (A.under (.builtin "type.__call__" ⟨.ref C :: rest, []⟩)) (call (.ref fI) (.ref (h.objs.size + 1) :: rest)) (fun r s' => r = .none ∧ Q (.ref (h.objs.size + 1)) s') E ⟨(h.push { cls := .type "tuple", data := .seq rest.toArray }).push (excO C h.objs.size none), g, d, t, os⟩) :
    wpAny (model prog w) A (call (.ref C) rest) Q E ⟨h, g, d, t, os⟩ := by
  have f1 := tc_lookup
  have f2 := tc_bind (.ref C)
  have hT : (⟨h, g, d, t, os⟩ : Shared).TypeIs (.ref C) "type" := ⟨_, hC, rfl⟩
  refine wpAny_call (codeAny_of_tree ?_)
  show wpAny _ _ (callAny (.ref C) _) _ _ _
  repeat (any_goals (first | assumption | with_reducible refine wpAny_loadPart_at hC ?_ | wp_step))
  refine ⟨rfl, ?_⟩
  exact codeAny_call_builtin_at (Code.quiet_builtin _ (by decide +kernel)) entry_typeCall (wpAny_check_type_call_sub hC (type_call_D X Fn hcB hcA hcN hC hi hf hq hrest))
end
local macro_rules | `(tactic| walk_at "setAttr ref") => `(tactic| (k_here; k_dflt (refine' store_exc ?k1 ?k2 ?k3 ?k4 ?k5 ?k6 ?k7 ?k8 ?k9 ?ka ?kb ?_; (case k1 => k_asm); (case k2 => k_asm); (case k3 => k_asm); (case k4 => assumption); (case k5 => k_is); (case k6 => k_is); (case k7 => exact rfl); (case k8 => exact rfl); (case k9 => exact rfl); (case ka => assumption); (case kb => k_is)); k_whole; intro d9 tk9 h9 F9 N9 l9 l8; (try k_sweep)))
theorem exc_cur {w : World} {led : List (Addr × Obj)} {msg : Str} {u : Nat} {K : Value → List (Addr × Obj) → Heap → Nat → Prop} (k9 : ∀ e, ∀ d, ∀ t, ∀ tk, ((∀ p ∈ led, p.1 < e)) → (e < d) → ∀ h_ t_, K (.ref e) ((d, dictOf [⟨PyData.keyHash w.params "message", .str "message" tk, .str msg u⟩] 1) :: (e, excO 51 t (some d)) :: led) h_ t_) : ∀ v led' h_ t_, (∃ e d t tk, v = .ref e ∧ led' = (d, dictOf [⟨PyData.keyHash w.params "message", .str "message" tk, .str msg u⟩] 1) :: (e, excO 51 t (some d)) :: led ∧ (∀ p ∈ led, p.1 < e) ∧ e < d) → K v led' h_ t_ := by
  rintro _ _ h_ t_ ⟨e, d, t, tk, rfl, rfl, a1, a2⟩
  exact k9 e d t tk a1 a2 h_ t_
local macro_rules | `(tactic| walk_at "pad1") => `(tactic| skip)
theorem exc_ctr {w : World} {led : List (Addr × Obj)} {msg : Str} {u : Nat} :
    Ctr w led 2 (.ref 51) [.str msg u] (fun v led' => ∃ e d t tk, v = .ref e ∧ led' = (d, dictOf [⟨PyData.keyHash w.params "message", .str "message" tk, .str msg u⟩] 1) :: (e, excO 51 t (some d)) :: led ∧ (∀ p ∈ led, p.1 < e) ∧ e < d) := by
  intro p loose mean mg mb dp un gd cn cs a ccd cl outer A₀ base h₀ L m hp gg dr tks os Q E B F X N T hk hd hu hret
  refine call_D (fI := 35) (X.keeps F.keep) PySem.F.excBase_Exception ?b1 ?b2 ?b3 ((X.keeps F.keep) 51 _ rfl) ?b4 ?b5 (by rw [sizeLine_eq]; exact Nat.le_of_ble_eq_true rfl) ?_
  case b1 => decide
  case b2 => decide
  case b3 => decide
  case b4 => k_is
  case b5 => k_is
  have F₁ := (F.push ({ cls := .type "tuple", data := .seq [Value.str msg u].toArray } : Obj)).push (excO 51 hp.objs.size none)
  have N₁ := (N.push F ({ cls := .type "tuple", data := .seq [Value.str msg u].toArray } : Obj)).push (F.push _) (excO 51 hp.objs.size none)
  rw [Heap.size_push] at N₁
  have hlt : ∀ p ∈ led, p.1 < hp.objs.size + 1 := fun p hp' => Nat.lt_succ_of_lt (Heap.lt_size (N p hp').1)
  have N₂ : News h₀ L _ ((hp.objs.size + 1, excO 51 hp.objs.size none) :: led) := cb_drop N₁ fun p hp' => by
    rcases List.mem_cons.mp hp' with rfl | hp'
    · exact .head _
    · exact .tail _ (.tail _ hp')
  have hne : ∀ p ∈ led, p.1 ≠ hp.objs.size + 1 := fun p hp' => Nat.ne_of_lt (hlt p hp')
  have pass : refuseLoop (.ref (hp.objs.size + 1)) "__setattr__" [.ref 51, .ref 38, .type "Exception", .type "BaseException", .type "object"] = pure () := by
    rw [refuseLoop_ref, refuseLoop_ref]; exact PySem.F.store_Exception.passes _
  clear N₁ N F
  refine wpAny_call ?_
  k_dflt (refine' code_def ?k1 ?k2 ?k3 ?k4 ?k5 ?kA ?kF ?kK ?k6 ?k7 ?k8 ?k9 ?kB ?_ ?c2 ?c3 ?c4 ?c5; (case kA => exact rfl); (case kF => exact rfl); (case kK => first | assumption | exact rfl); (case k1 => k_asm); (case k2 => k_asm); (case k3 => k_asm); (case k4 => k_asm); (case k5 => k_asm); (case k6 => k_is); (case k7 => k_is); (case k8 => ktr_room); (case k9 => first | exact BindsTo.of_eq rfl | exact binds_K (by k_in) rfl (by k_is) rfl rfl rfl); (case c5 => decide); (case kB => exact locs rfl); (case c2 => exact rfl); (case c3 => exact rfl); (case c4 => exact rfl); k_whole; intro g9z L9z h9z FG9z F9z N9z B9z X9z T9z; (try dsimp only); (try k_fold))
  k_steps
  (rename News h₀ _ _ _ => kN)
  (rename Fr h₀ _ { heap := _, gens := _, drawn := _, toks := _, os := _ : Shared }.heap _ => kF)
  exact hret _ _ _ _ ⟨_, _, _, _, rfl, rfl, hlt, by assumption⟩ kF kN
end
local macro_rules | `(tactic| walk_at "ctrs") => `(tactic| exact exc_ctr)
local macro_rules | `(tactic| walk_at "cur") => `(tactic| (refine exc_cur ?_; intro x9 d9 t9 tk9 lx9 ld9 h9 tk9 F9 N9))
noncomputable def RaisedD (base G : Heap) (l : List Env) (e C d : Addr) (news : List (Addr × Obj)) (h : Heap) : Prop :=
  RaisedSN base G l e (.ref C) news h ∧ ∃ o, h.get? e = some o ∧ o.dict = some d
theorem RaisedD.less {base G : Heap} {l : List Env} {e C d : Addr} {news news' : List (Addr × Obj)} {h : Heap} (R : RaisedD base G l e C d news h) (hs : ∀ q ∈ news', q ∈ news) : RaisedD base G l e C d news' h := by
  obtain ⟨⟨B, a0, x1, x2, x3, x4⟩, r⟩ := R
  exact ⟨⟨B, a0, x1, x2, fun q hq => x3 q (hs q hq), x4⟩, r⟩
section
variable {M : Model} {A : Around} {E : Value → Shared → Prop} {s' : Shared} {base g g₂ : Heap} {outer : List Env} {L a e C t d : Addr} {m : Str → Option Value} {name : Str} {scope : Scope} {cd : Value} {Q : Unit → Shared → Prop} {news : List (Addr × Obj)}
theorem leave_raiseD (K : Below A base outer g) (F : Fr g L s'.heap m) (N : News g L s'.heap ((e, excO C t (some d)) :: news)) (hne : ∀ q ∈ news, q.1 ≠ e)
    (hQ : ∀ h', RaisedD base g outer e C d news h' → g.UpToSlots h' → Q () { s' with heap := h' }) (hk : scope.kind = .function := by rfl) :
    wpAny M (A.deeper (envOf name scope L a cd)) (leaving (envOf name scope L a cd) (.ref e)) Q E s' := by
  have K' := K.push (name := name) (a := a) (cd := cd) F hk
  have he := (N _ (.head _)).1
  have heg : g.get? e = none := (N _ (.head _)).2.2
  have hin : ∀ env ∈ (envOf name scope L a cd :: outer), ∀ b, env.frame = some b → b ∈ e :: (envOf name scope L a cd :: outer).filterMap (·.frame) := fun env he b hb => .tail _ (List.mem_filterMap.mpr ⟨env, he, hb⟩)
  have st : base.StaysIn (hideAll s'.heap (e :: (envOf name scope L a cd :: outer).filterMap (·.frame))) := fun b o q => hideAll_get _ (K'.stays b o q) fun hm => by
    rcases List.mem_cons.mp hm with z | hm
    · rw [z, fresh_of_stays K.stays heg] at q; cases q
    · rw [(K'.frames.mem hm).1] at q; cases q
  have sg : ∀ b o, g.get? b = some o → b ∉ outer.filterMap (·.frame) → (hideAll s'.heap (e :: (envOf name scope L a cd :: outer).filterMap (·.frame))).get? b = some o := fun b o q nm => hideAll_get _ (F.keep b o q) fun hm => by
    rcases List.mem_cons.mp hm with z | hm
    · rw [z, heg] at q; cases q
    rcases kts_mem hm with z | z
    · rw [z, kts_self F] at q
      cases q
    · exact nm z
  have hl : ∀ q ∈ news, (hideAll s'.heap (e :: (envOf name scope L a cd :: outer).filterMap (·.frame))).get? q.1 = some q.2 ∧ g.get? q.1 = none ∧ base.get? q.1 = none := fun q hq => by
    have Nq := N q (.tail _ hq)
    refine ⟨hideAll_get _ Nq.1 fun hm => ?_, Nq.2.2, fresh_of_stays K.stays Nq.2.2⟩
    rcases List.mem_cons.mp hm with z | hm
    · exact hne q hq z
    obtain ⟨env, he, hf⟩ := List.mem_filterMap.mp hm
    rcases List.mem_cons.mp he with rfl | he
    · exact Nq.2.1 (Option.some.inj hf).symm
    · obtain ⟨o, ho, _⟩ := (K.frames.mem (List.mem_filterMap.mpr ⟨env, he, hf⟩)).2
      rw [Nq.2.2] at ho; cases ho
  have hen : (hideAll s'.heap (e :: (envOf name scope L a cd :: outer).filterMap (·.frame))).get? e = none := hideAll_none _ (.head _)
  refine wpAny_mono (SafeT.any (safe_leaving _ _) (Q := fun _ s₂ => ∃ h', s₂ = { s' with heap := h' } ∧ RaisedSN base g outer e (.ref C) news h' ∧ g.UpToSlots h') (E := fun _ _ => False) ?_) ?_ (fun _ _ x => x.1.elim)
  · refine wpAny_leaving_firstW (a0 := .ref t) K'.stack (funFrames_hide K'.frames hin) rfl he (fun b o hb => of_hideAll _ hb) hen rfl rfl rfl fun h' hL => ?_
    obtain ⟨k1, ⟨_, _, k2⟩, k3, k4⟩ := hL
    exact ⟨h', rfl, ⟨_, _, st, sg, hl, k1, hen, k2, k3⟩, (Heap.UpToSlots.of_keeps F.keep).trans k4⟩
  · rintro u s₂ ⟨⟨h', rfl, R, U⟩, D⟩
    obtain ⟨o', ho', hd'⟩ := D _ _ he
    exact hQ h' ⟨R, o', ho', hd'⟩ U
theorem leave_onD (K : Below A base outer g) (F : Fr g L g₂ m) (R : RaisedD base g₂ (envOf name scope L a cd :: outer) e C d news s'.heap) (hsm : g₂.UpToSlots s'.heap)
    (hQ : ∀ h', RaisedD base g outer e C d news h' → g.UpToSlots h' → Q () { s' with heap := h' }) :
    wpAny M (A.deeper (envOf name scope L a cd)) (leaving (envOf name scope L a cd) (.ref e)) Q E s' := by
  obtain ⟨R, o, ho, hd⟩ := R
  refine wpAny_mono (SafeT.any (safe_leaving _ _) (Q := fun _ s₂ => ∃ h', s₂ = { s' with heap := h' } ∧ RaisedSN base g outer e (.ref C) news h' ∧ g.UpToSlots h') (E := fun _ _ => False) ?_) ?_ (fun _ _ x => x.1.elim)
  · exact leave_onSN K F R hsm fun h' R _ U => ⟨h', rfl, R, U⟩
  · rintro u s₂ ⟨⟨h', rfl, R, U⟩, D⟩
    obtain ⟨o', ho', hd'⟩ := D _ _ ho
    exact hQ h' ⟨R, o', ho', hd'.trans hd⟩ U
end
section
variable {M : Model} {A : Around} {E : Value → Shared → Prop} {env : Env} {s : Shared}
variable {nm q : Str} {C N : Addr} {bs bm : List Value} {hdct : Bool} {sn : List Str} {sub : List Value} {ab : Bool} {col : Option Bool} {dd : Option Addr} {k0 k1 k2 k3 k5 : Option Value} {newId : String}
theorem raise_D {x : Expr} {pos : Pos} {Q : Flow → Shared → Prop} (hbase : bm.contains (.type "BaseException") = true) (hh : A.handled = none)
    (h : wpAny M A (eval x env) (fun v s₁ => ∃ e t dct, v = .ref e ∧ s₁.heap.get? C = some (excClassObj nm q C N bs bm hdct sn sub ab col dd k0 k1 k2 k3 k5 newId) ∧
      s₁.heap.get? e = some (excO C t dct) ∧ E (.ref e) s₁) E s) :
    wpAny M A (exec (.Raise (some x) none pos) env) Q E s := by
  show wpAny M A (do standAt pos; raiseStmt env (some (do let v ← eval x env; standAt pos; pure v)) none) Q E s
  refine wpAny_bind (wpAny_standAt ?_)
  have hcB : (Value.ref C :: bm).contains (.type "BaseException") = true := by rw [List.contains_cons, hbase, Bool.or_true]
  unfold raiseStmt
  refine wpAny_bind (wpAny_bind (wpAny_mono h (fun v s₁ h₁ => wpAny_bind (wpAny_standAt (wpAny_pure ?_))) fun _ _ x => x))
  obtain ⟨e, t, dct, rfl, hC, he, hE⟩ := h₁
  obtain ⟨hp, g, d, tk, os⟩ := s₁
  repeat (first | with_reducible refine wpAny_loadPart_at he ?_ | with_reducible refine wpAny_loadPart_at hC ?_ | (with_reducible refine wpAny_isSubtype_exc hC ?_; rw [hcB]) | wp_step)
  exact wpAny_raiseNew_none hh hE
end
theorem dk_step {M : Model} {A : Around} {E : Value → Shared → Prop} {s : Shared} {t : Sem Unit} {Q : Unit → Shared → Prop} {P : Heap → Prop} (hs : SafeT t)
    (h : ∀ Q' : Unit → Shared → Prop, (∀ h', P h' → Q' () { s with heap := h' }) → wpAny M A t Q' (fun _ _ => False) s) (k : ∀ h', P h' → DictKept s.heap h' → Q () { s with heap := h' }) : wpAny M A t Q E s := by
  refine wpAny_mono (SafeT.any hs (h (fun _ s₂ => ∃ h', s₂ = { s with heap := h' } ∧ P h') fun h' p => ⟨h', rfl, p⟩)) ?_ (fun _ _ x => x.1.elim)
  rintro u s₂ ⟨⟨h', rfl, p⟩, D⟩
  exact k h' p D
section
variable {prog : Program} {w : World} {A₀ : Around} {E : Value → Shared → Prop} {s' : Shared} {base g g₀ G : Heap} {outer : List Env} {L a e C d : Addr} {m : Str → Option Value} {name : Str} {scope : Scope} {cd : Value}
  {n : Str} {b₀ : Stmt} {suite : List Stmt} {pos np : Pos} {rest : List ExceptHandler} {Q : Flow → Shared → Prop} {news : List (Addr × Obj)} {KF : Frag}
  {p : Program} {loose : List Str} {mean : ExcName → Option Value} {mg mb : Str → Option Value} {x : Str}
theorem caught_D (R : RaisedD base G (envOf name scope L a cd :: outer) e C d news s'.heap) (F : Fr g L G m) (K : Below A₀ base outer g) (hsm : G.UpToSlots s'.heap) (XB : KF.In base) (TB : Top p loose mean mg mb base)
    (D : KtsDicts (outer.filterMap (·.frame)) g) (T0 : KtsTurn (outer.filterMap (·.frame)) g₀ g)
    (ex : nsIn KF mainGlobals x = some (some (.ref C))) (hC : ∃ nm q N bs bm hdct sn sub ab col dd k0 k1 k2 k3 k5 newId, KF.lookup C = some (excClassObj nm q C N bs bm hdct sn sub ab col dd k0 k1 k2 k3 k5 newId) ∧ bm.contains (.type "BaseException") = true)
    (k : ∀ h' g' tk ws sl, KtsTurn (outer.filterMap (·.frame)) g₀ g' → Fr g' L h' (fun y => if y = n then some (.ref e) else m y) → News g' L h' ((e, { cls := .ref C, dict := some d, data := .fields ws, slots := sl }) :: news) → Below A₀ base outer g' → KF.In g' → Top p loose mean mg mb g' → KtsDicts (outer.filterMap (·.frame)) g' →
      wpAny (model prog w) ((A₀.deeper (envOf name scope L a cd)).mark (some (.ref e))) (execs (b₀ :: suite) (envOf name scope L a cd))
        (fun f s₄ => wpAny (model prog w) (A₀.deeper (envOf name scope L a cd)) (do bindName (envOf name scope L a cd) n .none; unbindBehindTheSuite (envOf name scope L a cd) n pos) (fun _ s₅ => Q f s₅) E s₄)
        (AsSuiteRaised (model prog w) ((A₀.deeper (envOf name scope L a cd)).mark (some (.ref e))) (envOf name scope L a cd) n pos (notedBy (model prog w) ((A₀.deeper (envOf name scope L a cd)).mark (some (.ref e))) (envOf name scope L a cd) (cameBackBy (model prog w) (A₀.deeper (envOf name scope L a cd)) (envOf name scope L a cd) E)))
        { s' with heap := h', toks := tk })
    (hk : scope.kind = .function := by rfl) (hlo : (envOf name scope L a cd).kindOf n = some .local := by rfl) (hx : (envOf name scope L a cd).kindOf x = some .globalImplicit := by rfl) (hd : (x == ("__debug__" : Str)) = false := by decide) :
    wpAny (model prog w) (A₀.deeper (envOf name scope L a cd)) (noteFrame (.ref e) (envOf name scope L a cd))
      (fun _ s₂ => wpAny (model prog w) (A₀.deeper (envOf name scope L a cd)) (setFlight (.ref e) none) (fun _ s₃ =>
        wpAny (model prog w) (A₀.deeper (envOf name scope L a cd)) (handleBy (.ref e) (envOf name scope L a cd) (.ExceptHandler (some (.Name x np)) (some n) (b₀ :: suite) pos :: rest)) Q E s₃) E s₂) E s' := by
  obtain ⟨⟨B, a0, hB, hBG, hl, hfl⟩, oe₀, hoe₀, hdc₀⟩ := R
  have hL : B.get? L = none := by
    obtain ⟨_, ⟨L', _, hf, hn', _⟩, _⟩ := hfl.2.2.1
    obtain rfl : L = L' := Option.some.inj hf
    exact hn'
  refine dk_step (P := fun h' => Heap.HeldW B (envOf name scope L a cd :: outer) e (.ref C) a0 L h' ∧ s'.heap.UpToSlots h') (safe_noteFrame _ _)
    (fun Q' hq => wpAny_looks_onW (Around.frames_deeper K.stack) rfl hfl fun h₄ hheld₄ hsm₄ => hq h₄ ⟨hheld₄, hsm₄⟩) fun h₄ hP₄ D₄ => ?_
  obtain ⟨hheld₄, hsm₄⟩ := hP₄
  refine dk_step (P := fun h' => Heap.FlyingW B (envOf name scope L a cd :: outer) e (.ref C) a0 h' ∧ h₄.UpToSlots h') (safe_setFlight _ _)
    (fun Q' hq => wpAny_landsW hheld₄ fun h₅ hheld hsm₅' => hq h₅ ⟨hheld, hsm₅'⟩) fun h₅ hP₅ D₅ => ?_
  obtain ⟨hheld, hsm₅'⟩ := hP₅
  have hsm₅ := hsm₄.trans hsm₅'
  obtain ⟨g₅, T₅, F₅, K₅⟩ := kts_ground K F hBG hheld.1 (hsm.trans hsm₅)
  have X₅ : KF.In g₅ := XB.keeps K₅.stays
  have P₅ : TopRead p loose mg mb g₅ := topRead_of (TB.keeps K₅.stays)
  obtain ⟨ob, hob, hobc⟩ := hheld.there
  obtain ⟨nm, q, N, bs, bm, hdct, sn, sub, ab, col, dd, k0, k1, k2, k3, k5, newId, hCl, hbase⟩ := hC
  have hC₅ := F₅.keep _ _ (X₅ _ _ hCl)
  refine wpAny_handleBy_cons (codeAny_handlers_test (name_K F₅ X₅ P₅ ex ?_ hk hx hd)) (by intro q; cases q)
  refine wpAny_excMatches_sub_self hC₅ hob hobc hbase (codeAny_handlers_suite_as ?_)
  refine dk_step (P := fun h' => Heap.FlyingW B (envOf name scope L a cd :: outer) e (.ref C) a0 h' ∧ h₅.UpToSlots h') (safe_setFlight _ _)
    (fun Q' hq => lands_againW hheld fun h₆ hfl₆ hsm₆ => hq h₆ ⟨hfl₆, hsm₆⟩) fun h₆ hP₆ D₆' => ?_
  obtain ⟨hfl₆, hsm₆⟩ := hP₆
  obtain ⟨g₆, T₆, F₆, K₆⟩ := kts_ground K F hBG hfl₆.1 ((hsm.trans hsm₅).trans hsm₆)
  obtain ⟨oe, ws, hoe, hoec, hoed, hoe0⟩ := hfl₆.first
  have hdict : oe.dict = some d := by
    obtain ⟨o', ho', hd'⟩ := (D₄.trans (D₅.trans D₆')) _ _ hoe₀
    have ho'' : h₆.get? e = some o' := ho'
    rw [hoe] at ho''
    rw [Option.some.inj ho'', hd', hdc₀]
  have ne₆ : g₆.get? e = none := T₆.none_ _ (kts_fresh F hBG hfl₆.2.1 fun o ho m => by
    obtain ⟨_, o', ho', hd⟩ := K.frames.mem m
    rw [ho] at ho'
    cases ho'
    obtain ⟨sl, hs⟩ := ((hsm.trans hsm₅).trans hsm₆) _ _ (F.keep _ _ ho) hd
    rw [hoe] at hs
    cases hs
    exact hd _ hoed)
  obtain ⟨c1, c2, c3, c4⟩ := oe
  dsimp only at hoec hoed hdict
  subst hoec hoed hdict
  have N₆ := News.more F₆ News.nil hoe (fun es n q => by cases q) ne₆
  have Nl : News g₆ L h₆ ((e, { cls := .ref C, dict := some d, data := .fields ws, slots := c4 }) :: news) := fun q hq => by
    rcases List.mem_cons.mp hq with rfl | hq
    · exact N₆ _ (.head _)
    · exact ⟨hfl₆.1 _ _ (hl q hq).1, (fun z => by have := (hl q hq).1; rw [z, hL] at this; cases this), T₆.none_ _ (kts_none F.keep (hl q hq).2.1)⟩
  have X₆ : KF.In g₆ := XB.keeps K₆.stays
  have P₆ : Top p loose mean mg mb g₆ := TB.keeps K₆.stays
  have D₆ : KtsDicts (outer.filterMap (·.frame)) g₆ := D.turn T₆
  refine stN F₆ Nl (fun h₇ F₇ N₇ => ?_) hk hlo
  exact k h₇ g₆ _ _ _ (T0.trans T₆) F₇ N₇ K₆ X₆ P₆ D₆
end
section
variable {prog : Program} {w : World} {A : Around} {E : Value → Shared → Prop} {s : Shared} {K : Frag} {x C dx L : Addr} {h₀ : Heap} {m : Str → Option Value} {ox od : Obj} {es : List DictEntry} {n : Nat} {name : Str} {v : Value} {cd : ClassData} {expr : Bool}
theorem get_exc {Q : Value → Shared → Prop} (F : Fr h₀ L s.heap m) (X₀ : K.In h₀) (I : InstAt s.heap x ox C (some (dictOf es n)))
    (hga : findIn K (.ref C) "__getattribute__" = some (some (.builtin "BaseException.__getattribute__"))) (hgh : findIn K (.ref C) "__getattr__" = some none) (hc : clsIn K C = some cd) (ne : cd.mro.isEmpty = false) (ho : cd.mro.contains (.type "BaseException") = true)
    (hh : hasDictIn K C = true) (ha : findIn K (.ref C) name = some none) (hl : getL name es = some (some v)) (hv : handedIn v = true) (h : Q v { s with toks := s.toks + 1 }) :
    wpAny (model prog w) A (getAttr (.ref x) name expr) Q E s := by
  have X := X₀.keeps F.keep
  have L0 := I.type (M := model prog w)
  have L1 := looks_findIn (M := model prog w) X hga
  have L2 := looks_findIn (M := model prog w) X hgh
  have L3 := looks_find (M := model prog w) X I (findObj_own hh ha rfl hl)
  have sub : Looks (model prog w) s.heap (isInstance (.ref x) (.type "BaseException")) true := I.type.andThen (looks_mroIn X (by unfold mroIn; rw [hc, Option.bind_some, if_neg (by rw [ne]; decide), ho]))
  have f3 := PySem.F.attr_Exception.ga.bind (.ref x)
  have hx0 : (expr && onTheHeap (Value.builtin "BaseException.__getattribute__")) = false := by cases expr <;> rfl
  have hx2 : (Value.builtin "BaseException.__getattribute__" == Value.builtin "object.__getattribute__") = false := by decide +kernel
  have hx1 : (onTheHeap (Value.ref C) && Value.builtin "BaseException.__getattribute__" == Value.builtin "object.__getattribute__") = false := by rw [hx2]; rfl
  obtain ⟨hp, g, d, t, os⟩ := s
  unfold getAttr getAttrBy
  refine wpAny_bind (wpAny_mkText (wpAny_holding (wpAny_bind (L0.at (wpAny_bind (L1.at ?_))))))
  dsimp only
  rw [hx1]
  simp only [Bool.false_eq_true, if_false]
  unfold getAttrByItsOwn hookBefore
  refine wpAny_bind ?_
  rw [if_pos (show onTheHeap (Value.ref C) = true from rfl)]
  refine L2.at ?_
  refine wpAny_bind (wpAny_attempt ?_)
  refine wpAny_holding ?_
  unfold callGetattribute
  rw [hx0]
  simp only [Bool.false_eq_true, if_false]
  unfold boundAndCalled
  rw [f3]
  refine wpAny_bind (wpAny_pure ?_)
  refine wpAny_call ?_
  refine codeAny_call_builtin PySem.F.attr_Exception.ga.plain PySem.F.entry_bexc_ga (@check_slot (model prog w) _ _ _ "BaseException.__getattribute__" "BaseException" "__getattribute__" (.ref x) [.str name t] [] _ (by decide +kernel) (by decide +kernel) sub (PySem.F.args_bexc_ga (.ref x) (.str name t)) ?_)
  refine wpAny_bind (wpAny_pure (wpAny_bind (wpAny_pure (wpAny_bind (L0.at (wpAny_bind (L3.at ?_)))))))
  refine wpAny_pure ?_
  show wpAny _ _ (handedOut v) _ _ _
  rw [handedOut_of hv]
  exact wpAny_pure h
end
theorem exc_cls {P : Params} : ∃ nm q N bs bm hdct sn sub ab col dd k0 k1 k2 k3 k5 newId, (hd.heap_39 P).lookup 51 = some (excClassObj nm q 51 N bs bm hdct sn sub ab col dd k0 k1 k2 k3 k5 newId) ∧ bm.contains (.type "BaseException") = true :=
  ⟨_, _, _, _, _, _, _, _, _, _, _, _, _, _, _, _, _, rfl, by decide⟩
inductive RaiseBack (P : Params) (E : Value → Shared → Prop) (v : Value) (s₁ : Shared) : Prop
  | mk (e : Nat) (t : Nat) (dct : Option Addr) (y1 : v = .ref e) (y2 : (hd.heap_39 P).In s₁.heap) (y3 : s₁.heap.get? e = some (excO 51 t dct)) (y4 : E (.ref e) s₁) : RaiseBack P E v s₁
theorem RaiseBack.mk' {P : Params} {E : Value → Shared → Prop} {s₁ : Shared} {e t : Addr} {dct : Option Addr} (h1 : (hd.heap_39 P).In s₁.heap) (h2 : s₁.heap.get? e = some (excO 51 t dct)) (h3 : E (.ref e) s₁) : RaiseBack P E (.ref e) s₁ := ⟨e, t, dct, rfl, h1, h2, h3⟩
theorem raise_K {w : World} {A : Around} {E : Value → Shared → Prop} {env : Env} {s : Shared} {x : Expr} {pos : Pos} {Q : Flow → Shared → Prop} (hh : A.handled = none)
    (h : wpAny (model PySem.Challenge.rw_xm0769_01.row.prog w) A (eval x env) (RaiseBack w.params E) E s) :
    wpAny (model PySem.Challenge.rw_xm0769_01.row.prog w) A (exec (.Raise (some x) none pos) env) Q E s := by
  obtain ⟨nm, q, N, bs, bm, hdct, sn, sub, ab, col, dd, k0, k1, k2, k3, k5, newId, hCl, hbase⟩ := exc_cls (P := w.params)
  refine raise_D (nm := nm) (q := q) (C := 51) (N := N) (bs := bs) (bm := bm) (hdct := hdct) (sn := sn) (sub := sub) (ab := ab) (col := col) (dd := dd) (k0 := k0) (k1 := k1) (k2 := k2) (k3 := k3) (k5 := k5) (newId := newId) hbase hh (wpAny_mono h (fun v s₁ h₁ => ?_) fun _ _ e => e)
  obtain ⟨e, t, dct, h1, h2, h3, h4⟩ := h₁
  exact ⟨e, t, dct, h1, h2 _ _ hCl, h3, h4⟩
local macro_rules | `(tactic| walk_at "exec Raise some none") => `(tactic| (k_here; k_dflt (refine raise_K rfl ?_)))
noncomputable abbrev msgO (P : Params) (tk : Tok) (msg : Str) (u : Nat) : Obj := dictOf [⟨PyData.keyHash P "message", .str "message" tk, .str msg u⟩] 1
noncomputable def CtrE (w : World) (led : List (Addr × Obj)) (need : Nat) (f : Value) (vs : List Value) (R : Value → List (Addr × Obj) → Prop) (RX : Str → Prop) : Prop :=
  ∀ (p : Program) (loose : List Str) (mean : ExcName → Option Value) (mg mb : Str → Option Value) (dp un : Nat) (gd : Option (List Code)) (cn : Str) (cs : Scope) (a : Addr) (ccd : Value) (cl : List (Str × Addr)) (outer : List Env) (A₀ : Around) (base h₀ : Heap) (L : Addr) (m : Str → Option Value) (sh : Heap) (sg : Array GenState) (sd : Drawn) (st : Nat) (so : OsState) (Q E : Value → Shared → Prop),
    Below A₀ base outer h₀ → Fr h₀ L sh m → (hd.heap_39 w.params).In h₀ → News h₀ L sh led → Top p loose mean mg mb h₀ → cs.kind = .function → dp + need < recursionLimit → un + 8 * need < cLine →
    (∀ v led' h' tk', R v led' → Fr h₀ L h' m → News h₀ L h' led' → Q v ⟨h', sg, sd, tk', so⟩) →
    (∀ e d G h' tk' tk msg u, RX msg → (∀ p ∈ led, p.1 < d) → Fr h₀ L G m → G.UpToSlots h' → RaisedD base G (envX cn cs L a ccd cl :: outer) e 51 d ((d, msgO w.params tk msg u) :: led) h' → E (.ref e) ⟨h', sg, sd, tk', so⟩) →
    wpAny (model PySem.Challenge.rw_xm0769_01.row.prog w) (ktrTop dp un gd cn cs L a ccd cl outer) (call f vs) Q E ⟨sh, sg, sd, st, so⟩
section
variable {w : World} {led : List (Addr × Obj)} {need : Nat} {f : Value} {vs : List Value} {R : Value → List (Addr × Obj) → Prop} {RX : Str → Prop} {p : Program} {loose : List Str} {mean : ExcName → Option Value} {mg mb : Str → Option Value} {dp un : Nat} {gd : Option (List Code)} {cn : Str} {cs : Scope} {a : Addr} {ccd : Value} {cl : List (Str × Addr)} {outer : List Env} {A₀ : Around} {base h₀ : Heap} {L : Addr} {m : Str → Option Value} {s : Shared} {Q E : Value → Shared → Prop}
theorem ctrE_use (C : CtrE w led need f vs R RX) (B : Below A₀ base outer h₀) (F : Fr h₀ L s.heap m) (X : (hd.heap_39 w.params).In h₀) (N : News h₀ L s.heap led) (T : Top p loose mean mg mb h₀) (hk : cs.kind = .function) (hd : dp + need < recursionLimit) (hu : un + 8 * need < cLine)
    (ret : ∀ v led' h' tk', R v led' → Fr h₀ L h' m → News h₀ L h' led' → Q v { s with heap := h', toks := tk' })
    (exc : ∀ e d G h' tk' tk msg u, RX msg → (∀ p ∈ led, p.1 < d) → Fr h₀ L G m → G.UpToSlots h' → RaisedD base G (envX cn cs L a ccd cl :: outer) e 51 d ((d, msgO w.params tk msg u) :: led) h' → E (.ref e) { s with heap := h', toks := tk' }) :
    wpAny (model PySem.Challenge.rw_xm0769_01.row.prog w) (ktrTop dp un gd cn cs L a ccd cl outer) (call f vs) Q E s :=
  C p loose mean mg mb dp un gd cn cs a ccd cl outer A₀ base h₀ L m s.heap s.gens s.drawn s.toks s.os Q E B F X N T hk hd hu ret exc
end
inductive TabAt (P : Params) (led : List (Addr × Obj)) (tb lc : Addr) (rp : Value) (names : List Str) : Prop
  | mk (dt : Nat) (o : Obj) (k : Nat) (cols : List Addr) (y1 : (tb, instObj 868 dt) ∈ led) (y2 : (dt, o) ∈ led) (y3 : TabO P lc rp o) (y4 : (lc, W.listOf (cols.map Value.ref).toArray k) ∈ led) (y5 : ColsAt P led cols names) (y6 : names.length ≤ 100) (y7 : ∀ nm ∈ names, nm.length ≤ 1000) : TabAt P led tb lc rp names
theorem TabAt.more {P : Params} {led led' : List (Addr × Obj)} {tb lc : Addr} {rp : Value} {names : List Str} (T : TabAt P led tb lc rp names) (h : ∀ p ∈ led, p ∈ led') : TabAt P led' tb lc rp names := by
  obtain ⟨dt, o, k, cols, h1, h2, h3, h4, h5, h6, h7⟩ := T
  refine ⟨dt, o, k, cols, h _ h1, h _ h2, h3, h _ h4, ⟨h5.1, fun i c hc => ?_⟩, h6, h7⟩
  obtain ⟨nm, d, o, a1, a2, a3, a4⟩ := h5.2 i c hc
  exact ⟨nm, d, o, a1, h _ a2, h _ a3, a4⟩
inductive WantR (names : List Str) (rp : Value) (x : Str) : Value → Prop
  | found (i t : Nat) (nm : Str) : names[i]? = some nm → lowS nm = lowS x → (∀ j nm', j < i → names[j]? = some nm' → lowS nm' ≠ lowS x) → WantR names rp x (.int i t)
  | row (t : Nat) : (∀ nm ∈ names, lowS nm ≠ lowS x) → rowNm (lowS x) = true → rp = .none → WantR names rp x (.int (-1) t)
  | key : (∀ nm ∈ names, lowS nm ≠ lowS x) → rowNm (lowS x) = true → rp ≠ .none → WantR names rp x rp
section
theorem want_ctr {w : World} {led : List (Addr × Obj)} {x msg : Str} {tx tm tb lc : Nat} {rp : Value} {names : List Str} (hx : x.length ≤ 1000) (hT : TabAt w.params led tb lc rp names) (hrp : rp = .none ∨ ∃ k t : Nat, rp = .int k t) :
    CtrE w led 5 (.ref 738) [.ref tb, .str x tx, .str msg tm] (fun v led' => WantR names rp x v ∧ led' = led) (fun msg' => msg' = msg ∧ (∀ nm ∈ names, lowS nm ≠ lowS x) ∧ rowNm (lowS x) = false) := by
  intro p loose mean mg mb dp un gd cn cs a ccd cl outer A₀ base h₀ L m hh9 gg9 dd9 tt9 oo9 Q E B F X N T hk hd hu hret hexc
  obtain ⟨dt, o, k, cols, h1, h2, hO, h3, hC, hn, hns⟩ := hT
  obtain ⟨t1, t2, t3, t4, t5, t6, t7, t8, u1, u2, u7, i5, i6, i8⟩ := id hO
  refine wpAny_call ?_
  k_dflt (refine' code_def ?k1 ?k2 ?k3 ?k4 ?k5 ?kA ?kF ?kK ?k6 ?k7 ?k8 ?k9 ?kB ?_ ?c2 ?c3 ?c4 ?c5; (case kA => exact rfl); (case kF => exact rfl); (case kK => first | assumption | exact rfl); (case k1 => k_asm); (case k2 => k_asm); (case k3 => k_asm); (case k4 => k_asm); (case k5 => k_asm); (case k6 => k_is); (case k7 => k_is); (case k8 => ktr_room); (case k9 => first | exact BindsTo.of_eq rfl | exact binds_K (by k_in) rfl (by k_is) rfl rfl rfl); (case c5 => decide); (case kB => exact locs rfl); (case c2 => exact rfl); (case c3 => exact rfl); (case c4 => exact rfl); k_whole; intro g9z L9z h9z FG9z F9z N9z B9z X9z T9z; (try dsimp only); (try k_fold))
  k_steps
  (rename PlaceR _ _ _ => pR)
  rcases hrp with rfl | ⟨kr, tr, rfl⟩
  all_goals cases pR
  all_goals k_steps
  · omega
  · (rename News h₀ _ _ _ => kN)
    (rename Fr h₀ _ _ _ => kF)
    exact hret _ _ _ _ ⟨.found _ _ _ (by assumption) (by assumption) (by assumption), rfl⟩ kF kN
  · (rename News h₀ _ _ _ => kN)
    (rename Fr h₀ _ _ _ => kF)
    exact hret _ _ _ _ ⟨.row _ (by assumption) (by assumption) rfl, rfl⟩ kF kN
  · ((rename News _ _ _ (_ :: _ :: _) => kN9z); (rename @LT.lt Nat _ _ _ => kl9z); (rename ∀ p ∈ _, _ < _ => kll9z); refine RaiseBack.mk' (Frag.In.keeps (by k_asm) (Fr.keep (by k_asm))) (kN9z _ (.tail _ (.head _))).1 ?_; refine' leave_raiseD ?K ?F (cb_drop kN9z ?N) ?ne ?_; (case K => assumption); (case F => assumption); (case N => intro q9z hq9z; rcases List.mem_cons.mp hq9z with e | hq9z; exact e ▸ .tail _ (.head _); rcases List.mem_cons.mp hq9z with e | hq9z; exact e ▸ .head _; exact .tail _ (.tail _ hq9z)); (case ne => intro q9z hq9z; rcases List.mem_cons.mp hq9z with e | hq9z; exact e ▸ Nat.ne_of_gt kl9z; exact Nat.ne_of_lt (kll9z _ hq9z)); (have klx9z := fun p hp => Nat.lt_trans (kll9z p hp) kl9z); intro h89z R89z U89z)
    exact hexc _ _ _ _ _ _ _ _ ⟨rfl, by assumption, by assumption⟩ (by assumption) (by assumption) (by assumption) (by assumption)
  · omega
  · (rename News h₀ _ _ _ => kN)
    (rename Fr h₀ _ _ _ => kF)
    exact hret _ _ _ _ ⟨.found _ _ _ (by assumption) (by assumption) (by assumption), rfl⟩ kF kN
  · (rename News h₀ _ _ _ => kN)
    (rename Fr h₀ _ _ _ => kF)
    exact hret _ _ _ _ ⟨.key (by assumption) (by assumption) (by simp), rfl⟩ kF kN
  · ((rename News _ _ _ (_ :: _ :: _) => kN9z); (rename @LT.lt Nat _ _ _ => kl9z); (rename ∀ p ∈ _, _ < _ => kll9z); refine RaiseBack.mk' (Frag.In.keeps (by k_asm) (Fr.keep (by k_asm))) (kN9z _ (.tail _ (.head _))).1 ?_; refine' leave_raiseD ?K ?F (cb_drop kN9z ?N) ?ne ?_; (case K => assumption); (case F => assumption); (case N => intro q9z hq9z; rcases List.mem_cons.mp hq9z with e | hq9z; exact e ▸ .tail _ (.head _); rcases List.mem_cons.mp hq9z with e | hq9z; exact e ▸ .head _; exact .tail _ (.tail _ hq9z)); (case ne => intro q9z hq9z; rcases List.mem_cons.mp hq9z with e | hq9z; exact e ▸ Nat.ne_of_gt kl9z; exact Nat.ne_of_lt (kll9z _ hq9z)); (have klx9z := fun p hp => Nat.lt_trans (kll9z p hp) kl9z); intro h89z R89z U89z)
    exact hexc _ _ _ _ _ _ _ _ ⟨rfl, by assumption, by assumption⟩ (by assumption) (by assumption) (by assumption) (by assumption)
end
local macro_rules | `(tactic| walk_at "ctrE") => `(tactic| exact want_ctr (by assumption) (TabAt.more (by assumption) (by walk_at "sub")) (by assumption))
local macro_rules | `(tactic| walk_at "call ref") => `(tactic| (k_here; k_dflt (refine' ctrE_use ?C ?B ?F ?X ?N ?T ?hk ?hd ?hu ?_ ?_; (case B => k_asm); (case F => k_asm); (case N => k_asm); (case C => walk_at "ctrE"); walk_at "use4"); (try (refine pair_cur ?_; intro v9 wR9 h9 tk9 F9 N9; (try dsimp only); (try k_fold)))))
theorem kts_memX {env : Env} {L b : Addr} {outer : List Env} (hf : env.frame = some L) (hm : b ∈ (env :: outer).filterMap (·.frame)) : b = L ∨ b ∈ outer.filterMap (·.frame) := by
  obtain ⟨e, he, hf'⟩ := List.mem_filterMap.mp hm
  rcases List.mem_cons.mp he with rfl | he
  · exact .inl (Option.some.inj (hf.symm.trans hf')).symm
  · exact .inr (List.mem_filterMap.mpr ⟨e, he, hf'⟩)
section
variable {prog : Program} {w : World} {A₀ A : Around} {s : Shared} {base h₀ g₀ : Heap} {outer : List Env} {L : Addr} {m : Str → Option Value} {env : Env} {news : List (Addr × Obj)} {K : Frag} {p : Program} {loose : List Str} {mean : ExcName → Option Value} {mg mb : Str → Option Value}
    {R : Result → Shared → Prop} {name qual : Str} {params : Arguments} {body : List Stmt} {scope : Scope} {dV kV doc pm cdv ct oc : Value} {an od : Option Addr} {osl : Array (Option Value)} {f : Addr} {args : Args} {binds : List (Str × Value)}
theorem kts_enterX (B : Below A₀ base outer h₀) (F : Fr h₀ L s.heap m) (N : News h₀ L s.heap news) (hA : A.frames = some (env :: outer)) (hf : env.frame = some L) (hke : env.scope.kind = .function) :
    ∃ oL es ep, (hideAll s.heap (news.map (·.1))).get? L = some oL ∧ oL.data = .dict es ep ∧ (∀ h', h'.get? L = some oL → Heap.Ns h' L m) ∧ (∀ (sl : Array (Option Value)) h', h'.get? L = some { oL with slots := sl } → Heap.Ns h' L m) ∧
      h₀.StaysIn (hideAll s.heap (news.map (·.1))) ∧ Below A base (env :: outer) (hideAll s.heap (news.map (·.1))) := by
  have nm : ∀ b o, h₀.get? b = some o → b ∉ news.map (·.1) := fun b o e q => by
    obtain ⟨p, hp, rfl⟩ := List.mem_map.mp q
    rw [(N p hp).2.2] at e; cases e
  have st : h₀.StaysIn (hideAll s.heap (news.map (·.1))) := fun b o e => hideAll_get _ (F.keep b o e) (nm b o e)
  obtain ⟨oL, es, ep, hL, hLd, hLk, hLf⟩ := id F.ns
  have nL : L ∉ news.map (·.1) := fun q => by
    obtain ⟨p, hp, e⟩ := List.mem_map.mp q
    exact (N p hp).2.1 e
  have hLg := hideAll_get (news.map (·.1)) hL nL
  have hnew : base.get? L = none := by
    cases hq : base.get? L with
    | none => rfl
    | some o => exact absurd (Nat.lt_of_lt_of_le (Heap.lt_size (B.stays L o hq)) F.above) (Nat.lt_irrefl _)
  have B₁ : s.heap.FunFrames base (env :: outer) := .cons (by show env.scope.kind ≠ .module; rw [hke]; decide) hf F.ns hnew (B.frames.of_keeps fun b o e _ => ⟨o, F.keep b o e, rfl⟩)
  exact ⟨oL, es, ep, hLg, hLd, fun h' e => ⟨oL, es, ep, e, hLd, hLk, hLf⟩, fun sl h' e => ⟨_, es, ep, e, hLd, hLk, hLf⟩, st, ⟨hA, fun b o e => st b o (B.stays b o e), funFrames_hideAll B₁ fun e he b hb hf' => by
    cases he with
    | head => exact nL ((Option.some.inj (hf.symm.trans hf') : L = b) ▸ hb)
    | tail _ he =>
      obtain ⟨L₁, o₁, hf₁, ho₁⟩ := funFrames_in B.frames e he
      rw [hf₁] at hf'
      exact nm L₁ o₁ ho₁ ((Option.some.inj hf' : L₁ = b) ▸ hb)⟩⟩
theorem code_defSX (B : Below A₀ base outer h₀) (F : Fr h₀ L s.heap m) (X₀ : K.In h₀) (N : News h₀ L s.heap news) (T : Top p loose mean mg mb h₀) (XB : K.In base) (TB : Top p loose mean mg mb base) (D : KtsDicts (outer.filterMap (·.frame)) h₀)
    (T0 : KtsTurn (outer.filterMap (·.frame)) g₀ h₀) (hA : A.frames = some (env :: outer)) (hf : env.frame = some L) (hke : env.scope.kind = .function)
    (ho : K.lookup f = some ⟨oc, od, .func (fnOf name qual params body scope dV kV doc pm an cdv ct), osl⟩) (hcd : codeIn K cdv qual = true) (hroom : A.depth < recursionLimit)
    (hbind : BindsTo s (fnOf name qual params body scope dV kV doc pm an cdv ct) args binds) (hloc : ∀ y ∈ binds, scope.names.lookup y.1 = some .local)
    (h : ∀ g L' h₁, Fr h₀ L g m → Fr g L' h₁ (fun y => binds.reverse.lookup y) → News g L' h₁ news → Below A base (env :: outer) g → K.In g → Top p loose mean mg mb g → KtsDicts ((env :: outer).filterMap (·.frame)) g →
      wpAny (model prog w) (A.deeper (envOf qual scope L' f cdv)) (execs body (envOf qual scope L' f cdv))
        (fun fl s' => LeaveS ((env :: outer).filterMap (·.frame)) A₀ base outer K p loose mean mg mb g₀ h₀ L m g R (match fl with | .ret v => v | _ => .none) s')
        (fun e s' => wpAny (model prog w) (A.deeper (envOf qual scope L' f cdv)) (leaving (envOf qual scope L' f cdv) e) (fun _ s'' => R (.error e) s'') (fun e' s'' => R (.error e') s'') s')
        { s with heap := h₁, toks := s.toks + binds.length })
    (hco : scope.isCoroutine = false) (hgen : scope.isGenerator = false) (hk : scope.kind = .function)
    (hcell : ∀ x ∈ scope.names, x.2 ≠ .cell) : codeAny (model prog w) A (.call (.ref f) args) R s := by
  have X := X₀.keeps F.keep
  refine codeAny_call_def (fd := fnOf name qual params body scope dV kV doc pm an cdv ct) (body := body) (binds := binds) hroom (X _ _ ho) rfl (T.nolimit.keeps F.keep) (codeRec_of X hcd) rfl hbind hcell hloc (fun h₁ hns hk₁ => ?_) hco hgen hk
  obtain ⟨oL, es, ep, hLg, hLd, hN, hNs, st, B₂⟩ := kts_enterX B F N hA hf hke
  refine wpAny_mono (h _ s.heap.objs.size h₁ ⟨hN _ hLg, st, F.above⟩ ⟨hns, fun b o e => hk₁ b o (of_hideAll _ e), Nat.le_of_eq (hideAll_size _ _)⟩
    (fun p hp => ⟨hk₁ _ _ (N p hp).1, Nat.ne_of_lt (Heap.lt_size (N p hp).1), hideAll_none _ (List.mem_map_of_mem hp)⟩) B₂ (X₀.keeps st) (T.keeps st) (fun b hb => by
      rcases kts_memX hf hb with rfl | hb
      · exact ⟨oL, es, ep, hLg, hLd⟩
      · obtain ⟨o, es', n', ho', hd'⟩ := D b hb
        exact ⟨o, es', n', st b o ho', hd'⟩)) (fun fl s' hl => ?_) fun _ _ y => y
  have nL₀ : h₀.get? L = none := kts_self F
  rcases hl with ⟨L', m', news', F', N', k⟩ | ⟨g', L', m', news', T', F', N', k⟩
  · refine k ⟨hN _ (F'.keep _ _ hLg), fun b o e => F'.keep b o (st b o e), F.above⟩ fun p hp => ⟨(N' p hp).1, fun q => ?_, ?_⟩
    · have := (N' p hp).2.2; rw [q, hLg] at this; cases this
    · cases q : h₀.get? p.1 with
      | none => rfl
      | some o => have := (N' p hp).2.2; rw [st _ _ q] at this; cases this
  obtain ⟨sl, hs⟩ := T'.up hLg
  obtain ⟨T₁, S₁⟩ := kts_turn_at (h := s'.heap) (fs := outer.filterMap (·.frame)) (g := h₀)
    (fun b hb => by
      obtain ⟨_, o, ho', _⟩ := B.frames.mem hb
      exact ⟨o, ho'⟩)
    (fun b o e nmem => F'.keep b o (T'.other b o (st b o e) (fun q => by
      rcases kts_memX hf q with z | z
      · rw [z, nL₀] at e
        cases e
      · exact nmem z)))
    (fun b o e hm => by
      obtain ⟨sl', hs'⟩ := T'.up (st b o e)
      exact ⟨sl', F'.keep _ _ hs'⟩)
  have B₃ : Below A₀ base outer (ktsHeap s'.heap (outer.filterMap (·.frame)) h₀) := ⟨B.stack, fun b o e => T₁.other b o (B.stays b o e) (fun hm => by
    rw [(B.frames.mem hm).1] at e
    cases e), B.frames.of_keeps fun b o e _ => by
    obtain ⟨sl', hs'⟩ := T₁.up e
    exact ⟨_, hs', rfl⟩⟩
  refine k _ (T0.trans T₁) ⟨hNs sl _ (F'.keep _ _ hs), S₁, by rw [T₁.size]; exact F.above⟩ (fun p hp => ⟨(N' p hp).1, fun q => ?_, ?_⟩) B₃ (XB.keeps B₃.stays) (TB.keeps B₃.stays) (D.turn T₁)
  · have := (N' p hp).2.2; rw [q, hs] at this; cases this
  · refine T₁.none_ _ ?_
    cases q : h₀.get? p.1 with
    | none => rfl
    | some o =>
      obtain ⟨sl', hs'⟩ := T'.up (st _ _ q)
      have := (N' p hp).2.2
      rw [hs'] at this
      cases this
end
noncomputable def CtrS (w : World) (led : List (Addr × Obj)) (need : Nat) (f : Value) (vs : List Value) (R : Value → List (Addr × Obj) → Prop) : Prop :=
  ∀ (p : Program) (loose : List Str) (mean : ExcName → Option Value) (mg mb : Str → Option Value) (dp un : Nat) (gd : Option (List Code)) (cn : Str) (cs : Scope) (a : Addr) (ccd : Value) (cl : List (Str × Addr)) (outer : List Env) (A₀ : Around) (base h₀ : Heap) (L : Addr) (m : Str → Option Value) (sh : Heap) (sg : Array GenState) (sd : Drawn) (st : Nat) (so : OsState) (Q E : Value → Shared → Prop),
    Below A₀ base outer h₀ → Fr h₀ L sh m → (hd.heap_39 w.params).In h₀ → News h₀ L sh led → Top p loose mean mg mb h₀ → (hd.heap_39 w.params).In base → Top p loose mean mg mb base → KtsDicts (outer.filterMap (·.frame)) h₀ → cs.kind = .function → dp + need < recursionLimit → un + 8 * need < cLine →
    (∀ v led' h₀' h' tk', R v led' → KtsTurn (outer.filterMap (·.frame)) h₀ h₀' → Fr h₀' L h' m → News h₀' L h' led' → Below A₀ base outer h₀' → (hd.heap_39 w.params).In h₀' → Top p loose mean mg mb h₀' → KtsDicts (outer.filterMap (·.frame)) h₀' → Q v ⟨h', sg, sd, tk', so⟩) →
    wpAny (model PySem.Challenge.rw_xm0769_01.row.prog w) (ktrTop dp un gd cn cs L a ccd cl outer) (call f vs) Q E ⟨sh, sg, sd, st, so⟩
section
variable {prog : Program} {w : World} {A₀ A : Around} {s : Shared} {base h₀ g₀ : Heap} {outer : List Env} {L : Addr} {m : Str → Option Value} {env : Env} {news : List (Addr × Obj)} {K : Frag} {p : Program} {loose : List Str} {mean : ExcName → Option Value} {mg mb : Str → Option Value}
    {R : Result → Shared → Prop} {name qual : Str} {params : Arguments} {body : List Stmt} {scope : Scope} {dV kV doc pm cdv ct oc : Value} {an od : Option Addr} {osl : Array (Option Value)} {f : Addr} {args : Args} {binds : List (Str × Value)}
theorem leaveS_back (B : Below A₀ base outer h₀) (F : Fr h₀ L s.heap m) (XB : K.In base) (TB : Top p loose mean mg mb base) (D : KtsDicts (outer.filterMap (·.frame)) h₀) (T0 : KtsTurn (outer.filterMap (·.frame)) g₀ h₀) (hf : env.frame = some L) {G : Heap} {oL : Obj} {v : Value} {s' : Shared}
    (hLg : G.get? L = some oL) (hN : ∀ h', h'.get? L = some oL → Heap.Ns h' L m) (hNs : ∀ (sl : Array (Option Value)) h', h'.get? L = some { oL with slots := sl } → Heap.Ns h' L m) (st : h₀.StaysIn G)
    (hl : LeaveS ((env :: outer).filterMap (·.frame)) A₀ base outer K p loose mean mg mb g₀ h₀ L m G R v s') : R (.ok (.ret v)) s' := by
  have nL₀ : h₀.get? L = none := kts_self F
  rcases hl with ⟨L', m', news', F', N', k⟩ | ⟨g', L', m', news', T', F', N', k⟩
  · refine k ⟨hN _ (F'.keep _ _ hLg), fun b o e => F'.keep b o (st b o e), F.above⟩ fun p hp => ⟨(N' p hp).1, fun q => ?_, ?_⟩
    · have := (N' p hp).2.2; rw [q, hLg] at this; cases this
    · cases q : h₀.get? p.1 with
      | none => rfl
      | some o => have := (N' p hp).2.2; rw [st _ _ q] at this; cases this
  obtain ⟨sl, hs⟩ := T'.up hLg
  obtain ⟨T₁, S₁⟩ := kts_turn_at (h := s'.heap) (fs := outer.filterMap (·.frame)) (g := h₀)
    (fun b hb => by
      obtain ⟨_, o, ho', _⟩ := B.frames.mem hb
      exact ⟨o, ho'⟩)
    (fun b o e nmem => F'.keep b o (T'.other b o (st b o e) (fun q => by
      rcases kts_memX hf q with z | z
      · rw [z, nL₀] at e
        cases e
      · exact nmem z)))
    (fun b o e hm => by
      obtain ⟨sl', hs'⟩ := T'.up (st b o e)
      exact ⟨sl', F'.keep _ _ hs'⟩)
  have B₃ : Below A₀ base outer (ktsHeap s'.heap (outer.filterMap (·.frame)) h₀) := ⟨B.stack, fun b o e => T₁.other b o (B.stays b o e) (fun hm => by
    rw [(B.frames.mem hm).1] at e
    cases e), B.frames.of_keeps fun b o e _ => by
    obtain ⟨sl', hs'⟩ := T₁.up e
    exact ⟨_, hs', rfl⟩⟩
  refine k _ (T0.trans T₁) ⟨hNs sl _ (F'.keep _ _ hs), S₁, by rw [T₁.size]; exact F.above⟩ (fun p hp => ⟨(N' p hp).1, fun q => ?_, ?_⟩) B₃ (XB.keeps B₃.stays) (TB.keeps B₃.stays) (D.turn T₁)
  · have := (N' p hp).2.2; rw [q, hs] at this; cases this
  · refine T₁.none_ _ ?_
    cases q : h₀.get? p.1 with
    | none => rfl
    | some o =>
      obtain ⟨sl', hs'⟩ := T'.up (st _ _ q)
      have := (N' p hp).2.2
      rw [hs'] at this
      cases this
theorem code_defSC (B : Below A₀ base outer h₀) (F : Fr h₀ L s.heap m) (X₀ : K.In h₀) (N : News h₀ L s.heap news) (T : Top p loose mean mg mb h₀) (XB : K.In base) (TB : Top p loose mean mg mb base) (D : KtsDicts (outer.filterMap (·.frame)) h₀)
    (T0 : KtsTurn (outer.filterMap (·.frame)) g₀ h₀) (hA : A.frames = some (env :: outer)) (hf : env.frame = some L) (hke : env.scope.kind = .function)
    (ho : K.lookup f = some ⟨oc, od, .func (fnOf name qual params body scope dV kV doc pm an cdv ct), osl⟩) (hcd : codeIn K cdv qual = true) (hroom : A.depth < recursionLimit)
    (hbind : BindsTo s (fnOf name qual params body scope dV kV doc pm an cdv ct) args binds) (hkind : (binds.all fun y => scope.names.lookup y.1 == some .local || scope.names.lookup y.1 == some .cell) = true)
    (hnd : ((cellsFrom 0 scope.names []).map (·.1)).Nodup)
    (h : ∀ g L' h₁ tk cells, Fr h₀ L g m → Fr g L' h₁ (bindL (envOfC qual scope L' f cdv).kindOf binds fun _ => none) → News g L' h₁ (cells ++ news) →
      CellsAre (bindC (envOfC qual scope L' f cdv).kindOf binds fun _ => none) (cellsFrom (L' + 1) scope.names []) cells → Below A base (env :: outer) g → K.In g → Top p loose mean mg mb g → KtsDicts ((env :: outer).filterMap (·.frame)) g → (∀ p ∈ news, p.1 < L') →
      wpAny (model prog w) (A.deeper (envOfC qual scope L' f cdv)) (execs body (envOfC qual scope L' f cdv))
        (fun fl s' => LeaveS ((env :: outer).filterMap (·.frame)) A₀ base outer K p loose mean mg mb g₀ h₀ L m g R (match fl with | .ret v => v | _ => .none) s')
        (fun e s' => wpAny (model prog w) (A.deeper (envOfC qual scope L' f cdv)) (leaving (envOfC qual scope L' f cdv) e) (fun _ s'' => R (.error e) s'') (fun e' s'' => R (.error e') s'') s')
        { s with heap := h₁, toks := tk })
    (hco : scope.isCoroutine = false) (hgen : scope.isGenerator = false) (hk : scope.kind = .function) : codeAny (model prog w) A (.call (.ref f) args) R s := by
  have X := X₀.keeps F.keep
  obtain ⟨oL, es, ep, hLg, hLd, hN, hNs, st, B₂⟩ := kts_enterX B F N hA hf hke
  refine codeAny_call_function hroom (X _ _ ho) rfl hco hgen rfl (codeRec_of X hcd) (hbind _ _ _ _ ?_)
  refine wpAny_newFunctionEnv_cells hk (kindsX hkind _) fun env' he s' x => ?_
  subst he
  refine ⟨(T.nolimit.keeps F.keep).keeps x.toInCall.keep, codeAny_func ?_⟩
  obtain ⟨h₁, tk, rfl, _⟩ := x.done
  have hk₁ := x.toInCall.keep
  obtain ⟨cells, NC, Y⟩ := Cl.news (h₀ := s.heap) (Nat.le_refl _) fun n c hm => ⟨x.cell n c (lookup_of_mem_nodup (cellsFrom_names scope.names 0 (s.heap.objs.size + 1) [] [] rfl ▸ hnd) hm), x.above n c hm⟩
  refine wpAny_mono (h _ s.heap.objs.size h₁ tk cells ⟨hN _ hLg, st, F.above⟩ ⟨x.toInCall.ns, fun b o e => hk₁ b o (of_hideAll _ e), Nat.le_of_eq (hideAll_size _ _)⟩ (fun p hp => ?_) Y B₂ (X₀.keeps st) (T.keeps st) (fun b hb => by
      rcases kts_memX hf hb with rfl | hb
      · exact ⟨oL, es, ep, hLg, hLd⟩
      · obtain ⟨o, es', n', ho', hd'⟩ := D b hb
        exact ⟨o, es', n', st b o ho', hd'⟩) (fun p hp => Heap.lt_size (N p hp).1)) (fun fl s' hl => ?_) fun _ _ y => y
  · rcases List.mem_append.mp hp with hp | hp
    · refine ⟨(NC p hp).1, (NC p hp).2.1, ?_⟩
      cases q : (hideAll s.heap (news.map (·.1))).get? p.1 with
      | none => rfl
      | some o => have := of_hideAll _ q; rw [(NC p hp).2.2] at this; cases this
    · exact ⟨hk₁ _ _ (N p hp).1, Nat.ne_of_lt (Heap.lt_size (N p hp).1), hideAll_none _ (List.mem_map_of_mem hp)⟩
  · exact leaveS_back B F XB TB D T0 hf hLg hN hNs st hl
end
section
variable {w : World} {led : List (Addr × Obj)} {need : Nat} {f : Value} {vs : List Value} {R : Value → List (Addr × Obj) → Prop} {p : Program} {loose : List Str} {mean : ExcName → Option Value} {mg mb : Str → Option Value} {dp un : Nat} {gd : Option (List Code)} {cn : Str} {cs : Scope} {a : Addr} {ccd : Value} {cl : List (Str × Addr)} {outer : List Env} {A₀ : Around} {base h₀ : Heap} {L : Addr} {m : Str → Option Value} {s : Shared} {Q E : Value → Shared → Prop} {news : List (Addr × Obj)}
theorem ctrS_use (C : CtrS w led need f vs R) (B : Below A₀ base outer h₀) (F : Fr h₀ L s.heap m) (X : (hd.heap_39 w.params).In h₀) (N : News h₀ L s.heap news) (sub : ∀ p ∈ led, p ∈ news) (T : Top p loose mean mg mb h₀) (XB : (hd.heap_39 w.params).In base) (TB : Top p loose mean mg mb base) (D : KtsDicts (outer.filterMap (·.frame)) h₀) (hk : cs.kind = .function) (hd : dp + need < recursionLimit) (hu : un + 8 * need < cLine)
    (ret : ∀ v led' h₀' h' tk', R v led' → KtsTurn (outer.filterMap (·.frame)) h₀ h₀' → Fr h₀' L h' m → News h₀' L h' led' → Below A₀ base outer h₀' → (Mine.hd.heap_39 w.params).In h₀' → Top p loose mean mg mb h₀' → KtsDicts (outer.filterMap (·.frame)) h₀' → Q v { s with heap := h', toks := tk' }) :
    wpAny (model PySem.Challenge.rw_xm0769_01.row.prog w) (ktrTop dp un gd cn cs L a ccd cl outer) (call f vs) Q E s :=
  C p loose mean mg mb dp un gd cn cs a ccd cl outer A₀ base h₀ L m s.heap s.gens s.drawn s.toks s.os Q E B F X (cb_drop N sub) T XB TB D hk hd hu ret
end
section
theorem inst_exc {h₀ h : Heap} {L x C dx : Addr} {news : List (Addr × Obj)} {od : Obj} {ws : Array Value} {sl : Array (Option Value)} (N : News h₀ L h news) (h1 : (x, (⟨.ref C, some dx, .fields ws, sl⟩ : Obj)) ∈ news) (h2 : (dx, od) ∈ news) :
    InstAt h x ⟨.ref C, some dx, .fields ws, sl⟩ C (some od) := ⟨(N _ h1).1, rfl, rfl, (N _ h2).1⟩
noncomputable abbrev tupO (vs : List Value) : Obj := { cls := .type "tuple", data := .seq vs.toArray }
inductive TriedR (led : List (Addr × Obj)) (R : Value → List (Addr × Obj) → Prop) (RX : Str → Prop) : Value → List (Addr × Obj) → Prop
  | ok {v0 : Value} {l0 : List (Addr × Obj)} {D : Addr} : R v0 l0 → (∀ p ∈ l0, p.1 < D) → TriedR led R RX (.ref D) ((D, tupO [v0, .none]) :: l0)
  | exc {msg : Str} {u : Nat} {D : Addr} : RX msg → (∀ p ∈ led, p.1 < D) → TriedR led R RX (.ref D) ((D, tupO [.none, .str msg u]) :: led)
section
local macro_rules | `(tactic| walk_at "callWith ref") => `(tactic| (k_here; k_dflt (refine' callWith_F0 ?k1 ?_; (case k1 => exact FnAt.of (by k_asm) (by k_mem)); k_whole; try dsimp only [List.nil_append, List.cons_append])))
local macro_rules | `(tactic| walk_at "ctrE") => `(tactic| assumption)
local macro_rules | `(tactic| walk_at "getAttr ref") => `(tactic| (k_here; k_dflt (refine' get_exc ?k1 ?k2 ?I ?g1 ?g2 ?c ?ne ?ho ?hh ?ha ?hl ?hv ?_; (case k1 => k_asm); (case k2 => k_asm); (case I => exact inst_exc (by k_asm) (by k_mem) (by k_mem)); (case g1 => k_is); (case g2 => k_is); (case c => k_is); (case ne => exact rfl); (case ho => exact rfl); (case hh => k_is); (case ha => k_is); (case hl => k_get); (case hv => k_handed); k_whole)))
theorem tried_ctr {w : World} {led : List (Addr × Obj)} {need f : Nat} {oc : Value} {od : Option Addr} {fd : FuncData} {sl : Array (Option Value)} {R : Value → List (Addr × Obj) → Prop} {RX : Str → Prop} (hfn : (f, (⟨oc, od, .func fd, sl⟩ : Obj)) ∈ led) (hf : CtrE w led need (.ref f) [] R RX) :
    CtrS w led (need + 1) (.ref 1047) [.ref f] (TriedR led R RX) := by
  intro p loose mean mg mb dp un gd cn cs a ccd cl outer A₀ base h₀ L m hh9 gg9 dd9 tt9 oo9 Q E B F X N T XB TB D hk hd hu hret
  refine wpAny_call ?_
  k_dflt (refine' code_defSX ?k1 ?k2 ?k3 ?k4 ?k5 ?XB ?TB ?D ?T0 ?kA ?kF ?kK ?k6 ?k7 ?k8 ?k9 ?kB ?_ ?c2 ?c3 ?c4 ?c5; (case kA => exact rfl); (case kF => exact rfl); (case kK => first | assumption | exact rfl); (case k1 => k_asm); (case k2 => k_asm); (case XB => assumption); (case TB => assumption); (case D => assumption); (case T0 => first | assumption | exact KtsTurn.refl); (case k3 => k_asm); (case k4 => k_asm); (case k5 => k_asm); (case k6 => k_is); (case k7 => k_is); (case k8 => ktr_room); (case k9 => first | exact BindsTo.of_eq rfl | exact binds_K (by k_in) rfl (by k_is) rfl rfl rfl); (case c5 => decide); (case kB => exact locs rfl); (case c2 => exact rfl); (case c3 => exact rfl); (case c4 => exact rfl); k_whole; intro g9z L9z h9z FG9z F9z N9z B9z X9z T9z D9z; (try dsimp only); (try k_fold))
  k_steps
  · (rename News h₀ _ _ _ => kN)
    (rename Fr h₀ _ _ _ => kF)
    exact hret _ _ _ _ _ (.ok (by assumption) (by assumption)) KtsTurn.refl kF kN B X T D
  · (rename RaisedD _ _ _ _ _ _ _ _ => RD)
    refine' caught_D RD ?F ?K ?U ?XB ?TB ?D ?T0 ?ex exc_cls ?_
    case F => assumption
    case K => assumption
    case U => assumption
    case XB => assumption
    case TB => assumption
    case D => assumption
    case T0 => exact KtsTurn.refl
    case ex => k_is
    k_whole
    intro h8 g8 tk8 ws8 sl8 T8 F8 N8 B8 X8 P8 D8
    k_steps
    (rename _ ∧ _ ∧ AllLt _ _ => hlt)
    (rename KtsTurn _ h₀ _ => kT)
    (rename News _ _ _ (_ :: _ :: _ :: _) => kN)
    refine' hret _ _ _ _ _ (.exc (by assumption) (ktn_ltOf hlt.2.2)) kT (by assumption) (cb_drop kN ?sub) (by assumption) (by assumption) (by assumption) (by assumption)
    case sub =>
      intro p hp
      rcases List.mem_cons.mp hp with e | hp
      · rw [e]; exact .head _
      · exact .tail _ (.tail _ (.tail _ hp))
end
end
noncomputable def widMsgN (n : Nat) (wd : Int) : Str := Str.ofString "table Tab has " ++ Str.ofString (toString (n : Int)) ++ Str.ofString " columns but " ++ Str.ofString (toString wd) ++ Str.ofString " values were supplied"
noncomputable def widMsgC (n : Nat) (wd : Int) : Str := Str.ofString (toString wd) ++ Str.ofString " values for " ++ Str.ofString (toString (n : Int)) ++ Str.ofString " columns"
section
theorem width_ctr {w : World} {led : List (Addr × Obj)} {tb lc pl k wt : Nat} {wd : Int} {rp cv : Value} {names : List Str} {vs : List Value} (hT : TabAt w.params led tb lc rp names) (hpl : (pl, W.listOf vs.toArray k) ∈ led) (hv : vs.length ≤ 100) (hw : 0 ≤ wd ∧ wd ≤ 100) (hcv : cv = .none ∨ ∃ c : Nat, cv = .ref c) :
    CtrE w led 5 (.ref 752) [.ref tb, cv, .ref pl, .int wd wt] (fun v led' => v = .none ∧ led' = led ∧ wd = vs.length) (fun msg' => wd ≠ vs.length ∧ ((cv = .none ∧ msg' = widMsgN vs.length wd) ∨ (cv ≠ .none ∧ msg' = widMsgC vs.length wd))) := by
  intro p loose mean mg mb dp un gd cn cs a ccd cl outer A₀ base h₀ L m hh9 gg9 dd9 tt9 oo9 Q E B F X N T hk hd hu hret hexc
  obtain ⟨dt, o, k, cols, h1, h2, hO, h3, hC, hn, hns⟩ := hT
  obtain ⟨t1, t2, t3, t4, t5, t6, t7, t8, u1, u2, u7, i5, i6, i8⟩ := id hO
  rcases hcv with rfl | ⟨c, rfl⟩
  all_goals refine wpAny_call ?_
  all_goals k_dflt (refine' code_def ?k1 ?k2 ?k3 ?k4 ?k5 ?kA ?kF ?kK ?k6 ?k7 ?k8 ?k9 ?kB ?_ ?c2 ?c3 ?c4 ?c5; (case kA => exact rfl); (case kF => exact rfl); (case kK => first | assumption | exact rfl); (case k1 => k_asm); (case k2 => k_asm); (case k3 => k_asm); (case k4 => k_asm); (case k5 => k_asm); (case k6 => k_is); (case k7 => k_is); (case k8 => ktr_room); (case k9 => first | exact BindsTo.of_eq rfl | exact binds_K (by k_in) rfl (by k_is) rfl rfl rfl); (case c5 => decide); (case kB => exact locs rfl); (case c2 => exact rfl); (case c3 => exact rfl); (case c4 => exact rfl); k_whole; intro g9z L9z h9z FG9z F9z N9z B9z X9z T9z; (try dsimp only); (try k_fold))
  all_goals k_steps
  · (rename News h₀ _ _ _ => kN)
    (rename Fr h₀ _ _ _ => kF)
    exact hret _ _ _ _ ⟨rfl, rfl, by assumption⟩ kF kN
  · ((rename News _ _ _ (_ :: _ :: _) => kN9z); (rename @LT.lt Nat _ _ _ => kl9z); (rename ∀ p ∈ _, _ < _ => kll9z); refine RaiseBack.mk' (Frag.In.keeps (by k_asm) (Fr.keep (by k_asm))) (kN9z _ (.tail _ (.head _))).1 ?_; refine' leave_raiseD ?K ?F (cb_drop kN9z ?N) ?ne ?_; (case K => assumption); (case F => assumption); (case N => intro q9z hq9z; rcases List.mem_cons.mp hq9z with e | hq9z; exact e ▸ .tail _ (.head _); rcases List.mem_cons.mp hq9z with e | hq9z; exact e ▸ .head _; exact .tail _ (.tail _ hq9z)); (case ne => intro q9z hq9z; rcases List.mem_cons.mp hq9z with e | hq9z; exact e ▸ Nat.ne_of_gt kl9z; exact Nat.ne_of_lt (kll9z _ hq9z)); (have klx9z := fun p hp => Nat.lt_trans (kll9z p hp) kl9z); intro h89z R89z U89z)
    exact hexc _ _ _ _ _ _ _ _ ⟨by assumption, .inl ⟨rfl, rfl⟩⟩ (by assumption) (by assumption) (by assumption) (by assumption)
  · (rename News h₀ _ _ _ => kN)
    (rename Fr h₀ _ _ _ => kF)
    exact hret _ _ _ _ ⟨rfl, rfl, by assumption⟩ kF kN
  · ((rename News _ _ _ (_ :: _ :: _) => kN9z); (rename @LT.lt Nat _ _ _ => kl9z); (rename ∀ p ∈ _, _ < _ => kll9z); refine RaiseBack.mk' (Frag.In.keeps (by k_asm) (Fr.keep (by k_asm))) (kN9z _ (.tail _ (.head _))).1 ?_; refine' leave_raiseD ?K ?F (cb_drop kN9z ?N) ?ne ?_; (case K => assumption); (case F => assumption); (case N => intro q9z hq9z; rcases List.mem_cons.mp hq9z with e | hq9z; exact e ▸ .tail _ (.head _); rcases List.mem_cons.mp hq9z with e | hq9z; exact e ▸ .head _; exact .tail _ (.tail _ hq9z)); (case ne => intro q9z hq9z; rcases List.mem_cons.mp hq9z with e | hq9z; exact e ▸ Nat.ne_of_gt kl9z; exact Nat.ne_of_lt (kll9z _ hq9z)); (have klx9z := fun p hp => Nat.lt_trans (kll9z p hp) kl9z); intro h89z R89z U89z)
    exact hexc _ _ _ _ _ _ _ _ ⟨by assumption, .inr ⟨by simp, rfl⟩⟩ (by assumption) (by assumption) (by assumption) (by assumption)
end
noncomputable def noMsg (x : Str) : Str := Str.ofString "table " ++ Str.ofString "Tab" ++ Str.ofString " has no column named " ++ x
theorem strs_get {vs : List Value} {xs : List Str} (h : StrsAre vs xs) : ∀ {i : Nat} {v : Value}, vs[i]? = some v → ∃ x t, v = .str x t ∧ xs[i]? = some x := by
  induction h with
  | nil => intro i v e; simp at e
  | cons y t hr ih =>
    intro i v e
    cases i with
    | zero => simp at e; exact ⟨y, t, e.symm, by simp⟩
    | succ i => simp at e; obtain ⟨x, t', e1, e2⟩ := ih e; exact ⟨x, t', e1, by simpa using e2⟩
theorem strs_len {vs : List Value} {xs : List Str} (h : StrsAre vs xs) : vs.length = xs.length := by
  induction h with
  | nil => rfl
  | cons y t hr ih => simp [ih]
theorem RaisedD.drop2 {base G : Heap} {l : List Env} {e C d : Addr} {p q r : Addr × Obj} {news : List (Addr × Obj)} {h : Heap} (R : RaisedD base G l e C d (p :: q :: r :: news) h) : RaisedD base G l e C d (p :: news) h :=
  R.less fun x hx => by
    rcases List.mem_cons.mp hx with e | hx
    · rw [e]; exact .head _
    · exact .tail _ (.tail _ (.tail _ hx))
inductive JI (led : List (Addr × Obj)) (tb : Addr) (names : List Str) (rp : Value) (xs : List Str) (i : Nat) (m : Str → Option Value) (n : List (Addr × Obj)) : Prop
  | mk (l : Addr) (ys : List Value) (k : Nat) (y1 : m "places" = some (.ref l)) (y2 : m "table" = some (.ref tb)) (y3 : n = (l, W.listOf ys.toArray k) :: led) (y4 : (∀ p ∈ led, p.1 < l)) (y5 : ys.length = i) (y6 : ∀ (j : Nat) (x : Str) (y : Value), xs[j]? = some x → ys[j]? = some y → WantR names rp x y) : JI led tb names rp xs i m n
section
theorem insertN_ctr {w : World} {led : List (Addr × Obj)} {tb lc : Nat} {rp : Value} {names : List Str} (hT : TabAt w.params led tb lc rp names) :
    CtrE w led 7 (.ref 745) [.ref tb, .none] (fun v led' => ∃ (l : Addr) (ys : List Value) (k : Nat), v = .ref l ∧ led' = (l, W.listOf ys.toArray k) :: led ∧ (∀ p ∈ led, p.1 < l) ∧ IntsAre ys (rangeKs 0 names.length)) (fun msg' => False) := by
  intro p loose mean mg mb dp un gd cn cs a ccd cl outer A₀ base h₀ L m hh9 gg9 dd9 tt9 oo9 Q E B F X N T hk hd hu hret hexc
  obtain ⟨dt, o, k, cols, h1, h2, hO, h3, hC, hn, hns⟩ := hT
  obtain ⟨t1, t2, t3, t4, t5, t6, t7, t8, u1, u2, u7, i5, i6, i8⟩ := id hO
  have hcl : cols.length ≤ 100 := by rw [hC.1]; exact hn
  refine wpAny_call ?_
  k_dflt (refine' code_def ?k1 ?k2 ?k3 ?k4 ?k5 ?kA ?kF ?kK ?k6 ?k7 ?k8 ?k9 ?kB ?_ ?c2 ?c3 ?c4 ?c5; (case kA => exact rfl); (case kF => exact rfl); (case kK => first | assumption | exact rfl); (case k1 => k_asm); (case k2 => k_asm); (case k3 => k_asm); (case k4 => k_asm); (case k5 => k_asm); (case k6 => k_is); (case k7 => k_is); (case k8 => ktr_room); (case k9 => first | exact BindsTo.of_eq rfl | exact binds_K (by k_in) rfl (by k_is) rfl rfl rfl); (case c5 => decide); (case kB => exact locs rfl); (case c2 => exact rfl); (case c3 => exact rfl); (case c4 => exact rfl); k_whole; intro g9z L9z h9z FG9z F9z N9z B9z X9z T9z; (try dsimp only); (try k_fold))
  k_steps
  (rename IntsAre _ _ => hI)
  (rename News h₀ _ _ _ => kN)
  (rename Fr h₀ _ _ _ => kF)
  rw [List.length_map, show ((cols.length : Int) - 0).toNat = names.length by rw [hC.1]; omega] at hI
  exact hret _ _ _ _ ⟨_, _, _, rfl, rfl, by assumption, by assumption⟩ kF kN
end
section
theorem insertC_ctr {w : World} {led : List (Addr × Obj)} {tb lc ca ck : Nat} {rp : Value} {names xs : List Str} {vs : List Value} (hT : TabAt w.params led tb lc rp names) (hrp : rp = .none ∨ ∃ k t : Nat, rp = .int k t) (hca : (ca, W.listOf vs.toArray ck) ∈ led) (hvs : StrsAre vs xs) (hxs : ∀ x ∈ xs, x.length ≤ 1000) (hlen : vs.length ≤ 100) :
    CtrE w led 7 (.ref 745) [.ref tb, .ref ca] (fun v led' => ∃ (l : Addr) (ys : List Value) (k : Nat), v = .ref l ∧ led' = (l, W.listOf ys.toArray k) :: led ∧ (∀ p ∈ led, p.1 < l) ∧ ys.length = vs.length ∧ ∀ (j : Nat) (x : Str) (y : Value), xs[j]? = some x → ys[j]? = some y → WantR names rp x y) (fun msg' => ∃ (i : Nat) (x : Str), xs[i]? = some x ∧ msg' = noMsg x ∧ (∀ nm ∈ names, lowS nm ≠ lowS x) ∧ rowNm (lowS x) = false ∧ ∀ (j : Nat) (x : Str), j < i → xs[j]? = some x → ∃ y, WantR names rp x y) := by
  intro p loose mean mg mb dp un gd cn cs a ccd cl outer A₀ base h₀ L m hh9 gg9 dd9 tt9 oo9 Q E B F X N T hk hd hu hret hexc
  obtain ⟨dt, o, k, cols, h1, h2, hO, h3, hC, hn, hns⟩ := id hT
  obtain ⟨t1, t2, t3, t4, t5, t6, t7, t8, u1, u2, u7, i5, i6, i8⟩ := id hO
  refine wpAny_call ?_
  k_dflt (refine' code_def ?k1 ?k2 ?k3 ?k4 ?k5 ?kA ?kF ?kK ?k6 ?k7 ?k8 ?k9 ?kB ?_ ?c2 ?c3 ?c4 ?c5; (case kA => exact rfl); (case kF => exact rfl); (case kK => first | assumption | exact rfl); (case k1 => k_asm); (case k2 => k_asm); (case k3 => k_asm); (case k4 => k_asm); (case k5 => k_asm); (case k6 => k_is); (case k7 => k_is); (case k8 => ktr_room); (case k9 => first | exact BindsTo.of_eq rfl | exact binds_K (by k_in) rfl (by k_is) rfl rfl rfl); (case c5 => decide); (case kB => exact locs rfl); (case c2 => exact rfl); (case c3 => exact rfl); (case c4 => exact rfl); k_whole; intro g9z L9z h9z FG9z F9z N9z B9z X9z T9z; (try dsimp only); (try k_fold))
  (repeat ((fail_if_success (with_reducible show wpAny _ _ (exec (Stmt.For _ _ _ _ _) _) _ _ _)); first | (k_unfold; (try dsimp only)) | walk1 | (dsimp only; walk1)))
  ((rename Fr _ _ _ _ => lF9z); with_unfolding_all refine' For_invVF lF9z ?k1 ?k2 ?_; (case k1 => exact rfl); (case k2 => exact rfl))
  walk1
  refine loop_list (JI led tb names rp xs) rfl (by k_asm) (by k_asm) (by k_mem) ?_ ?_ ?_ ?_
  · exact ⟨_, _, _, by walk_at "mget", by walk_at "mget", rfl, by assumption, rfl, fun j x y _ h => by simp at h⟩
  · rintro i m n ⟨l, ys, k, hm1, hm2, rfl, hl, hlen, hW⟩
    exact .tail _ hca
  · rintro I i v m₁ n₁ it h tk hlt hv ⟨l, ys, k, hm1, hm2, rfl, hl, hlen', hW⟩ hoff F1 N1
    obtain ⟨x, xt, rfl, hxi⟩ := strs_get hvs hv
    have hxl : x.length ≤ 1000 := hxs x (List.mem_of_getElem? hxi)
    have hyl : ys.length < 100 := by rw [hlen']; exact Nat.lt_of_lt_of_le (List.getElem?_eq_some_iff.mp hv).1 hlen
    have hlI : @Ne Nat l I := hoff _ (.head _)
    have hoffI : ∀ p ∈ led, p.1 ≠ I := fun p hp => hoff p (.tail _ hp)
    have hll : ∀ p ∈ led, p.1 ≠ l := ne_of_lts hl
    clear hlt hoff
    k_steps
    · (rename WantR _ _ _ _ => hw9)
      refine UnrEnd.intro (by assumption) (by assumption) _ (fun p hp => hp) ?_ ⟨l, ys ++ [_], k + 1, by walk_at "mget", by walk_at "mget", by rw [List.push_toArray], hl, by rw [List.length_append, hlen']; rfl, fun j x' y h1 h2 => ?_⟩
      · intro p hp
        rcases List.mem_cons.mp hp with e | hp
        · rw [e]; exact hlI
        · exact hoffI p hp
      · by_cases hj : j < ys.length
        · rw [List.getElem?_append_left hj] at h2
          exact hW j x' y h1 h2
        · have hj' : j = i := by
            have := (List.getElem?_eq_some_iff.mp h2).1
            rw [List.length_append, List.length_singleton] at this
            omega
          subst hj'
          rw [List.getElem?_append_right (by omega), hlen', Nat.sub_self] at h2
          rw [hxi] at h1
          rw [← Option.some.inj h1, ← Option.some.inj (show some _ = some y from h2)]
          exact hw9
    · (rename RaisedD _ _ _ _ _ _ _ _ => RD)
      (rename _ = _ ∧ _ ∧ _ = false => hx9)
      (rename ∀ p ∈ _ :: _ :: _, _ < _ => hd9)
      refine' leave_onD ?K ?F RD ?U ?_
      case K => assumption
      case F => assumption
      case U => assumption
      intro h8 R8 U8
      refine hexc _ _ _ _ _ _ _ _ ⟨i, x, hxi, hx9.1, hx9.2.1, hx9.2.2, fun j x' hj h1 => ?_⟩ (fun p hp => hd9 p (.tail _ (.tail _ hp))) (by assumption) U8 R8.drop2
      have hjl : j < ys.length := by omega
      exact ⟨_, hW j x' _ h1 (List.getElem?_eq_getElem hjl)⟩
  · rintro m₁ n₁ h tk ⟨l, ys, k, hm1, hm2, rfl, hl, hlen', hW⟩ F1 N1
    k_steps
    (rename News h₀ _ _ _ => kN)
    (rename Fr h₀ _ _ _ => kF)
    exact hret _ _ _ _ ⟨_, _, _, rfl, rfl, hl, hlen', hW⟩ kF kN
end
inductive CDefO (P : Params) (nm : Str) (lr : Addr) : Obj → Prop
  | mk (t1 t2 t3 u1 u2 : Nat) : CDefO P nm lr (dictOf [en P "name" t1 (.str nm u1), en P "type_name" t2 (.str "INTEGER" u2), en P "constraints" t3 (.ref lr)] 3)
theorem cdef_ctr {w : World} {led : List (Addr × Obj)} {nm : Str} {t t2 lr : Nat} :
    Ctr w led 2 (.ref 660) [.str nm t, .str "INTEGER" t2, .ref lr] (fun v led' => ∃ c d o, v = .ref c ∧ CDefO w.params nm lr o ∧ (∀ p ∈ led, p.1 < d) ∧ d < c ∧ led' = (c, instObj 660 d) :: (d, o) :: led) := by
  intro p loose mean mg mb dp un gd cn cs a ccd cl outer A₀ base h₀ L m hh9 gg9 dd9 tt9 oo9 Q E B F X N T hk hd hu hret
  k_dflt ((refine' call_cls ?k1 ?k2 ?k3 ?k4 ?k5 ?k6 ?_; (case k1 => k_asm); (case k2 => k_asm); (case k3 => k_asm); (case k4 => k_is); (case k5 => k_is); (case k6 => k_is); k_whole; intro x9z d9z h9z F9z N9z l19z l29z; (try k_lt l19z); (try k_lt2 l29z); (try k_sweep)); (refine' code_def ?k1 ?k2 ?k3 ?k4 ?k5 ?kA ?kF ?kK ?k6 ?k7 ?k8 ?k9 ?kB ?_ ?c2 ?c3 ?c4 ?c5; (case kA => exact rfl); (case kF => exact rfl); (case kK => first | assumption | exact rfl); (case k1 => k_asm); (case k2 => k_asm); (case k3 => k_asm); (case k4 => k_asm); (case k5 => k_asm); (case k6 => k_is); (case k7 => k_is); (case k8 => ktr_room); (case k9 => first | exact BindsTo.of_eq rfl | exact binds_K (by k_in) rfl (by k_is) rfl rfl rfl); (case c5 => decide); (case kB => exact locs rfl); (case c2 => exact rfl); (case c3 => exact rfl); (case c4 => exact rfl); k_whole; intro g9z9z L9z9z h9z9z FG9z9z F9z9z N9z9z B9z9z X9z9z T9z9z; (try dsimp only); (try k_fold)))
  k_steps
  (rename News h₀ _ _ _ => kN)
  (rename Fr h₀ _ _ _ => kF)
  exact hret _ _ _ _ ⟨_, _, _, rfl, ⟨_, _, _, _, _⟩, by assumption, by assumption, rfl⟩ kF kN
inductive CTabO (P : Params) (lc lk : Addr) : Obj → Prop
  | mk (t1 t2 t3 t4 t5 u1 u5 : Nat) : CTabO P lc lk (dictOf [en P "name" t1 (.str "Tab" u1), en P "columns" t2 (.ref lc), en P "constraints" t3 (.ref lk), en P "if_missing" t4 (.bool false), en P "text" t5 (.str "" u5)] 5)
theorem ctab_ctr {w : World} {led : List (Addr × Obj)} {t t5 lc lk : Nat} :
    Ctr w led 2 (.ref 686) [.str "Tab" t, .ref lc, .ref lk, .bool false, .str "" t5] (fun v led' => ∃ c d o, v = .ref c ∧ CTabO w.params lc lk o ∧ (∀ p ∈ led, p.1 < d) ∧ d < c ∧ led' = (c, instObj 686 d) :: (d, o) :: led) := by
  intro p loose mean mg mb dp un gd cn cs a ccd cl outer A₀ base h₀ L m hh9 gg9 dd9 tt9 oo9 Q E B F X N T hk hd hu hret
  k_dflt ((refine' call_cls ?k1 ?k2 ?k3 ?k4 ?k5 ?k6 ?_; (case k1 => k_asm); (case k2 => k_asm); (case k3 => k_asm); (case k4 => k_is); (case k5 => k_is); (case k6 => k_is); k_whole; intro x9z d9z h9z F9z N9z l19z l29z; (try k_lt l19z); (try k_lt2 l29z); (try k_sweep)); (refine' code_def ?k1 ?k2 ?k3 ?k4 ?k5 ?kA ?kF ?kK ?k6 ?k7 ?k8 ?k9 ?kB ?_ ?c2 ?c3 ?c4 ?c5; (case kA => exact rfl); (case kF => exact rfl); (case kK => first | assumption | exact rfl); (case k1 => k_asm); (case k2 => k_asm); (case k3 => k_asm); (case k4 => k_asm); (case k5 => k_asm); (case k6 => k_is); (case k7 => k_is); (case k8 => ktr_room); (case k9 => first | exact BindsTo.of_eq rfl | exact binds_K (by k_in) rfl (by k_is) rfl rfl rfl); (case c5 => decide); (case kB => exact locs rfl); (case c2 => exact rfl); (case c3 => exact rfl); (case c4 => exact rfl); k_whole; intro g9z9z L9z9z h9z9z FG9z9z F9z9z N9z9z B9z9z X9z9z T9z9z; (try dsimp only); (try k_fold)))
  k_steps
  (rename News h₀ _ _ _ => kN)
  (rename Fr h₀ _ _ _ => kF)
  exact hret _ _ _ _ ⟨_, _, _, rfl, ⟨_, _, _, _, _, _, _⟩, by assumption, by assumption, rfl⟩ kF kN
theorem isint_ctr {w : World} {led : List (Addr × Obj)} {c d : Addr} {nm : Str} {o : Obj} (h1 : (c, instObj 793 d) ∈ led) (h2 : (d, o) ∈ led) (hO : ColO w.params nm o) :
    Ctr w led 2 (.ref 907) [.ref c] (fun v led' => v = .bool true ∧ led' = led) := by
  intro p loose mean mg mb dp un gd cn cs a ccd cl outer A₀ base h₀ L m hh9 gg9 dd9 tt9 oo9 Q E B F X N T hk hd hu hret
  obtain ⟨a1, a2, a3, a4, a5, a6, b1, b2, b3, b4⟩ := hO
  refine wpAny_call ?_
  k_dflt (refine' code_def ?k1 ?k2 ?k3 ?k4 ?k5 ?kA ?kF ?kK ?k6 ?k7 ?k8 ?k9 ?kB ?_ ?c2 ?c3 ?c4 ?c5; (case kA => exact rfl); (case kF => exact rfl); (case kK => first | assumption | exact rfl); (case k1 => k_asm); (case k2 => k_asm); (case k3 => k_asm); (case k4 => k_asm); (case k5 => k_asm); (case k6 => k_is); (case k7 => k_is); (case k8 => ktr_room); (case k9 => first | exact BindsTo.of_eq rfl | exact binds_K (by k_in) rfl (by k_is) rfl rfl rfl); (case c5 => decide); (case kB => exact locs rfl); (case c2 => exact rfl); (case c3 => exact rfl); (case c4 => exact rfl); k_whole; intro g9z L9z h9z FG9z F9z N9z B9z X9z T9z; (try dsimp only); (try k_fold))
  k_steps
  (rename News h₀ _ _ _ => kN)
  (rename Fr h₀ _ _ _ => kF)
  exact hret _ _ _ _ ⟨by rw [low_int]; rfl, rfl⟩ kF kN
local macro_rules | `(tactic| walk_at "ctrs") => `(tactic| exact isint_ctr (by k_mem) (by k_mem) (by assumption))
section
inductive MakO (P : Params) (lr st tb : Addr) (hp : Bool) : Obj → Prop
  | mk (t1 t2 t3 t4 : Nat) : MakO P lr st tb hp (dictOf [en P "roots" t1 (.ref lr), en P "statement" t2 (.ref st), en P "table" t3 (.ref tb), en P "has_primary" t4 (.bool hp)] 4)
section
variable {prog : Program} {w : World} {A : Around} {E : Value → Shared → Prop} {s : Shared} {h₀ : Heap} {L D : Addr} {news : List (Addr × Obj)}
theorem nin_row {z : Int} {t u n : Nat} {Q : Value → Shared → Prop} (N : News h₀ L s.heap news) (hm : (D, ({ cls := .type "tuple", data := .seq [Value.none, .int z t].toArray n } : Obj)) ∈ news) (h : Q (.bool false) s) :
    wpAny (model prog w) A (compareOp .NotIn (.int z u) (.ref D)) Q E s := by
  refine PySem.SeqAt.notIn_tupleAt (fun y => match y with | .int a _ => a == z | _ => false) ⟨_, (N _ hm).1, rfl, _, rfl⟩ (fun y hy => ?_) (by simpa using h)
  simp at hy
  rcases hy with rfl | rfl
  · exact PySem.SeqAt.EqAt.none_int _ _
  · exact PySem.SeqAt.EqAt.int_int _ _ _ _
theorem nin_none {z : Int} {t n : Nat} {Q : Value → Shared → Prop} (N : News h₀ L s.heap news) (hm : (D, ({ cls := .type "tuple", data := .seq [Value.none, .int z t].toArray n } : Obj)) ∈ news) (h : Q (.bool false) s) :
    wpAny (model prog w) A (compareOp .NotIn .none (.ref D)) Q E s := by
  refine PySem.SeqAt.notIn_tupleAt (fun y => match y with | .none => true | _ => false) ⟨_, (N _ hm).1, rfl, _, rfl⟩ (fun y hy => ?_) (by simpa using h)
  simp at hy
  rcases hy with rfl | rfl
  · exact PySem.SeqAt.EqAt.same _
  · exact PySem.SeqAt.EqAt.int_none _ _
end
section
local macro_rules | `(tactic| walk_at "compareOp NotIn int ref") => `(tactic| (k_here; k_dflt (refine nin_row (by k_asm) (by k_mem) ?_; k_whole)))
local macro_rules | `(tactic| walk_at "compareOp NotIn none ref") => `(tactic| (k_here; k_dflt (refine nin_none (by k_asm) (by k_mem) ?_; k_whole)))
theorem addcol_cur {w : World} {rest : List (Addr × Obj)} {lc k : Addr} {nm : Str} {cols : List Addr} {K : Value → List (Addr × Obj) → Heap → Nat → Prop} (k9 : ∀ c, ∀ d, ∀ o, (ColO w.params nm o) → ((∀ p ∈ rest, p.1 < d)) → (lc < d) → (d < c) → ∀ h_ t_, K (.none) ((lc, W.listOf ((cols ++ [c]).map Value.ref).toArray (k + 1)) :: (c, instObj 793 d) :: (d, o) :: rest) h_ t_) : ∀ v led' h_ t_, (∃ c d o, v = .none ∧ ColO w.params nm o ∧ (∀ p ∈ rest, p.1 < d) ∧ lc < d ∧ d < c ∧ led' = (lc, W.listOf ((cols ++ [c]).map Value.ref).toArray (k + 1)) :: (c, instObj 793 d) :: (d, o) :: rest) → K v led' h_ t_ := by
  rintro _ _ h_ t_ ⟨c, d, o, rfl, a1, a2, a3, a4, rfl⟩
  exact k9 c d o a1 a2 a3 a4 h_ t_
theorem addcol_ctr {w : World} {rest : List (Addr × Obj)} {mk dm lr st tb dt lc td dtd lk k : Addr} {hp : Bool} {nm : Str} {rp : Value} {o om od : Obj} {cols : List Addr} {names : List Str}
    (h1 : (mk, instObj 993 dm) ∈ rest) (h2 : (dm, om) ∈ rest) (hM : MakO w.params lr st tb hp om) (h3 : (tb, instObj 868 dt) ∈ rest) (h4 : (dt, o) ∈ rest) (hT : TabO w.params lc rp o) (h5 : (td, instObj 660 dtd) ∈ rest) (h6 : (dtd, od) ∈ rest) (hD : CDefO w.params nm lk od)
    (hC : ColsAt w.params rest cols names) (hn : names.length ≤ 50) (hns : ∀ nm ∈ names, nm.length ≤ 1000) (hnm : nm.length ≤ 1000) (hdist : ∀ x ∈ names, lowS x ≠ lowS nm) (hlc : ∀ p ∈ rest, p.1 ≠ lc) :
    Ctr w ((lc, W.listOf (cols.map Value.ref).toArray k) :: rest) 6 (.ref 942) [.ref mk, .ref td] (fun v led' => ∃ c d o, v = .none ∧ ColO w.params nm o ∧ (∀ p ∈ rest, p.1 < d) ∧ lc < d ∧ d < c ∧ led' = (lc, W.listOf ((cols ++ [c]).map Value.ref).toArray (k + 1)) :: (c, instObj 793 d) :: (d, o) :: rest) := by
  intro p loose mean mg mb dp un gd cn cs a ccd cl outer A₀ base h₀ L m hh9 gg9 dd9 tt9 oo9 Q E B F X N T hk hd hu hret
  obtain ⟨a1, a2, a3, a4⟩ := hM
  obtain ⟨t1, t2, t3, t4, t5, t6, t7, t8, u1, u2, u7, i5, i6, i8⟩ := id hT
  obtain ⟨b1, b2, b3, b4, b5⟩ := hD
  have hcl : cols.length ≤ 50 := by rw [hC.1]; exact hn
  have hC' : ColsAt w.params ((lc, W.listOf (cols.map Value.ref).toArray k) :: rest) cols names := ⟨hC.1, fun i c hc => by
    obtain ⟨nm, d, o, a1, a2, a3, a4⟩ := hC.2 i c hc
    exact ⟨nm, d, o, a1, .tail _ a2, .tail _ a3, a4⟩⟩
  have hn' : names.length ≤ 100 := by omega
  refine wpAny_call ?_
  k_dflt (refine' code_def ?k1 ?k2 ?k3 ?k4 ?k5 ?kA ?kF ?kK ?k6 ?k7 ?k8 ?k9 ?kB ?_ ?c2 ?c3 ?c4 ?c5; (case kA => exact rfl); (case kF => exact rfl); (case kK => first | assumption | exact rfl); (case k1 => k_asm); (case k2 => k_asm); (case k3 => k_asm); (case k4 => k_asm); (case k5 => k_asm); (case k6 => k_is); (case k7 => k_is); (case k8 => ktr_room); (case k9 => first | exact BindsTo.of_eq rfl | exact binds_K (by k_in) rfl (by k_is) rfl rfl rfl); (case c5 => decide); (case kB => exact locs rfl); (case c2 => exact rfl); (case c3 => exact rfl); (case c4 => exact rfl); k_whole; intro g9z L9z h9z FG9z F9z N9z B9z X9z T9z; (try dsimp only); (try k_fold))
  k_steps
  · exfalso
    (rename _ = (2000 : Int) => h9)
    rw [List.length_map] at h9
    omega
  · (rename PlaceR _ _ _ => pR)
    cases pR with
    | found i t nm' e1 e2 e3 => exact absurd e2 (hdist _ (List.mem_of_getElem? e1))
    | row t e1 e2 =>
      k_steps
      (rename ∀ p ∈ _ :: _ :: _, _ < _ => g9)
      (rename _ ∧ AllLt _ _ => g1)
      (rename @LT.lt Nat _ _ _ => g8)
      have q1 := g9 _ (.tail _ (.head _))
      have q2 : @Ne Nat _ lc := Nat.ne_of_gt g1.1
      have q3 : @Ne Nat _ lc := Nat.ne_of_gt q1
      have q4 : @Ne Nat _ lc := Nat.ne_of_gt (Nat.lt_trans q1 g8)
      k_steps
      (rename News h₀ _ _ _ => kN)
      (rename Fr h₀ _ _ _ => kF)
      refine' hret _ _ _ _ ⟨_, _, _, rfl, by assumption, fun p hp => g9 p (.tail _ (.tail _ hp)), q1, g8, rfl⟩ kF (cb_drop kN ?sub)
      case sub =>
        intro p hp
        rcases List.mem_cons.mp hp with e | hp
        · rw [e, List.map_append]
          simp only [List.push_toArray, List.map_cons, List.map_nil]
          exact .tail _ (.tail _ (.tail _ (.head _)))
        rcases List.mem_cons.mp hp with e | hp
        · rw [e]; exact .head _
        rcases List.mem_cons.mp hp with e | hp
        · rw [e]; exact .tail _ (.head _)
        exact .tail _ (.tail _ (.tail _ (.tail _ hp)))
    | none e1 e2 =>
      k_steps
      (rename ∀ p ∈ _ :: _ :: _, _ < _ => g9)
      (rename _ ∧ AllLt _ _ => g1)
      (rename @LT.lt Nat _ _ _ => g8)
      have q1 := g9 _ (.tail _ (.head _))
      have q2 : @Ne Nat _ lc := Nat.ne_of_gt g1.1
      have q3 : @Ne Nat _ lc := Nat.ne_of_gt q1
      have q4 : @Ne Nat _ lc := Nat.ne_of_gt (Nat.lt_trans q1 g8)
      k_steps
      (rename News h₀ _ _ _ => kN)
      (rename Fr h₀ _ _ _ => kF)
      refine' hret _ _ _ _ ⟨_, _, _, rfl, by assumption, fun p hp => g9 p (.tail _ (.tail _ hp)), q1, g8, rfl⟩ kF (cb_drop kN ?sub)
      case sub =>
        intro p hp
        rcases List.mem_cons.mp hp with e | hp
        · rw [e, List.map_append]
          simp only [List.push_toArray, List.map_cons, List.map_nil]
          exact .tail _ (.tail _ (.tail _ (.head _)))
        rcases List.mem_cons.mp hp with e | hp
        · rw [e]; exact .head _
        rcases List.mem_cons.mp hp with e | hp
        · rw [e]; exact .tail _ (.head _)
        exact .tail _ (.tail _ (.tail _ (.tail _ hp)))
end
end
section
variable {prog : Program} {w : World} {A : Around} {E : Value → Shared → Prop} {s : Shared} {h₀ : Heap} {L : Addr} {m : Str → Option Value} {env : Env}
inductive S3 (A : Around) (h₀ : Heap) (L : Addr) (m : Str → Option Value) (Q : Value → Shared → Prop) (xv : Value) (s₁ : Shared) : Prop
  | mk (ax t n nt : Nat) (v₁ v₂ v₃ : Value) (news : List (Addr × Obj)) (y1 : xv = .ref ax) (y2 : A.handled = none) (y3 : Fr h₀ L s₁.heap m) (y4 : News h₀ L s₁.heap news) (y5 : (ax, W.listOf #[.ref t] n) ∈ news) (y6 : (t, ({ cls := .type "tuple", data := .seq #[v₁, v₂, v₃] nt } : Obj)) ∈ news) (y7 : ∀ D h tk, Fr h₀ L h m → News h₀ L h news → Q (.ref D) { s₁ with heap := h, toks := tk }) : S3 A h₀ L m Q xv s₁
inductive L3 (s₁ : Shared) (h₁ : Heap) (C I D ax : Addr) (k : Nat) : Shared → Prop
  | mk (h' : Heap) (tk : Nat) (m' : Str → Option Value) (y1 : h'.Ns C m') (y2 : ∀ b o, b ≠ I → b ≠ C → b ≠ D → h₁.get? b = some o → h'.get? b = some o) (y3 : (k = 1 ∧ h'.IsListIter I ax 0 ∧ h'.get? D = some { cls := .type "list", data := .seq #[] 0 }) ∨ (k = 0 ∧ h'.IsListIter I ax 1)) : L3 s₁ h₁ C I D ax k { s₁ with heap := h', toks := tk }
theorem ListComp_3 {iter : PySem.Expr} {x₁ x₂ x₃ : Str} {pe px₁ px₂ px₃ tp : Pos} {tk : Nat} {scope : Scope} {cl : List (Str × Addr)} {pos : Pos} {Q : Value → Shared → Prop}
    (_F₀ : Fr h₀ L s.heap m) (hclos : closureFor scope env = pure cl) (hcell : ∀ y ∈ scope.names, y.2 ≠ .cell) (hkind : scope.kind = .function)
    (hnames : ∀ y ∈ scope.names, y.2 = .local → scope.names.lookup y.1 = some .local) (hx₁ : scope.names.lookup x₁ = some .local) (hx₂ : scope.names.lookup x₂ = some .local) (hx₃ : scope.names.lookup x₃ = some .local) (h12 : x₁ ≠ x₂) (h13 : x₁ ≠ x₃)
    (h : wpAny (model prog w) A (eval iter env) (S3 A h₀ L m Q) E s)
    (hs : ∀ x, foldedSetIterable iter env x = pure x := by intro _; rfl)
    (hd : (x₁ == ("__debug__" : Str)) = false := by decide) :
    wpAny (model prog w) A (eval (.ListComp (.Name x₁ pe) [⟨.Tuple [.Name x₁ px₁, .Name x₂ px₂, .Name x₃ px₃] tk tp, iter, [], 0⟩] scope pos) env) Q E s := by
  rw [eval_ListComp]
  refine wpAny_comprehension_free (use := none) rfl hs hclos hkind hnames (wpAny_mono h (fun xv s₁ h₁ => ?_) fun _ _ e => e)
  obtain ⟨ax, t, n, nt, v₁, v₂, v₃, news, rfl, hh, F, N, hax, ht, hQ⟩ := h₁
  have hl : s₁.heap.IsList ax #[.ref t] := ⟨_, (N _ hax).1, rfl, n, rfl⟩
  have hlt : ax < s₁.heap.objs.size := Heap.lt_size (N _ hax).1
  refine wpAny_pyIter_list hl ?_
  have nI := next_is_new F
  have LI : L < s₁.heap.objs.size := F.ns.lt
  refine wpAny_newObj_type (wpAny_newFunctionEnv hcell (by intro y hy; simp at hy) (fun h₁ hns₁ hsb₁ => ?_) hkind)
  dsimp only at hns₁ hsb₁ ⊢
  generalize hI1 : s₁.heap.push { cls := .type "list_iterator", data := .fields #[.ref ax, .int 0 0] } = H1 at hns₁ hsb₁ ⊢
  have sz1 : H1.objs.size = s₁.heap.objs.size + 1 := by rw [← hI1, Heap.size_push]
  have iI : H1.get? s₁.heap.objs.size = some { cls := .type "list_iterator", data := .fields #[.ref ax, .int 0 0] } := by rw [← hI1]; exact Heap.get?_push_size _ rfl
  have o1 : ∀ b o, s₁.heap.get? b = some o → H1.get? b = some o := fun b o e => by rw [← hI1]; exact Heap.get?_push_of_some _ e
  generalize hD2 : H1.push { cls := .type "list", dict := none, data := .seq ([] : List Value).toArray } = H2 at hns₁ hsb₁ ⊢
  have sz2 : H2.objs.size = H1.objs.size + 1 := by rw [← hD2, Heap.size_push]
  have o2 : ∀ b o, H1.get? b = some o → H2.get? b = some o := fun b o e => by rw [← hD2]; exact Heap.get?_push_of_some _ e
  have iD : H2.get? H1.objs.size = some { cls := .type "list", data := .seq #[] 0 } := by rw [← hD2]; exact Heap.get?_push_size _ rfl
  have k1 : ∀ b o, b ≠ H2.objs.size → H2.get? b = some o → h₁.get? b = some o := fun b o hb e => hsb₁.extBut b o hb (Heap.get?_push_of_some _ e)
  have iD' : h₁.get? H1.objs.size = some { cls := .type "list", data := .seq #[] 0 } := k1 _ _ (by rw [sz2]; exact Nat.ne_of_lt (Nat.lt_succ_self _)) iD
  have iI' : h₁.get? s₁.heap.objs.size = some { cls := .type "list_iterator", data := .fields #[.ref ax, .int 0 0] } := k1 _ _ (by rw [sz2, sz1]; exact Nat.ne_of_lt (Nat.lt_succ_of_lt (Nat.lt_succ_self _))) (o2 _ _ iI)
  have old : ∀ b o, s₁.heap.get? b = some o → h₁.get? b = some o := fun b o e => k1 b o (by rw [sz2, sz1]; exact Nat.ne_of_lt (Nat.lt_succ_of_lt (Nat.lt_succ_of_lt (Heap.lt_size e)))) (o2 _ _ (o1 _ _ e))
  have ltI : ∀ b o, s₁.heap.get? b = some o → b < s₁.heap.objs.size := fun b o e => Heap.lt_size e
  have I₀ : ∀ b, s₁.heap.objs.size ≤ b → h₀.get? b = none := fun b hb => by
    cases e : h₀.get? b with
    | none => rfl
    | some o => exact absurd (Heap.lt_size (F.keep _ _ e)) (Nat.not_lt.mpr hb)
  have szI : s₁.heap.objs.size < H1.objs.size := by rw [sz1]; exact Nat.lt_succ_self _
  have szD : H1.objs.size < H2.objs.size := by rw [sz2]; exact Nat.lt_succ_self _
  generalize s₁.heap.objs.size = I at *
  generalize H1.objs.size = D at *
  generalize H2.objs.size = C at *
  have hID : I ≠ D := Nat.ne_of_lt szI
  have hIC : I ≠ C := Nat.ne_of_lt (Nat.lt_trans szI szD)
  have hDC : D ≠ C := Nat.ne_of_lt szD
  have hlI : h₁.IsListIter I ax 0 := ⟨_, iI', rfl, rfl⟩
  have keepF : ∀ h' : Heap, (∀ b o, b ≠ I → b ≠ C → b ≠ D → h₁.get? b = some o → h'.get? b = some o) → Fr h₀ L h' m ∧ News h₀ L h' news := fun h' hk => by
    have k : ∀ b o, s₁.heap.get? b = some o → h'.get? b = some o := fun b o e => by
      have hb := ltI b o e
      exact hk b o (Nat.ne_of_lt hb) (Nat.ne_of_lt (Nat.lt_trans hb (Nat.lt_trans szI szD))) (Nat.ne_of_lt (Nat.lt_trans hb szI)) (old b o e)
    exact ⟨F.keeps k, N.grown k⟩
  have hax' : ax < I := hlt
  have loop : ∀ s₃ : Shared, s₃ = { s₁ with heap := h₁, toks := s₁.toks + ([] : List (Str × Value)).length } →
      codeAny (model prog w) A (.compLoop (.ListComp (.Name x₁ pe) [⟨.Tuple [.Name x₁ px₁, .Name x₂ px₂, .Name x₃ px₃] tk tp, iter, [], 0⟩] scope pos) 0 (.ref I) (.ref D) (compEnvC scope cl C env))
        (compPost (model prog w) A E none Q (.ref D) C) s₃ := by
    rintro s₃ rfl
    refine LCp.codeAny_compLoop_pair
      (L3 s₁ h₁ C I D ax) ?_ 1
      ⟨h₁, _, _, hns₁, fun _ _ _ _ _ e => e, .inl ⟨rfl, hlI, iD'⟩⟩
    rintro k s' ⟨h', tk', m', hn', hk', hor⟩
    have hl' : h'.IsList ax #[.ref t] := hl.at fun o e => hk' _ _ (Nat.ne_of_lt hax') (Nat.ne_of_lt (Nat.lt_trans hax' (Nat.lt_trans szI szD))) (Nat.ne_of_lt (Nat.lt_trans hax' szI)) (old _ _ e)
    rcases hor with ⟨rfl, hi, hD⟩ | ⟨rfl, hi⟩
    · refine wpAny_pyNext_list_item hi hl' (x := .ref t) (by simp) fun h₂ hi₂ hs₂ => ?_
      refine wpAny_letOwnedTupleGo_listiter hi₂ ?_
      have ht₂ : IsTup h₂ t #[v₁, v₂, v₃] := ⟨_, by
        have e := (N _ ht).1
        have hb := ltI _ _ e
        exact hs₂.extBut _ _ (Nat.ne_of_lt hb) (hk' _ _ (Nat.ne_of_lt hb) (Nat.ne_of_lt (Nat.lt_trans hb (Nat.lt_trans szI szD))) (Nat.ne_of_lt (Nat.lt_trans hb szI)) (old _ _ e)), rfl, nt, rfl⟩
      refine assign_Tuple_tuple hh ht₂ rfl rfl fun h₃ he₃ => ?_
      have e₃ : ∀ b o, h₂.get? b = some o → h₃.get? b = some o := fun b o e => he₃ b o (Nat.ne_of_lt (Heap.lt_size e)) e
      have n₃ : h₃.Ns C m' := (hn'.sameBut hs₂ (Ne.symm hIC)).at' fun o e => e₃ _ o e
      refine assignInOrder_cons (wpAny_assign_Name (wpAny_storeName_local (lookup_relabel_local hx₁) n₃ (fun h₄ n₄ s₄ => ?_) (by simp [compEnvC, relabel, hkind])))
      refine assignInOrder_cons (wpAny_assign_Name (wpAny_storeName_local (lookup_relabel_local hx₂) n₄ (fun h₅ n₅ s₅ => ?_) (by simp [compEnvC, relabel, hkind])))
      refine assignInOrder_cons (wpAny_assign_Name (wpAny_storeName_local (lookup_relabel_local hx₃) n₅ (fun h₆ n₆ s₆ => ?_) (by simp [compEnvC, relabel, hkind])))
      refine assignInOrder_nil ?_
      have up : ∀ b o, b ≠ I → b ≠ C → h'.get? b = some o → h₆.get? b = some o := fun b o hI hC e => s₆.extBut _ _ hC (s₅.extBut _ _ hC (s₄.extBut _ _ hC (e₃ _ _ (hs₂.extBut _ _ hI e))))
      refine wpAny_Name (wpAny_loadName_local (v := v₁) (by simp [compEnvC, relabel, hkind]) (lookup_relabel_local hx₁) n₆ (by simp [h12, h13]) ?_) hd
      refine append_at (up _ _ (Ne.symm hID) hDC hD) fun h₇ s₇ hD₇ => ?_
      refine ⟨0, Nat.zero_lt_one, h₇, _, _, n₆.sameBut s₇ (Ne.symm hDC), fun b o hI hC hD' e => s₇.extBut _ _ hD' (up _ _ hI hC (hk' b o hI hC hD' e)), .inr ⟨rfl, ?_⟩⟩
      obtain ⟨oI, eI, cI⟩ := hi₂
      exact ⟨oI, s₇.extBut _ _ hID (s₆.extBut _ _ hIC (s₅.extBut _ _ hIC (s₄.extBut _ _ hIC (e₃ _ _ eI)))), cI⟩
    · refine wpAny_pyNext_list_end hh hi hl' (by simp) fun h₂ he₂ => ?_
      have he₂' : ∀ b o, b ≠ I → h'.get? b = some o → h₂.get? b = some o := fun b o hb e => he₂ b o hb e
      refine ⟨m', hn'.at' fun o e => he₂' _ o (Ne.symm hIC) e, fun h'' hs'' => ?_⟩
      obtain ⟨F', N'⟩ := keepF h'' fun b o hI hC hD' e => hs''.extBut _ _ hC (he₂' b o hI (hk' b o hI hC hD' e))
      exact hQ D h'' tk' F' N'
  have hit : ∀ s₃ : Shared, s₃ = { s₁ with heap := h₁, toks := s₁.toks + ([] : List (Str × Value)).length } → s₃.heap.IsListIter I ax 0 := by rintro s₃ rfl; exact hlI
  exact codeAny_compStart_list (loop _ rfl) (wpAny_pyIter_listiter (hit _ rfl) (loop _ rfl))
end
inductive TabX (P : Params) (lc : Addr) (rp : Value) (i5 i6 : Addr) : Obj → Prop
  | mk (t1 t2 t3 t4 t5 t6 t7 t8 u1 u2 u7 i8 : Nat) : TabX P lc rp i5 i6 (dictOf [en P "name" t1 (.str "Tab" u1), en P "root" t2 (.int 0 u2), en P "columns" t3 (.ref lc), en P "rowid_place" t4 rp, en P "indexes" t5 (.ref i5), en P "checks" t6 (.ref i6), en P "sql" t7 (.str "" u7), en P "primary" t8 (.ref i8)] 8)
theorem TabX.tab {P : Params} {lc : Addr} {rp : Value} {i5 i6 : Addr} {o : Obj} (h : TabX P lc rp i5 i6 o) : TabO P lc rp o := by
  obtain ⟨t1, t2, t3, t4, t5, t6, t7, t8, u1, u2, u7, i8⟩ := h
  exact ⟨_, _, _, _, _, _, _, _, _, _, _, _, _, _⟩
theorem tailSub {α : Type} {l r : List α} {x : α} (h : ∀ p ∈ l, p ∈ r) : ∀ p ∈ l, p ∈ x :: r := fun p hp => .tail _ (h p hp)
theorem tabx_cur {w : World} {led : List (Addr × Obj)} {lc : Nat} {K : Value → List (Addr × Obj) → Heap → Nat → Prop} (k9 : ∀ c, ∀ d, ∀ o, ∀ i5, ∀ i6, (TabX w.params lc .none i5 i6 o) → ((∀ p ∈ led, p.1 < d)) → (d < c) → (c < i5) → (i5 < i6) → ∀ h_ t_, K (.ref c) ((i6, W.listOf #[] 0) :: (i5, W.listOf #[] 0) :: (c, instObj 868 d) :: (d, o) :: led) h_ t_) : ∀ v led' h_ t_, (∃ c d o i5 i6, v = .ref c ∧ TabX w.params lc .none i5 i6 o ∧ (∀ p ∈ led, p.1 < d) ∧ d < c ∧ c < i5 ∧ i5 < i6 ∧ led' = (i6, W.listOf #[] 0) :: (i5, W.listOf #[] 0) :: (c, instObj 868 d) :: (d, o) :: led) → K v led' h_ t_ := by
  rintro _ _ h_ t_ ⟨c, d, o, i5, i6, rfl, a1, a2, a3, a4, a5, rfl⟩
  exact k9 c d o i5 i6 a1 a2 a3 a4 a5 h_ t_
theorem tabx_ctr {w : World} {led : List (Addr × Obj)} {t t2 t4 lc : Nat} :
    Ctr w led 2 (.ref 868) [.str "Tab" t, .int 0 t2, .ref lc, .str "" t4] (fun v led' => ∃ c d o i5 i6, v = .ref c ∧ TabX w.params lc .none i5 i6 o ∧ (∀ p ∈ led, p.1 < d) ∧ d < c ∧ c < i5 ∧ i5 < i6 ∧ led' = (i6, W.listOf #[] 0) :: (i5, W.listOf #[] 0) :: (c, instObj 868 d) :: (d, o) :: led) := by
  intro p loose mean mg mb dp un gd cn cs a ccd cl outer A₀ base h₀ L m hh9 gg9 dd9 tt9 oo9 Q E B F X N T hk hd hu hret
  k_dflt ((refine' call_cls ?k1 ?k2 ?k3 ?k4 ?k5 ?k6 ?_; (case k1 => k_asm); (case k2 => k_asm); (case k3 => k_asm); (case k4 => k_is); (case k5 => k_is); (case k6 => k_is); k_whole; intro x9z d9z h9z F9z N9z l19z l29z; (try k_lt l19z); (try k_lt2 l29z); (try k_sweep)); (refine' code_def ?k1 ?k2 ?k3 ?k4 ?k5 ?kA ?kF ?kK ?k6 ?k7 ?k8 ?k9 ?kB ?_ ?c2 ?c3 ?c4 ?c5; (case kA => exact rfl); (case kF => exact rfl); (case kK => first | assumption | exact rfl); (case k1 => k_asm); (case k2 => k_asm); (case k3 => k_asm); (case k4 => k_asm); (case k5 => k_asm); (case k6 => k_is); (case k7 => k_is); (case k8 => ktr_room); (case k9 => first | exact BindsTo.of_eq rfl | exact binds_K (by k_in) rfl (by k_is) rfl rfl rfl); (case c5 => decide); (case kB => exact locs rfl); (case c2 => exact rfl); (case c3 => exact rfl); (case c4 => exact rfl); k_whole; intro g9z9z L9z9z h9z9z FG9z9z F9z9z N9z9z B9z9z X9z9z T9z9z; (try dsimp only); (try k_fold)))
  k_steps
  (rename News h₀ _ _ _ => kN)
  (rename Fr h₀ _ _ _ => kF)
  (rename _ ∧ _ ∧ _ ∧ _ ∧ AllLt _ _ => g8)
  (rename _ ∧ _ ∧ _ ∧ AllLt _ _ => g6)
  (rename _ ∧ _ ∧ AllLt _ _ => g5)
  exact hret _ _ _ _ ⟨_, _, _, _, _, rfl, ⟨_, _, _, _, _, _, _, _, _, _, _, _⟩, by assumption, by assumption, g5.1, g6.1, rfl⟩ kF (cb_drop kN fun p hp => .tail _ hp)
theorem pick2 {p q : Addr × Obj} {l r r' : List (Addr × Obj)} (h1 : Pick p l r) (h2 : Pick q r r') : ∀ x ∈ p :: q :: r', x ∈ l := fun x hx => by
  rcases List.mem_cons.mp hx with rfl | hx
  · exact h1.sub _ (.head _)
  · exact h1.sub _ (.tail _ (h2.sub _ hx))
theorem news_pick2 {h₀ h : Heap} {L : Addr} {p q : Addr × Obj} {l r r' : List (Addr × Obj)} (N : News h₀ L h l) (h1 : Pick p l r) (h2 : Pick q r r') : News h₀ L h (p :: q :: r') := fun x hx => N x (pick2 h1 h2 x hx)
theorem news_pick1 {h₀ h : Heap} {L : Addr} {p : Addr × Obj} {l r : List (Addr × Obj)} (N : News h₀ L h l) (h1 : Pick p l r) : News h₀ L h (p :: r) := fun x hx => N x (h1.sub x hx)
local macro_rules | `(tactic| walk_at "subs") => `(tactic| first | exact fun _ hp => hp | exact List.forall_mem_nil _ | (refine List.forall_mem_cons.mpr ⟨?a, ?b⟩; (case a => k_mem); (case b => walk_at "subs")) | (refine tailSub ?_; walk_at "subs"))
section
theorem my_item_is {prog : Program} {w : World} {A : Around} {E : Value → Shared → Prop} {s : Shared} {value slice : PySem.Expr} {l : Addr} {vs : List Value} {k : Int} {u : Tok} {v : Value} {Q : Value → Shared → Prop} (hl : s.heap.IsList l vs.toArray) (hfit : vs.length < 2 ^ 30)
    (h0 : 0 ≤ k) (hv : vs[k.toNat]? = some v) (h : Q v s) (hs : subscripted slice false (.ref l) (.int k u) = operate [.ref l, .int k u] (getItem (.ref l) (.int k u)) := by with_unfolding_all rfl) :
    wpAny (model prog w) A (subscriptTail value slice (.ref l) (.int k u)) Q E s :=
  my_item hl hfit h0 (by have := (List.getElem?_eq_some_iff.mp hv).1; omega) (fun v' hv' => by rw [hv] at hv'; rw [← Option.some.inj hv']; exact h) hs
section
local macro_rules | `(tactic| walk_at "subscriptTail") => `(tactic| (k_here; (with_reducible show wpAny _ _ (subscriptTail _ _ (Value.ref _) (Value.int 0 _)) _ _ _); k_dflt (refine' my_item_is (vs := [_]) ?k1 ?k2 ?k3 ?k4 ?_ ?k5; (case k5 => with_unfolding_all rfl); (case k1 => exact News.isList (by k_asm) (by k_mem)); (case k4 => exact rfl); (case k2 => exact Nat.lt_of_le_of_lt (Nat.le_refl 1) (by decide)); (case k3 => decide); k_whole)))
theorem prim_ctr {w : World} {rest : List (Addr × Obj)} {mk dm lr st tb dt lc ll tt ln tn it i5 i6 i : Nat} {om o : Obj}
    (h1 : (mk, instObj 993 dm) ∈ rest) (hM : MakO w.params lr st tb false om) (h3 : (tb, instObj 868 dt) ∈ rest) (hT : TabX w.params lc .none i5 i6 o) (h5 : (ll, W.listOf #[.ref tt] ln) ∈ rest) (h6 : (tt, ({ cls := .type "tuple", data := .seq #[.int (i : Int) it, .none, .bool false] tn } : Obj)) ∈ rest)
    (hdm : ∀ p ∈ rest, p.1 ≠ dm) (hdt : ∀ p ∈ rest, p.1 ≠ dt) (hdd : @Ne Nat dm dt) :
    Ctr w ((dm, om) :: (dt, o) :: rest) 3 (.ref 966) [.ref mk, .ref ll, .bool true] (fun v led' => ∃ om' o', v = .none ∧ MakO w.params lr st tb true om' ∧ TabX w.params lc (.int i it) i5 i6 o' ∧ led' = (dm, om') :: (dt, o') :: rest) := by
  intro p loose mean mg mb dp un gd cn cs a ccd cl outer A₀ base h₀ L m hh9 gg9 dd9 tt9 oo9 Q E B F X N T hk hd hu hret
  obtain ⟨a1, a2, a3, a4⟩ := hM
  obtain ⟨t1, t2, t3, t4, t5, t6, t7, t8, u1, u2, u7, i8⟩ := hT
  have hdd' := Ne.symm hdd
  refine wpAny_call ?_
  k_dflt (refine' code_def ?k1 ?k2 ?k3 ?k4 ?k5 ?kA ?kF ?kK ?k6 ?k7 ?k8 ?k9 ?kB ?_ ?c2 ?c3 ?c4 ?c5; (case kA => exact rfl); (case kF => exact rfl); (case kK => first | assumption | exact rfl); (case k1 => k_asm); (case k2 => k_asm); (case k3 => k_asm); (case k4 => k_asm); (case k5 => k_asm); (case k6 => k_is); (case k7 => k_is); (case k8 => ktr_room); (case k9 => first | exact BindsTo.of_eq rfl | exact binds_K (by k_in) rfl (by k_is) rfl rfl rfl); (case c5 => decide); (case kB => exact locs rfl); (case c2 => exact rfl); (case c3 => exact rfl); (case c4 => exact rfl); k_whole; intro g9z L9z h9z FG9z F9z N9z B9z X9z T9z; (try dsimp only); (try k_fold))
  (repeat ((fail_if_success (with_reducible show wpAny _ _ (eval (Expr.ListComp _ _ _ _) _) _ _ _)); first | (k_unfold; (try dsimp only)) | walk1 | (dsimp only; walk1)))
  refine ListComp_3 (by assumption) (by with_unfolding_all rfl) (by decide) (by rfl) (by decide) (by rfl) (by rfl) (by rfl) (by decide) (by decide) ?_
  walk1
  refine ⟨_, _, _, _, _, _, _, _, rfl, rfl, by k_asm, by k_asm, by k_mem, by k_mem, ?_⟩
  intro D hh tkk FF NN
  k_steps
  (rename News h₀ _ _ _ => kN)
  (rename Fr h₀ _ _ _ => kF)
  exact hret _ _ _ _ ⟨_, _, rfl, ⟨_, _, _, _⟩, ⟨_, _, _, _, _, _, _, _, _, _, _, _⟩, rfl⟩ kF kN
end
end
local macro_rules | `(tactic| walk_at "subscriptTail") => `(tactic| (k_here; k_dflt (refine' my_item_is ?k1 ?k2 ?k3 ?k4 ?_ ?k5; (case k5 => with_unfolding_all rfl); (case k4 => assumption); (case k1 => walk_at "isl"); (case k2 => walk_at "fits"); (case k3 => walk_at "fits"); k_whole)))
section
section
local macro_rules | `(tactic| walk_at "ctrs") => `(tactic| exact tabx_ctr)
local macro_rules | `(tactic| walk_at "cur") => `(tactic| (refine tabx_cur ?_; intro c9 d9 o9 a9 b9 O9 l9 l8 l7 l6 h9 tk9 F9 N9; (try k_lt l9); (try k_lt2 l8); (try k_lt2 l7); (try k_lt2 l6)))
theorem maker_cur {w : World} {led : List (Addr × Obj)} {st : Nat} {K : Value → List (Addr × Obj) → Heap → Nat → Prop} (k9 : ∀ mk : Nat, ∀ dm : Nat, ∀ lr : Nat, ∀ tb : Nat, ∀ dt : Nat, ∀ lc : Nat, ∀ i5 : Nat, ∀ i6 : Nat, ∀ om : Obj, ∀ o : Obj, (MakO w.params lr st tb false om) → (TabX w.params lc .none i5 i6 o) → ((∀ p ∈ led, p.1 < dm)) → (dm < mk) → (mk < lr) → (lr < lc) → (lc < dt) → (dt < tb) → (tb < i5) → (i5 < i6) → ∀ h_ t_, K (.ref mk) ((i6, W.listOf #[] 0) :: (i5, W.listOf #[] 0) :: (tb, instObj 868 dt) :: (dt, o) :: (lc, W.listOf #[] 0) :: (lr, W.listOf #[] 0) :: (mk, instObj 993 dm) :: (dm, om) :: led) h_ t_) : ∀ v led' h_ t_, (∃ (mk dm lr tb dt lc i5 i6 : Nat) (om o : Obj), v = .ref mk ∧ MakO w.params lr st tb false om ∧ TabX w.params lc .none i5 i6 o ∧ (∀ p ∈ led, p.1 < dm) ∧ dm < mk ∧ mk < lr ∧ lr < lc ∧ lc < dt ∧ dt < tb ∧ tb < i5 ∧ i5 < i6 ∧ led' = (i6, W.listOf #[] 0) :: (i5, W.listOf #[] 0) :: (tb, instObj 868 dt) :: (dt, o) :: (lc, W.listOf #[] 0) :: (lr, W.listOf #[] 0) :: (mk, instObj 993 dm) :: (dm, om) :: led) → K v led' h_ t_ := by
  rintro _ _ h_ t_ ⟨mk, dm, lr, tb, dt, lc, i5, i6, om, o, rfl, a1, a2, a3, a4, a5, a6, a7, a8, a9, a10, rfl⟩
  exact k9 mk dm lr tb dt lc i5 i6 om o a1 a2 a3 a4 a5 a6 a7 a8 a9 a10 h_ t_
theorem maker_ctr {w : World} {led : List (Addr × Obj)} {st dst lcs lks : Nat} {ost : Obj} (h1 : (st, instObj 686 dst) ∈ led) (h2 : (dst, ost) ∈ led) (hO : CTabO w.params lcs lks ost) :
    Ctr w led 4 (.ref 993) [.ref st, .none] (fun v led' => ∃ (mk dm lr tb dt lc i5 i6 : Nat) (om o : Obj), v = .ref mk ∧ MakO w.params lr st tb false om ∧ TabX w.params lc .none i5 i6 o ∧ (∀ p ∈ led, p.1 < dm) ∧ dm < mk ∧ mk < lr ∧ lr < lc ∧ lc < dt ∧ dt < tb ∧ tb < i5 ∧ i5 < i6 ∧
      led' = (i6, W.listOf #[] 0) :: (i5, W.listOf #[] 0) :: (tb, instObj 868 dt) :: (dt, o) :: (lc, W.listOf #[] 0) :: (lr, W.listOf #[] 0) :: (mk, instObj 993 dm) :: (dm, om) :: led) := by
  intro p loose mean mg mb dp un gd cn cs a ccd cl outer A₀ base h₀ L m hh9 gg9 dd9 tt9 oo9 Q E B F X N T hk hd hu hret
  obtain ⟨t1, t2, t3, t4, t5, u1, u5⟩ := hO
  k_dflt ((refine' call_cls ?k1 ?k2 ?k3 ?k4 ?k5 ?k6 ?_; (case k1 => k_asm); (case k2 => k_asm); (case k3 => k_asm); (case k4 => k_is); (case k5 => k_is); (case k6 => k_is); k_whole; intro x9z d9z h9z F9z N9z l19z l29z; (try k_lt l19z); (try k_lt2 l29z); (try k_sweep)); (refine' code_def ?k1 ?k2 ?k3 ?k4 ?k5 ?kA ?kF ?kK ?k6 ?k7 ?k8 ?k9 ?kB ?_ ?c2 ?c3 ?c4 ?c5; (case kA => exact rfl); (case kF => exact rfl); (case kK => first | assumption | exact rfl); (case k1 => k_asm); (case k2 => k_asm); (case k3 => k_asm); (case k4 => k_asm); (case k5 => k_asm); (case k6 => k_is); (case k7 => k_is); (case k8 => ktr_room); (case k9 => first | exact BindsTo.of_eq rfl | exact binds_K (by k_in) rfl (by k_is) rfl rfl rfl); (case c5 => decide); (case kB => exact locs rfl); (case c2 => exact rfl); (case c3 => exact rfl); (case c4 => exact rfl); k_whole; intro g9z9z L9z9z h9z9z FG9z9z F9z9z N9z9z B9z9z X9z9z T9z9z; (try dsimp only); (try k_fold)))
  k_steps
  (rename News h₀ _ _ _ => kN)
  (rename Fr h₀ _ _ _ => kF)
  (rename _ ∧ _ ∧ _ ∧ _ ∧ AllLt _ _ => g9)
  (rename _ ∧ _ ∧ _ ∧ AllLt _ _ => g8)
  (rename _ ∧ _ ∧ AllLt _ _ => g7)
  exact hret _ _ _ _ ⟨_, _, _, _, _, _, _, _, _, _, rfl, ⟨_, _, _, _⟩, by assumption, by assumption, by assumption, g7.1, g8.1, g9.1, by assumption, by assumption, by assumption, rfl⟩ kF (cb_drop kN (by walk_at "subs"))
end
end
section
theorem colcon_cur {w : World} {rest : List (Addr × Obj)} {dm lr st tb dt lc pt i i5 i6 : Nat} {K : Value → List (Addr × Obj) → Heap → Nat → Prop} (k9 : ∀ om', ∀ o', (MakO w.params lr st tb true om') → (TabX w.params lc (.int i pt) i5 i6 o') → ∀ h_ t_, K (.none) ((dm, om') :: (dt, o') :: rest) h_ t_) : ∀ v led' h_ t_, (∃ om' o', v = .none ∧ MakO w.params lr st tb true om' ∧ TabX w.params lc (.int i pt) i5 i6 o' ∧ led' = (dm, om') :: (dt, o') :: rest) → K v led' h_ t_ := by
  rintro _ _ h_ t_ ⟨om', o', rfl, a1, a2, rfl⟩
  exact k9 om' o' a1 a2 h_ t_
theorem colcon_ctr {w : World} {rest : List (Addr × Obj)} {mk dm lr st tb dt lc k pt wt i i5 i6 : Nat} {o om : Obj} {cols : List Addr} {names : List Str}
    (h1 : (mk, instObj 993 dm) ∈ rest) (hM : MakO w.params lr st tb false om) (h3 : (tb, instObj 868 dt) ∈ rest) (hT : TabX w.params lc .none i5 i6 o) (h5 : (lc, W.listOf (cols.map Value.ref).toArray k) ∈ rest)
    (hC : ColsAt w.params rest cols names) (hn : names.length ≤ 50) (hi : i < names.length) (hdm : ∀ p ∈ rest, p.1 ≠ dm) (hdt : ∀ p ∈ rest, p.1 ≠ dt) (hdd : @Ne Nat dm dt) :
    Ctr w ((dm, om) :: (dt, o) :: rest) 6 (.ref 949) [.ref mk, .int i pt, .str "primary key" wt, .bool false] (fun v led' => ∃ om' o', v = .none ∧ MakO w.params lr st tb true om' ∧ TabX w.params lc (.int i pt) i5 i6 o' ∧ led' = (dm, om') :: (dt, o') :: rest) := by
  intro p loose mean mg mb dp un gd cn cs a ccd cl outer A₀ base h₀ L m hh9 gg9 dd9 tt9 oo9 Q E B F X N T hk hd hu hret
  obtain ⟨a1, a2, a3, a4⟩ := hM
  obtain ⟨t1, t2, t3, t4, t5, t6, t7, t8, u1, u2, u7, i8⟩ := id hT
  have hcl : cols.length ≤ 50 := by rw [hC.1]; exact hn
  have hil : i < cols.length := by rw [hC.1]; exact hi
  obtain ⟨cc, hcc⟩ : ∃ cc, cols[i]? = some cc := ⟨_, List.getElem?_eq_getElem hil⟩
  obtain ⟨nm, dd, oo, hnm, g1, g2, gC⟩ := hC.2 _ _ hcc
  have hit : (cols.map Value.ref)[((i : Int)).toNat]? = some (.ref cc) := by rw [show ((i : Int)).toNat = i by omega, List.getElem?_map, hcc]; rfl
  have hdd' := Ne.symm hdd
  refine wpAny_call ?_
  k_dflt (refine' code_def ?k1 ?k2 ?k3 ?k4 ?k5 ?kA ?kF ?kK ?k6 ?k7 ?k8 ?k9 ?kB ?_ ?c2 ?c3 ?c4 ?c5; (case kA => exact rfl); (case kF => exact rfl); (case kK => first | assumption | exact rfl); (case k1 => k_asm); (case k2 => k_asm); (case k3 => k_asm); (case k4 => k_asm); (case k5 => k_asm); (case k6 => k_is); (case k7 => k_is); (case k8 => ktr_room); (case k9 => first | exact BindsTo.of_eq rfl | exact binds_K (by k_in) rfl (by k_is) rfl rfl rfl); (case c5 => decide); (case kB => exact locs rfl); (case c2 => exact rfl); (case c3 => exact rfl); (case c4 => exact rfl); k_whole; intro g9z L9z h9z FG9z F9z N9z B9z X9z T9z; (try dsimp only); (try k_fold))
  k_steps
  refine Held.out ?_
  (rename News _ _ _ ((_, W.listOf _ _) :: _) => kN9)
  have kN8 := news_pick2 (p := (dm, _)) (q := (dt, _)) kN9 (.tail (.tail .head)) (.tail (.tail .head))
  clear kN9
  k_dflt (refine' ctr_use (prim_ctr (mk := mk) (dm := dm) (lr := lr) (st := st) (tb := tb) (dt := dt) (lc := lc) (i5 := i5) (i6 := i6) (i := i) ?q1 ?q2 ?q3 hT ?q5 ?q6 ?q7 ?q8 hdd) ?B ?F ?X kN8 (fun _ hp => hp) ?T ?hk ?hd ?hu ?_)
  case B => k_asm
  case F => k_asm
  case X => k_asm
  case T => k_asm
  case hk => first | exact rfl | assumption
  case hd => ktr_room
  case hu => ktr_units
  case q1 => k_mem
  case q2 => exact ⟨_, _, _, _⟩
  case q3 => k_mem
  case q5 => k_mem
  case q6 => k_mem
  case q7 => refine List.forall_mem_cons.mpr ⟨?_, List.forall_mem_cons.mpr ⟨?_, hdm⟩⟩ <;> (refine neN ?_; (try dsimp only); omega)
  case q8 => refine List.forall_mem_cons.mpr ⟨?_, List.forall_mem_cons.mpr ⟨?_, hdt⟩⟩ <;> (refine neN ?_; (try dsimp only); omega)
  refine colcon_cur ?_
  intro om' o' M' T' h9 tk9 F9 N9
  (try dsimp only)
  (try k_fold)
  k_steps
  (rename News h₀ _ _ _ => kN)
  (rename Fr h₀ _ _ _ => kF)
  exact hret _ _ _ _ ⟨_, _, rfl, M', T', rfl⟩ kF (cb_drop kN (by walk_at "subs"))
end
section
variable {prog : Program} {w : World} {A : Around} {E : Value → Shared → Prop} {s : Shared} {env : Env} {Q : Flow → Shared → Prop}
noncomputable def LoopG (prog : Program) (w : World) (A : Around) (env : Env) (tgt : PySem.Expr) (body : List Stmt) (Q : Flow → Shared → Prop) (E : Value → Shared → Prop) (it : Value) (s₂ : Shared) : Prop :=
  ∃ (Inv : Nat → Shared → Prop) (n : Nat), Inv n s₂ ∧ ∀ n s, Inv n s → wpAny (model prog w) A (pyNext it) (fun r s₁ => match r with
    | none => Q .next s₁
    | some v => wpAny (model prog w) A (letOwnedTupleGo tgt it v) (fun _ s₁' => wpAny (model prog w) A (assign tgt env v) (fun _ s₂ => wpAny (model prog w) A (execs body env) (fun f s₃ => match f with
        | .next | .cont => ∃ m, m < n ∧ Inv m s₃
        | .brk => Q .next s₃
        | .ret v => Q (.ret v) s₃) E s₂) E s₁') E s₁) E s
theorem codeAny_forLoop_G {R : Result → Shared → Prop} {target it body orelse} (I : Nat → Shared → Prop)
    (turn : ∀ n s, I n s → wpAny (model prog w) A (pyNext it) (fun r s₁ => match r with
      | none => wpAny (model prog w) A (execs orelse env) (fun f s₃ => R (.ok f) s₃) (notedBy (model prog w) A env fun e s' => R (.error e) s') s₁
      | some v => wpAny (model prog w) A (letOwnedTupleGo target it v) (fun _ s₁' => wpAny (model prog w) A (assign target env v) (fun _ s₂ => wpAny (model prog w) A (execs body env) (fun f s₃ => match f with
          | .next | .cont => ∃ m, m < n ∧ I m s₃
          | .brk => R (.ok .next) s₃
          | .ret v => R (.ok (.ret v)) s₃) (notedBy (model prog w) A env fun e s' => R (.error e) s') s₂) (notedBy (model prog w) A env fun e s' => R (.error e) s') s₁') (notedBy (model prog w) A env fun e s' => R (.error e) s') s₁) (notedBy (model prog w) A env fun e s' => R (.error e) s') s)
    (n : Nat) (h : I n s) : codeAny (model prog w) A (.forLoop target it body orelse env) R s := by
  refine codeAny_loop' rfl I (fun n s hI => ?_) n h
  show wpAny _ _ ((forTurn target it body orelse env).onRaise (fun x => do noteFrame x env; theTreesLotGoes x)) _ _ s
  refine wpAny_noted ?_
  simp only [forTurn]
  refine wpAny_bind (wpAny_standAt (wpAny_bind (wpAny_onRaise (wpAny_mono (turn n s hI) (fun r s₁ h₁ => ?_) fun _ _ h' => wpAny_standAt h'))))
  cases r with
  | none => exact wpAny_pure (.inr ⟨rfl, codeAny_block h₁⟩)
  | some v =>
    refine wpAny_bind (wpAny_mono h₁ (fun _ s₁' h₁' => ?_) fun _ _ h' => h')
    refine wpAny_bind (wpAny_mono h₁' (fun _ s₂ h₂ => wpAny_bind (wpAny_mono h₂ (fun f s₃ h₃ => ?_) fun _ _ h' => h')) fun _ _ h' => h')
    cases f with
    | next => exact wpAny_pure (.inl ⟨rfl, h₃⟩)
    | cont => exact wpAny_pure (.inl ⟨rfl, h₃⟩)
    | brk => exact wpAny_pure h₃
    | ret v => exact wpAny_pure h₃
theorem For_G {tgt : PySem.Expr} {pos : Pos} {iter : PySem.Expr} {body : List Stmt} 
    (h : wpAny (model prog w) A (eval iter env) (fun xv s₁ => wpAny (model prog w) A (pyIter xv) (fun it s₂ => LoopG prog w A env tgt body Q E it s₂) E s₁) E s)
    (hs : ∀ x, foldedSetIterable iter env x = pure x := by intro _; rfl)
    (hE : PassesOwn (model prog w) A env E := by passes_own) :
    wpAny (model prog w) A (exec (.For tgt iter body [] pos) env) Q E s := by
  refine wpAny_For (wpAny_mono h (fun xv s₁ h₁ => wpAny_mono h₁ (fun it s₂ h₂ => ?_) fun _ _ e => e) fun _ _ e => e) hs
  obtain ⟨Inv, n, h0, turn⟩ := h₂
  refine codeAny_forLoop_G (R := fun r s' => match r with | .ok f => Q f s' | .error e => cameBackBy (model prog w) A env E e s') Inv (fun n s hI => ?_) n h0
  have P : ∀ {α : Type} {t : Sem α} {q q' : α → Shared → Prop} {s' : Shared}, wpAny (model prog w) A t q E s' → (∀ x s₁, q x s₁ → q' x s₁) → wpAny (model prog w) A t q' (notedBy (model prog w) A env fun e s' => cameBackBy (model prog w) A env E e s') s' := fun h k => wpAny_passesOwn hE (wpAny_mono h k fun _ _ e => e)
  refine P (turn n s hI) fun r s₁ h₁ => ?_
  cases r with
  | none => exact wpAny_execs_nil h₁
  | some v => exact P h₁ fun _ s₁' h₁' => P h₁' fun _ s₂ h₂ => P h₂ fun f s₃ h₃ => by cases f <;> exact h₃
end
section
variable {prog : Program} {w : World} {A : Around} {E : Value → Shared → Prop} {s : Shared} {env : Env} {Q : Flow → Shared → Prop} {h₀ : Heap} {m : Str → Option Value} {news : List (Addr × Obj)} {body : List Stmt}
theorem pair_loop0 {l k : Nat} {tgt : PySem.Expr} (hh : A.handled = none) (F : Fr h₀ env.locals s.heap m) (N : News h₀ env.locals s.heap news) (hm : (l, W.listOf #[] k) ∈ news)
    (fin : ∀ h tk, Fr h₀ env.locals h m → News h₀ env.locals h news → Q .next { s with heap := h, toks := tk }) :
    wpAny (model prog w) A (pyIter (.ref l)) (fun it s₂ => LoopG prog w A env tgt body Q E it s₂) E s := by
  have hl : s.heap.IsList l #[] := ⟨_, (N _ hm).1, rfl, k, rfl⟩
  have ltI : ∀ b o, s.heap.get? b = some o → b ≠ s.heap.objs.size := fun b o e => Nat.ne_of_lt (Heap.lt_size e)
  refine wpAny_pyIter_list hl ⟨fun _ s' => s' = _, 0, rfl, ?_⟩
  rintro n s' rfl
  refine wpAny_pyNext_list_end hh ⟨_, Heap.get?_push_size _ rfl, rfl, rfl⟩ (hl.push _) (by simp) fun h' he' => ?_
  have up : ∀ b o, s.heap.get? b = some o → h'.get? b = some o := fun b o e => he' b o (ltI b o e) (Heap.get?_push_of_some _ e)
  exact fin h' _ (F.keeps up) (N.grown up)
inductive PL1 (s : Shared) (h₀ : Heap) (Ls : Addr) (l t k : Nat) (Q : Flow → Shared → Prop) : Nat → Shared → Prop
  | a : PL1 s h₀ Ls l t k Q 1 { s with heap := s.heap.push { cls := .type "list_iterator", data := .fields #[.ref l, .int 0 0] } }
  | b (it : Obj) (hc : it.cls = .type "list_iterator") (hd : it.data = .fields #[.ref l, .int 1 0]) (h' : Heap) (tk : Nat) (m' : Str → Option Value) (news' : List (Addr × Obj)) (F : Fr h₀ Ls h' m') (N : News h₀ Ls h' ((s.heap.objs.size, it) :: news')) (off : ∀ p ∈ news', p.1 ≠ s.heap.objs.size) (hm : (l, W.listOf #[.ref t] k) ∈ news') (fin : ∀ h tk, Fr h₀ Ls h m' → News h₀ Ls h news' → Q .next { s with heap := h, toks := tk }) : PL1 s h₀ Ls l t k Q 0 { s with heap := h', toks := tk }
theorem pair_loop1 {l t k nt : Nat} {x₁ x₂ : Str} {p₁ p₂ tp : Pos} {tk : Nat} {v₁ v₂ : Value} (hh : A.handled = none) (hx₁ : env.kindOf x₁ = some .local) (hx₂ : env.kindOf x₂ = some .local) (hp : (env.scope.kind == .class || (env.scope.kind == .module && env.locals != env.globals)) = false)
    (F : Fr h₀ env.locals s.heap m) (N : News h₀ env.locals s.heap news) (hm : (l, W.listOf #[.ref t] k) ∈ news) (ht : (t, ({ cls := .type "tuple", data := .seq #[v₁, v₂] nt } : Obj)) ∈ news)
    (step : ∀ I it h tk, (∀ p ∈ news, p.1 < I) → Fr h₀ env.locals h (fun z => if z = x₂ then some v₂ else if z = x₁ then some v₁ else m z) → News h₀ env.locals h ((I, it) :: news) →
      wpAny (model prog w) A (execs body env) (UnrPost h₀ env.locals { s with heap := h, toks := tk } I it (fun m' news' => (l, W.listOf #[.ref t] k) ∈ news' ∧ ∀ h tk, Fr h₀ env.locals h m' → News h₀ env.locals h news' → Q .next { s with heap := h, toks := tk }) Q) E { s with heap := h, toks := tk }) :
    wpAny (model prog w) A (pyIter (.ref l)) (fun it s₂ => LoopG prog w A env (.Tuple [.Name x₁ p₁, .Name x₂ p₂] tk tp) body Q E it s₂) E s := by
  have hl : s.heap.IsList l #[.ref t] := ⟨_, (N _ hm).1, rfl, k, rfl⟩
  have ltI : ∀ b o, s.heap.get? b = some o → b ≠ s.heap.objs.size := fun b o e => Nat.ne_of_lt (Heap.lt_size e)
  have LI : env.locals ≠ s.heap.objs.size := Nat.ne_of_lt F.ns.lt
  have nI : h₀.get? s.heap.objs.size = none := next_is_new F
  refine wpAny_pyIter_list hl ⟨PL1 s h₀ env.locals l t k Q, 1, .a, ?_⟩
  rintro n s' (_ | ⟨it, hc, hd, h', tk', m', news', F', N', off, hm', fin⟩)
  · refine wpAny_pyNext_list_item ⟨_, Heap.get?_push_size _ rfl, rfl, rfl⟩ (hl.push _) (x := .ref t) (by simp) fun h₂ hi₂ hs₂ => ?_
    have up : ∀ b o, s.heap.get? b = some o → h₂.get? b = some o := fun b o e => hs₂.extBut b o (ltI b o e) (Heap.get?_push_of_some _ e)
    refine wpAny_letOwnedTupleGo_listiter hi₂ ?_
    refine assign_Tuple_tuple hh (⟨_, up _ _ (N _ ht).1, rfl, nt, rfl⟩ : IsTup h₂ t #[v₁, v₂]) rfl rfl fun h₃ he₃ => ?_
    have e₃ : ∀ b o, h₂.get? b = some o → h₃.get? b = some o := fun b o e => he₃ b o (Nat.ne_of_lt (Heap.lt_size e)) e
    have F₃ : Fr h₀ env.locals h₃ m := F.keeps fun b o e => e₃ b o (up b o e)
    have N₃ : News h₀ env.locals h₃ news := N.grown fun b o e => e₃ b o (up b o e)
    obtain ⟨it, hit, hc, hd⟩ := hi₂
    have N₃' : News h₀ env.locals h₃ ((s.heap.objs.size, it) :: news) := fun p hp => by
      rcases List.mem_cons.mp hp with rfl | hp
      · exact ⟨e₃ _ _ hit, LI.symm, nI⟩
      · exact N₃ p hp
    refine assignInOrder_cons (wpAny_assign_Name (wpAny_storeName_local hx₁ F₃.ns (fun h₄ n₄ s₄ => ?_) hp))
    refine assignInOrder_cons (wpAny_assign_Name (wpAny_storeName_local hx₂ n₄ (fun h₅ n₅ s₅ => ?_) hp))
    refine assignInOrder_nil ?_
    refine wpAny_mono (step s.heap.objs.size it h₅ _ (fun p hp => Heap.lt_size (N p hp).1) ((F₃.set n₄ s₄).set n₅ s₅) ((N₃'.set s₄).set s₅)) (fun f s₆ h₆ => ?_) fun _ _ e => e
    cases f with
    | ret v => exact h₆
    | brk => exact h₆
    | next =>
      obtain ⟨h', tk, m', news', rfl, F', N', ho, r1, r2⟩ := h₆
      exact ⟨0, Nat.zero_lt_one, .b it hc hd h' tk m' news' F' N' ho r1 r2⟩
    | cont =>
      obtain ⟨h', tk, m', news', rfl, F', N', ho, r1, r2⟩ := h₆
      exact ⟨0, Nat.zero_lt_one, .b it hc hd h' tk m' news' F' N' ho r1 r2⟩
  · have hl' : h'.IsList l #[.ref t] := ⟨_, (N' _ (.tail _ hm')).1, rfl, k, rfl⟩
    refine wpAny_pyNext_list_end hh ⟨it, (N' _ (.head _)).1, hc, hd⟩ hl' (by simp) fun h₂ he₂ => ?_
    refine fin h₂ _ ⟨F'.ns.at' fun o e => he₂ _ o LI e, fun b o e => he₂ b o (fun q => by rw [q, nI] at e; cases e) (F'.keep b o e), F'.above⟩ fun p hp => ⟨he₂ _ _ (off p hp) (N' p (.tail _ hp)).1, (N' p (.tail _ hp)).2⟩
end
section
variable {prog : Program} {w : World} {A : Around} {E : Value → Shared → Prop} {s : Shared} {env : Env} {Q : Flow → Shared → Prop} {h₀ : Heap} {m : Str → Option Value} {news : List (Addr × Obj)} {body : List Stmt}
theorem range_loop0 {r : Addr} {a b : Int} {t u v : Tok} {tgt : PySem.Expr} (hh : A.handled = none) (hr : IsRange s.heap r a b 1 t u v) (hsmall : Builtin.Range.small a b 1 = true) (hn : Builtin.Range.rangeSize a b 1 = 0) (F : Fr h₀ env.locals s.heap m) (N : News h₀ env.locals s.heap news)
    (fin : ∀ h tk, Fr h₀ env.locals h m → News h₀ env.locals h news → Q .next { s with heap := h, toks := tk }) :
    wpAny (model prog w) A (pyIter (.ref r)) (fun it s₂ => LoopG prog w A env tgt body Q E it s₂) E s := by
  have ltI : ∀ b o, s.heap.get? b = some o → b ∉ [s.heap.objs.size] := fun b o e hb => absurd (Heap.lt_size e) ((List.mem_singleton.mp hb) ▸ Nat.lt_irrefl _)
  refine wpAny_pyIter_range hr hsmall ⟨fun _ s' => s' = _, 0, rfl, ?_⟩
  rintro n s' rfl
  have Wk : Walks prog w A s.heap.objs.size [s.heap.objs.size] [s.heap.objs.size] 0 (fun i v => ∃ t, v = .int (a + i * 1) t) (fun i h => IsRangeIter h s.heap.objs.size (a + (i : Nat) * 1) (((0 : Nat) : Int) - (i : Nat)) 1) := Walks.range hh _ a 1 0
  refine Wk.done _ _ _ (by show IsRangeIter _ _ _ _ _; rw [hn]; simpa using Heap.get?_push_size _ rfl) fun h' tk he' => ?_
  have up : ∀ b o, s.heap.get? b = some o → h'.get? b = some o := fun b o e => he' b o (ltI b o e) (Heap.get?_push_of_some _ e)
  exact fin h' tk (F.keeps up) (N.grown up)
end
noncomputable def tupD (vs : List Value) (n : Nat) : Obj := { cls := .type "tuple", data := .seq vs.toArray n }
inductive DefV (P : Params) (led : List (Addr × Obj)) (names : List Str) (key : Option Nat) (i : Nat) (c : Addr) : Prop
  | mk (nm : Str) (d : Nat) (o : Obj) (lr k : Nat) (y1 : names[i]? = some nm) (y2 : (c, instObj 660 d) ∈ led) (y3 : (d, o) ∈ led) (y4 : CDefO P nm lr o) (y5 : ((key ≠ some i ∧ (lr, W.listOf #[] k) ∈ led) ∨ (key = some i ∧ ∃ (tt wt n : Nat), (lr, W.listOf #[.ref tt] k) ∈ led ∧ (tt, ({ cls := .type "tuple", data := .seq #[.str "primary key" wt, .bool false] n } : Obj)) ∈ led))) : DefV P led names key i c
noncomputable def DefsAt (P : Params) (led : List (Addr × Obj)) (defs : List Addr) (names : List Str) (key : Option Nat) : Prop :=
  defs.length = names.length ∧ ∀ (i : Nat) (c : Addr), defs[i]? = some c → DefV P led names key i c
noncomputable def hpAt (key : Option Nat) (i : Nat) : Bool := match key with
  | none => false
  | some k => decide (k < i)
noncomputable def RpAt (key : Option Nat) (i : Nat) (rp : Value) : Prop := match key with
  | none => rp = .none
  | some k => if k < i then ∃ t : Nat, rp = .int (k : Int) t else rp = .none
inductive JR1 (P : Params) (rest0 : List (Addr × Obj)) (mk : Addr) (lc : Addr) (names : List Str) (i : Nat) (m : Str → Option Value) : List (Addr × Obj) → Prop
  | mk (cols : List Addr) (k : Nat) (ext : List (Addr × Obj)) (y1 : m "self" = some (.ref mk)) (y2 : ColsAt P ext cols (names.take i)) (y3 : (∀ p ∈ ext, lc < p.1 ∧ ∀ q ∈ rest0, q.1 < p.1)) : JR1 P rest0 mk lc names i m ((lc, W.listOf (cols.map Value.ref).toArray k) :: (ext ++ rest0))
inductive JR2 (P : Params) (R2 : List (Addr × Obj)) (mk : Addr) (dm : Addr) (dt : Addr) (lr : Addr) (st : Addr) (tb : Addr) (lc : Addr) (i5 : Addr) (i6 : Addr) (key : Option Nat) (i : Nat) (m : Str → Option Value) : List (Addr × Obj) → Prop
  | mk (om : Obj) (o : Obj) (rp : Value) (y1 : m "self" = some (.ref mk)) (y2 : MakO P lr st tb (hpAt key i) om) (y3 : TabX P lc rp i5 i6 o) (y4 : RpAt key i rp) : JR2 P R2 mk dm dt lr st tb lc i5 i6 key i m ((dm, om) :: (dt, o) :: R2)
theorem ColsAt.more {P : Params} {led led' : List (Addr × Obj)} {cols : List Addr} {names : List Str} (C : ColsAt P led cols names) (h : ∀ p ∈ led, p ∈ led') : ColsAt P led' cols names := ⟨C.1, fun i c hc => by
  obtain ⟨nm, d, o, a1, a2, a3, a4⟩ := C.2 i c hc
  exact ⟨nm, d, o, a1, h _ a2, h _ a3, a4⟩⟩
theorem ColsAt.snoc {P : Params} {ext : List (Addr × Obj)} {cols : List Addr} {names : List Str} {i : Nat} {nm : Str} {c d : Addr} {o : Obj} (C : ColsAt P ext cols (names.take i)) (hn : names[i]? = some nm) (O : ColO P nm o) : ColsAt P ((c, instObj 793 d) :: (d, o) :: ext) (cols ++ [c]) (names.take (i + 1)) := by
  have hi : i < names.length := (List.getElem?_eq_some_iff.mp hn).1
  have ht : names.take (i + 1) = names.take i ++ [nm] := by rw [List.take_add_one, hn]; rfl
  have hl : cols.length = i := by rw [C.1, List.length_take]; omega
  refine ⟨by rw [List.length_append, ht, List.length_append, C.1]; rfl, fun j e he => ?_⟩
  by_cases hj : j < i
  · rw [List.getElem?_append_left (by omega)] at he
    obtain ⟨nm', d', o', a1, a2, a3, a4⟩ := C.2 j e he
    refine ⟨nm', d', o', ?_, .tail _ (.tail _ a2), .tail _ (.tail _ a3), a4⟩
    rw [ht, List.getElem?_append_left (by rw [List.length_take]; omega)]; exact a1
  · have hji : j = i := by
      have := (List.getElem?_eq_some_iff.mp he).1
      rw [List.length_append, List.length_singleton] at this
      omega
    subst hji
    rw [List.getElem?_append_right (by omega), hl, Nat.sub_self] at he
    have he' : c = e := Option.some.inj he
    subst he'
    refine ⟨nm, d, o, ?_, .head _, .tail _ (.head _), O⟩
    rw [ht, List.getElem?_append_right (by rw [List.length_take]; omega), List.length_take, Nat.min_eq_left (by omega), Nat.sub_self]
    rfl
theorem perm3 {α : Type} {a b c : α} {ext rest : List α} : ∀ p ∈ a :: b :: c :: (ext ++ rest), p ∈ c :: (ext ++ a :: b :: rest) := fun p hp => by
  simp only [List.mem_cons, List.mem_append] at hp ⊢
  rcases hp with h | h | h | h | h <;> simp [h]
theorem hpAt_zero (key : Option Nat) : hpAt key 0 = false := by cases key <;> simp [hpAt]
theorem rpAt_zero (key : Option Nat) : RpAt key 0 .none := by cases key <;> simp [RpAt]
theorem hpAt_ne {key : Option Nat} {i : Nat} (h : key ≠ some i) : hpAt key (i + 1) = hpAt key i := by
  cases key with
  | none => rfl
  | some k =>
    have : k ≠ i := fun e => h (by rw [e])
    simp only [hpAt]; congr 1; apply propext; omega
theorem rpAt_ne {key : Option Nat} {i : Nat} {rp : Value} (h : key ≠ some i) (r : RpAt key i rp) : RpAt key (i + 1) rp := by
  cases key with
  | none => exact r
  | some k =>
    have : k ≠ i := fun e => h (by rw [e])
    unfold RpAt at r ⊢
    dsimp only at r ⊢
    by_cases hk : k < i
    · rw [if_pos hk] at r; rw [if_pos (by omega)]; exact r
    · rw [if_neg hk] at r; rw [if_neg (by omega)]; exact r
theorem hpAt_eq {i : Nat} : hpAt (some i) i = false := by simp [hpAt]
theorem hpAt_next {i : Nat} : hpAt (some i) (i + 1) = true := by simp [hpAt]
theorem rpAt_eq {i : Nat} {rp : Value} (r : RpAt (some i) i rp) : rp = .none := by simpa [RpAt] using r
theorem rpAt_next {i t : Nat} : RpAt (some i) (i + 1) (.int (i : Int) t) := by simp [RpAt]
section
theorem read_cur {w : World} {rest : List (Addr × Obj)} {dm lr st tb dt lc i5 i6 : Nat} {om o : Obj} {names : List Str} {key : Option Nat} {K : Value → List (Addr × Obj) → Heap → Nat → Prop} (k9 : ∀ om' : Obj, ∀ o' : Obj, ∀ rp : Value, ∀ cols : List Addr, ∀ k : Nat, ∀ ext : List (Addr × Obj), (TabX w.params lc rp i5 i6 o') → (RpAt key names.length rp) → (MakO w.params lr st tb (hpAt key names.length) om') → (ColsAt w.params ext cols names) → ((∀ p ∈ ext, lc < p.1 ∧ ∀ q ∈ (dm, om) :: (dt, o) :: rest, q.1 < p.1)) → ∀ h_ t_, K (.ref tb) ((dm, om') :: (dt, o') :: (lc, W.listOf (cols.map Value.ref).toArray k) :: (ext ++ rest)) h_ t_) : ∀ v led' h_ t_, (∃ (om' o' : Obj) (rp : Value) (cols : List Addr) (k : Nat) (ext : List (Addr × Obj)), v = .ref tb ∧ TabX w.params lc rp i5 i6 o' ∧ RpAt key names.length rp ∧ MakO w.params lr st tb (hpAt key names.length) om' ∧ ColsAt w.params ext cols names ∧ (∀ p ∈ ext, lc < p.1 ∧ ∀ q ∈ (dm, om) :: (dt, o) :: rest, q.1 < p.1) ∧ led' = (dm, om') :: (dt, o') :: (lc, W.listOf (cols.map Value.ref).toArray k) :: (ext ++ rest)) → K v led' h_ t_ := by
  rintro _ _ h_ t_ ⟨om', o', rp, cols, k, ext, rfl, a1, a2, a3, a4, a5, rfl⟩
  exact k9 om' o' rp cols k ext a1 a2 a3 a4 a5 h_ t_
theorem read_ctr {w : World} {rest : List (Addr × Obj)} {mk dm lr st tb dt lc dst lcs lks i5 i6 k0 kd kk k6 : Nat} {om o ost : Obj} {defs : List Addr} {names : List Str} {key : Option Nat}
    (h1 : (mk, instObj 993 dm) ∈ rest) (hM : MakO w.params lr st tb false om) (h3 : (tb, instObj 868 dt) ∈ rest) (hT : TabX w.params lc .none i5 i6 o)
    (hs1 : (st, instObj 686 dst) ∈ rest) (hs2 : (dst, ost) ∈ rest) (hO : CTabO w.params lcs lks ost) (hl : (lcs, W.listOf (defs.map Value.ref).toArray kd) ∈ rest) (hkk : (lks, W.listOf #[] kk) ∈ rest) (h6 : (i6, W.listOf #[] k6) ∈ rest)
    (hD : DefsAt w.params rest defs names key) (hn : names.length ≤ 50) (hns : ∀ nm ∈ names, nm.length ≤ 1000) (hdist : ∀ (i j : Nat) (x y : Str), i < j → names[i]? = some x → names[j]? = some y → lowS x ≠ lowS y)
    (hdm : ∀ p ∈ rest, p.1 ≠ dm) (hdt : ∀ p ∈ rest, p.1 ≠ dt) (hlc : ∀ p ∈ rest, p.1 ≠ lc) (hdd : @Ne Nat dm dt) (hdl : @Ne Nat dm lc) (htl : @Ne Nat dt lc) :
    Ctr w ((lc, W.listOf #[] k0) :: (dm, om) :: (dt, o) :: rest) 9 (.ref 935) [.ref mk] (fun v led' => ∃ (om' o' : Obj) (rp : Value) (cols : List Addr) (k : Nat) (ext : List (Addr × Obj)), v = .ref tb ∧ TabX w.params lc rp i5 i6 o' ∧ RpAt key names.length rp ∧ MakO w.params lr st tb (hpAt key names.length) om' ∧ ColsAt w.params ext cols names ∧
      (∀ p ∈ ext, lc < p.1 ∧ ∀ q ∈ (dm, om) :: (dt, o) :: rest, q.1 < p.1) ∧ led' = (dm, om') :: (dt, o') :: (lc, W.listOf (cols.map Value.ref).toArray k) :: (ext ++ rest)) := by
  intro p loose mean mg mb dp un gd cn cs a ccd cl outer A₀ base h₀ L m hh9 gg9 dd9 tt9 oo9 Q E B F X N T hk hd hu hret
  obtain ⟨a1, a2, a3, a4⟩ := id hM
  obtain ⟨t1, t2, t3, t4, t5, u1, u5⟩ := id hO
  have hdefl : defs.length ≤ 50 := by rw [hD.1]; exact hn
  refine wpAny_call ?_
  k_dflt (refine' code_def ?k1 ?k2 ?k3 ?k4 ?k5 ?kA ?kF ?kK ?k6 ?k7 ?k8 ?k9 ?kB ?_ ?c2 ?c3 ?c4 ?c5; (case kA => exact rfl); (case kF => exact rfl); (case kK => first | assumption | exact rfl); (case k1 => k_asm); (case k2 => k_asm); (case k3 => k_asm); (case k4 => k_asm); (case k5 => k_asm); (case k6 => k_is); (case k7 => k_is); (case k8 => ktr_room); (case k9 => first | exact BindsTo.of_eq rfl | exact binds_K (by k_in) rfl (by k_is) rfl rfl rfl); (case c5 => decide); (case kB => exact locs rfl); (case c2 => exact rfl); (case c3 => exact rfl); (case c4 => exact rfl); k_whole; intro g9z L9z h9z FG9z F9z N9z B9z X9z T9z; (try dsimp only); (try k_fold))
  (repeat ((fail_if_success (with_reducible show wpAny _ _ (exec (Stmt.For _ _ _ _ _) _) _ _ _)); first | (k_unfold; (try dsimp only)) | walk1 | (dsimp only; walk1)))
  ((rename Fr _ _ _ _ => lF9z); with_unfolding_all refine' For_invVF lF9z ?k1 ?k2 ?_; (case k1 => exact rfl); (case k2 => exact rfl))
  (repeat ((fail_if_success (with_reducible show wpAny _ _ (pyIter _) _ _ _)); first | (k_unfold; (try dsimp only)) | walk1 | (dsimp only; walk1)))
  refine loop_list (JR1 w.params ((dm, dictOf [en w.params "roots" a1 (.ref lr), en w.params "statement" a2 (.ref st), en w.params "table" a3 (.ref tb), en w.params "has_primary" a4 (.bool false)] 4) :: (dt, o) :: rest) mk lc names) rfl (by k_asm) (by k_asm) (by k_mem) ?_ ?_ ?_ ?_
  · exact ⟨[], _, [], by walk_at "mget", ⟨rfl, fun i c hc => by simp at hc⟩, fun p hp => nomatch hp⟩
  · rintro i m n ⟨cols, k, ext, hm1, hC, hx⟩
    exact .tail _ (List.mem_append_right _ (.tail _ (.tail _ hl)))
  · rintro I i v m₁ n₁ it h tk hlt hv ⟨cols, k, ext, hm1, hC, hx⟩ hoff F1 N1
    rw [List.getElem?_map] at hv
    obtain ⟨cd, hcd, rfl⟩ := Option.map_eq_some_iff.mp hv
    obtain ⟨nm, dd, od, lri, kl, hnm, g1, g2, gD, gl⟩ := hD.2 _ _ hcd
    have hil : i < names.length := (List.getElem?_eq_some_iff.mp hnm).1
    have q1 : ∀ p ∈ rest, p ∈ (I, it) :: (ext ++ ((dm, dictOf [en w.params "roots" a1 (.ref lr), en w.params "statement" a2 (.ref st), en w.params "table" a3 (.ref tb), en w.params "has_primary" a4 (.bool false)] 4) :: (dt, o) :: rest)) := fun p hp => .tail _ (List.mem_append_right _ (.tail _ (.tail _ hp)))
    have hlc' : ∀ p ∈ (I, it) :: (ext ++ ((dm, dictOf [en w.params "roots" a1 (.ref lr), en w.params "statement" a2 (.ref st), en w.params "table" a3 (.ref tb), en w.params "has_primary" a4 (.bool false)] 4) :: (dt, o) :: rest)), p.1 ≠ lc := by
      intro p hp
      rcases List.mem_cons.mp hp with e | hp
      · rw [e]; exact fun q => hoff _ (.head _) q.symm
      rcases List.mem_append.mp hp with hp | hp
      · exact Nat.ne_of_gt (hx p hp).1
      rcases List.mem_cons.mp hp with e | hp
      · rw [e]; exact hdl
      rcases List.mem_cons.mp hp with e | hp
      · rw [e]; exact htl
      exact hlc p hp
    have hdist' : ∀ x ∈ names.take i, lowS x ≠ lowS nm := fun x hx' => by
      obtain ⟨j, hj, e⟩ := List.mem_take_iff_getElem.mp hx'
      exact hdist j i x nm (by omega) (by rw [List.getElem?_eq_getElem (by omega), e]) hnm
    k_steps
    refine Held.out ?_
    have N2 := news_pick1 (p := (lc, _)) N1 (.tail .head)
    k_dflt (refine' ctr_use (addcol_ctr (mk := mk) (dm := dm) (lr := lr) (st := st) (tb := tb) (dt := dt) (lc := lc) (td := cd) (nm := nm) (q1 _ h1) (.tail _ (List.mem_append_right _ (.head _))) ⟨_, _, _, _⟩ (q1 _ h3) (.tail _ (List.mem_append_right _ (.tail _ (.head _)))) hT.tab (q1 _ g1) (q1 _ g2) gD (hC.more fun p hp => .tail _ (List.mem_append_left _ hp)) ?ql (fun x hx' => hns x (List.mem_of_mem_take hx')) (hns nm (List.mem_of_getElem? hnm)) hdist' hlc') ?B ?F ?X N2 (fun _ hp => hp) ?T ?hk ?hd ?hu ?_)
    case ql => rw [List.length_take]; omega
    ((case B => k_asm); (case F => k_asm); walk_at "use4")
    refine addcol_cur ?_
    intro c9 d9 o9 O9 l1 l2 l3 h9 tk9 F9 N9
    (try dsimp only)
    (try k_fold)
    k_steps
    refine UnrEnd.intro (by assumption) N9 ((lc, W.listOf ((cols ++ [c9]).map Value.ref).toArray (k + 1)) :: ((c9, instObj 793 d9) :: (d9, o9) :: ext ++ ((dm, dictOf [en w.params "roots" a1 (.ref lr), en w.params "statement" a2 (.ref st), en w.params "table" a3 (.ref tb), en w.params "has_primary" a4 (.bool false)] 4) :: (dt, o) :: rest))) ?_ ?_ ⟨cols ++ [c9], k + 1, (c9, instObj 793 d9) :: (d9, o9) :: ext, by walk_at "mget", hC.snoc hnm O9, ?_⟩
    · intro p hp
      rcases List.mem_cons.mp hp with e | hp
      · rw [e]; exact .tail _ (.tail _ (.tail _ (.head _)))
      rcases List.mem_cons.mp hp with e | hp
      · rw [e]; exact .head _
      rcases List.mem_cons.mp hp with e | hp
      · rw [e]; exact .tail _ (.head _)
      rcases List.mem_cons.mp hp with e | hp
      · rw [e]; exact .tail _ (.tail _ (.head _))
      exact .tail _ (.tail _ (.tail _ (.tail _ hp)))
    · have lI : I < d9 := l1 _ (.head _)
      intro p hp
      rcases List.mem_cons.mp hp with e | hp
      · rw [e]; exact hoff (lc, W.listOf (cols.map Value.ref).toArray k) (.head _)
      rcases List.mem_cons.mp hp with e | hp
      · rw [e]; exact Nat.ne_of_gt (Nat.lt_trans lI l3)
      rcases List.mem_cons.mp hp with e | hp
      · rw [e]; exact Nat.ne_of_gt lI
      exact hoff _ (.tail _ hp)
    · intro p hp
      have lr0 : ∀ q ∈ ((dm, dictOf [en w.params "roots" a1 (.ref lr), en w.params "statement" a2 (.ref st), en w.params "table" a3 (.ref tb), en w.params "has_primary" a4 (.bool false)] 4) :: (dt, o) :: rest), q.1 < d9 := fun q hq => l1 _ (.tail _ (List.mem_append_right _ hq))
      rcases List.mem_cons.mp hp with e | hp
      · rw [e]; exact ⟨Nat.lt_trans l2 l3, fun q hq => Nat.lt_trans (lr0 q hq) l3⟩
      rcases List.mem_cons.mp hp with e | hp
      · rw [e]; exact ⟨l2, lr0⟩
      exact hx p hp
  · rintro m₁ n₁ h tk ⟨cols, k, ext, hm1, hC, hx⟩ F1 N1
    have hnd : defs.length = names.length := hD.1
    rw [List.length_map, hnd, List.take_length] at hC
    have hcl : cols.length ≤ 50 := by rw [hC.1]; exact hn
    (repeat ((fail_if_success (with_reducible show wpAny _ _ (exec (Stmt.For _ _ _ _ _) _) _ _ _)); first | (k_unfold; (try dsimp only)) | walk1 | (dsimp only; walk1)))
    ((rename Fr _ _ _ _ => lF9z); with_unfolding_all refine' For_invVF lF9z ?k1 ?k2 ?_; (case k1 => exact rfl); (case k2 => exact rfl))
    (repeat ((fail_if_success (with_reducible show wpAny _ _ (pyIter _) _ _ _)); first | (k_unfold; (try dsimp only)) | walk1 | (dsimp only; walk1)))
    refine loop_range (n := defs.length) (news := (dm, dictOf [en w.params "roots" a1 (.ref lr), en w.params "statement" a2 (.ref st), en w.params "table" a3 (.ref tb), en w.params "has_primary" a4 (.bool false)] 4) :: (dt, o) :: (lc, W.listOf (cols.map Value.ref).toArray k) :: (ext ++ rest)) (JR2 w.params ((lc, W.listOf (cols.map Value.ref).toArray k) :: (ext ++ rest)) mk dm dt lr st tb lc i5 i6 key) rfl (by assumption) (small_ok (by rw [List.length_map]; omega)) (by rw [List.length_map]; exact rsz0) (by k_asm) ?nn ?_ ?_ ?_
    · (rename News _ _ _ (_ :: _) => kN9)
      exact cb_drop kN9 perm3
    · exact ⟨_, o, .none, by walk_at "mget", by rw [hpAt_zero]; exact ⟨_, _, _, _⟩, hT, rpAt_zero key⟩
    · rintro I i t m₂ n₂ it h2 tk2 hlt hi ⟨om2, o2, rp, hm2, hM2, hT2, hR2⟩ hoff F2 N2
      obtain ⟨b1, b2, b3, b4⟩ := id hM2
      obtain ⟨cd, hcd⟩ : ∃ cd, defs[i]? = some cd := ⟨_, List.getElem?_eq_getElem hi⟩
      obtain ⟨nm, dd, od, lri, kl, hnm, g1, g2, gD, gl⟩ := hD.2 _ _ hcd
      obtain ⟨c1, c2, c3, c4, c5⟩ := id gD
      have hit : (defs.map Value.ref)[((0 : Int) + (i : Int)).toNat]? = some (.ref cd) := by rw [show ((0 : Int) + (i : Int)).toNat = i by omega, List.getElem?_map, hcd]; rfl
      rcases gl with ⟨hkey, gl⟩ | ⟨rfl, tt, wt, nt, gl, gt⟩
      · (repeat ((fail_if_success (with_reducible show wpAny _ _ (exec (Stmt.For _ _ _ _ _) _) _ _ _)); first | (k_unfold; (try dsimp only)) | walk1 | (dsimp only; walk1)))
        refine For_G ?_
        (repeat ((fail_if_success (with_reducible show wpAny _ _ (pyIter _) _ _ _)); first | (k_unfold; (try dsimp only)) | walk1 | (dsimp only; walk1)))
        refine pair_loop0 rfl (by k_asm) (by k_asm) (by k_mem) ?_
        intro hq3 tk3 F3 N3
        k_steps
        exact UnrEnd.intro F3 N3 _ (fun p hp => hp) hoff ⟨_, o2, rp, by walk_at "mget", by rw [hpAt_ne hkey]; exact hM2, hT2, rpAt_ne hkey hR2⟩
      · rw [hpAt_eq] at hM2 N2
        have hrp := rpAt_eq hR2
        subst hrp
        (repeat ((fail_if_success (with_reducible show wpAny _ _ (exec (Stmt.For _ _ _ _ _) _) _ _ _)); first | (k_unfold; (try dsimp only)) | walk1 | (dsimp only; walk1)))
        refine For_G ?_
        (repeat ((fail_if_success (with_reducible show wpAny _ _ (pyIter _) _ _ _)); first | (k_unfold; (try dsimp only)) | walk1 | (dsimp only; walk1)))
        refine pair_loop1 rfl rfl rfl rfl (by k_asm) (by k_asm) (by k_mem) (by k_mem) ?_
        intro I3 it3 hq3 tk3 hlt3 F3 N3
        k_steps
        refine Held.out ?_
        rw [Int.zero_add]
        have N4 := news_pick2 (p := (dm, _)) (q := (dt, _)) N3 (.tail (.tail .head)) (.tail (.tail .head))
        have hdI : @Ne Nat dm I := hoff (dm, _) (.head _)
        have htI : @Ne Nat dt I := hoff (dt, o2) (.tail _ (.head _))
        have hdI3 : @LT.lt Nat _ dm I3 := hlt3 (dm, _) (.tail _ (.head _))
        have htI3 : @LT.lt Nat _ dt I3 := hlt3 (dt, o2) (.tail _ (.tail _ (.head _)))
        have hII3 : @LT.lt Nat _ I I3 := hlt3 (I, it) (.head _)
        k_dflt (refine' ctr_use (colcon_ctr (rest := (I3, it3) :: (I, it) :: (lc, W.listOf (cols.map Value.ref).toArray k) :: (ext ++ rest)) (mk := mk) (dm := dm) (lr := lr) (st := st) (tb := tb) (dt := dt) (lc := lc) (i := i) (i5 := i5) (i6 := i6) (cols := cols) (names := names) (.tail _ (.tail _ (.tail _ (List.mem_append_right _ h1)))) hM2 (.tail _ (.tail _ (.tail _ (List.mem_append_right _ h3)))) hT2 (.tail _ (.tail _ (.head _))) (hC.more fun p hp => .tail _ (.tail _ (.tail _ (List.mem_append_left _ hp)))) hn ?ql ?qm ?qt hdd) ?B ?F ?X N4 (fun _ hp => hp) ?T ?hk ?hd ?hu ?_)
        case ql => rw [← hnd]; exact hi
        case qm =>
          intro p hp
          rcases List.mem_cons.mp hp with e | hp
          · rw [e]; exact Nat.ne_of_gt hdI3
          rcases List.mem_cons.mp hp with e | hp
          · rw [e]; exact hdI.symm
          rcases List.mem_cons.mp hp with e | hp
          · rw [e]; exact hdl.symm
          rcases List.mem_append.mp hp with hp | hp
          · exact Nat.ne_of_gt ((hx p hp).2 _ (.head _))
          · exact hdm p hp
        case qt =>
          intro p hp
          rcases List.mem_cons.mp hp with e | hp
          · rw [e]; exact Nat.ne_of_gt htI3
          rcases List.mem_cons.mp hp with e | hp
          · rw [e]; exact htI.symm
          rcases List.mem_cons.mp hp with e | hp
          · rw [e]; exact htl.symm
          rcases List.mem_append.mp hp with hp | hp
          · exact Nat.ne_of_gt ((hx p hp).2 _ (.tail _ (.head _)))
          · exact hdt p hp
        ((case B => k_asm); (case F => k_asm); walk_at "use4")
        refine colcon_cur ?_
        intro om' o' M' T' h9 tk9 F9 N9
        (try dsimp only)
        (try k_fold)
        k_steps
        refine UnrEnd.intro (by assumption) N9 ((I, it) :: (dm, om') :: (dt, o') :: (lc, W.listOf (cols.map Value.ref).toArray k) :: (ext ++ rest)) ?_ ?_ ⟨?_, ?_⟩
        · walk_at "subs"
        · intro p hp
          rcases List.mem_cons.mp hp with e | hp
          · rw [e]; exact Nat.ne_of_lt hII3
          rcases List.mem_cons.mp hp with e | hp
          · rw [e]; exact Nat.ne_of_lt hdI3
          rcases List.mem_cons.mp hp with e | hp
          · rw [e]; exact Nat.ne_of_lt htI3
          exact Nat.ne_of_lt (hlt3 p (.tail _ (.tail _ (.tail _ hp))))
        · exact .tail _ (.tail _ (.tail _ (.tail _ (List.mem_append_right _ gl))))
        · intro h5 tk5 F5 N5
          k_steps
          refine UnrEnd.intro F5 N5 _ (fun p hp => hp) ?_ ⟨om', o', .int i t, by walk_at "mget", by rw [hpAt_next]; exact M', T', rpAt_next⟩
          intro p hp
          rcases List.mem_cons.mp hp with e | hp
          · rw [e]; exact hdI
          rcases List.mem_cons.mp hp with e | hp
          · rw [e]; exact htI
          exact hoff p (.tail _ (.tail _ hp))
    · rintro m₂ n₂ h2 tk2 ⟨om2, o2, rp, hm2, hM2, hT2, hR2⟩ F2 N2
      obtain ⟨b1, b2, b3, b4⟩ := id hM2
      obtain ⟨z1, z2, z3, z4, z5, z6, z7, z8, y1, y2, y7, i8⟩ := id hT2
      (repeat ((fail_if_success (with_reducible show wpAny _ _ (exec (Stmt.For _ _ _ _ _) _) _ _ _)); first | (k_unfold; (try dsimp only)) | walk1 | (dsimp only; walk1)))
      refine For_G ?_
      (repeat ((fail_if_success (with_reducible show wpAny _ _ (pyIter _) _ _ _)); first | (k_unfold; (try dsimp only)) | walk1 | (dsimp only; walk1)))
      refine pair_loop0 rfl (by k_asm) (by k_asm) (by k_mem) ?_
      intro hq4 tk4 F4 N4
      (repeat ((fail_if_success (with_reducible show wpAny _ _ (exec (Stmt.For _ _ _ _ _) _) _ _ _)); first | (k_unfold; (try dsimp only)) | walk1 | (dsimp only; walk1)))
      refine For_G ?_
      (repeat ((fail_if_success (with_reducible show wpAny _ _ (pyIter _) _ _ _)); first | (k_unfold; (try dsimp only)) | walk1 | (dsimp only; walk1)))
      refine pair_loop0 rfl (by k_asm) (by k_asm) (by k_mem) ?_
      intro hq5 tk5 F5 N5
      k_steps
      (rename News h₀ _ _ _ => kN)
      (rename Fr h₀ _ _ _ => kF)
      rw [hnd] at hM2 hR2 kN
      exact hret _ _ _ _ ⟨_, _, _, cols, _, ext, rfl, hT2, hR2, hM2, hC, hx, rfl⟩ kF kN
end
section
theorem settle_cur {w : World} {rest : List (Addr × Obj)} {dt lc : Nat} {rp : Value} {K : Value → List (Addr × Obj) → Heap → Nat → Prop} (k9 : ∀ o', (TabO w.params lc rp o') → ∀ h_ t_, K (.none) ((dt, o') :: rest) h_ t_) : ∀ v led' h_ t_, (∃ o', v = .none ∧ TabO w.params lc rp o' ∧ led' = (dt, o') :: rest) → K v led' h_ t_ := by
  rintro _ _ h_ t_ ⟨o', rfl, a1, rfl⟩
  exact k9 o' a1 h_ t_
theorem settle_ctr {w : World} {rest : List (Addr × Obj)} {mk dm lr st tb dt lc i5 i6 k5 : Nat} {om o : Obj} {hp : Bool} {rp : Value}
    (h1 : (mk, instObj 993 dm) ∈ rest) (hm : (dm, om) ∈ rest) (hM : MakO w.params lr st tb hp om) (h3 : (tb, instObj 868 dt) ∈ rest) (hT : TabX w.params lc rp i5 i6 o) (h5 : (i5, W.listOf #[] k5) ∈ rest) (hdt : ∀ p ∈ rest, p.1 ≠ dt) :
    Ctr w ((dt, o) :: rest) 3 (.ref 978) [.ref mk] (fun v led' => ∃ o', v = .none ∧ TabO w.params lc rp o' ∧ led' = (dt, o') :: rest) := by
  intro p loose mean mg mb dp un gd cn cs a ccd cl outer A₀ base h₀ L m hh9 gg9 dd9 tt9 oo9 Q E B F X N T hk hd hu hret
  obtain ⟨a1, a2, a3, a4⟩ := id hM
  obtain ⟨t1, t2, t3, t4, t5, t6, t7, t8, u1, u2, u7, i8⟩ := id hT
  refine wpAny_call ?_
  k_dflt (refine' code_defC ?k1 ?k2 ?k3 ?k4 ?k5 ?kA ?kF ?kK ?k6 ?k7 ?k8 ?k9 ?kB ?kD ?_ ?c2 ?c3 ?c4; (case kA => exact rfl); (case kF => exact rfl); (case kK => first | assumption | exact rfl); (case k1 => k_asm); (case k2 => k_asm); (case k3 => k_asm); (case k4 => k_asm); (case k5 => k_asm); (case k6 => k_is); (case k7 => k_is); (case k8 => ktr_room); (case k9 => first | exact BindsTo.of_eq rfl | exact binds_K (by k_in) rfl (by k_is) rfl rfl rfl); (case kB => exact rfl); (case kD => decide +kernel); (case c2 => exact rfl); (case c3 => exact rfl); (case c4 => exact rfl); k_whole; intro g9z L9z h9z tk9z cells9z FG9z F9z N9z Y9z B9z X9z T9z l19z; (try k_lt l19z); k_cells Y9z; (try simp only [List.cons_append, List.nil_append] at N9z); (try dsimp only); (try k_fold))
  (repeat ((fail_if_success (with_reducible show wpAny _ _ (exec (Stmt.For _ _ _ _ _) _) _ _ _)); first | (k_unfold; (try dsimp only)) | walk1 | (dsimp only; walk1)))
  refine For_G ?_
  (repeat ((fail_if_success (with_reducible show wpAny _ _ (pyIter _) _ _ _)); first | (k_unfold; (try dsimp only)) | walk1 | (dsimp only; walk1)))
  refine pair_loop0 rfl (by k_asm) (by k_asm) (by k_mem) ?_
  intro hq4 tk4 F4 N4
  (repeat ((fail_if_success (with_reducible show wpAny _ _ (exec (Stmt.For _ _ _ _ _) _) _ _ _)); first | (k_unfold; (try dsimp only)) | walk1 | (dsimp only; walk1)))
  refine For_G ?_
  (repeat ((fail_if_success (with_reducible show wpAny _ _ (pyIter _) _ _ _)); first | (k_unfold; (try dsimp only)) | walk1 | (dsimp only; walk1)))
  refine range_loop0 rfl (by assumption) (by decide) (by decide) (by k_asm) (by k_asm) ?_
  intro hq5 tk5 F5 N5
  k_steps
  (rename News h₀ _ _ _ => kN)
  (rename Fr h₀ _ _ _ => kF)
  exact hret _ _ _ _ ⟨_, rfl, ⟨_, _, _, _, _, _, _, _, _, _, _, _, _, _⟩, rfl⟩ kF (cb_drop kN (by walk_at "subs"))
end
theorem DefsAt.more {P : Params} {led led' : List (Addr × Obj)} {defs : List Addr} {names : List Str} {key : Option Nat} (D : DefsAt P led defs names key) (h : ∀ p ∈ led, p ∈ led') : DefsAt P led' defs names key := ⟨D.1, fun i c hc => by
  obtain ⟨nm, d, o, lr, k, a1, a2, a3, a4, a5⟩ := D.2 i c hc
  refine ⟨nm, d, o, lr, k, a1, h _ a2, h _ a3, a4, ?_⟩
  rcases a5 with ⟨b1, b2⟩ | ⟨b1, tt, wt, n, b2, b3⟩
  · exact .inl ⟨b1, h _ b2⟩
  · exact .inr ⟨b1, tt, wt, n, h _ b2, h _ b3⟩⟩
section
theorem tabfrom_cur {w : World} {led : List (Addr × Obj)} {names : List Str} {key : Option Nat} {K : Value → List (Addr × Obj) → Heap → Nat → Prop} (k9 : ∀ tb : Nat, ∀ lc : Nat, ∀ rp : Value, ∀ ext : List (Addr × Obj), (TabAt w.params ext tb lc rp names) → (RpAt key names.length rp) → ((∀ p ∈ ext, ∀ q ∈ led, q.1 < p.1)) → ∀ h_ t_, K (.ref tb) (led ++ ext) h_ t_) : ∀ v led' h_ t_, (∃ (tb lc : Nat) (rp : Value) (ext : List (Addr × Obj)), v = .ref tb ∧ led' = led ++ ext ∧ TabAt w.params ext tb lc rp names ∧ RpAt key names.length rp ∧ (∀ p ∈ ext, ∀ q ∈ led, q.1 < p.1)) → K v led' h_ t_ := by
  rintro _ _ h_ t_ ⟨tb, lc, rp, ext, rfl, rfl, a1, a2, a3⟩
  exact k9 tb lc rp ext a1 a2 a3 h_ t_
theorem tabfrom_ctr {w : World} {led : List (Addr × Obj)} {st dst lcs lks kd kk : Nat} {ost : Obj} {defs : List Addr} {names : List Str} {key : Option Nat}
    (h1 : (st, instObj 686 dst) ∈ led) (h2 : (dst, ost) ∈ led) (hO : CTabO w.params lcs lks ost) (hl : (lcs, W.listOf (defs.map Value.ref).toArray kd) ∈ led) (hkk : (lks, W.listOf #[] kk) ∈ led)
    (hD : DefsAt w.params led defs names key) (hn : names.length ≤ 50) (hns : ∀ nm ∈ names, nm.length ≤ 1000) (hdist : ∀ (i j : Nat) (x y : Str), i < j → names[i]? = some x → names[j]? = some y → lowS x ≠ lowS y) :
    Ctr w led 11 (.ref 1005) [.ref st] (fun v led' => ∃ (tb lc : Nat) (rp : Value) (ext : List (Addr × Obj)), v = .ref tb ∧ led' = led ++ ext ∧ TabAt w.params ext tb lc rp names ∧ RpAt key names.length rp ∧ (∀ p ∈ ext, ∀ q ∈ led, q.1 < p.1)) := by
  intro p loose mean mg mb dp un gd cn cs a ccd cl outer A₀ base h₀ L m hh9 gg9 dd9 tt9 oo9 Q E B F X N T hk hd hu hret
  refine wpAny_call ?_
  k_dflt (refine' code_def ?k1 ?k2 ?k3 ?k4 ?k5 ?kA ?kF ?kK ?k6 ?k7 ?k8 ?k9 ?kB ?_ ?c2 ?c3 ?c4 ?c5; (case kA => exact rfl); (case kF => exact rfl); (case kK => first | assumption | exact rfl); (case k1 => k_asm); (case k2 => k_asm); (case k3 => k_asm); (case k4 => k_asm); (case k5 => k_asm); (case k6 => k_is); (case k7 => k_is); (case k8 => ktr_room); (case k9 => first | exact BindsTo.of_eq rfl | exact binds_K (by k_in) rfl (by k_is) rfl rfl rfl); (case c5 => decide); (case kB => exact locs rfl); (case c2 => exact rfl); (case c3 => exact rfl); (case c4 => exact rfl); k_whole; intro g9z L9z h9z FG9z F9z N9z B9z X9z T9z; (try dsimp only); (try k_fold))
  k_steps
  refine Held.out ?_
  k_dflt (refine' ctr_use (maker_ctr h1 h2 hO) ?B ?F ?X ?N (fun _ hp => hp) ?T ?hk ?hd ?hu ?_; walk_at "use")
  refine maker_cur ?_
  intro mk dm lr tb dt lc i5 i6 om o hM hT l1 l2 l3 l4 l5 l6 l7 l8 h9 tk9 F9 N9
  obtain ⟨a1, a2, a3, a4⟩ := id hM
  (try dsimp only)
  (try k_fold)
  k_steps
  refine Held.out ?_
  have sub1 : ∀ p ∈ led, p ∈ (i6, W.listOf #[] 0) :: (i5, W.listOf #[] 0) :: (tb, instObj 868 dt) :: (lr, W.listOf #[] 0) :: (mk, instObj 993 dm) :: led := by walk_at "subs"
  (rename News _ _ _ ((i6, _) :: _) => kN9)
  have N2 : News _ _ _ ((lc, W.listOf #[] 0) :: (dm, dictOf [en w.params "roots" a1 (.ref lr), en w.params "statement" a2 (.ref st), en w.params "table" a3 (.ref tb), en w.params "has_primary" a4 (.bool false)] 4) :: (dt, o) :: (i6, W.listOf #[] 0) :: (i5, W.listOf #[] 0) :: (tb, instObj 868 dt) :: (lr, W.listOf #[] 0) :: (mk, instObj 993 dm) :: led) := cb_drop kN9 (by walk_at "subs")
  clear kN9
  replace l2 := ltN l2
  replace l3 := ltN l3
  replace l4 := ltN l4
  replace l5 := ltN l5
  replace l6 := ltN l6
  replace l7 := ltN l7
  replace l8 := ltN l8
  have ledm : ∀ x : Nat, dm ≤ x → ∀ p ∈ led, p.1 ≠ x := fun x hx p hp => Nat.ne_of_lt (Nat.lt_of_lt_of_le (l1 p hp) hx)
  have nR : ∀ p ∈ (i6, W.listOf #[] 0) :: (i5, W.listOf #[] 0) :: (tb, instObj 868 dt) :: (lr, W.listOf #[] 0) :: (mk, instObj 993 dm) :: led, p.1 ≠ dt := List.forall_mem_cons.mpr ⟨by k_ne, List.forall_mem_cons.mpr ⟨by k_ne, List.forall_mem_cons.mpr ⟨by k_ne, List.forall_mem_cons.mpr ⟨by k_ne, List.forall_mem_cons.mpr ⟨by k_ne, ledm dt (by omega)⟩⟩⟩⟩⟩
  have nM : @Ne Nat dm dt := neN (by omega)
  have nL : @Ne Nat lc dt := neN (by omega)
  have lord : @LT.lt Nat _ dm dt ∧ @LT.lt Nat _ dm lc ∧ @LT.lt Nat _ dm tb := ⟨by omega, by omega, by omega⟩
  k_dflt (refine' ctr_use (read_ctr (rest := (i6, W.listOf #[] 0) :: (i5, W.listOf #[] 0) :: (tb, instObj 868 dt) :: (lr, W.listOf #[] 0) :: (mk, instObj 993 dm) :: led) (dm := dm) (dt := dt) (by k_mem) hM (by k_mem) hT (sub1 _ h1) (sub1 _ h2) hO (sub1 _ hl) (sub1 _ hkk) (by k_mem) (hD.more sub1) hn hns hdist ?q1 ?q2 ?q3 ?q4 ?q5 ?q6) ?B ?F ?X ?N (fun _ hp => hp) ?T ?hk ?hd ?hu ?_)
  case q1 => exact List.forall_mem_cons.mpr ⟨by k_ne, List.forall_mem_cons.mpr ⟨by k_ne, List.forall_mem_cons.mpr ⟨by k_ne, List.forall_mem_cons.mpr ⟨by k_ne, List.forall_mem_cons.mpr ⟨by k_ne, ledm dm (by omega)⟩⟩⟩⟩⟩
  case q2 => exact List.forall_mem_cons.mpr ⟨by k_ne, List.forall_mem_cons.mpr ⟨by k_ne, List.forall_mem_cons.mpr ⟨by k_ne, List.forall_mem_cons.mpr ⟨by k_ne, List.forall_mem_cons.mpr ⟨by k_ne, ledm dt (by omega)⟩⟩⟩⟩⟩
  case q3 => exact List.forall_mem_cons.mpr ⟨by k_ne, List.forall_mem_cons.mpr ⟨by k_ne, List.forall_mem_cons.mpr ⟨by k_ne, List.forall_mem_cons.mpr ⟨by k_ne, List.forall_mem_cons.mpr ⟨by k_ne, ledm lc (by omega)⟩⟩⟩⟩⟩
  case q4 => exact neN (by omega)
  case q5 => exact neN (by omega)
  case q6 => exact neN (by omega)
  case N => exact N2
  ((case B => k_asm); (case F => k_asm); walk_at "use4")
  refine read_cur ?_
  intro om' o' rp cols k ext hT' hR' hM' hC' hx' h9 tk9 F9 N9
  obtain ⟨b1, b2, b3, b4⟩ := id hM'
  (try dsimp only)
  (try k_fold)
  k_steps
  refine Held.out ?_
  (rename News _ _ _ ((dm, _) :: _) => kN9)
  have N3 : News _ _ _ ((dt, o') :: (dm, dictOf [en w.params "roots" b1 (.ref lr), en w.params "statement" b2 (.ref st), en w.params "table" b3 (.ref tb), en w.params "has_primary" b4 (.bool (hpAt key names.length))] 4) :: (lc, W.listOf (cols.map Value.ref).toArray k) :: (ext ++ (i6, W.listOf #[] 0) :: (i5, W.listOf #[] 0) :: (tb, instObj 868 dt) :: (lr, W.listOf #[] 0) :: (mk, instObj 993 dm) :: led)) := cb_drop kN9 (by walk_at "subs")
  clear kN9
  k_dflt (refine' ctr_use (settle_ctr (rest := (dm, dictOf [en w.params "roots" b1 (.ref lr), en w.params "statement" b2 (.ref st), en w.params "table" b3 (.ref tb), en w.params "has_primary" b4 (.bool (hpAt key names.length))] 4) :: (lc, W.listOf (cols.map Value.ref).toArray k) :: (ext ++ (i6, W.listOf #[] 0) :: (i5, W.listOf #[] 0) :: (tb, instObj 868 dt) :: (lr, W.listOf #[] 0) :: (mk, instObj 993 dm) :: led)) (dm := dm) (dt := dt) (i5 := i5) (i6 := i6) (.tail _ (.tail _ (List.mem_append_right _ (.tail _ (.tail _ (.tail _ (.tail _ (.head _)))))))) (.head _) hM' (.tail _ (.tail _ (List.mem_append_right _ (.tail _ (.tail _ (.head _)))))) hT' (.tail _ (.tail _ (List.mem_append_right _ (.tail _ (.head _))))) ?q1) ?B ?F ?X ?N (fun _ hp => hp) ?T ?hk ?hd ?hu ?_)
  case q1 =>
    refine List.forall_mem_cons.mpr ⟨nM, List.forall_mem_cons.mpr ⟨nL, fun p hp => ?_⟩⟩
    rcases List.mem_append.mp hp with hp | hp
    · exact Nat.ne_of_gt ((hx' p hp).2 _ (.tail _ (.head _)))
    · exact nR p hp
  case N => exact N3
  ((case B => k_asm); (case F => k_asm); walk_at "use4")
  refine settle_cur ?_
  intro o'' hT'' h9 tk9 F9 N9
  (try dsimp only)
  (try k_fold)
  k_steps
  (rename News h₀ _ _ _ => kN)
  (rename Fr h₀ _ _ _ => kF)
  refine hret _ _ _ _ ⟨tb, lc, rp, (dt, o'') :: (lc, W.listOf (cols.map Value.ref).toArray k) :: (tb, instObj 868 dt) :: ext, rfl, rfl, ⟨dt, o'', k, cols, by k_mem, by k_mem, hT'', by k_mem, hC'.more (by walk_at "subs"), by omega, hns⟩, hR', ?_⟩ kF (cb_drop kN ?_)
  · have lx : ∀ q ∈ led, q.1 < dm := l1
    refine List.forall_mem_cons.mpr ⟨fun q hq => ?_, List.forall_mem_cons.mpr ⟨fun q hq => ?_, List.forall_mem_cons.mpr ⟨fun q hq => ?_, fun p hp q hq => ?_⟩⟩⟩
    · exact Nat.lt_trans (lx q hq) lord.1
    · exact Nat.lt_trans (lx q hq) lord.2.1
    · exact Nat.lt_trans (lx q hq) lord.2.2
    · exact (hx' p hp).2 q (.tail _ (.tail _ (sub1 q hq)))
  · intro p hp
    rcases List.mem_append.mp hp with hp | hp
    · exact .tail _ (.tail _ (.tail _ (List.mem_append_right _ (sub1 p hp))))
    · rcases List.mem_cons.mp hp with e | hp
      · rw [e]; exact .head _
      rcases List.mem_cons.mp hp with e | hp
      · rw [e]; exact .tail _ (.tail _ (.head _))
      rcases List.mem_cons.mp hp with e | hp
      · rw [e]; exact .tail _ (.tail _ (.tail _ (List.mem_append_right _ (.tail _ (.tail _ (.head _))))))
      exact .tail _ (.tail _ (.tail _ (List.mem_append_left _ hp)))
end
inductive KeyV : Option Nat → Value → Prop
  | none : KeyV none .none
  | some (k t : Nat) : KeyV (some k) (.int (k : Int) t)
inductive JT (P : Params) (led : List (Addr × Obj)) (ln : Addr) (kv : Value) (key : Option Nat) (names : List Str) (i : Nat) (m : Str → Option Value) : List (Addr × Obj) → Prop
  | mk (defs : List Addr) (l : Nat) (k : Nat) (ext : List (Addr × Obj)) (y1 : m "names" = some (.ref ln)) (y2 : m "key" = some kv) (y3 : m "columns" = some (.ref l)) (y4 : DefsAt P ext defs (names.take i) key) (y5 : (∀ p ∈ ext, l < p.1 ∧ ∀ q ∈ led, q.1 < p.1)) (y6 : (∀ q ∈ led, q.1 < l)) : JT P led ln kv key names i m ((l, W.listOf (defs.map Value.ref).toArray k) :: (ext ++ led))
theorem DefsAt.snoc {P : Params} {ext new : List (Addr × Obj)} {defs : List Addr} {names : List Str} {key : Option Nat} {i : Nat} {nm : Str} {c d lr k : Addr} {o : Obj} (D : DefsAt P ext defs (names.take i) key) (hn : names[i]? = some nm) (O : CDefO P nm lr o) (hsub : ∀ p ∈ ext, p ∈ new) (h1 : (c, instObj 660 d) ∈ new) (h2 : (d, o) ∈ new)
    (hk : (key ≠ some i ∧ (lr, W.listOf #[] k) ∈ new) ∨ (key = some i ∧ ∃ (tt wt n : Nat), (lr, W.listOf #[.ref tt] k) ∈ new ∧ (tt, ({ cls := .type "tuple", data := .seq #[.str "primary key" wt, .bool false] n } : Obj)) ∈ new)) : DefsAt P new (defs ++ [c]) (names.take (i + 1)) key := by
  have D := D.more hsub
  have hi : i < names.length := (List.getElem?_eq_some_iff.mp hn).1
  have ht : names.take (i + 1) = names.take i ++ [nm] := by rw [List.take_add_one, hn]; rfl
  have hl : defs.length = i := by rw [D.1, List.length_take]; omega
  refine ⟨by rw [List.length_append, ht, List.length_append, D.1]; rfl, fun j e he => ?_⟩
  by_cases hj : j < i
  · rw [List.getElem?_append_left (by omega)] at he
    obtain ⟨nm', d', o', lr', k', a1, a2, a3, a4, a5⟩ := D.2 j e he
    refine ⟨nm', d', o', lr', k', ?_, a2, a3, a4, a5⟩
    rw [ht, List.getElem?_append_left (by rw [List.length_take]; omega)]; exact a1
  · have hji : j = i := by
      have := (List.getElem?_eq_some_iff.mp he).1
      rw [List.length_append, List.length_singleton] at this
      omega
    subst hji
    rw [List.getElem?_append_right (by omega), hl, Nat.sub_self] at he
    have he' : c = e := Option.some.inj he
    subst he'
    refine ⟨nm, d, o, lr, k, ?_, h1, h2, O, hk⟩
    rw [ht, List.getElem?_append_right (by rw [List.length_take]; omega), List.length_take, Nat.min_eq_left (by omega), Nat.sub_self]
    rfl
section
theorem ltable_ctr {w : World} {led : List (Addr × Obj)} {ln kn : Nat} {kv : Value} {vs : List Value} {names : List Str} {key : Option Nat}
    (hnl : (ln, W.listOf vs.toArray kn) ∈ led) (hvs : StrsAre vs names) (hkey : KeyV key kv) (hn : names.length ≤ 50) (hns : ∀ nm ∈ names, nm.length ≤ 1000) (hdist : ∀ (i j : Nat) (x y : Str), i < j → names[i]? = some x → names[j]? = some y → lowS x ≠ lowS y) :
    Ctr w led 12 (.ref 1040) [.ref ln, kv] (fun v led' => ∃ (tb lc : Nat) (rp : Value) (ext : List (Addr × Obj)), v = .ref tb ∧ led' = led ++ ext ∧ TabAt w.params ext tb lc rp names ∧ RpAt key names.length rp ∧ (∀ p ∈ ext, ∀ q ∈ led, q.1 < p.1)) := by
  intro p loose mean mg mb dp un gd cn cs a ccd cl outer A₀ base h₀ L m hh9 gg9 dd9 tt9 oo9 Q E B F X N T hk hd hu hret
  have hvl : vs.length = names.length := strs_len hvs
  refine wpAny_call ?_
  k_dflt (refine' code_def ?k1 ?k2 ?k3 ?k4 ?k5 ?kA ?kF ?kK ?k6 ?k7 ?k8 ?k9 ?kB ?_ ?c2 ?c3 ?c4 ?c5; (case kA => exact rfl); (case kF => exact rfl); (case kK => first | assumption | exact rfl); (case k1 => k_asm); (case k2 => k_asm); (case k3 => k_asm); (case k4 => k_asm); (case k5 => k_asm); (case k6 => k_is); (case k7 => k_is); (case k8 => ktr_room); (case k9 => first | exact BindsTo.of_eq rfl | exact binds_K (by k_in) rfl (by k_is) rfl rfl rfl); (case c5 => decide); (case kB => exact locs rfl); (case c2 => exact rfl); (case c3 => exact rfl); (case c4 => exact rfl); k_whole; intro g9z L9z h9z FG9z F9z N9z B9z X9z T9z; (try dsimp only); (try k_fold))
  (repeat ((fail_if_success (with_reducible show wpAny _ _ (exec (Stmt.For _ _ _ _ _) _) _ _ _)); first | (k_unfold; (try dsimp only)) | walk1 | (dsimp only; walk1)))
  ((rename Fr _ _ _ _ => lF9z); with_unfolding_all refine' For_invVF lF9z ?k1 ?k2 ?_; (case k1 => exact rfl); (case k2 => exact rfl))
  (repeat ((fail_if_success (with_reducible show wpAny _ _ (pyIter _) _ _ _)); first | (k_unfold; (try dsimp only)) | walk1 | (dsimp only; walk1)))
  refine loop_range (n := names.length) (JT w.params led ln kv key names) rfl (by assumption) (small_ok (by omega)) (by simp only [Builtin.Range.rangeSize]; omega) (by k_asm) (by k_asm) ?_ ?_ ?_
  · exact ⟨[], _, _, [], by walk_at "mget", by walk_at "mget", by walk_at "mget", ⟨rfl, fun i c hc => by simp at hc⟩, (fun p hp => by cases hp), by assumption⟩
  · rintro I i t m₁ n₁ it h tk hlt hi ⟨defs, l, k, ext, hm1, hm2, hm3, hD, hx, hll⟩ hoff F1 N1
    obtain ⟨v8, hv8⟩ : ∃ v8, vs[i]? = some v8 := ⟨_, List.getElem?_eq_getElem (by omega)⟩
    obtain ⟨nm, nt, rfl, hnm⟩ := strs_get hvs hv8
    have hv0 : vs[((0 : Int) + (i : Int)).toNat]? = some (.str nm nt) := by rw [show ((0 : Int) + (i : Int)).toNat = i by omega]; exact hv8
    have hdl : defs.length ≤ 50 := by have := hD.1; rw [List.length_take] at this; omega
    have hlI : @Ne Nat l I := hoff (l, W.listOf (defs.map Value.ref).toArray k) (.head _)
    have hloff : ∀ p ∈ ext ++ led, p.1 ≠ l := fun p hp => by
      rcases List.mem_append.mp hp with hp | hp
      · exact Nat.ne_of_gt (hx p hp).1
      · exact Nat.ne_of_lt (hll p hp)
    have hoffI : ∀ p ∈ ext ++ led, p.1 ≠ I := fun p hp => hoff p (.tail _ hp)
    cases hkey with
    | none =>
      k_steps
      refine Held.out ?_
      rename_i l8 h8 F8 N8 l81
      k_dflt (refine' ctr_use cdef_ctr ?B ?F ?X ?N (fun _ hp => hp) ?T ?hk ?hd ?hu ?_; walk_at "use")
      refine node_cur ?_
      intro c9 d9 o9 O9 l2 l3 h9 tk9 F9 N9
      have l2' := l2
      k_lt l2
      replace l3 := ltN l3
      (try dsimp only)
      (try k_fold)
      k_steps
      (rename News _ _ _ (_ :: _) => kN9)
      have hpush : W.listOf ((defs ++ [c9]).map Value.ref).toArray (k + 1) = W.listOf ((defs.map Value.ref).toArray.push (.ref c9)) (k + 1) := by rw [List.map_append, List.push_toArray]; rfl
      have lr0 : ∀ q ∈ led, q.1 < d9 := fun q hq => l2' _ (.tail _ (.tail _ (.tail _ (List.mem_append_right _ hq))))
      refine UnrEnd.intro (by assumption) kN9 ((l, W.listOf ((defs ++ [c9]).map Value.ref).toArray (k + 1)) :: ((c9, instObj 660 d9) :: (d9, o9) :: (l8, W.listOf #[] 0) :: ext ++ led)) ?_ ?_ ⟨defs ++ [c9], l, k + 1, (c9, instObj 660 d9) :: (d9, o9) :: (l8, W.listOf #[] 0) :: ext, by walk_at "mget", by walk_at "mget", by walk_at "mget", hD.snoc hnm O9 (fun p hp => .tail _ (.tail _ (.tail _ hp))) (.head _) (.tail _ (.head _)) (.inl ⟨by simp, .tail _ (.tail _ (.head _))⟩), ?_, hll⟩
      · rw [hpush]
        intro p hp
        simp only [List.mem_cons, List.cons_append] at hp ⊢
        rcases hp with h | h | h | h | h | h <;> simp [h]
      · refine List.forall_mem_cons.mpr ⟨hlI, List.forall_mem_cons.mpr ⟨neN (by dsimp only; omega), List.forall_mem_cons.mpr ⟨neN (by dsimp only; omega), List.forall_mem_cons.mpr ⟨neN (by dsimp only; omega), hoffI⟩⟩⟩⟩
      · have lr1 : ∀ q ∈ led, q.1 < l8 := fun q hq => ktn_ltOf l81.2.2 q (List.mem_append_right _ hq)
        have ld9 : @LT.lt Nat _ l d9 := by omega
        have lc9 : @LT.lt Nat _ l c9 := by omega
        have ll8 : @LT.lt Nat _ l l8 := by omega
        intro p hp
        rcases List.mem_cons.mp hp with e | hp
        · rw [e]; exact ⟨lc9, fun q hq => Nat.lt_trans (lr0 q hq) l3⟩
        rcases List.mem_cons.mp hp with e | hp
        · rw [e]; exact ⟨ld9, lr0⟩
        rcases List.mem_cons.mp hp with e | hp
        · rw [e]; exact ⟨ll8, lr1⟩
        exact hx p hp
    | some kk kt =>
      by_cases hik : i = kk
      · subst hik
        k_steps
        · (rename _ = (_ : Int) => hq9)
          refine Held.out ?_
          rename_i D8 hD8 l82 l8 h8 F8 N8 l81
          obtain ⟨wt, nt0, N7⟩ : ∃ wt nt0, News _ _ _ ((l8, W.listOf #[.ref D8] 0) :: (D8, ({ cls := .type "tuple", data := .seq #[.str "primary key" wt, .bool false] nt0 } : Obj)) :: (I, it) :: (l, W.listOf (defs.map Value.ref).toArray k) :: (ext ++ led)) := ⟨_, _, N8⟩
          clear N8
          k_dflt (refine' ctr_use cdef_ctr ?B ?F ?X ?N (fun _ hp => hp) ?T ?hk ?hd ?hu ?_; walk_at "use")
          refine node_cur ?_
          intro c9 d9 o9 O9 l2 l3 h9 tk9 F9 N9
          have l2' := l2
          k_lt l2
          replace l3 := ltN l3
          (try dsimp only)
          (try k_fold)
          k_steps
          (rename News _ _ _ (_ :: _) => kN9)
          have hpush : W.listOf ((defs ++ [c9]).map Value.ref).toArray (k + 1) = W.listOf ((defs.map Value.ref).toArray.push (.ref c9)) (k + 1) := by rw [List.map_append, List.push_toArray]; rfl
          have lr0 : ∀ q ∈ led, q.1 < d9 := fun q hq => l2' _ (.tail _ (.tail _ (.tail _ (.tail _ (List.mem_append_right _ hq)))))
          refine UnrEnd.intro (by assumption) kN9 ((l, W.listOf ((defs ++ [c9]).map Value.ref).toArray (k + 1)) :: ((c9, instObj 660 d9) :: (d9, o9) :: (l8, W.listOf #[.ref D8] 0) :: (D8, ({ cls := .type "tuple", data := .seq #[.str "primary key" wt, .bool false] nt0 } : Obj)) :: ext ++ led)) ?_ ?_ ⟨defs ++ [c9], l, k + 1, (c9, instObj 660 d9) :: (d9, o9) :: (l8, W.listOf #[.ref D8] 0) :: (D8, ({ cls := .type "tuple", data := .seq #[.str "primary key" wt, .bool false] nt0 } : Obj)) :: ext, by walk_at "mget", by walk_at "mget", by walk_at "mget", hD.snoc hnm O9 (fun p hp => .tail _ (.tail _ (.tail _ (.tail _ hp)))) (.head _) (.tail _ (.head _)) (.inr ⟨rfl, D8, _, _, .tail _ (.tail _ (.head _)), .tail _ (.tail _ (.tail _ (.head _)))⟩), ?_, hll⟩
          · rw [hpush]
            intro p hp
            simp only [List.mem_cons, List.cons_append] at hp ⊢
            rcases hp with h | h | h | h | h | h | h <;> simp [h]
          · refine List.forall_mem_cons.mpr ⟨hlI, List.forall_mem_cons.mpr ⟨neN (by dsimp only; omega), List.forall_mem_cons.mpr ⟨neN (by dsimp only; omega), List.forall_mem_cons.mpr ⟨neN (by dsimp only; omega), List.forall_mem_cons.mpr ⟨neN (by dsimp only; omega), hoffI⟩⟩⟩⟩⟩
          · have lr1 : ∀ q ∈ led, q.1 < l8 := fun q hq => ktn_ltOf l81.2.2.2 q (List.mem_append_right _ hq)
            have lr2 : ∀ q ∈ led, q.1 < D8 := fun q hq => ktn_ltOf l82.2.2 q (List.mem_append_right _ hq)
            have ld9 : @LT.lt Nat _ l d9 := by omega
            have lc9 : @LT.lt Nat _ l c9 := by omega
            have ll8 : @LT.lt Nat _ l l8 := by omega
            have lD8 : @LT.lt Nat _ l D8 := by omega
            intro p hp
            rcases List.mem_cons.mp hp with e | hp
            · rw [e]; exact ⟨lc9, fun q hq => Nat.lt_trans (lr0 q hq) l3⟩
            rcases List.mem_cons.mp hp with e | hp
            · rw [e]; exact ⟨ld9, lr0⟩
            rcases List.mem_cons.mp hp with e | hp
            · rw [e]; exact ⟨ll8, lr1⟩
            rcases List.mem_cons.mp hp with e | hp
            · rw [e]; exact ⟨lD8, lr2⟩
            exact hx p hp
        · exfalso
          omega
      · k_steps
        · exfalso
          omega
        · (rename ¬ _ = (_ : Int) => hq9) <;> skip
          refine Held.out ?_
          rename_i l8 h8 F8 N8 l81
          k_dflt (refine' ctr_use cdef_ctr ?B ?F ?X ?N (fun _ hp => hp) ?T ?hk ?hd ?hu ?_; walk_at "use")
          refine node_cur ?_
          intro c9 d9 o9 O9 l2 l3 h9 tk9 F9 N9
          have l2' := l2
          k_lt l2
          replace l3 := ltN l3
          (try dsimp only)
          (try k_fold)
          k_steps
          (rename News _ _ _ (_ :: _) => kN9)
          have hpush : W.listOf ((defs ++ [c9]).map Value.ref).toArray (k + 1) = W.listOf ((defs.map Value.ref).toArray.push (.ref c9)) (k + 1) := by rw [List.map_append, List.push_toArray]; rfl
          have lr0 : ∀ q ∈ led, q.1 < d9 := fun q hq => l2' _ (.tail _ (.tail _ (.tail _ (List.mem_append_right _ hq))))
          refine UnrEnd.intro (by assumption) kN9 ((l, W.listOf ((defs ++ [c9]).map Value.ref).toArray (k + 1)) :: ((c9, instObj 660 d9) :: (d9, o9) :: (l8, W.listOf #[] 0) :: ext ++ led)) ?_ ?_ ⟨defs ++ [c9], l, k + 1, (c9, instObj 660 d9) :: (d9, o9) :: (l8, W.listOf #[] 0) :: ext, by walk_at "mget", by walk_at "mget", by walk_at "mget", hD.snoc hnm O9 (fun p hp => .tail _ (.tail _ (.tail _ hp))) (.head _) (.tail _ (.head _)) (.inl ⟨fun e => hik (Option.some.inj e).symm, .tail _ (.tail _ (.head _))⟩), ?_, hll⟩
          · rw [hpush]
            intro p hp
            simp only [List.mem_cons, List.cons_append] at hp ⊢
            rcases hp with h | h | h | h | h | h <;> simp [h]
          · refine List.forall_mem_cons.mpr ⟨hlI, List.forall_mem_cons.mpr ⟨neN (by dsimp only; omega), List.forall_mem_cons.mpr ⟨neN (by dsimp only; omega), List.forall_mem_cons.mpr ⟨neN (by dsimp only; omega), hoffI⟩⟩⟩⟩
          · have lr1 : ∀ q ∈ led, q.1 < l8 := fun q hq => ktn_ltOf l81.2.2 q (List.mem_append_right _ hq)
            have ld9 : @LT.lt Nat _ l d9 := by omega
            have lc9 : @LT.lt Nat _ l c9 := by omega
            have ll8 : @LT.lt Nat _ l l8 := by omega
            intro p hp
            rcases List.mem_cons.mp hp with e | hp
            · rw [e]; exact ⟨lc9, fun q hq => Nat.lt_trans (lr0 q hq) l3⟩
            rcases List.mem_cons.mp hp with e | hp
            · rw [e]; exact ⟨ld9, lr0⟩
            rcases List.mem_cons.mp hp with e | hp
            · rw [e]; exact ⟨ll8, lr1⟩
            exact hx p hp
  · rintro m₁ n₁ h tk ⟨defs, l, k, ext, hm1, hm2, hm3, hD, hx, hll⟩ F1 N1
    rw [List.take_length] at hD
    k_steps
    refine Held.out ?_
    rename_i l8 h8 F8 N8 l81
    k_dflt (refine' ctr_use ctab_ctr ?B ?F ?X ?N (fun _ hp => hp) ?T ?hk ?hd ?hu ?_; walk_at "use")
    refine node_cur ?_
    intro c9 d9 o9 O9 l2 l3 h9 tk9 F9 N9
    (try dsimp only)
    (try k_fold)
    k_steps
    refine Held.out ?_
    k_dflt (refine' ctr_use (tabfrom_ctr (led := (c9, instObj 686 d9) :: (d9, o9) :: (l8, W.listOf #[] 0) :: (l, W.listOf (defs.map Value.ref).toArray k) :: (ext ++ led)) (names := names) (key := key) (.head _) (.tail _ (.head _)) O9 (.tail _ (.tail _ (.tail _ (.head _)))) (.tail _ (.tail _ (.head _))) (hD.more fun p hp => .tail _ (.tail _ (.tail _ (.tail _ (List.mem_append_left _ hp))))) hn hns hdist) ?B ?F ?X ?N (fun _ hp => hp) ?T ?hk ?hd ?hu ?_; walk_at "use")
    refine tabfrom_cur ?_
    intro tb lc rp ext2 hT2 hR2 hx2 h9 tk9 F9 N9
    (try dsimp only)
    (try k_fold)
    k_steps
    (rename News h₀ _ _ _ => kN)
    (rename Fr h₀ _ _ _ => kF)
    refine hret _ _ _ _ ⟨tb, lc, rp, ext2, rfl, rfl, hT2, hR2, fun p hp q hq => hx2 p hp q (.tail _ (.tail _ (.tail _ (.tail _ (List.mem_append_right _ hq)))))⟩ kF (cb_drop kN fun p hp => ?_)
    rcases List.mem_append.mp hp with hp | hp
    · exact List.mem_append_left _ (.tail _ (.tail _ (.tail _ (.tail _ (List.mem_append_right _ hp)))))
    · exact List.mem_append_right _ hp
end
section
variable {prog : Program} {w : World} {A : Around} {E : Value → Shared → Prop} {s : Shared} {h₀ : Heap} {L : Addr} {m : Str → Option Value} {env : Env} {news : List (Addr × Obj)}
theorem CompEnd_mono {s₁ s₂ : Shared} {I C D : Addr} {oI oC oD : Obj} {S : List (Addr × Obj) → Prop} {r r' : Value → List (Addr × Obj) → Prop} {y : Value} (h : LCg.CompEnd h₀ L m s₁ I oI C oC D oD S r y s₂) (k : ∀ n, r y n → r' y n) : LCg.CompEnd h₀ L m s₁ I oI C oC D oD S r' y s₂ := by
  obtain ⟨h', tk, n', e, F, N, o, hS, hr⟩ := h
  exact ⟨h', tk, n', e, F, N, o, hS, k _ hr⟩
theorem compRest_inv {elt : PySem.Expr} {x : Str} {scope : Scope} {cl : List (Str × Addr)} {S : List (Addr × Obj) → Prop} {P : Nat → Value → Prop} {Fin : List Value → List (Addr × Obj) → Prop} {n : Nat} (J : Nat → List Value → List (Addr × Obj) → Prop)
    (step : ∀ i v ys news I oI C oC D m₂ h tk (E' : Value → Shared → Prop), i < n → P i v → J i ys news → LCg.NsObj oC m₂ → m₂ x = some v → Fr h₀ L h m → News h₀ L h ((I, oI) :: (C, oC) :: (D, LCg.lst ys) :: news) → LCg.Off3 I C D news → ((@Ne Nat I C) ∧ (@Ne Nat I D) ∧ (@Ne Nat C D)) →
      wpAny (model prog w) A (eval elt (compEnvC scope cl C env)) (LCg.CompEnd h₀ L m { s with heap := h, toks := tk } I oI C oC D (LCg.lst ys) S (fun y news' => J (i + 1) (ys ++ [y]) news')) E' { s with heap := h, toks := tk })
    (fin : ∀ ys news, J n ys news → Fin ys news) : ∀ (k i : Nat) (ys : List Value) (news : List (Addr × Obj)), i + k = n → J i ys news → LCg.CompRest prog w A h₀ L m env elt x scope cl s S P Fin k i ys news
  | 0, i, ys, news, e, hJ => LCg.CompRest.zero (fin _ _ (by rw [← e]; exact hJ))
  | k + 1, i, ys, news, e, hJ => LCg.CompRest.succ fun v I oI C oC D m₂ h tk E' hP hC hx F N off ne =>
      wpAny_mono (step i v ys news I oI C oC D m₂ h tk E' (by omega) hP hJ hC hx F N off ne) (fun y s₂ hq => CompEnd_mono hq fun n' hj => compRest_inv J step fin k (i + 1) _ n' (by omega) hj) fun _ _ e => e
theorem index_gen {l k : Nat} {vs : List Value} {x y : Value} {j : Nat} {Q : Value → Shared → Prop} (e : Value → Bool) (N : News h₀ L s.heap news) (hm : (l, W.listOf vs.toArray k) ∈ news) (he : ∀ y ∈ vs, PySem.SeqAt.EqAt A.in1 s y x (e y)) (hj : vs[j]? = some y) (hy : e y = true) (hno : ∀ i z, i < j → vs[i]? = some z → e z = false) (hsz : vs.length ≤ 1000)
    (h : Q (.int j s.toks) { s with toks := s.toks + 1 }) : wpAny (model prog w) A (call (.builtin "list.index") [.ref l, x]) Q E s := by
  obtain ⟨hjl, hjv⟩ := List.getElem?_eq_some_iff.mp hj
  refine call_meets PySem.F.slot_list_index ⟨_, (N _ hm).1, rfl⟩ PySem.F.entry_list_index (PySem.F.args_list_index_2 _ _)
    (PySem.SeqAt.list_indexAt l vs.toArray k none #[] x e j (by simpa using hjl) (by omega) (by simpa [hjv] using hy) (fun i hi hlt => hno i _ hlt (by simp at hi ⊢))) ⟨(N _ hm).1, fun y hy => he y (by simpa using hy), h⟩
end
section
noncomputable def plc (names : List Str) (key : Option Nat) (x : Str) : Option Int :=
  match names.findIdx? (fun nm => lowS nm == lowS x) with
  | some i => some (i : Int)
  | none => if rowNm (lowS x) then some (match key with | none => -1 | some k => (k : Int)) else none
noncomputable def PlV (o : Option Int) (v : Value) : Prop := match o with
  | some z => ∃ t : Nat, v = .int z t
  | none => v = .none
noncomputable def Wd (x : Str) : Prop := x.length ≤ 1000 ∧ Txt.lower x = lowS x
noncomputable def JL (names : List Str) (rest : List (Addr × Obj)) (i : Nat) (ys : List Value) (n : List (Addr × Obj)) : Prop := n = rest ∧ StrsAre ys ((names.take i).map lowS)
theorem strs_snoc {ys : List Value} {xs : List Str} {x : Str} {t : Nat} (h : StrsAre ys xs) : StrsAre (ys ++ [.str x t]) (xs ++ [x]) := by
  induction h with
  | nil => exact .cons _ _ .nil
  | cons y t hr ih => exact .cons _ _ ih
noncomputable def isLow (y : Str) (v : Value) : Bool := match v with
  | .str z _ => z == y
  | _ => false
theorem plc_some {names : List Str} {key : Option Nat} {x : Str} (h : (names.map lowS).any (· == lowS x) = true) : ∃ (j : Nat) (nm : Str), names[j]? = some nm ∧ lowS nm = lowS x ∧ (∀ (i : Nat) (z : Str), i < j → names[i]? = some z → lowS z ≠ lowS x) ∧ plc names key x = some (j : Int) := by
  unfold plc
  cases hf : names.findIdx? (fun nm => lowS nm == lowS x) with
  | none =>
    exfalso
    rw [List.findIdx?_eq_none_iff] at hf
    simp only [List.any_map, List.any_eq_true, Function.comp] at h
    obtain ⟨z, hz, hq⟩ := h
    have := hf z hz
    rw [this] at hq; cases hq
  | some j =>
    obtain ⟨hlt, hp, hno⟩ := List.findIdx?_eq_some_iff_getElem.mp hf
    refine ⟨j, names[j], List.getElem?_eq_getElem hlt, by simpa using hp, fun i z hi hz => ?_, rfl⟩
    have hil : i < names.length := (List.getElem?_eq_some_iff.mp hz).1
    have := hno i hi
    rw [List.getElem?_eq_getElem hil] at hz
    rw [Option.some.inj hz] at this
    simpa using this
theorem plc_none {names : List Str} {key : Option Nat} {x : Str} (h : (names.map lowS).any (· == lowS x) = false) : plc names key x = if rowNm (lowS x) then some (match key with | none => -1 | some k => (k : Int)) else none := by
  unfold plc
  have : names.findIdx? (fun nm => lowS nm == lowS x) = none := by
    rw [List.findIdx?_eq_none_iff]
    intro z hz
    simp only [List.any_map, List.any_eq_false, Function.comp] at h
    simpa using h z hz
  rw [this]
section
local macro_rules | `(tactic| walk_at "compareOp NotIn str ref") => `(tactic| (k_here; k_dflt (refine notin_list_strs (by walk_at "isl") (by kde_strs) ?_; k_whole)))
local macro_rules | `(tactic| walk_at "compareOp In str ref") => `(tactic| (k_here; k_dflt (refine in_list_strs (by walk_at "isl") (by assumption) ?_; k_whole)))
theorem lplace_ctr {w : World} {led : List (Addr × Obj)} {ln kn xt : Nat} {kv : Value} {vs : List Value} {names : List Str} {x : Str} {key : Option Nat}
    (hnl : (ln, W.listOf vs.toArray kn) ∈ led) (hvs : StrsAre vs names) (hkey : KeyV key kv) (hn : names.length ≤ 50) (hns : ∀ nm ∈ names, Wd nm) (hx : Wd x) :
    Ctr w led 3 (.ref 1052) [.ref ln, kv, .str x xt] (fun v led' => PlV (plc names key x) v ∧ led' = led) := by
  intro p loose mean mg mb dp un gd cn cs a ccd cl outer A₀ base h₀ L m hh9 gg9 dd9 tt9 oo9 Q E B F X N T hk hd hu hret
  have hvl : vs.length = names.length := strs_len hvs
  refine wpAny_call ?_
  k_dflt (refine' code_def ?k1 ?k2 ?k3 ?k4 ?k5 ?kA ?kF ?kK ?k6 ?k7 ?k8 ?k9 ?kB ?_ ?c2 ?c3 ?c4 ?c5; (case kA => exact rfl); (case kF => exact rfl); (case kK => first | assumption | exact rfl); (case k1 => k_asm); (case k2 => k_asm); (case k3 => k_asm); (case k4 => k_asm); (case k5 => k_asm); (case k6 => k_is); (case k7 => k_is); (case k8 => ktr_room); (case k9 => first | exact BindsTo.of_eq rfl | exact binds_K (by k_in) rfl (by k_is) rfl rfl rfl); (case c5 => decide); (case kB => exact locs rfl); (case c2 => exact rfl); (case c3 => exact rfl); (case c4 => exact rfl); k_whole; intro g9z L9z h9z FG9z F9z N9z B9z X9z T9z; (try dsimp only); (try k_fold))
  (repeat ((fail_if_success (with_reducible show wpAny _ _ (exec (Stmt.Assign _ (Expr.ListComp _ _ _ _) _) _) _ _ _)); first | (k_unfold; (try dsimp only)) | walk1 | (dsimp only; walk1)))
  (k_dflt (refine LCg.Assign_ListComp_U (F₀ := by k_asm) (by rfl) (by with_unfolding_all rfl) (by with_unfolding_all rfl) (by decide) (by rfl) (by decide) (by rfl) (by rfl) (by rfl) ?_))
  walk1
  refine LCg.CompSrc.ledger rfl (by k_asm) (by k_asm) (by k_mem) (by rw [List.size_toArray, sizeLine_eq]; omega) ?_
  intro g8
  have htk : ∀ (i : Nat) (nm : Str), names[i]? = some nm → (names.take (i + 1)).map lowS = (names.take i).map lowS ++ [lowS nm] := fun i nm e => by rw [List.take_add_one, e]; simp
  refine compRest_inv (n := vs.toArray.size) (JL names led) ?step ?fin _ 0 [] led (Nat.zero_add _) ⟨rfl, .nil⟩
  case step =>
    rintro i v ys news I oI C oC D m₂ h tk E' hi hv ⟨rfl, hys⟩ hC hm hF hN off ne
    obtain ⟨nm, nt, rfl, hnm⟩ := strs_get hvs (by simpa using hv)
    have hwd : Wd nm := hns nm (List.mem_of_getElem? hnm)
    have hnl' : nm.length ≤ 1000 := hwd.1
    k_steps
    exact LCg.CompEnd.intro (by assumption) (by assumption) _ (fun p hp => hp) off (.inr ⟨_, hnl, rfl, _, rfl⟩) ⟨rfl, by rw [htk _ _ hnm, ← hwd.2]; exact strs_snoc hys⟩
  case fin =>
    rintro ys news ⟨rfl, hys⟩
    rw [List.size_toArray, hvl, List.take_length] at hys
    have hxl : x.length ≤ 1000 := hx.1
    intro D' h' tk' F' N' o1
    cases hkey with
    | none =>
      k_steps
      · (rename _ = true => hq)
        rw [hx.2] at hq
        obtain ⟨j, nm, hj, hnm, hno, hpl⟩ := plc_some (key := none) hq
        have hjl : j < ys.length := by rw [strs_len hys, List.length_map]; exact (List.getElem?_eq_some_iff.mp hj).1
        obtain ⟨z, zt, hz, hzn⟩ := strs_get hys (List.getElem?_eq_getElem hjl)
        have hzl : z = lowS nm := by rw [List.getElem?_map, hj] at hzn; exact (Option.some.inj hzn).symm
        (rename News _ _ _ (_ :: _) => kN9)
        k_dflt (refine' index_gen (isLow (Txt.lower x)) kN9 (.head _) ?he (List.getElem?_eq_getElem hjl) ?hy ?hno ?hsz ?_)
        case he =>
          intro y hy
          obtain ⟨i, hi⟩ := List.mem_iff_getElem?.mp hy
          obtain ⟨u, ut, rfl, _⟩ := strs_get hys hi
          exact PySem.SeqAt.EqAt.str_str _ _ _ _
        case hy => rw [hz]; simp [isLow, hzl, hnm, hx.2]
        case hno =>
          intro i v hi hv
          obtain ⟨u, ut, rfl, hu⟩ := strs_get hys hv
          rw [List.getElem?_map] at hu
          obtain ⟨q, hq1, rfl⟩ := Option.map_eq_some_iff.mp hu
          have := hno i q hi hq1
          simpa [isLow, hx.2] using this
        case hsz => rw [strs_len hys, List.length_map]; omega
        k_steps
        (rename News h₀ _ _ _ => kN)
        (rename Fr h₀ _ _ _ => kF)
        exact hret _ _ _ _ ⟨by rw [hpl]; exact ⟨_, rfl⟩, rfl⟩ kF (cb_drop kN (by walk_at "subs"))
      · (rename _ = true => hq2)
        (rename _ = false => hq)
        rw [hx.2] at hq hq2
        (rename News h₀ _ _ _ => kN)
        (rename Fr h₀ _ _ _ => kF)
        exact hret _ _ _ _ ⟨by rw [plc_none hq, show rowNm (lowS x) = true from hq2]; exact ⟨_, rfl⟩, rfl⟩ kF (cb_drop kN (by walk_at "subs"))
      · (rename List.any (List.map _ _) _ = false => hq)
        (rename List.any [_, _, _] _ = false => hq2)
        rw [hx.2] at hq hq2
        (rename News h₀ _ _ _ => kN)
        (rename Fr h₀ _ _ _ => kF)
        exact hret _ _ _ _ ⟨by rw [plc_none hq, show rowNm (lowS x) = false from hq2]; rfl, rfl⟩ kF (cb_drop kN (by walk_at "subs"))
    | some kk kt =>
      k_steps
      · (rename _ = true => hq)
        rw [hx.2] at hq
        obtain ⟨j, nm, hj, hnm, hno, hpl⟩ := plc_some (key := some kk) hq
        have hjl : j < ys.length := by rw [strs_len hys, List.length_map]; exact (List.getElem?_eq_some_iff.mp hj).1
        obtain ⟨z, zt, hz, hzn⟩ := strs_get hys (List.getElem?_eq_getElem hjl)
        have hzl : z = lowS nm := by rw [List.getElem?_map, hj] at hzn; exact (Option.some.inj hzn).symm
        (rename News _ _ _ (_ :: _) => kN9)
        k_dflt (refine' index_gen (isLow (Txt.lower x)) kN9 (.head _) ?he (List.getElem?_eq_getElem hjl) ?hy ?hno ?hsz ?_)
        case he =>
          intro y hy
          obtain ⟨i, hi⟩ := List.mem_iff_getElem?.mp hy
          obtain ⟨u, ut, rfl, _⟩ := strs_get hys hi
          exact PySem.SeqAt.EqAt.str_str _ _ _ _
        case hy => rw [hz]; simp [isLow, hzl, hnm, hx.2]
        case hno =>
          intro i v hi hv
          obtain ⟨u, ut, rfl, hu⟩ := strs_get hys hv
          rw [List.getElem?_map] at hu
          obtain ⟨q, hq1, rfl⟩ := Option.map_eq_some_iff.mp hu
          have := hno i q hi hq1
          simpa [isLow, hx.2] using this
        case hsz => rw [strs_len hys, List.length_map]; omega
        k_steps
        (rename News h₀ _ _ _ => kN)
        (rename Fr h₀ _ _ _ => kF)
        exact hret _ _ _ _ ⟨by rw [hpl]; exact ⟨_, rfl⟩, rfl⟩ kF (cb_drop kN (by walk_at "subs"))
      · (rename _ = true => hq2)
        (rename _ = false => hq)
        rw [hx.2] at hq hq2
        (rename News h₀ _ _ _ => kN)
        (rename Fr h₀ _ _ _ => kF)
        exact hret _ _ _ _ ⟨by rw [plc_none hq, show rowNm (lowS x) = true from hq2]; exact ⟨_, rfl⟩, rfl⟩ kF (cb_drop kN (by walk_at "subs"))
      · (rename List.any (List.map _ _) _ = false => hq)
        (rename List.any [_, _, _] _ = false => hq2)
        rw [hx.2] at hq hq2
        (rename News h₀ _ _ _ => kN)
        (rename Fr h₀ _ _ _ => kF)
        exact hret _ _ _ _ ⟨by rw [plc_none hq, show rowNm (lowS x) = false from hq2]; rfl, rfl⟩ kF (cb_drop kN (by walk_at "subs"))
end
end
noncomputable def litO (P : Params) (v1 : Value) (o : Obj) : Prop := ∃ t1 : Nat, o = dictOf [en P "value" t1 v1] 1
theorem lit_ctr {w : World} {led : List (Addr × Obj)} {v1 : Value} : Ctr w led 2 (.ref 144) [v1] (fun v led' => ∃ (c d : Nat) (o : Obj), v = .ref c ∧ litO w.params v1 o ∧ (∀ p ∈ led, p.1 < d) ∧ d < c ∧ led' = (c, instObj 144 d) :: (d, o) :: led) := by
  intro p loose mean mg mb dp un gd cn cs a ccd cl outer A₀ base h₀ L m hh9 gg9 dd9 tt9 oo9 Q E B F X N T hk hd hu hret
  k_dflt ((refine' call_cls ?k1 ?k2 ?k3 ?k4 ?k5 ?k6 ?_; (case k1 => k_asm); (case k2 => k_asm); (case k3 => k_asm); (case k4 => k_is); (case k5 => k_is); (case k6 => k_is); k_whole; intro x9z d9z h9z F9z N9z l19z l29z; (try k_lt l19z); (try k_lt2 l29z); (try k_sweep)); (refine' code_def ?k1 ?k2 ?k3 ?k4 ?k5 ?kA ?kF ?kK ?k6 ?k7 ?k8 ?k9 ?kB ?_ ?c2 ?c3 ?c4 ?c5; (case kA => exact rfl); (case kF => exact rfl); (case kK => first | assumption | exact rfl); (case k1 => k_asm); (case k2 => k_asm); (case k3 => k_asm); (case k4 => k_asm); (case k5 => k_asm); (case k6 => k_is); (case k7 => k_is); (case k8 => ktr_room); (case k9 => first | exact BindsTo.of_eq rfl | exact binds_K (by k_in) rfl (by k_is) rfl rfl rfl); (case c5 => decide); (case kB => exact locs rfl); (case c2 => exact rfl); (case c3 => exact rfl); (case c4 => exact rfl); k_whole; intro g9z9z L9z9z h9z9z FG9z9z F9z9z N9z9z B9z9z X9z9z T9z9z; (try dsimp only); (try k_fold)))
  k_steps
  (rename News h₀ _ _ _ => kN)
  (rename Fr h₀ _ _ _ => kF)
  exact hret _ _ _ _ ⟨_, _, _, rfl, ⟨_, rfl⟩, by assumption, by assumption, rfl⟩ kF kN
noncomputable def unaO (P : Params) (v1 v2 : Value) (o : Obj) : Prop := ∃ t1 t2 : Nat, o = dictOf [en P "op" t1 v1, en P "operand" t2 v2] 2
theorem una_ctr {w : World} {led : List (Addr × Obj)} {v1 v2 : Value} : Ctr w led 2 (.ref 222) [v1, v2] (fun v led' => ∃ (c d : Nat) (o : Obj), v = .ref c ∧ unaO w.params v1 v2 o ∧ (∀ p ∈ led, p.1 < d) ∧ d < c ∧ led' = (c, instObj 222 d) :: (d, o) :: led) := by
  intro p loose mean mg mb dp un gd cn cs a ccd cl outer A₀ base h₀ L m hh9 gg9 dd9 tt9 oo9 Q E B F X N T hk hd hu hret
  k_dflt ((refine' call_cls ?k1 ?k2 ?k3 ?k4 ?k5 ?k6 ?_; (case k1 => k_asm); (case k2 => k_asm); (case k3 => k_asm); (case k4 => k_is); (case k5 => k_is); (case k6 => k_is); k_whole; intro x9z d9z h9z F9z N9z l19z l29z; (try k_lt l19z); (try k_lt2 l29z); (try k_sweep)); (refine' code_def ?k1 ?k2 ?k3 ?k4 ?k5 ?kA ?kF ?kK ?k6 ?k7 ?k8 ?k9 ?kB ?_ ?c2 ?c3 ?c4 ?c5; (case kA => exact rfl); (case kF => exact rfl); (case kK => first | assumption | exact rfl); (case k1 => k_asm); (case k2 => k_asm); (case k3 => k_asm); (case k4 => k_asm); (case k5 => k_asm); (case k6 => k_is); (case k7 => k_is); (case k8 => ktr_room); (case k9 => first | exact BindsTo.of_eq rfl | exact binds_K (by k_in) rfl (by k_is) rfl rfl rfl); (case c5 => decide); (case kB => exact locs rfl); (case c2 => exact rfl); (case c3 => exact rfl); (case c4 => exact rfl); k_whole; intro g9z9z L9z9z h9z9z FG9z9z F9z9z N9z9z B9z9z X9z9z T9z9z; (try dsimp only); (try k_fold)))
  k_steps
  (rename News h₀ _ _ _ => kN)
  (rename Fr h₀ _ _ _ => kF)
  exact hret _ _ _ _ ⟨_, _, _, rfl, ⟨_, _, rfl⟩, by assumption, by assumption, rfl⟩ kF kN
inductive binO (P : Params) (v1 v2 v3 : Value) : Obj → Prop
  | mk (t1 t2 t3 : Nat) : binO P v1 v2 v3 (dictOf [en P "op" t1 v1, en P "left" t2 v2, en P "right" t3 v3] 3)
theorem bin_ctr {w : World} {led : List (Addr × Obj)} {v1 v2 v3 : Value} : Ctr w led 2 (.ref 248) [v1, v2, v3] (fun v led' => ∃ (c d : Nat) (o : Obj), v = .ref c ∧ binO w.params v1 v2 v3 o ∧ (∀ p ∈ led, p.1 < d) ∧ d < c ∧ led' = (c, instObj 248 d) :: (d, o) :: led) := by
  intro p loose mean mg mb dp un gd cn cs a ccd cl outer A₀ base h₀ L m hh9 gg9 dd9 tt9 oo9 Q E B F X N T hk hd hu hret
  k_dflt ((refine' call_cls ?k1 ?k2 ?k3 ?k4 ?k5 ?k6 ?_; (case k1 => k_asm); (case k2 => k_asm); (case k3 => k_asm); (case k4 => k_is); (case k5 => k_is); (case k6 => k_is); k_whole; intro x9z d9z h9z F9z N9z l19z l29z; (try k_lt l19z); (try k_lt2 l29z); (try k_sweep)); (refine' code_def ?k1 ?k2 ?k3 ?k4 ?k5 ?kA ?kF ?kK ?k6 ?k7 ?k8 ?k9 ?kB ?_ ?c2 ?c3 ?c4 ?c5; (case kA => exact rfl); (case kF => exact rfl); (case kK => first | assumption | exact rfl); (case k1 => k_asm); (case k2 => k_asm); (case k3 => k_asm); (case k4 => k_asm); (case k5 => k_asm); (case k6 => k_is); (case k7 => k_is); (case k8 => ktr_room); (case k9 => first | exact BindsTo.of_eq rfl | exact binds_K (by k_in) rfl (by k_is) rfl rfl rfl); (case c5 => decide); (case kB => exact locs rfl); (case c2 => exact rfl); (case c3 => exact rfl); (case c4 => exact rfl); k_whole; intro g9z9z L9z9z h9z9z FG9z9z F9z9z N9z9z B9z9z X9z9z T9z9z; (try dsimp only); (try k_fold)))
  k_steps
  (rename News h₀ _ _ _ => kN)
  (rename Fr h₀ _ _ _ => kF)
  exact hret _ _ _ _ ⟨_, _, _, rfl, ⟨_, _, _⟩, by assumption, by assumption, rfl⟩ kF kN
inductive iselO (P : Params) (v1 v2 v3 : Value) : Obj → Prop
  | mk (t1 t2 t3 : Nat) : iselO P v1 v2 v3 (dictOf [en P "value" t1 v1, en P "select" t2 v2, en P "negated" t3 v3] 3)
theorem isel_ctr {w : World} {led : List (Addr × Obj)} {v1 v2 v3 : Value} : Ctr w led 2 (.ref 326) [v1, v2, v3] (fun v led' => ∃ (c d : Nat) (o : Obj), v = .ref c ∧ iselO w.params v1 v2 v3 o ∧ (∀ p ∈ led, p.1 < d) ∧ d < c ∧ led' = (c, instObj 326 d) :: (d, o) :: led) := by
  intro p loose mean mg mb dp un gd cn cs a ccd cl outer A₀ base h₀ L m hh9 gg9 dd9 tt9 oo9 Q E B F X N T hk hd hu hret
  k_dflt ((refine' call_cls ?k1 ?k2 ?k3 ?k4 ?k5 ?k6 ?_; (case k1 => k_asm); (case k2 => k_asm); (case k3 => k_asm); (case k4 => k_is); (case k5 => k_is); (case k6 => k_is); k_whole; intro x9z d9z h9z F9z N9z l19z l29z; (try k_lt l19z); (try k_lt2 l29z); (try k_sweep)); (refine' code_def ?k1 ?k2 ?k3 ?k4 ?k5 ?kA ?kF ?kK ?k6 ?k7 ?k8 ?k9 ?kB ?_ ?c2 ?c3 ?c4 ?c5; (case kA => exact rfl); (case kF => exact rfl); (case kK => first | assumption | exact rfl); (case k1 => k_asm); (case k2 => k_asm); (case k3 => k_asm); (case k4 => k_asm); (case k5 => k_asm); (case k6 => k_is); (case k7 => k_is); (case k8 => ktr_room); (case k9 => first | exact BindsTo.of_eq rfl | exact binds_K (by k_in) rfl (by k_is) rfl rfl rfl); (case c5 => decide); (case kB => exact locs rfl); (case c2 => exact rfl); (case c3 => exact rfl); (case c4 => exact rfl); k_whole; intro g9z9z L9z9z h9z9z FG9z9z F9z9z N9z9z B9z9z X9z9z T9z9z; (try dsimp only); (try k_fold)))
  k_steps
  (rename News h₀ _ _ _ => kN)
  (rename Fr h₀ _ _ _ => kF)
  exact hret _ _ _ _ ⟨_, _, _, rfl, ⟨_, _, _⟩, by assumption, by assumption, rfl⟩ kF kN
noncomputable def exiO (P : Params) (v1 v2 : Value) (o : Obj) : Prop := ∃ t1 t2 : Nat, o = dictOf [en P "select" t1 v1, en P "negated" t2 v2] 2
theorem exi_ctr {w : World} {led : List (Addr × Obj)} {v1 v2 : Value} : Ctr w led 2 (.ref 352) [v1, v2] (fun v led' => ∃ (c d : Nat) (o : Obj), v = .ref c ∧ exiO w.params v1 v2 o ∧ (∀ p ∈ led, p.1 < d) ∧ d < c ∧ led' = (c, instObj 352 d) :: (d, o) :: led) := by
  intro p loose mean mg mb dp un gd cn cs a ccd cl outer A₀ base h₀ L m hh9 gg9 dd9 tt9 oo9 Q E B F X N T hk hd hu hret
  k_dflt ((refine' call_cls ?k1 ?k2 ?k3 ?k4 ?k5 ?k6 ?_; (case k1 => k_asm); (case k2 => k_asm); (case k3 => k_asm); (case k4 => k_is); (case k5 => k_is); (case k6 => k_is); k_whole; intro x9z d9z h9z F9z N9z l19z l29z; (try k_lt l19z); (try k_lt2 l29z); (try k_sweep)); (refine' code_def ?k1 ?k2 ?k3 ?k4 ?k5 ?kA ?kF ?kK ?k6 ?k7 ?k8 ?k9 ?kB ?_ ?c2 ?c3 ?c4 ?c5; (case kA => exact rfl); (case kF => exact rfl); (case kK => first | assumption | exact rfl); (case k1 => k_asm); (case k2 => k_asm); (case k3 => k_asm); (case k4 => k_asm); (case k5 => k_asm); (case k6 => k_is); (case k7 => k_is); (case k8 => ktr_room); (case k9 => first | exact BindsTo.of_eq rfl | exact binds_K (by k_in) rfl (by k_is) rfl rfl rfl); (case c5 => decide); (case kB => exact locs rfl); (case c2 => exact rfl); (case c3 => exact rfl); (case c4 => exact rfl); k_whole; intro g9z9z L9z9z h9z9z FG9z9z F9z9z N9z9z B9z9z X9z9z T9z9z; (try dsimp only); (try k_fold)))
  k_steps
  (rename News h₀ _ _ _ => kN)
  (rename Fr h₀ _ _ _ => kF)
  exact hret _ _ _ _ ⟨_, _, _, rfl, ⟨_, _, rfl⟩, by assumption, by assumption, rfl⟩ kF kN
noncomputable def scaO (P : Params) (v1 : Value) (o : Obj) : Prop := ∃ t1 : Nat, o = dictOf [en P "select" t1 v1] 1
theorem sca_ctr {w : World} {led : List (Addr × Obj)} {v1 : Value} : Ctr w led 2 (.ref 378) [v1] (fun v led' => ∃ (c d : Nat) (o : Obj), v = .ref c ∧ scaO w.params v1 o ∧ (∀ p ∈ led, p.1 < d) ∧ d < c ∧ led' = (c, instObj 378 d) :: (d, o) :: led) := by
  intro p loose mean mg mb dp un gd cn cs a ccd cl outer A₀ base h₀ L m hh9 gg9 dd9 tt9 oo9 Q E B F X N T hk hd hu hret
  k_dflt ((refine' call_cls ?k1 ?k2 ?k3 ?k4 ?k5 ?k6 ?_; (case k1 => k_asm); (case k2 => k_asm); (case k3 => k_asm); (case k4 => k_is); (case k5 => k_is); (case k6 => k_is); k_whole; intro x9z d9z h9z F9z N9z l19z l29z; (try k_lt l19z); (try k_lt2 l29z); (try k_sweep)); (refine' code_def ?k1 ?k2 ?k3 ?k4 ?k5 ?kA ?kF ?kK ?k6 ?k7 ?k8 ?k9 ?kB ?_ ?c2 ?c3 ?c4 ?c5; (case kA => exact rfl); (case kF => exact rfl); (case kK => first | assumption | exact rfl); (case k1 => k_asm); (case k2 => k_asm); (case k3 => k_asm); (case k4 => k_asm); (case k5 => k_asm); (case k6 => k_is); (case k7 => k_is); (case k8 => ktr_room); (case k9 => first | exact BindsTo.of_eq rfl | exact binds_K (by k_in) rfl (by k_is) rfl rfl rfl); (case c5 => decide); (case kB => exact locs rfl); (case c2 => exact rfl); (case c3 => exact rfl); (case c4 => exact rfl); k_whole; intro g9z9z L9z9z h9z9z FG9z9z F9z9z N9z9z B9z9z X9z9z T9z9z; (try dsimp only); (try k_fold)))
  k_steps
  (rename News h₀ _ _ _ => kN)
  (rename Fr h₀ _ _ _ => kF)
  exact hret _ _ _ _ ⟨_, _, _, rfl, ⟨_, rfl⟩, by assumption, by assumption, rfl⟩ kF kN
inductive calO (P : Params) (v1 v2 v3 v4 : Value) : Obj → Prop
  | mk (t1 t2 t3 t4 : Nat) : calO P v1 v2 v3 v4 (dictOf [en P "name" t1 v1, en P "arguments" t2 v2, en P "distinct" t3 v3, en P "star" t4 v4] 4)
theorem cal_ctr {w : World} {led : List (Addr × Obj)} {v1 v2 v3 v4 : Value} : Ctr w led 2 (.ref 428) [v1, v2, v3, v4] (fun v led' => ∃ (c d : Nat) (o : Obj), v = .ref c ∧ calO w.params v1 v2 v3 v4 o ∧ (∀ p ∈ led, p.1 < d) ∧ d < c ∧ led' = (c, instObj 428 d) :: (d, o) :: led) := by
  intro p loose mean mg mb dp un gd cn cs a ccd cl outer A₀ base h₀ L m hh9 gg9 dd9 tt9 oo9 Q E B F X N T hk hd hu hret
  k_dflt ((refine' call_cls ?k1 ?k2 ?k3 ?k4 ?k5 ?k6 ?_; (case k1 => k_asm); (case k2 => k_asm); (case k3 => k_asm); (case k4 => k_is); (case k5 => k_is); (case k6 => k_is); k_whole; intro x9z d9z h9z F9z N9z l19z l29z; (try k_lt l19z); (try k_lt2 l29z); (try k_sweep)); (refine' code_def ?k1 ?k2 ?k3 ?k4 ?k5 ?kA ?kF ?kK ?k6 ?k7 ?k8 ?k9 ?kB ?_ ?c2 ?c3 ?c4 ?c5; (case kA => exact rfl); (case kF => exact rfl); (case kK => first | assumption | exact rfl); (case k1 => k_asm); (case k2 => k_asm); (case k3 => k_asm); (case k4 => k_asm); (case k5 => k_asm); (case k6 => k_is); (case k7 => k_is); (case k8 => ktr_room); (case k9 => first | exact BindsTo.of_eq rfl | exact binds_K (by k_in) rfl (by k_is) rfl rfl rfl); (case c5 => decide); (case kB => exact locs rfl); (case c2 => exact rfl); (case c3 => exact rfl); (case c4 => exact rfl); k_whole; intro g9z9z L9z9z h9z9z FG9z9z F9z9z N9z9z B9z9z X9z9z T9z9z; (try dsimp only); (try k_fold)))
  k_steps
  (rename News h₀ _ _ _ => kN)
  (rename Fr h₀ _ _ _ => kF)
  exact hret _ _ _ _ ⟨_, _, _, rfl, ⟨_, _, _, _⟩, by assumption, by assumption, rfl⟩ kF kN
inductive rcolO (P : Params) (v1 v2 v3 : Value) : Obj → Prop
  | mk (t1 t2 t3 : Nat) : rcolO P v1 v2 v3 (dictOf [en P "value" t1 v1, en P "alias" t2 v2, en P "star_table" t3 v3] 3)
theorem rcol_ctr {w : World} {led : List (Addr × Obj)} {v1 v2 v3 : Value} : Ctr w led 2 (.ref 558) [v1, v2, v3] (fun v led' => ∃ (c d : Nat), v = .ref c ∧ (∀ p ∈ led, p.1 < c) ∧ led' = (c, instObj 558 d) :: led) := by
  intro p loose mean mg mb dp un gd cn cs a ccd cl outer A₀ base h₀ L m hh9 gg9 dd9 tt9 oo9 Q E B F X N T hk hd hu hret
  k_dflt ((refine' call_cls ?k1 ?k2 ?k3 ?k4 ?k5 ?k6 ?_; (case k1 => k_asm); (case k2 => k_asm); (case k3 => k_asm); (case k4 => k_is); (case k5 => k_is); (case k6 => k_is); k_whole; intro x9z d9z h9z F9z N9z l19z l29z; (try k_lt l19z); (try k_lt2 l29z); (try k_sweep)); (refine' code_def ?k1 ?k2 ?k3 ?k4 ?k5 ?kA ?kF ?kK ?k6 ?k7 ?k8 ?k9 ?kB ?_ ?c2 ?c3 ?c4 ?c5; (case kA => exact rfl); (case kF => exact rfl); (case kK => first | assumption | exact rfl); (case k1 => k_asm); (case k2 => k_asm); (case k3 => k_asm); (case k4 => k_asm); (case k5 => k_asm); (case k6 => k_is); (case k7 => k_is); (case k8 => ktr_room); (case k9 => first | exact BindsTo.of_eq rfl | exact binds_K (by k_in) rfl (by k_is) rfl rfl rfl); (case c5 => decide); (case kB => exact locs rfl); (case c2 => exact rfl); (case c3 => exact rfl); (case c4 => exact rfl); k_whole; intro g9z9z L9z9z h9z9z FG9z9z F9z9z N9z9z B9z9z X9z9z T9z9z; (try dsimp only); (try k_fold)))
  k_steps
  (rename News h₀ _ _ _ => kN)
  (rename Fr h₀ _ _ _ => kF)
  (rename @LT.lt Nat _ _ _ => kl)
  (rename ∀ p ∈ _, _ < _ => kll)
  exact hret _ _ _ _ ⟨_, _, rfl, fun p hp => Nat.lt_trans (kll p hp) kl, rfl⟩ kF (cb_drop kN (by walk_at "subs"))
inductive coreO (P : Params) (v1 v2 v3 v4 v5 v6 : Value) : Obj → Prop
  | mk (t1 t2 t3 t4 t5 t6 : Nat) : coreO P v1 v2 v3 v4 v5 v6 (dictOf [en P "columns" t1 v1, en P "distinct" t2 v2, en P "source" t3 v3, en P "where" t4 v4, en P "groups" t5 v5, en P "having" t6 v6] 6)
theorem core_ctr {w : World} {led : List (Addr × Obj)} {v1 v2 v3 v4 v5 v6 : Value} : Ctr w led 2 (.ref 584) [v1, v2, v3, v4, v5, v6] (fun v led' => ∃ (c d : Nat) (o : Obj), v = .ref c ∧ coreO w.params v1 v2 v3 v4 v5 v6 o ∧ (∀ p ∈ led, p.1 < d) ∧ d < c ∧ led' = (c, instObj 584 d) :: (d, o) :: led) := by
  intro p loose mean mg mb dp un gd cn cs a ccd cl outer A₀ base h₀ L m hh9 gg9 dd9 tt9 oo9 Q E B F X N T hk hd hu hret
  k_dflt ((refine' call_cls ?k1 ?k2 ?k3 ?k4 ?k5 ?k6 ?_; (case k1 => k_asm); (case k2 => k_asm); (case k3 => k_asm); (case k4 => k_is); (case k5 => k_is); (case k6 => k_is); k_whole; intro x9z d9z h9z F9z N9z l19z l29z; (try k_lt l19z); (try k_lt2 l29z); (try k_sweep)); (refine' code_def ?k1 ?k2 ?k3 ?k4 ?k5 ?kA ?kF ?kK ?k6 ?k7 ?k8 ?k9 ?kB ?_ ?c2 ?c3 ?c4 ?c5; (case kA => exact rfl); (case kF => exact rfl); (case kK => first | assumption | exact rfl); (case k1 => k_asm); (case k2 => k_asm); (case k3 => k_asm); (case k4 => k_asm); (case k5 => k_asm); (case k6 => k_is); (case k7 => k_is); (case k8 => ktr_room); (case k9 => first | exact BindsTo.of_eq rfl | exact binds_K (by k_in) rfl (by k_is) rfl rfl rfl); (case c5 => decide); (case kB => exact locs rfl); (case c2 => exact rfl); (case c3 => exact rfl); (case c4 => exact rfl); k_whole; intro g9z9z L9z9z h9z9z FG9z9z F9z9z N9z9z B9z9z X9z9z T9z9z; (try dsimp only); (try k_fold)))
  k_steps
  (rename News h₀ _ _ _ => kN)
  (rename Fr h₀ _ _ _ => kF)
  exact hret _ _ _ _ ⟨_, _, _, rfl, ⟨_, _, _, _, _, _⟩, by assumption, by assumption, rfl⟩ kF kN
noncomputable def valsO (P : Params) (v1 : Value) (o : Obj) : Prop := ∃ t1 : Nat, o = dictOf [en P "rows" t1 v1] 1
theorem vals_ctr {w : World} {led : List (Addr × Obj)} {v1 : Value} : Ctr w led 2 (.ref 608) [v1] (fun v led' => ∃ (c d : Nat) (o : Obj), v = .ref c ∧ valsO w.params v1 o ∧ (∀ p ∈ led, p.1 < d) ∧ d < c ∧ led' = (c, instObj 608 d) :: (d, o) :: led) := by
  intro p loose mean mg mb dp un gd cn cs a ccd cl outer A₀ base h₀ L m hh9 gg9 dd9 tt9 oo9 Q E B F X N T hk hd hu hret
  k_dflt ((refine' call_cls ?k1 ?k2 ?k3 ?k4 ?k5 ?k6 ?_; (case k1 => k_asm); (case k2 => k_asm); (case k3 => k_asm); (case k4 => k_is); (case k5 => k_is); (case k6 => k_is); k_whole; intro x9z d9z h9z F9z N9z l19z l29z; (try k_lt l19z); (try k_lt2 l29z); (try k_sweep)); (refine' code_def ?k1 ?k2 ?k3 ?k4 ?k5 ?kA ?kF ?kK ?k6 ?k7 ?k8 ?k9 ?kB ?_ ?c2 ?c3 ?c4 ?c5; (case kA => exact rfl); (case kF => exact rfl); (case kK => first | assumption | exact rfl); (case k1 => k_asm); (case k2 => k_asm); (case k3 => k_asm); (case k4 => k_asm); (case k5 => k_asm); (case k6 => k_is); (case k7 => k_is); (case k8 => ktr_room); (case k9 => first | exact BindsTo.of_eq rfl | exact binds_K (by k_in) rfl (by k_is) rfl rfl rfl); (case c5 => decide); (case kB => exact locs rfl); (case c2 => exact rfl); (case c3 => exact rfl); (case c4 => exact rfl); k_whole; intro g9z9z L9z9z h9z9z FG9z9z F9z9z N9z9z B9z9z X9z9z T9z9z; (try dsimp only); (try k_fold)))
  k_steps
  (rename News h₀ _ _ _ => kN)
  (rename Fr h₀ _ _ _ => kF)
  exact hret _ _ _ _ ⟨_, _, _, rfl, ⟨_, rfl⟩, by assumption, by assumption, rfl⟩ kF kN
noncomputable def seleO (P : Params) (v1 v2 v3 v4 : Value) (o : Obj) : Prop := ∃ t1 t2 t3 t4 : Nat, o = dictOf [en P "body" t1 v1, en P "order" t2 v2, en P "limit" t3 v3, en P "offset" t4 v4] 4
theorem sele_ctr {w : World} {led : List (Addr × Obj)} {v1 v2 v3 v4 : Value} : Ctr w led 2 (.ref 634) [v1, v2, v3, v4] (fun v led' => ∃ (c d : Nat), v = .ref c ∧ (∀ p ∈ led, p.1 < c) ∧ led' = (c, instObj 634 d) :: led) := by
  intro p loose mean mg mb dp un gd cn cs a ccd cl outer A₀ base h₀ L m hh9 gg9 dd9 tt9 oo9 Q E B F X N T hk hd hu hret
  k_dflt ((refine' call_cls ?k1 ?k2 ?k3 ?k4 ?k5 ?k6 ?_; (case k1 => k_asm); (case k2 => k_asm); (case k3 => k_asm); (case k4 => k_is); (case k5 => k_is); (case k6 => k_is); k_whole; intro x9z d9z h9z F9z N9z l19z l29z; (try k_lt l19z); (try k_lt2 l29z); (try k_sweep)); (refine' code_def ?k1 ?k2 ?k3 ?k4 ?k5 ?kA ?kF ?kK ?k6 ?k7 ?k8 ?k9 ?kB ?_ ?c2 ?c3 ?c4 ?c5; (case kA => exact rfl); (case kF => exact rfl); (case kK => first | assumption | exact rfl); (case k1 => k_asm); (case k2 => k_asm); (case k3 => k_asm); (case k4 => k_asm); (case k5 => k_asm); (case k6 => k_is); (case k7 => k_is); (case k8 => ktr_room); (case k9 => first | exact BindsTo.of_eq rfl | exact binds_K (by k_in) rfl (by k_is) rfl rfl rfl); (case c5 => decide); (case kB => exact locs rfl); (case c2 => exact rfl); (case c3 => exact rfl); (case c4 => exact rfl); k_whole; intro g9z9z L9z9z h9z9z FG9z9z F9z9z N9z9z B9z9z X9z9z T9z9z; (try dsimp only); (try k_fold)))
  k_steps
  (rename News h₀ _ _ _ => kN)
  (rename Fr h₀ _ _ _ => kF)
  (rename @LT.lt Nat _ _ _ => kl)
  (rename ∀ p ∈ _, _ < _ => kll)
  exact hret _ _ _ _ ⟨_, _, rfl, fun p hp => Nat.lt_trans (kll p hp) kl, rfl⟩ kF (cb_drop kN (by walk_at "subs"))
inductive ExprAt (P : Params) (led : List (Addr × Obj)) : Nat → Value → Bool → Prop
  | lit {n c d : Nat} {v : Value} {o : Obj} : (c, instObj 144 d) ∈ led → (d, o) ∈ led → litO P v o → ExprAt P led n (.ref c) false
  | isel {n c d : Nat} {v1 v2 v3 : Value} {o : Obj} : (c, instObj 326 d) ∈ led → (d, o) ∈ led → iselO P v1 v2 v3 o → ExprAt P led n (.ref c) true
  | exi {n c d : Nat} {v1 v2 : Value} {o : Obj} : (c, instObj 352 d) ∈ led → (d, o) ∈ led → exiO P v1 v2 o → ExprAt P led n (.ref c) true
  | sca {n c d : Nat} {v1 : Value} {o : Obj} : (c, instObj 378 d) ∈ led → (d, o) ∈ led → scaO P v1 o → ExprAt P led n (.ref c) true
  | una {n c d x : Nat} {op : Value} {o : Obj} {b : Bool} : (c, instObj 222 d) ∈ led → (d, o) ∈ led → unaO P op (.ref x) o → ExprAt P led n (.ref x) b → ExprAt P led (n + 1) (.ref c) b
  | bin {n c d x y : Nat} {op : Value} {o : Obj} {b1 b2 : Bool} : (c, instObj 248 d) ∈ led → (d, o) ∈ led → binO P op (.ref x) (.ref y) o → ExprAt P led n (.ref x) b1 → ExprAt P led n (.ref y) b2 → ExprAt P led (n + 1) (.ref c) (b1 || b2)
  | cal {n c d l k x y : Nat} {nm ds st : Value} {o : Obj} {b1 b2 : Bool} : (c, instObj 428 d) ∈ led → (d, o) ∈ led → calO P nm (.ref l) ds st o → (l, W.listOf #[.ref x, .ref y] k) ∈ led → ExprAt P led n (.ref x) b1 → ExprAt P led n (.ref y) b2 → ExprAt P led (n + 1) (.ref c) (b1 || b2)
theorem ExprAt.more {P : Params} {led led' : List (Addr × Obj)} {n : Nat} {v : Value} {b : Bool} (h : ExprAt P led n v b) (s : ∀ p ∈ led, p ∈ led') : ExprAt P led' n v b := by
  induction h with
  | lit h1 h2 h3 => exact .lit (s _ h1) (s _ h2) h3
  | isel h1 h2 h3 => exact .isel (s _ h1) (s _ h2) h3
  | exi h1 h2 h3 => exact .exi (s _ h1) (s _ h2) h3
  | sca h1 h2 h3 => exact .sca (s _ h1) (s _ h2) h3
  | una h1 h2 h3 _ ih => exact .una (s _ h1) (s _ h2) h3 ih
  | bin h1 h2 h3 _ _ i1 i2 => exact .bin (s _ h1) (s _ h2) h3 i1 i2
  | cal h1 h2 h3 h4 _ _ i1 i2 => exact .cal (s _ h1) (s _ h2) h3 (s _ h4) i1 i2
theorem ch_lit {w : World} {led : List (Addr × Obj)} {c d : Nat} {v : Value} {o : Obj} (h1 : (c, instObj 144 d) ∈ led) (h2 : (d, o) ∈ led) (h3 : litO w.params v o) :
    Ctr w led 2 (.ref 700) [.ref c] (fun r led' => ∃ (l k : Nat), r = .ref l ∧ led' = (l, W.listOf #[] k) :: led ∧ (∀ p ∈ led, p.1 < l)) := by
  intro p loose mean mg mb dp un gd cn cs a ccd cl outer A₀ base h₀ L m hh9 gg9 dd9 tt9 oo9 Q E B F X N T hk hd hu hret
  obtain ⟨t1, rfl⟩ := h3
  refine wpAny_call ?_
  k_dflt (refine' code_def ?k1 ?k2 ?k3 ?k4 ?k5 ?kA ?kF ?kK ?k6 ?k7 ?k8 ?k9 ?kB ?_ ?c2 ?c3 ?c4 ?c5; (case kA => exact rfl); (case kF => exact rfl); (case kK => first | assumption | exact rfl); (case k1 => k_asm); (case k2 => k_asm); (case k3 => k_asm); (case k4 => k_asm); (case k5 => k_asm); (case k6 => k_is); (case k7 => k_is); (case k8 => ktr_room); (case k9 => first | exact BindsTo.of_eq rfl | exact binds_K (by k_in) rfl (by k_is) rfl rfl rfl); (case c5 => decide); (case kB => exact locs rfl); (case c2 => exact rfl); (case c3 => exact rfl); (case c4 => exact rfl); k_whole; intro g9z L9z h9z FG9z F9z N9z B9z X9z T9z; (try dsimp only); (try k_fold))
  k_steps
  (rename News h₀ _ _ _ => kN)
  (rename Fr h₀ _ _ _ => kF)
  (rename _ ∧ AllLt _ _ => g1)
  exact hret _ _ _ _ ⟨_, _, rfl, rfl, ktn_ltOf g1.2⟩ kF (cb_drop kN (by walk_at "subs"))
theorem ch_una {w : World} {led : List (Addr × Obj)} {c d x : Nat} {op : Value} {o : Obj} (h1 : (c, instObj 222 d) ∈ led) (h2 : (d, o) ∈ led) (h3 : unaO w.params op (.ref x) o) :
    Ctr w led 2 (.ref 700) [.ref c] (fun r led' => ∃ (l k : Nat), r = .ref l ∧ led' = (l, W.listOf #[.ref x] k) :: led ∧ (∀ p ∈ led, p.1 < l)) := by
  intro p loose mean mg mb dp un gd cn cs a ccd cl outer A₀ base h₀ L m hh9 gg9 dd9 tt9 oo9 Q E B F X N T hk hd hu hret
  obtain ⟨t1, t2, rfl⟩ := h3
  refine wpAny_call ?_
  k_dflt (refine' code_def ?k1 ?k2 ?k3 ?k4 ?k5 ?kA ?kF ?kK ?k6 ?k7 ?k8 ?k9 ?kB ?_ ?c2 ?c3 ?c4 ?c5; (case kA => exact rfl); (case kF => exact rfl); (case kK => first | assumption | exact rfl); (case k1 => k_asm); (case k2 => k_asm); (case k3 => k_asm); (case k4 => k_asm); (case k5 => k_asm); (case k6 => k_is); (case k7 => k_is); (case k8 => ktr_room); (case k9 => first | exact BindsTo.of_eq rfl | exact binds_K (by k_in) rfl (by k_is) rfl rfl rfl); (case c5 => decide); (case kB => exact locs rfl); (case c2 => exact rfl); (case c3 => exact rfl); (case c4 => exact rfl); k_whole; intro g9z L9z h9z FG9z F9z N9z B9z X9z T9z; (try dsimp only); (try k_fold))
  k_steps
  (rename News h₀ _ _ _ => kN)
  (rename Fr h₀ _ _ _ => kF)
  exact hret _ _ _ _ ⟨_, _, rfl, rfl, by assumption⟩ kF kN
theorem ch_bin {w : World} {led : List (Addr × Obj)} {c d x y : Nat} {op : Value} {o : Obj} (h1 : (c, instObj 248 d) ∈ led) (h2 : (d, o) ∈ led) (h3 : binO w.params op (.ref x) (.ref y) o) :
    Ctr w led 2 (.ref 700) [.ref c] (fun r led' => ∃ (l k : Nat), r = .ref l ∧ led' = (l, W.listOf #[.ref x, .ref y] k) :: led ∧ (∀ p ∈ led, p.1 < l)) := by
  intro p loose mean mg mb dp un gd cn cs a ccd cl outer A₀ base h₀ L m hh9 gg9 dd9 tt9 oo9 Q E B F X N T hk hd hu hret
  obtain ⟨t1, t2, t3⟩ := h3
  refine wpAny_call ?_
  k_dflt (refine' code_def ?k1 ?k2 ?k3 ?k4 ?k5 ?kA ?kF ?kK ?k6 ?k7 ?k8 ?k9 ?kB ?_ ?c2 ?c3 ?c4 ?c5; (case kA => exact rfl); (case kF => exact rfl); (case kK => first | assumption | exact rfl); (case k1 => k_asm); (case k2 => k_asm); (case k3 => k_asm); (case k4 => k_asm); (case k5 => k_asm); (case k6 => k_is); (case k7 => k_is); (case k8 => ktr_room); (case k9 => first | exact BindsTo.of_eq rfl | exact binds_K (by k_in) rfl (by k_is) rfl rfl rfl); (case c5 => decide); (case kB => exact locs rfl); (case c2 => exact rfl); (case c3 => exact rfl); (case c4 => exact rfl); k_whole; intro g9z L9z h9z FG9z F9z N9z B9z X9z T9z; (try dsimp only); (try k_fold))
  k_steps
  (rename News h₀ _ _ _ => kN)
  (rename Fr h₀ _ _ _ => kF)
  exact hret _ _ _ _ ⟨_, _, rfl, rfl, by assumption⟩ kF kN
theorem ch_cal {w : World} {led : List (Addr × Obj)} {c d l k x y : Nat} {nm ds st : Value} {o : Obj} (h1 : (c, instObj 428 d) ∈ led) (h2 : (d, o) ∈ led) (h3 : calO w.params nm (.ref l) ds st o) (h4 : (l, W.listOf #[.ref x, .ref y] k) ∈ led) :
    Ctr w led 2 (.ref 700) [.ref c] (fun r led' => ∃ (l k : Nat), r = .ref l ∧ led' = (l, W.listOf #[.ref x, .ref y] k) :: led ∧ (∀ p ∈ led, p.1 < l)) := by
  intro p loose mean mg mb dp un gd cn cs a ccd cl outer A₀ base h₀ L m hh9 gg9 dd9 tt9 oo9 Q E B F X N T hk hd hu hret
  obtain ⟨t1, t2, t3, t4⟩ := h3
  refine wpAny_call ?_
  k_dflt (refine' code_def ?k1 ?k2 ?k3 ?k4 ?k5 ?kA ?kF ?kK ?k6 ?k7 ?k8 ?k9 ?kB ?_ ?c2 ?c3 ?c4 ?c5; (case kA => exact rfl); (case kF => exact rfl); (case kK => first | assumption | exact rfl); (case k1 => k_asm); (case k2 => k_asm); (case k3 => k_asm); (case k4 => k_asm); (case k5 => k_asm); (case k6 => k_is); (case k7 => k_is); (case k8 => ktr_room); (case k9 => first | exact BindsTo.of_eq rfl | exact binds_K (by k_in) rfl (by k_is) rfl rfl rfl); (case c5 => decide); (case kB => exact locs rfl); (case c2 => exact rfl); (case c3 => exact rfl); (case c4 => exact rfl); k_whole; intro g9z L9z h9z FG9z F9z N9z B9z X9z T9z; (try dsimp only); (try k_fold))
  k_steps
  (rename News h₀ _ _ _ => kN)
  (rename Fr h₀ _ _ _ => kF)
  exact hret _ _ _ _ ⟨_, _, rfl, rfl, by assumption⟩ kF kN
section
noncomputable def JH (L0 : List (Addr × Obj)) (bs : List Bool) (i : Nat) (ys : List Value) (n : List (Addr × Obj)) : Prop := n = L0 ∧ LSm.BoolsAre ys (bs.take i)
theorem bools_snoc {ys : List Value} {bs : List Bool} {b : Bool} (h : LSm.BoolsAre ys bs) : LSm.BoolsAre (ys ++ [.bool b]) (bs ++ [b]) := by
  induction h with
  | nil => exact .cons _ .nil
  | cons b hr ih => exact .cons _ ih
section
local macro_rules | `(tactic| lsm_bools) => `(tactic| assumption)
theorem hs_isel {w : World} {led : List (Addr × Obj)} {c d : Nat} {v1 v2 v3 : Value} {o : Obj} (h1 : (c, instObj 326 d) ∈ led) (h2 : (d, o) ∈ led) (h3 : iselO w.params v1 v2 v3 o) :
    Ctr w led 2 (.ref 719) [.ref c] (fun r led' => r = .bool true ∧ led' = led) := by
  intro p loose mean mg mb dp un gd cn cs a ccd cl outer A₀ base h₀ L m hh9 gg9 dd9 tt9 oo9 Q E B F X N T hk hd hu hret
  obtain ⟨t1, t2, t3⟩ := h3
  refine wpAny_call ?_
  k_dflt (refine' code_def ?k1 ?k2 ?k3 ?k4 ?k5 ?kA ?kF ?kK ?k6 ?k7 ?k8 ?k9 ?kB ?_ ?c2 ?c3 ?c4 ?c5; (case kA => exact rfl); (case kF => exact rfl); (case kK => first | assumption | exact rfl); (case k1 => k_asm); (case k2 => k_asm); (case k3 => k_asm); (case k4 => k_asm); (case k5 => k_asm); (case k6 => k_is); (case k7 => k_is); (case k8 => ktr_room); (case k9 => first | exact BindsTo.of_eq rfl | exact binds_K (by k_in) rfl (by k_is) rfl rfl rfl); (case c5 => decide); (case kB => exact locs rfl); (case c2 => exact rfl); (case c3 => exact rfl); (case c4 => exact rfl); k_whole; intro g9z L9z h9z FG9z F9z N9z B9z X9z T9z; (try dsimp only); (try k_fold))
  k_steps
  (rename News h₀ _ _ _ => kN)
  (rename Fr h₀ _ _ _ => kF)
  exact hret _ _ _ _ ⟨rfl, rfl⟩ kF (cb_drop kN (by walk_at "subs"))
theorem hs_exi {w : World} {led : List (Addr × Obj)} {c d : Nat} {v1 v2 : Value} {o : Obj} (h1 : (c, instObj 352 d) ∈ led) (h2 : (d, o) ∈ led) (h3 : exiO w.params v1 v2 o) :
    Ctr w led 2 (.ref 719) [.ref c] (fun r led' => r = .bool true ∧ led' = led) := by
  intro p loose mean mg mb dp un gd cn cs a ccd cl outer A₀ base h₀ L m hh9 gg9 dd9 tt9 oo9 Q E B F X N T hk hd hu hret
  obtain ⟨t1, t2, rfl⟩ := h3
  refine wpAny_call ?_
  k_dflt (refine' code_def ?k1 ?k2 ?k3 ?k4 ?k5 ?kA ?kF ?kK ?k6 ?k7 ?k8 ?k9 ?kB ?_ ?c2 ?c3 ?c4 ?c5; (case kA => exact rfl); (case kF => exact rfl); (case kK => first | assumption | exact rfl); (case k1 => k_asm); (case k2 => k_asm); (case k3 => k_asm); (case k4 => k_asm); (case k5 => k_asm); (case k6 => k_is); (case k7 => k_is); (case k8 => ktr_room); (case k9 => first | exact BindsTo.of_eq rfl | exact binds_K (by k_in) rfl (by k_is) rfl rfl rfl); (case c5 => decide); (case kB => exact locs rfl); (case c2 => exact rfl); (case c3 => exact rfl); (case c4 => exact rfl); k_whole; intro g9z L9z h9z FG9z F9z N9z B9z X9z T9z; (try dsimp only); (try k_fold))
  k_steps
  (rename News h₀ _ _ _ => kN)
  (rename Fr h₀ _ _ _ => kF)
  exact hret _ _ _ _ ⟨rfl, rfl⟩ kF (cb_drop kN (by walk_at "subs"))
theorem hs_sca {w : World} {led : List (Addr × Obj)} {c d : Nat} {v1 : Value} {o : Obj} (h1 : (c, instObj 378 d) ∈ led) (h2 : (d, o) ∈ led) (h3 : scaO w.params v1 o) :
    Ctr w led 2 (.ref 719) [.ref c] (fun r led' => r = .bool true ∧ led' = led) := by
  intro p loose mean mg mb dp un gd cn cs a ccd cl outer A₀ base h₀ L m hh9 gg9 dd9 tt9 oo9 Q E B F X N T hk hd hu hret
  obtain ⟨t1, rfl⟩ := h3
  refine wpAny_call ?_
  k_dflt (refine' code_def ?k1 ?k2 ?k3 ?k4 ?k5 ?kA ?kF ?kK ?k6 ?k7 ?k8 ?k9 ?kB ?_ ?c2 ?c3 ?c4 ?c5; (case kA => exact rfl); (case kF => exact rfl); (case kK => first | assumption | exact rfl); (case k1 => k_asm); (case k2 => k_asm); (case k3 => k_asm); (case k4 => k_asm); (case k5 => k_asm); (case k6 => k_is); (case k7 => k_is); (case k8 => ktr_room); (case k9 => first | exact BindsTo.of_eq rfl | exact binds_K (by k_in) rfl (by k_is) rfl rfl rfl); (case c5 => decide); (case kB => exact locs rfl); (case c2 => exact rfl); (case c3 => exact rfl); (case c4 => exact rfl); k_whole; intro g9z L9z h9z FG9z F9z N9z B9z X9z T9z; (try dsimp only); (try k_fold))
  k_steps
  (rename News h₀ _ _ _ => kN)
  (rename Fr h₀ _ _ _ => kF)
  exact hret _ _ _ _ ⟨rfl, rfl⟩ kF (cb_drop kN (by walk_at "subs"))
theorem hs_lit {w : World} {led : List (Addr × Obj)} {c d : Nat} {v1 : Value} {o : Obj} (h1 : (c, instObj 144 d) ∈ led) (h2 : (d, o) ∈ led) (h3 : litO w.params v1 o) :
    Ctr w led (0 + 4) (.ref 719) [.ref c] (fun r led' => r = .bool false ∧ led' = led) := by
  intro p loose mean mg mb dp un gd cn cs a ccd cl outer A₀ base h₀ L m hh9 gg9 dd9 tt9 oo9 Q E B F X N T hk hd hu hret
  have h3' := h3
  obtain ⟨t1, rfl⟩ := h3
  refine wpAny_call ?_
  k_dflt (refine' code_def ?k1 ?k2 ?k3 ?k4 ?k5 ?kA ?kF ?kK ?k6 ?k7 ?k8 ?k9 ?kB ?_ ?c2 ?c3 ?c4 ?c5; (case kA => exact rfl); (case kF => exact rfl); (case kK => first | assumption | exact rfl); (case k1 => k_asm); (case k2 => k_asm); (case k3 => k_asm); (case k4 => k_asm); (case k5 => k_asm); (case k6 => k_is); (case k7 => k_is); (case k8 => ktr_room); (case k9 => first | exact BindsTo.of_eq rfl | exact binds_K (by k_in) rfl (by k_is) rfl rfl rfl); (case c5 => decide); (case kB => exact locs rfl); (case c2 => exact rfl); (case c3 => exact rfl); (case c4 => exact rfl); k_whole; intro g9z L9z h9z FG9z F9z N9z B9z X9z T9z; (try dsimp only); (try k_fold))
  (repeat ((fail_if_success (with_reducible show wpAny _ _ (eval (Expr.ListComp _ _ _ _) _) _ _ _)); first | (k_unfold; (try dsimp only)) | walk1 | (dsimp only; walk1)))
  k_dflt (refine LCg.ListComp_U (F₀ := by k_asm) (by with_unfolding_all rfl) (by decide) (by rfl) (by decide) (by rfl) ?_)
  repeat walk1
  refine Held.out ?_
  k_dflt (refine' ctr_use (ch_lit (led := _) ?h1 ?h2 h3') ?B ?F ?X ?N (fun _ hp => hp) ?T ?hk ?hd ?hu ?_; walk_at "use")
  case h1 => k_mem
  case h2 => k_mem
  refine child_cur ?_
  intro l k hl h9 tk9 F9 N9
  refine LCg.CompSrc.ledger rfl F9 N9 (.head _) (by rw [sizeLine_eq]; exact Nat.le_of_ble_eq_true rfl) ?_
  intro g8
  refine compRest_inv (n := (#[] : Array Value).size) (JH _ []) ?step ?fin _ 0 [] _ (Nat.zero_add _) ⟨rfl, .nil⟩
  case step =>
    rintro i v ys news I oI C oC D m₂ h tk E' hi hv ⟨rfl, hys⟩ hC hm hF hN off ne
    exact absurd hi (Nat.not_lt_zero _)
  case fin =>
    rintro ys news ⟨rfl, hys⟩
    have hys' : LSm.BoolsAre ys [] := hys
    clear hys
    intro D' h' tk' F' N' o1
    k_steps
    (rename News h₀ _ _ _ => kN)
    (rename Fr h₀ _ _ _ => kF)
    exact hret _ _ _ _ ⟨rfl, rfl⟩ kF (cb_drop kN (by walk_at "subs"))
theorem hs_una {w : World} {led : List (Addr × Obj)} {c d : Nat} {x : Nat} {v1 : Value} {need : Nat} {b1 : Bool} {o : Obj} (h1 : (c, instObj 222 d) ∈ led) (h2 : (d, o) ∈ led) (h3 : unaO w.params v1 (.ref x) o) (i1 : ∀ led', (∀ p ∈ led, p ∈ led') → Ctr w led' need (.ref 719) [.ref x] (fun r led'' => r = .bool b1 ∧ led'' = led')) :
    Ctr w led (need + 4) (.ref 719) [.ref c] (fun r led' => r = .bool b1 ∧ led' = led) := by
  intro p loose mean mg mb dp un gd cn cs a ccd cl outer A₀ base h₀ L m hh9 gg9 dd9 tt9 oo9 Q E B F X N T hk hd hu hret
  have h3' := h3
  obtain ⟨t1, t2, rfl⟩ := h3
  refine wpAny_call ?_
  k_dflt (refine' code_def ?k1 ?k2 ?k3 ?k4 ?k5 ?kA ?kF ?kK ?k6 ?k7 ?k8 ?k9 ?kB ?_ ?c2 ?c3 ?c4 ?c5; (case kA => exact rfl); (case kF => exact rfl); (case kK => first | assumption | exact rfl); (case k1 => k_asm); (case k2 => k_asm); (case k3 => k_asm); (case k4 => k_asm); (case k5 => k_asm); (case k6 => k_is); (case k7 => k_is); (case k8 => ktr_room); (case k9 => first | exact BindsTo.of_eq rfl | exact binds_K (by k_in) rfl (by k_is) rfl rfl rfl); (case c5 => decide); (case kB => exact locs rfl); (case c2 => exact rfl); (case c3 => exact rfl); (case c4 => exact rfl); k_whole; intro g9z L9z h9z FG9z F9z N9z B9z X9z T9z; (try dsimp only); (try k_fold))
  (repeat ((fail_if_success (with_reducible show wpAny _ _ (eval (Expr.ListComp _ _ _ _) _) _ _ _)); first | (k_unfold; (try dsimp only)) | walk1 | (dsimp only; walk1)))
  k_dflt (refine LCg.ListComp_U (F₀ := by k_asm) (by with_unfolding_all rfl) (by decide) (by rfl) (by decide) (by rfl) ?_)
  repeat walk1
  refine Held.out ?_
  k_dflt (refine' ctr_use (ch_una (led := _) ?h1 ?h2 h3') ?B ?F ?X ?N (fun _ hp => hp) ?T ?hk ?hd ?hu ?_; walk_at "use")
  case h1 => k_mem
  case h2 => k_mem
  refine child_cur ?_
  intro l k hl h9 tk9 F9 N9
  refine LCg.CompSrc.ledger rfl F9 N9 (.head _) (by rw [sizeLine_eq]; exact Nat.le_of_ble_eq_true rfl) ?_
  intro g8
  refine compRest_inv (n := (#[.ref x] : Array Value).size) (JH _ [b1]) ?step ?fin _ 0 [] _ (Nat.zero_add _) ⟨rfl, .nil⟩
  case step =>
    rintro i v ys news I oI C oC D m₂ h tk E' hi hv ⟨rfl, hys⟩ hC hm hF hN off ne
    have hcs : (i = 0 ∧ v = .ref x) := by
      rcases i with _ | i
      · simp_all
      · exfalso; have : i + 1 < 1 := hi; omega
    rcases hcs with ⟨rfl, rfl⟩
    · k_steps
      refine Held.out ?_
      k_dflt (refine' ctr_use (i1 _ ?sub) ?B ?F ?X ?N (fun _ hp => hp) ?T ?hk ?hd ?hu ?_; walk_at "use")
      case sub => walk_at "subs"
      refine eq_cur ?_
      intro  h9 tk9 F9 N9
      exact LCg.CompEnd.intro F9 N9 _ (fun p hp => hp) off (.inr ⟨_, .head _, rfl, _, rfl⟩) ⟨rfl, bools_snoc hys⟩
  case fin =>
    rintro ys news ⟨rfl, hys⟩
    have hys' : LSm.BoolsAre ys [b1] := hys
    clear hys
    intro D' h' tk' F' N' o1
    k_steps
    (rename News h₀ _ _ _ => kN)
    (rename Fr h₀ _ _ _ => kF)
    exact hret _ _ _ _ ⟨rfl, rfl⟩ kF (cb_drop kN (by walk_at "subs"))
theorem hs_bin {w : World} {led : List (Addr × Obj)} {c d : Nat} {x y : Nat} {v1 : Value} {need : Nat} {b1 b2 : Bool} {o : Obj} (h1 : (c, instObj 248 d) ∈ led) (h2 : (d, o) ∈ led) (h3 : binO w.params v1 (.ref x) (.ref y) o) (i1 : ∀ led', (∀ p ∈ led, p ∈ led') → Ctr w led' need (.ref 719) [.ref x] (fun r led'' => r = .bool b1 ∧ led'' = led')) (i2 : ∀ led', (∀ p ∈ led, p ∈ led') → Ctr w led' need (.ref 719) [.ref y] (fun r led'' => r = .bool b2 ∧ led'' = led')) :
    Ctr w led (need + 4) (.ref 719) [.ref c] (fun r led' => r = .bool (b1 || b2) ∧ led' = led) := by
  intro p loose mean mg mb dp un gd cn cs a ccd cl outer A₀ base h₀ L m hh9 gg9 dd9 tt9 oo9 Q E B F X N T hk hd hu hret
  have h3' := h3
  obtain ⟨t1, t2, t3⟩ := h3
  refine wpAny_call ?_
  k_dflt (refine' code_def ?k1 ?k2 ?k3 ?k4 ?k5 ?kA ?kF ?kK ?k6 ?k7 ?k8 ?k9 ?kB ?_ ?c2 ?c3 ?c4 ?c5; (case kA => exact rfl); (case kF => exact rfl); (case kK => first | assumption | exact rfl); (case k1 => k_asm); (case k2 => k_asm); (case k3 => k_asm); (case k4 => k_asm); (case k5 => k_asm); (case k6 => k_is); (case k7 => k_is); (case k8 => ktr_room); (case k9 => first | exact BindsTo.of_eq rfl | exact binds_K (by k_in) rfl (by k_is) rfl rfl rfl); (case c5 => decide); (case kB => exact locs rfl); (case c2 => exact rfl); (case c3 => exact rfl); (case c4 => exact rfl); k_whole; intro g9z L9z h9z FG9z F9z N9z B9z X9z T9z; (try dsimp only); (try k_fold))
  (repeat ((fail_if_success (with_reducible show wpAny _ _ (eval (Expr.ListComp _ _ _ _) _) _ _ _)); first | (k_unfold; (try dsimp only)) | walk1 | (dsimp only; walk1)))
  k_dflt (refine LCg.ListComp_U (F₀ := by k_asm) (by with_unfolding_all rfl) (by decide) (by rfl) (by decide) (by rfl) ?_)
  repeat walk1
  refine Held.out ?_
  k_dflt (refine' ctr_use (ch_bin (led := _) ?h1 ?h2 h3') ?B ?F ?X ?N (fun _ hp => hp) ?T ?hk ?hd ?hu ?_; walk_at "use")
  case h1 => k_mem
  case h2 => k_mem
  refine child_cur ?_
  intro l k hl h9 tk9 F9 N9
  refine LCg.CompSrc.ledger rfl F9 N9 (.head _) (by rw [sizeLine_eq]; exact Nat.le_of_ble_eq_true rfl) ?_
  intro g8
  refine compRest_inv (n := (#[.ref x, .ref y] : Array Value).size) (JH _ [b1, b2]) ?step ?fin _ 0 [] _ (Nat.zero_add _) ⟨rfl, .nil⟩
  case step =>
    rintro i v ys news I oI C oC D m₂ h tk E' hi hv ⟨rfl, hys⟩ hC hm hF hN off ne
    have hcs : (i = 0 ∧ v = .ref x) ∨ (i = 1 ∧ v = .ref y) := by
      rcases i with _ | _ | i
      · simp_all
      · simp_all
      · exfalso; have : i + 1 + 1 < 2 := hi; omega
    rcases hcs with ⟨rfl, rfl⟩ | ⟨rfl, rfl⟩
    · k_steps
      refine Held.out ?_
      k_dflt (refine' ctr_use (i1 _ ?sub) ?B ?F ?X ?N (fun _ hp => hp) ?T ?hk ?hd ?hu ?_; walk_at "use")
      case sub => walk_at "subs"
      refine eq_cur ?_
      intro  h9 tk9 F9 N9
      exact LCg.CompEnd.intro F9 N9 _ (fun p hp => hp) off (.inr ⟨_, .head _, rfl, _, rfl⟩) ⟨rfl, bools_snoc hys⟩
    · k_steps
      refine Held.out ?_
      k_dflt (refine' ctr_use (i2 _ ?sub) ?B ?F ?X ?N (fun _ hp => hp) ?T ?hk ?hd ?hu ?_; walk_at "use")
      case sub => walk_at "subs"
      refine eq_cur ?_
      intro  h9 tk9 F9 N9
      exact LCg.CompEnd.intro F9 N9 _ (fun p hp => hp) off (.inr ⟨_, .head _, rfl, _, rfl⟩) ⟨rfl, bools_snoc hys⟩
  case fin =>
    rintro ys news ⟨rfl, hys⟩
    have hys' : LSm.BoolsAre ys [b1, b2] := hys
    clear hys
    intro D' h' tk' F' N' o1
    k_steps
    (rename News h₀ _ _ _ => kN)
    (rename Fr h₀ _ _ _ => kF)
    exact hret _ _ _ _ ⟨rfl, rfl⟩ kF (cb_drop kN (by walk_at "subs"))
theorem hs_cal {w : World} {led : List (Addr × Obj)} {c d : Nat} {x y l0 k0 : Nat} {v1 v3 v4 : Value} {need : Nat} {b1 b2 : Bool} {o : Obj} (h1 : (c, instObj 428 d) ∈ led) (h2 : (d, o) ∈ led) (h3 : calO w.params v1 (.ref l0) v3 v4 o) (h4 : (l0, W.listOf #[.ref x, .ref y] k0) ∈ led) (i1 : ∀ led', (∀ p ∈ led, p ∈ led') → Ctr w led' need (.ref 719) [.ref x] (fun r led'' => r = .bool b1 ∧ led'' = led')) (i2 : ∀ led', (∀ p ∈ led, p ∈ led') → Ctr w led' need (.ref 719) [.ref y] (fun r led'' => r = .bool b2 ∧ led'' = led')) :
    Ctr w led (need + 4) (.ref 719) [.ref c] (fun r led' => r = .bool (b1 || b2) ∧ led' = led) := by
  intro p loose mean mg mb dp un gd cn cs a ccd cl outer A₀ base h₀ L m hh9 gg9 dd9 tt9 oo9 Q E B F X N T hk hd hu hret
  have h3' := h3
  obtain ⟨t1, t2, t3, t4⟩ := h3
  refine wpAny_call ?_
  k_dflt (refine' code_def ?k1 ?k2 ?k3 ?k4 ?k5 ?kA ?kF ?kK ?k6 ?k7 ?k8 ?k9 ?kB ?_ ?c2 ?c3 ?c4 ?c5; (case kA => exact rfl); (case kF => exact rfl); (case kK => first | assumption | exact rfl); (case k1 => k_asm); (case k2 => k_asm); (case k3 => k_asm); (case k4 => k_asm); (case k5 => k_asm); (case k6 => k_is); (case k7 => k_is); (case k8 => ktr_room); (case k9 => first | exact BindsTo.of_eq rfl | exact binds_K (by k_in) rfl (by k_is) rfl rfl rfl); (case c5 => decide); (case kB => exact locs rfl); (case c2 => exact rfl); (case c3 => exact rfl); (case c4 => exact rfl); k_whole; intro g9z L9z h9z FG9z F9z N9z B9z X9z T9z; (try dsimp only); (try k_fold))
  (repeat ((fail_if_success (with_reducible show wpAny _ _ (eval (Expr.ListComp _ _ _ _) _) _ _ _)); first | (k_unfold; (try dsimp only)) | walk1 | (dsimp only; walk1)))
  k_dflt (refine LCg.ListComp_U (F₀ := by k_asm) (by with_unfolding_all rfl) (by decide) (by rfl) (by decide) (by rfl) ?_)
  repeat walk1
  refine Held.out ?_
  k_dflt (refine' ctr_use (ch_cal (led := _) ?h1 ?h2 h3' ?h4) ?B ?F ?X ?N (fun _ hp => hp) ?T ?hk ?hd ?hu ?_; walk_at "use")
  case h1 => k_mem
  case h2 => k_mem
  case h4 => k_mem
  refine child_cur ?_
  intro l k hl h9 tk9 F9 N9
  refine LCg.CompSrc.ledger rfl F9 N9 (.head _) (by rw [sizeLine_eq]; exact Nat.le_of_ble_eq_true rfl) ?_
  intro g8
  refine compRest_inv (n := (#[.ref x, .ref y] : Array Value).size) (JH _ [b1, b2]) ?step ?fin _ 0 [] _ (Nat.zero_add _) ⟨rfl, .nil⟩
  case step =>
    rintro i v ys news I oI C oC D m₂ h tk E' hi hv ⟨rfl, hys⟩ hC hm hF hN off ne
    have hcs : (i = 0 ∧ v = .ref x) ∨ (i = 1 ∧ v = .ref y) := by
      rcases i with _ | _ | i
      · simp_all
      · simp_all
      · exfalso; have : i + 1 + 1 < 2 := hi; omega
    rcases hcs with ⟨rfl, rfl⟩ | ⟨rfl, rfl⟩
    · k_steps
      refine Held.out ?_
      k_dflt (refine' ctr_use (i1 _ ?sub) ?B ?F ?X ?N (fun _ hp => hp) ?T ?hk ?hd ?hu ?_; walk_at "use")
      case sub => walk_at "subs"
      refine eq_cur ?_
      intro  h9 tk9 F9 N9
      exact LCg.CompEnd.intro F9 N9 _ (fun p hp => hp) off (.inr ⟨_, .head _, rfl, _, rfl⟩) ⟨rfl, bools_snoc hys⟩
    · k_steps
      refine Held.out ?_
      k_dflt (refine' ctr_use (i2 _ ?sub) ?B ?F ?X ?N (fun _ hp => hp) ?T ?hk ?hd ?hu ?_; walk_at "use")
      case sub => walk_at "subs"
      refine eq_cur ?_
      intro  h9 tk9 F9 N9
      exact LCg.CompEnd.intro F9 N9 _ (fun p hp => hp) off (.inr ⟨_, .head _, rfl, _, rfl⟩) ⟨rfl, bools_snoc hys⟩
  case fin =>
    rintro ys news ⟨rfl, hys⟩
    have hys' : LSm.BoolsAre ys [b1, b2] := hys
    clear hys
    intro D' h' tk' F' N' o1
    k_steps
    (rename News h₀ _ _ _ => kN)
    (rename Fr h₀ _ _ _ => kF)
    exact hret _ _ _ _ ⟨rfl, rfl⟩ kF (cb_drop kN (by walk_at "subs"))
end
theorem hsub_ctr {w : World} : ∀ (n : Nat) {led : List (Addr × Obj)} {v : Value} {b : Bool}, ExprAt w.params led n v b → Ctr w led (4 * n + 4) (.ref 719) [v] (fun r led' => r = .bool b ∧ led' = led) := by
  have up : ∀ {led : List (Addr × Obj)} {k k' : Nat} {f : Value} {vs : List Value} {R : Value → List (Addr × Obj) → Prop}, Ctr w led k f vs R → k ≤ k' → Ctr w led k' f vs R := fun C hk p loose mean mg mb dp un gd cn cs a ccd cl outer A₀ base h₀ L m hh9 gg9 dd9 tt9 oo9 Q E B F X N T hk' hd hu hret =>
    C p loose mean mg mb dp un gd cn cs a ccd cl outer A₀ base h₀ L m hh9 gg9 dd9 tt9 oo9 Q E B F X N T hk' (by omega) (by omega) hret
  intro n
  induction n with
  | zero =>
    intro led v b h
    cases h with
    | lit h1 h2 h3 => exact up (hs_lit h1 h2 h3) (by omega)
    | isel h1 h2 h3 => exact up (hs_isel h1 h2 h3) (by omega)
    | exi h1 h2 h3 => exact up (hs_exi h1 h2 h3) (by omega)
    | sca h1 h2 h3 => exact up (hs_sca h1 h2 h3) (by omega)
  | succ n ih =>
    intro led v b h
    cases h with
    | lit h1 h2 h3 => exact up (hs_lit h1 h2 h3) (by omega)
    | isel h1 h2 h3 => exact up (hs_isel h1 h2 h3) (by omega)
    | exi h1 h2 h3 => exact up (hs_exi h1 h2 h3) (by omega)
    | sca h1 h2 h3 => exact up (hs_sca h1 h2 h3) (by omega)
    | una h1 h2 h3 h5 => exact up (hs_una h1 h2 h3 fun led' sub => ih (h5.more sub)) (by omega)
    | bin h1 h2 h3 h5 h6 => exact up (hs_bin h1 h2 h3 (fun led' sub => ih (h5.more sub)) fun led' sub => ih (h6.more sub)) (by omega)
    | cal h1 h2 h3 h4 h5 h6 => exact up (hs_cal h1 h2 h3 h4 (fun led' sub => ih (h5.more sub)) fun led' sub => ih (h6.more sub)) (by omega)
end
noncomputable def RowAt (P : Params) (led : List (Addr × Obj)) (xs : List Nat) (bs : List Bool) : Prop := xs.length = bs.length ∧ ∀ (j x : Nat), xs[j]? = some x → ∃ b, bs[j]? = some b ∧ ExprAt P led 1 (.ref x) b
noncomputable def RowsAt (P : Params) (led : List (Addr × Obj)) (rs : List Nat) (bss : List (List Bool)) : Prop := rs.length = bss.length ∧ ∀ (i r : Nat), rs[i]? = some r → ∃ (xs : List Nat) (k : Nat) (bs : List Bool), (r, W.listOf (xs.map Value.ref).toArray k) ∈ led ∧ bss[i]? = some bs ∧ RowAt P led xs bs
theorem RowAt.more {P : Params} {led led' : List (Addr × Obj)} {xs : List Nat} {bs : List Bool} (R : RowAt P led xs bs) (h : ∀ p ∈ led, p ∈ led') : RowAt P led' xs bs := ⟨R.1, fun j x e => let ⟨b, e1, e2⟩ := R.2 j x e; ⟨b, e1, e2.more h⟩⟩
theorem RowsAt.more {P : Params} {led led' : List (Addr × Obj)} {rs : List Nat} {bss : List (List Bool)} (R : RowsAt P led rs bss) (h : ∀ p ∈ led, p ∈ led') : RowsAt P led' rs bss := ⟨R.1, fun i r e => let ⟨xs, k, bs, e1, e2, e3⟩ := R.2 i r e; ⟨xs, k, bs, h _ e1, e2, e3.more h⟩⟩
noncomputable def JP1 (led : List (Addr × Obj)) (bss : List (List Bool)) (i : Nat) (m : Str → Option Value) (n : List (Addr × Obj)) : Prop := n = led ∧ ∀ (j : Nat) (bs : List Bool), j < i → bss[j]? = some bs → bs.any id = false
noncomputable def JP2 (led : List (Addr × Obj)) (bs : List Bool) (i : Nat) (m : Str → Option Value) (n : List (Addr × Obj)) : Prop := n = led ∧ ∀ (j : Nat) (b : Bool), j < i → bs[j]? = some b → b = false
section
theorem plainN_ctr {w : World} {led : List (Addr × Obj)} {c d : Nat} {v1 v2 v3 v4 v5 v6 : Value} {o : Obj} (h1 : (c, instObj 584 d) ∈ led) (h2 : (d, o) ∈ led) (h3 : coreO w.params v1 v2 v3 v4 v5 v6 o) :
    Ctr w led 2 (.ref 759) [.ref c] (fun v led' => v = .bool false ∧ led' = led) := by
  intro p loose mean mg mb dp un gd cn cs a ccd cl outer A₀ base h₀ L m hh9 gg9 dd9 tt9 oo9 Q E B F X N T hk hd hu hret
  obtain ⟨t1, t2, t3, t4, t5, t6⟩ := h3
  refine wpAny_call ?_
  k_dflt (refine' code_def ?k1 ?k2 ?k3 ?k4 ?k5 ?kA ?kF ?kK ?k6 ?k7 ?k8 ?k9 ?kB ?_ ?c2 ?c3 ?c4 ?c5; (case kA => exact rfl); (case kF => exact rfl); (case kK => first | assumption | exact rfl); (case k1 => k_asm); (case k2 => k_asm); (case k3 => k_asm); (case k4 => k_asm); (case k5 => k_asm); (case k6 => k_is); (case k7 => k_is); (case k8 => ktr_room); (case k9 => first | exact BindsTo.of_eq rfl | exact binds_K (by k_in) rfl (by k_is) rfl rfl rfl); (case c5 => decide); (case kB => exact locs rfl); (case c2 => exact rfl); (case c3 => exact rfl); (case c4 => exact rfl); k_whole; intro g9z L9z h9z FG9z F9z N9z B9z X9z T9z; (try dsimp only); (try k_fold))
  k_steps
  (rename News h₀ _ _ _ => kN)
  (rename Fr h₀ _ _ _ => kF)
  exact hret _ _ _ _ ⟨rfl, rfl⟩ kF kN
theorem plain_ctr {w : World} {led : List (Addr × Obj)} {c d lr kr : Nat} {o : Obj} {rs : List Nat} {bss : List (List Bool)} (h1 : (c, instObj 608 d) ∈ led) (h2 : (d, o) ∈ led) (h3 : valsO w.params (.ref lr) o) (hl : (lr, W.listOf (rs.map Value.ref).toArray kr) ∈ led) (hR : RowsAt w.params led rs bss) :
    Ctr w led 10 (.ref 759) [.ref c] (fun v led' => v = .bool (!(bss.any fun bs => bs.any id)) ∧ led' = led) := by
  intro p loose mean mg mb dp un gd cn cs a ccd cl outer A₀ base h₀ L m hh9 gg9 dd9 tt9 oo9 Q E B F X N T hk hd hu hret
  obtain ⟨t1, rfl⟩ := h3
  refine wpAny_call ?_
  k_dflt (refine' code_def ?k1 ?k2 ?k3 ?k4 ?k5 ?kA ?kF ?kK ?k6 ?k7 ?k8 ?k9 ?kB ?_ ?c2 ?c3 ?c4 ?c5; (case kA => exact rfl); (case kF => exact rfl); (case kK => first | assumption | exact rfl); (case k1 => k_asm); (case k2 => k_asm); (case k3 => k_asm); (case k4 => k_asm); (case k5 => k_asm); (case k6 => k_is); (case k7 => k_is); (case k8 => ktr_room); (case k9 => first | exact BindsTo.of_eq rfl | exact binds_K (by k_in) rfl (by k_is) rfl rfl rfl); (case c5 => decide); (case kB => exact locs rfl); (case c2 => exact rfl); (case c3 => exact rfl); (case c4 => exact rfl); k_whole; intro g9z L9z h9z FG9z F9z N9z B9z X9z T9z; (try dsimp only); (try k_fold))
  (repeat ((fail_if_success (with_reducible show wpAny _ _ (exec (Stmt.For _ _ _ _ _) _) _ _ _)); first | (k_unfold; (try dsimp only)) | walk1 | (dsimp only; walk1)))
  ((rename Fr _ _ _ _ => lF9z); with_unfolding_all refine' For_invVF lF9z ?k1 ?k2 ?_; (case k1 => exact rfl); (case k2 => exact rfl))
  (repeat ((fail_if_success (with_reducible show wpAny _ _ (pyIter _) _ _ _)); first | (k_unfold; (try dsimp only)) | walk1 | (dsimp only; walk1)))
  refine loop_list (JP1 led bss) rfl (by k_asm) (by k_asm) (by k_mem) ?_ ?_ ?_ ?_
  · exact ⟨rfl, fun j bs hj => absurd hj (Nat.not_lt_zero _)⟩
  · rintro i m n ⟨rfl, _⟩; exact hl
  · rintro I i v m₁ n₁ it h tk hlt hv ⟨rfl, hJ⟩ hoff F1 N1
    rw [List.getElem?_map] at hv
    obtain ⟨r, hr, rfl⟩ := Option.map_eq_some_iff.mp hv
    obtain ⟨xs, k, bs, hxs, hbs, hRow⟩ := hR.2 _ _ hr
    (repeat ((fail_if_success (with_reducible show wpAny _ _ (exec (Stmt.For _ _ _ _ _) _) _ _ _)); first | (k_unfold; (try dsimp only)) | walk1 | (dsimp only; walk1)))
    ((rename Fr _ _ _ _ => lF9z); with_unfolding_all refine' For_invVF lF9z ?k1 ?k2 ?_; (case k1 => exact rfl); (case k2 => exact rfl))
    (repeat ((fail_if_success (with_reducible show wpAny _ _ (pyIter _) _ _ _)); first | (k_unfold; (try dsimp only)) | walk1 | (dsimp only; walk1)))
    refine loop_list (JP2 ((I, it) :: n₁) bs) rfl (by k_asm) (by k_asm) (.tail _ hxs) ?_ ?_ ?_ ?_
    · exact ⟨rfl, fun j b hj => absurd hj (Nat.not_lt_zero _)⟩
    · rintro i m n ⟨rfl, _⟩; exact .tail _ hxs
    · rintro I2 i2 v2 m₂ n₂ it2 h2 tk2 hlt2 hv2 ⟨rfl, hJ2⟩ hoff2 F2 N2
      rw [List.getElem?_map] at hv2
      obtain ⟨x, hx, rfl⟩ := Option.map_eq_some_iff.mp hv2
      obtain ⟨b, hb, hE⟩ := hRow.2 _ _ hx
      k_steps
      refine Held.out ?_
      k_dflt (refine' ctr_use (hsub_ctr 1 (hE.more ?sub)) ?B ?F ?X ?N (fun _ hp => hp) ?T ?hk ?hd ?hu ?_; walk_at "use")
      case sub => walk_at "subs"
      intro v9 led9 h9 tk9 hR9 F9 N9
      obtain ⟨e9, f9⟩ := hR9
      subst e9 f9
      cases b with
      | true =>
        k_steps
        (rename News h₀ _ _ _ => kN)
        (rename Fr h₀ _ _ _ => kF)
        refine hret _ _ _ _ ⟨?_, rfl⟩ kF (cb_drop kN (by walk_at "subs"))
        have : (bss.any fun bs => bs.any id) = true := List.any_eq_true.mpr ⟨bs, List.mem_of_getElem? hbs, List.any_eq_true.mpr ⟨true, List.mem_of_getElem? hb, rfl⟩⟩
        rw [this]; rfl
      | false =>
        k_steps
        refine UnrEnd.intro (by assumption) (by assumption) _ (fun p hp => hp) hoff2 ⟨rfl, fun j b' hj hb' => ?_⟩
        rcases Nat.lt_succ_iff_lt_or_eq.mp hj with hj | rfl
        · exact hJ2 j b' hj hb'
        · rw [hb] at hb'; exact (Option.some.inj hb').symm
    · rintro m₂ n₂ h2 tk2 ⟨rfl, hJ2⟩ F2 N2
      k_steps
      refine UnrEnd.intro (by assumption) (by assumption) _ (fun p hp => hp) hoff ⟨rfl, fun j bs' hj hb' => ?_⟩
      rcases Nat.lt_succ_iff_lt_or_eq.mp hj with hj | rfl
      · exact hJ j bs' hj hb'
      · rw [hbs] at hb'
        rw [← Option.some.inj hb']
        rw [List.any_eq_false]
        intro b hbm
        obtain ⟨q, hq⟩ := List.mem_iff_getElem?.mp hbm
        have hql : q < xs.length := by rw [hRow.1]; exact (List.getElem?_eq_some_iff.mp hq).1
        rw [hJ2 q b (by rw [List.length_map]; exact hql) hq]
        simp
  · rintro m₁ n₁ h tk ⟨rfl, hJ⟩ F1 N1
    k_steps
    (rename News h₀ _ _ _ => kN)
    (rename Fr h₀ _ _ _ => kF)
    refine hret _ _ _ _ ⟨?_, rfl⟩ kF kN
    have : (bss.any fun bs => bs.any id) = false := by
      rw [List.any_eq_false]
      intro bs hbm
      obtain ⟨q, hq⟩ := List.mem_iff_getElem?.mp hbm
      have hql : q < rs.length := by rw [hR.1]; exact (List.getElem?_eq_some_iff.mp hq).1
      rw [hJ q bs (by rw [List.length_map]; exact hql) hq]
      simp
    rw [this]; rfl
end
local macro_rules | `(tactic| walk_at "ctrs") => `(tactic| first | exact lit_ctr | exact una_ctr | exact bin_ctr | exact isel_ctr | exact exi_ctr | exact sca_ctr | exact cal_ctr | exact vals_ctr | exact core_ctr | exact sele_ctr | exact rcol_ctr)
local macro_rules | `(tactic| walk_at "cur") => `(tactic| first | (refine node_cur ?_; intro c9 d9 o9 O9 l9 l8 h9 tk9 F9 N9; (try k_lt l9); (try k_lt2 l8)) | (refine cls_cur ?_; intro c9 d9 l9 h9 tk9 F9 N9; (try k_lt l9)))
section
theorem at_front {h₀ h : Heap} {L : Addr} {q : Addr × Obj} (pre : List (Addr × Obj)) {rest : List (Addr × Obj)} (N : News h₀ L h (pre ++ q :: rest)) : News h₀ L h (q :: (pre ++ rest)) := fun x hx => N x (by
  simp only [List.mem_cons, List.mem_append] at hx ⊢
  rcases hx with h | h | h
  · exact .inr (.inl h)
  · exact .inl h
  · exact .inr (.inr h))
noncomputable def ExprR (P : Params) (src : Addr) (n : Nat) (rest : List (Addr × Obj)) (v : Value) (led' : List (Addr × Obj)) : Prop :=
  ∃ (t e nt : Nat) (b : Bool) (o' : Obj) (ext : List (Addr × Obj)), v = .ref t ∧ SrcO o' ∧ led' = (src, o') :: (ext ++ rest) ∧ (t, ({ cls := .type "tuple", data := .seq #[.ref e, .bool b] nt } : Obj)) ∈ ext ∧ ExprAt P ext n (.ref e) b ∧ (∀ p ∈ ext, src < p.1 ∧ ∀ q ∈ rest, q.1 < p.1)
theorem expr_cur {P : Params} {src : Addr} {n : Nat} {rest : List (Addr × Obj)} {K : Value → List (Addr × Obj) → Heap → Nat → Prop} (k9 : ∀ (t e nt : Nat) (b : Bool) (o' : Obj) (ext : List (Addr × Obj)), SrcO o' → (t, ({ cls := .type "tuple", data := .seq #[.ref e, .bool b] nt } : Obj)) ∈ ext → ExprAt P ext n (.ref e) b → (∀ p ∈ ext, src < p.1 ∧ ∀ q ∈ rest, q.1 < p.1) → ∀ h u, K (.ref t) ((src, o') :: (ext ++ rest)) h u) : ∀ v led' h u, ExprR P src n rest v led' → K v led' h u := by
  rintro _ _ h u ⟨t, e, nt, b, o', ext, rfl, a1, rfl, a2, a3, a4⟩
  exact k9 t e nt b o' ext a1 a2 a3 a4 h u
theorem ne_cons {a src : Nat} {o : Obj} {r : List (Addr × Obj)} (h : src < a) (H : ∀ p ∈ r, p.1 ≠ src) : ∀ p ∈ (a, o) :: r, p.1 ≠ src := List.forall_mem_cons.2 ⟨Nat.ne_of_gt h, H⟩
theorem ext_nil {src : Nat} {R : List (Addr × Obj)} : ∀ p ∈ ([] : List (Addr × Obj)), src < p.1 ∧ ∀ q ∈ R, q.1 < p.1 := List.forall_mem_nil _
theorem get3 {a b c v : Value} {i : Nat} (h : [a, b, c][i]? = some v) : v = a ∨ v = b ∨ v = c := by
  match i, h with
  | 0, h => exact .inl (Option.some.inj h).symm
  | 1, h => exact .inr (.inl (Option.some.inj h).symm)
  | 2, h => exact .inr (.inr (Option.some.inj h).symm)
theorem tup_front {h₀ h : Heap} {L : Addr} {s q : Addr × Obj} {e X : List (Addr × Obj)} (ht : q ∈ e) (N : News h₀ L h (s :: (e ++ X))) : News h₀ L h (s :: q :: (e ++ X)) := fun p hp => N p (by
  rcases List.mem_cons.mp hp with rfl | hp
  · exact .head _
  · rcases List.mem_cons.mp hp with rfl | hp
    · exact .tail _ (List.mem_append.mpr (.inl ht))
    · exact .tail _ hp)
theorem two_up {g h : Heap} {L : Addr} {src : Nat} {o2 : Obj} {q1 q2 : Addr × Obj} {x1 x2 pre rest : List (Addr × Obj)} (N : News g L h ((src, o2) :: (x2 ++ (q1 :: (x1 ++ (pre ++ rest)))))) (ht2 : q2 ∈ x2) (ht1 : q1 ∈ x1)
    (hx2 : ∀ p ∈ x2, src < p.1 ∧ ∀ q ∈ (q1 :: (x1 ++ (pre ++ rest))), q.1 < p.1) (hx1 : ∀ p ∈ x1, src < p.1 ∧ ∀ q ∈ (pre ++ rest), q.1 < p.1) (hpre : ∀ p ∈ pre, src < p.1 ∧ ∀ q ∈ rest, q.1 < p.1) :
    ∃ Z ext, Z = ext ++ rest ∧ News g L h ((src, o2) :: q2 :: q1 :: Z) ∧ (∀ p ∈ x1, p ∈ ext) ∧ (∀ p ∈ x2, p ∈ ext) ∧ (∀ p ∈ ext, src < p.1 ∧ ∀ q ∈ rest, q.1 < p.1) := by
  have h1 : ∀ p ∈ x1, src < p.1 ∧ ∀ q ∈ rest, q.1 < p.1 := fun p hp => ⟨(hx1 p hp).1, fun q hq => (hx1 p hp).2 q (List.mem_append.mpr (.inr hq))⟩
  have h2 : ∀ p ∈ x2, src < p.1 ∧ ∀ q ∈ rest, q.1 < p.1 := fun p hp => ⟨(hx2 p hp).1, fun q hq => (hx2 p hp).2 q (.tail _ (List.mem_append.mpr (.inr (List.mem_append.mpr (.inr hq)))))⟩
  refine ⟨_, x2 ++ (q1 :: (x1 ++ pre)), rfl, fun p hp => N p ?_, fun p hp => ?_, fun p hp => ?_, fun p hp => ?_⟩
  · simp only [List.mem_cons, List.mem_append] at hp ⊢
    rcases hp with h | h | h | (h | h | h | h) | h
    · exact .inl h
    · exact .inr (.inl (h ▸ ht2))
    · exact .inr (.inr (.inl h))
    · exact .inr (.inl h)
    · exact .inr (.inr (.inl h))
    · exact .inr (.inr (.inr (.inl h)))
    · exact .inr (.inr (.inr (.inr (.inl h))))
    · exact .inr (.inr (.inr (.inr (.inr h))))
  · exact List.mem_append.mpr (.inr (.tail _ (List.mem_append.mpr (.inl hp))))
  · exact List.mem_append.mpr (.inl hp)
  · rcases List.mem_append.mp hp with hp | hp
    · exact h2 p hp
    · rcases List.mem_cons.mp hp with rfl | hp
      · exact h1 _ ht1
      · rcases List.mem_append.mp hp with hp | hp
        · exact h1 p hp
        · exact hpre p hp
theorem two_up_k {g h : Heap} {L : Addr} {src : Nat} {o2 : Obj} {q1 q2 : Addr × Obj} {x1 x2 pre rest : List (Addr × Obj)} (N : News g L h ((src, o2) :: (x2 ++ (q1 :: (x1 ++ (pre ++ rest)))))) (ht2 : q2 ∈ x2) (ht1 : q1 ∈ x1) (hx2 : ∀ p ∈ x2, src < p.1 ∧ ∀ q ∈ (q1 :: (x1 ++ (pre ++ rest))), q.1 < p.1) (hx1 : ∀ p ∈ x1, src < p.1 ∧ ∀ q ∈ (pre ++ rest), q.1 < p.1) (hpre : ∀ p ∈ pre, src < p.1 ∧ ∀ q ∈ rest, q.1 < p.1) {G9 : Prop} (k9 : ∀ Z, ∀ ext, (Z = ext ++ rest) → (News g L h ((src, o2) :: q2 :: q1 :: Z)) → ((∀ p ∈ x1, p ∈ ext)) → ((∀ p ∈ x2, p ∈ ext)) → ((∀ p ∈ ext, src < p.1 ∧ ∀ q ∈ rest, q.1 < p.1)) → G9) : G9 := by
  obtain ⟨Z, ext, b1, b2, b3, b4, b5⟩ := two_up N ht2 ht1 hx2 hx1 hpre
  exact k9 Z ext b1 b2 b3 b4 b5
theorem fin_up {g h : Heap} {L : Addr} {s q1 q2 : Addr × Obj} (conc : List (Addr × Obj)) {Z ext rest : List (Addr × Obj)} (hZ : Z = ext ++ rest) (N : News g L h (conc ++ s :: q2 :: q1 :: Z)) : News g L h (s :: ((conc ++ (q2 :: q1 :: ext)) ++ rest)) := by
  subst hZ
  simpa only [List.append_assoc, List.cons_append] using at_front conc N
theorem app_ext {src : Nat} {a b R : List (Addr × Obj)} (h1 : ∀ p ∈ a, src < p.1 ∧ ∀ q ∈ R, q.1 < p.1) (h2 : ∀ p ∈ b, src < p.1 ∧ ∀ q ∈ R, q.1 < p.1) : ∀ p ∈ a ++ b, src < p.1 ∧ ∀ q ∈ R, q.1 < p.1 := fun p hp => (List.mem_append.mp hp).elim (h1 p) (h2 p)
theorem ne_app {src : Nat} {e X : List (Addr × Obj)} {R : List (Addr × Obj)} (h : ∀ p ∈ e, src < p.1 ∧ ∀ q ∈ R, q.1 < p.1) (H : ∀ p ∈ X, p.1 ≠ src) : ∀ p ∈ e ++ X, p.1 ≠ src := fun p hp => by
  rcases List.mem_append.mp hp with hp | hp
  · exact Nat.ne_of_gt (h p hp).1
  · exact H p hp
theorem ext_at {src a : Nat} {o : Obj} {rest e : List (Addr × Obj)} (h1 : src < a) (h2 : AllLt a rest) (H : ∀ p ∈ e, src < p.1 ∧ ∀ q ∈ rest, q.1 < p.1) : ∀ p ∈ (a, o) :: e, src < p.1 ∧ ∀ q ∈ rest, q.1 < p.1 := List.forall_mem_cons.2 ⟨⟨h1, ktn_ltOf h2⟩, H⟩
theorem ext_up {src a d : Nat} {o : Obj} {rest e : List (Addr × Obj)} (h0 : d < a) (h1 : src < d) (h2 : AllLt d rest) (H : ∀ p ∈ e, src < p.1 ∧ ∀ q ∈ rest, q.1 < p.1) : ∀ p ∈ (a, o) :: e, src < p.1 ∧ ∀ q ∈ rest, q.1 < p.1 := List.forall_mem_cons.2 ⟨⟨Nat.lt_trans h1 h0, fun q hq => Nat.lt_trans (ktn_ltOf h2 q hq) h0⟩, H⟩
theorem digA {d x : Nat} {rest : List (Addr × Obj)} {R : Prop} (h : x < d ∧ R) (k : x < d ∧ R → AllLt d rest) : AllLt d rest := k h
theorem digZ {d x : Nat} {Z ext rest : List (Addr × Obj)} (hZ : Z = ext ++ rest) : x < d ∧ AllLt d Z → AllLt d rest := fun h => allLt_of fun q hq => ktn_ltOf h.2 q (hZ ▸ List.mem_append.mpr (.inr hq))
local macro_rules | `(tactic| walk_at "diga") => `(tactic| first | exact fun h => h.2 | exact digZ (by assumption) | (refine dig2 ?_; walk_at "diga"))
local macro_rules | `(tactic| walk_at "lxext") => `(tactic| first | exact ext_nil | assumption | (refine ext_at ?h1 ?h2 ?b; (case h1 => walk_at "lt"); (case h2 => refine digA (by with_reducible assumption) ?_; walk_at "diga"); (case b => walk_at "lxext")) | (refine ext_up (by with_reducible assumption) ?h1 ?h2 ?b; (case h1 => walk_at "lt"); (case h2 => refine digA (by with_reducible assumption) ?_; walk_at "diga"); (case b => walk_at "lxext")))
section
theorem lexprG {w : World} {k n src dt : Nat} {o : Obj} {rest : List (Addr × Obj)} (hn : n ≤ 1) (hk5 : 5 ≤ k) (ho : SrcO o) (hr : ∀ p ∈ rest, p.1 ≠ src)
    (ih : n = 1 → 7 ≤ k ∧ ∀ {o : Obj} {rest : List (Addr × Obj)} {dt : Nat}, SrcO o → (∀ p ∈ rest, p.1 ≠ src) → Ctr w ((src, o) :: rest) 5 (.ref 1064) [.ref src, .int 0 dt] (ExprR w.params src 0 rest)) :
    Ctr w ((src, o) :: rest) k (.ref 1064) [.ref src, .int (n : Int) dt] (ExprR w.params src n rest) := by
  intro p loose mean mg mb dp un gd cn cs a ccd cl outer A₀ base h₀ L m hh9 gg9 dd9 tt9 oo9 Q E B F X N T hk hd hu hret
  have hd1 := hd
  have hu1 := hu
  replace hd : dp + 5 < recursionLimit := by omega
  replace hu : un + 40 < cLine := by omega
  refine wpAny_call ?_
  k_dflt (refine' code_def ?k1 ?k2 ?k3 ?k4 ?k5 ?kA ?kF ?kK ?k6 ?k7 ?k8 ?k9 ?kB ?_ ?c2 ?c3 ?c4 ?c5; (case kA => exact rfl); (case kF => exact rfl); (case kK => first | assumption | exact rfl); (case k1 => k_asm); (case k2 => k_asm); (case k3 => k_asm); (case k4 => k_asm); (case k5 => k_asm); (case k6 => k_is); (case k7 => k_is); (case k8 => ktr_room); (case k9 => first | exact BindsTo.of_eq rfl | exact binds_K (by k_in) rfl (by k_is) rfl rfl rfl); (case c5 => decide); (case kB => exact locs rfl); (case c2 => exact rfl); (case c3 => exact rfl); (case c4 => exact rfl); k_whole; intro g9z L9z h9z FG9z F9z N9z B9z X9z T9z; (try dsimp only); (try k_fold))
  k_steps
  refine Held.out ?_
  (rename News _ _ _ (_ :: _) => N1)
  k_dflt (refine' ctr_use (sele_ctr (led := (src, _) :: rest)) ?B ?F ?X N1 ?sub ?T ?hk ?hd ?hu ?_; ((case B => k_asm); (case F => k_asm); walk_at "use4"))
  case sub => walk_at "subs"
  refine cls_cur ?_
  intro c9 d9 l9 h9 tk9 F9 N9
  replace N9 := cb_drop N9 fun p hp => List.Mem.tail _ hp
  clear N1
  (try dsimp only)
  (try k_fold)
  k_steps
  · refine Held.out ?_
    (rename News _ _ _ (_ :: _) => N1)
    (rename SrcO _ => hs1)
    have N2 := at_front [_,_,_,_,_,_,_,_,_,_] N1
    dsimp only [List.cons_append, List.nil_append] at N2
    clear N1
    k_dflt (refine' ctr_use (one_ctr hs1 ?w1 (.head _) (by simp) (by simp)) ?B ?F ?X N2 (fun _ hp => hp) ?T ?hk ?hd ?hu ?_; ((case B => k_asm); (case F => k_asm); walk_at "use4"))
    · (repeat' (first | exact List.forall_mem_nil _ | assumption | refine ne_cons (by first | walk_at "lt" | omega) ?_))
    · refine one_cur ?_
      intro v9 i9 o9 hi9 hs9 h9 tk9 F9 N9
      (try dsimp only)
      (try k_fold)
      k_steps
      (rename News h₀ _ _ _ => kN)
      (rename Fr h₀ _ _ _ => kF)
      obtain rfl | rfl | rfl := get3 hi9
      · refine hret _ _ _ _ ⟨_, _, _, _, _, [_,_,_], rfl, hs9, rfl, .head _, .sca (.tail _ (.head _)) (.tail _ (.tail _ (.head _))) (by assumption), ?_⟩ kF (cb_drop kN (by walk_at "subs"))
        walk_at "lxext"
      · refine hret _ _ _ _ ⟨_, _, _, _, _, [_,_,_], rfl, hs9, rfl, .head _, .exi (.tail _ (.head _)) (.tail _ (.tail _ (.head _))) (by assumption), ?_⟩ kF (cb_drop kN (by walk_at "subs"))
        walk_at "lxext"
      · refine hret _ _ _ _ ⟨_, _, _, _, _, [_,_,_], rfl, hs9, rfl, .head _, .isel (.tail _ (.head _)) (.tail _ (.tail _ (.head _))) (by assumption), ?_⟩ kF (cb_drop kN (by walk_at "subs"))
        walk_at "lxext"
  · (rename News h₀ _ _ _ => kN)
    (rename Fr h₀ _ _ _ => kF)
    refine hret _ _ _ _ ⟨_, _, _, _, _, [_,_,_], rfl, by assumption, rfl, .head _, .lit (.tail _ (.head _)) (.tail _ (.tail _ (.head _))) (by assumption), ?_⟩ kF (cb_drop kN (by walk_at "subs"))
    walk_at "lxext"
  · (rename News h₀ _ _ _ => kN)
    (rename Fr h₀ _ _ _ => kF)
    refine hret _ _ _ _ ⟨_, _, _, _, _, [_,_,_], rfl, by assumption, rfl, .head _, .lit (.tail _ (.head _)) (.tail _ (.tail _ (.head _))) (by assumption), ?_⟩ kF (cb_drop kN (by walk_at "subs"))
    walk_at "lxext"
  · refine Held.out ?_
    (rename News _ _ _ (_ :: _) => N1)
    (rename SrcO _ => hs1)
    obtain rfl : n = 1 := by omega
    obtain ⟨h7, ih0⟩ := ih rfl
    replace hd : dp + 7 < recursionLimit := by omega
    replace hu : un + 56 < cLine := by omega
    replace N1 := cb_drop N1 fun p hp => List.Mem.tail _ hp
    k_dflt (refine' ctr_use (ih0 hs1 hr) ?B ?F ?X N1 (fun _ hp => hp) ?T ?hk ?hd ?hu ?_; ((case B => k_asm); (case F => k_asm); walk_at "use4"))
    refine expr_cur ?_
    intro t1 e1 n1 b1 o1 x1 hs2 ht1 hE1 hx1 h9 tk9 F9 N9
    have N9' := tup_front ht1 N9
    clear N1 N9
    (try dsimp only)
    (try k_fold)
    k_steps
    refine Held.out ?_
    have hX2 := ne_cons (o := { cls := .type "tuple", data := .seq #[.ref e1, .bool b1] n1 }) (hx1 _ ht1).1 (ne_app hx1 hr)
    k_dflt (refine' ctr_use (ih0 hs2 hX2) ?B ?F ?X N9' (fun _ hp => hp) ?T ?hk ?hd ?hu ?_; ((case B => k_asm); (case F => k_asm); walk_at "use4"))
    refine expr_cur ?_
    intro t2 e2 n2 b2 o2 x2 hs3 ht2 hE2 hx2 h9 tk9 F9 N9
    refine two_up_k (pre := []) N9 ht2 ht1 hx2 hx1 ext_nil ?_
    intro Z ext hZ N10 hs1' hs2' hext
    clear N9
    (try dsimp only)
    (try k_fold)
    clear N9' hX2
    have hq2 : ∀ p ∈ (t2, ({ cls := .type "tuple", data := .seq #[.ref e2, .bool b2] n2 } : Obj)) :: (t1, ({ cls := .type "tuple", data := .seq #[.ref e1, .bool b1] n1 } : Obj)) :: ext, src < p.1 ∧ ∀ q ∈ rest, q.1 < p.1 := List.forall_mem_cons.2 ⟨hext _ (hs2' _ ht2), List.forall_mem_cons.2 ⟨hext _ (hs1' _ ht1), hext⟩⟩
    have hE1' := hE1.more hs1'
    have hE2' := hE2.more hs2'
    clear hx1 hx2 hE1 hE2 hs1 hs2
    k_steps
    · (rename News h₀ _ _ _ => kN)
      (rename Fr h₀ _ _ _ => kF)
      have N3 := fin_up [_,_,_,_] hZ kN
      refine hret _ _ _ _ ⟨_, _, _, _, _, _, rfl, hs3, rfl, List.mem_append.mpr (.inl (.head _)), .una (List.mem_append.mpr (.inl (.tail _ (.head _)))) (List.mem_append.mpr (.inl (.tail _ (.tail _ (.head _))))) (by assumption) (hE1'.more fun p hp => List.mem_append.mpr (.inr (.tail _ (.tail _ hp)))), ?_⟩ kF N3
      exact app_ext (by walk_at "lxext") hq2
    · obtain rfl : b1 = true := by first | assumption | exact Bool.eq_true_of_not_eq_false (by assumption)
      (rename News h₀ _ _ _ => kN)
      (rename Fr h₀ _ _ _ => kF)
      have N3 := fin_up [_,_,_,_] hZ kN
      refine hret _ _ _ _ ⟨_, _, _, _, _, _, rfl, hs3, rfl, List.mem_append.mpr (.inl (.head _)), .bin (List.mem_append.mpr (.inl (.tail _ (.head _)))) (List.mem_append.mpr (.inl (.tail _ (.tail _ (.head _))))) (by assumption) (hE1'.more fun p hp => List.mem_append.mpr (.inr (.tail _ (.tail _ hp)))) (hE2'.more fun p hp => List.mem_append.mpr (.inr (.tail _ (.tail _ hp)))), ?_⟩ kF N3
      exact app_ext (by walk_at "lxext") hq2
    · obtain rfl : b1 = false := by first | assumption | exact Bool.eq_false_of_not_eq_true (by assumption)
      (rename News h₀ _ _ _ => kN)
      (rename Fr h₀ _ _ _ => kF)
      have N3 := fin_up [_,_,_,_] hZ kN
      refine hret _ _ _ _ ⟨_, _, _, _, _, _, rfl, hs3, rfl, List.mem_append.mpr (.inl (.head _)), .bin (List.mem_append.mpr (.inl (.tail _ (.head _)))) (List.mem_append.mpr (.inl (.tail _ (.tail _ (.head _))))) (by assumption) (hE1'.more fun p hp => List.mem_append.mpr (.inr (.tail _ (.tail _ hp)))) (hE2'.more fun p hp => List.mem_append.mpr (.inr (.tail _ (.tail _ hp)))), ?_⟩ kF N3
      exact app_ext (by walk_at "lxext") hq2
    · obtain rfl : b1 = true := by first | assumption | exact Bool.eq_true_of_not_eq_false (by assumption)
      (rename News h₀ _ _ _ => kN)
      (rename Fr h₀ _ _ _ => kF)
      have N3 := fin_up [_,_,_,_,_] hZ kN
      refine hret _ _ _ _ ⟨_, _, _, _, _, _, rfl, hs3, rfl, List.mem_append.mpr (.inl (.head _)), .cal (List.mem_append.mpr (.inl (.tail _ (.head _)))) (List.mem_append.mpr (.inl (.tail _ (.tail _ (.head _))))) (by assumption) (List.mem_append.mpr (.inl (.tail _ (.tail _ (.tail _ (.head _)))))) (hE1'.more fun p hp => List.mem_append.mpr (.inr (.tail _ (.tail _ hp)))) (hE2'.more fun p hp => List.mem_append.mpr (.inr (.tail _ (.tail _ hp)))), ?_⟩ kF N3
      exact app_ext (by walk_at "lxext") hq2
    · obtain rfl : b1 = false := by first | assumption | exact Bool.eq_false_of_not_eq_true (by assumption)
      (rename News h₀ _ _ _ => kN)
      (rename Fr h₀ _ _ _ => kF)
      have N3 := fin_up [_,_,_,_,_] hZ kN
      refine hret _ _ _ _ ⟨_, _, _, _, _, _, rfl, hs3, rfl, List.mem_append.mpr (.inl (.head _)), .cal (List.mem_append.mpr (.inl (.tail _ (.head _)))) (List.mem_append.mpr (.inl (.tail _ (.tail _ (.head _))))) (by assumption) (List.mem_append.mpr (.inl (.tail _ (.tail _ (.tail _ (.head _)))))) (hE1'.more fun p hp => List.mem_append.mpr (.inr (.tail _ (.tail _ hp)))) (hE2'.more fun p hp => List.mem_append.mpr (.inr (.tail _ (.tail _ hp)))), ?_⟩ kF N3
      exact app_ext (by walk_at "lxext") hq2
end
theorem lexpr0_ctr {w : World} {src dt : Nat} {o : Obj} {rest : List (Addr × Obj)} (ho : SrcO o) (hr : ∀ p ∈ rest, p.1 ≠ src) : Ctr w ((src, o) :: rest) 5 (.ref 1064) [.ref src, .int 0 dt] (ExprR w.params src 0 rest) :=
  lexprG (n := 0) (Nat.zero_le _) (Nat.le_refl _) ho hr (fun e => absurd e (by decide))
theorem lexpr1_ctr {w : World} {src dt : Nat} {o : Obj} {rest : List (Addr × Obj)} (ho : SrcO o) (hr : ∀ p ∈ rest, p.1 ≠ src) : Ctr w ((src, o) :: rest) 7 (.ref 1064) [.ref src, .int 1 dt] (ExprR w.params src 1 rest) :=
  lexprG (n := 1) (Nat.le_refl _) (by decide) ho hr (fun _ => ⟨Nat.le_refl _, fun ho hr => lexpr0_ctr ho hr⟩)
end
theorem turn20 (elt t1 i1 t2 i2 : PySem.Expr) (ifs : List PySem.Expr) (scope : Scope) (pos : Pos) (it acc : Value) (env : Env) :
    compTurn (.ListComp elt [⟨t1, i1, [], 0⟩, ⟨t2, i2, ifs, 0⟩] scope pos) 0 it acc env = (do
      standAt i1.pos
      match ← pyNext it with
      | none => pure (.done .next)
      | some v =>
        letOwnedTupleGo t1 it v
        assign t1 env v
        let x ← eval i2 env
        standAt i2.pos
        let x ← foldedSetIterable i2 env x
        let _ ← runOwn (.compStart (.ListComp elt [⟨t1, i1, [], 0⟩, ⟨t2, i2, ifs, 0⟩] scope pos) 1 (← holding [x] (pyIter x)) acc env) env
        again (.compLoop (.ListComp elt [⟨t1, i1, [], 0⟩, ⟨t2, i2, ifs, 0⟩] scope pos) 0 it acc env)) := by rfl
theorem turn21 (elt t1 i1 t2 i2 : PySem.Expr) (ifs : List PySem.Expr) (scope : Scope) (pos : Pos) (it acc : Value) (env : Env) :
    compTurn (.ListComp elt [⟨t1, i1, [], 0⟩, ⟨t2, i2, ifs, 0⟩] scope pos) 1 it acc env = (do
      standAt i2.pos
      match ← pyNext it with
      | none => pure (.done .next)
      | some v =>
        letOwnedTupleGo t2 it v
        assign t2 env v
        let mut ok := true
        for c in ifs do
          if ok then ok ← isTrue c env (eval c env)
        if ok then
          (do let _ ← call (.builtin "list.append") [acc, ← eval elt env])
        again (.compLoop (.ListComp elt [⟨t1, i1, [], 0⟩, ⟨t2, i2, ifs, 0⟩] scope pos) 1 it acc env)) := by rfl
section
variable {prog : Program} {w : World} {A : Around} {R : Result → Shared → Prop} {s : Shared} {env : Env} {it acc : Value} {scope : Scope} {pos : Pos}
noncomputable abbrev NoE : Value → Shared → Prop := fun _ _ => False
theorem noE {α : Type} {M : Model} {A : Around} {t : Sem α} {Q : α → Shared → Prop} {E : Value → Shared → Prop} {s : Shared} (h : wpAny M A t Q NoE s) : wpAny M A t Q E s := wpAny_mono h (fun _ _ q => q) fun _ _ f => f.elim
theorem loop20 {elt i1 t2 i2 : PySem.Expr} {x : Str} {px : Pos} {ifs : List PySem.Expr} (hh : A.handled = none) (I : Nat → Shared → Prop) (hs : ∀ x, foldedSetIterable i2 env x = pure x)
    (turn : ∀ n s, I n s → wpAny (model prog w) A (pyNext it) (fun r s₁ => match r with
      | none => R (.ok .next) s₁
      | some v => wpAny (model prog w) A (assign (.Name x px) env v) (fun _ s₂ => wpAny (model prog w) A (eval i2 env) (fun xv s₃ => wpAny (model prog w) A (pyIter xv) (fun it2 s₄ =>
          codeAny (model prog w) A (.compStart (.ListComp elt [⟨.Name x px, i1, [], 0⟩, ⟨t2, i2, ifs, 0⟩] scope pos) 1 it2 acc env) (fun r s' => match r with | .ok _ => ∃ m, m < n ∧ I m s' | .error _ => False) s₄) NoE s₃) NoE s₂) NoE s₁) NoE s)
    (n : Nat) (h : I n s) : codeAny (model prog w) A (.compLoop (.ListComp elt [⟨.Name x px, i1, [], 0⟩, ⟨t2, i2, ifs, 0⟩] scope pos) 0 it acc env) R s := by
  refine codeAny_loop rfl I (fun n s hI => ?_) n h
  show wpAny _ A ((compTurn (.ListComp elt [⟨.Name x px, i1, [], 0⟩, ⟨t2, i2, ifs, 0⟩] scope pos) 0 it acc env).onRaise (fun x => do noteFrame x env; theTreesLotGoes x)) _ _ s
  refine wpAny_noted (noE ?_)
  rw [turn20]
  refine wpAny_bind (wpAny_standAt (wpAny_bind (wpAny_mono (turn n s hI) (fun r s₁ h₁ => ?_) fun _ _ h' => h')))
  cases r with
  | none => exact wpAny_pure h₁
  | some v =>
    refine wpAny_bind (wpAny_of_eq rfl ?_)
    refine wpAny_bind (wpAny_mono h₁ (fun _ s₂ h₂ => ?_) fun _ _ h' => h')
    refine wpAny_bind (wpAny_mono h₂ (fun xv s₃ h₃ => ?_) fun _ _ h' => h')
    refine wpAny_bind (wpAny_standAt (wpAny_bind (wpAny_of_eq (hs xv) ?_)))
    refine wpAny_bind (wpAny_holding (wpAny_mono h₃ (fun it2 s₄ h₄ => ?_) fun _ _ h' => h'))
    refine wpAny_bind (wpAny_runOwn (h := none) ?_)
    have hA : A.mark none = A := by cases A; rfl
    rw [hA]
    refine codeAny_mono h₄ fun r s' hr => ?_
    cases r with
    | ok f => exact wpAny_pure ⟨rfl, hr⟩
    | error e => exact hr.elim
theorem start21 {elt t1 i1 t2 i2 : PySem.Expr} {ifs : List PySem.Expr}
    (h0 : codeAny (model prog w) A (.compLoop (.ListComp elt [⟨t1, i1, [], 0⟩, ⟨t2, i2, ifs, 0⟩] scope pos) 1 it acc env) R s)
    (h : wpAny (model prog w) A (pyIter it) (fun it' s' => codeAny (model prog w) A (.compLoop (.ListComp elt [⟨t1, i1, [], 0⟩, ⟨t2, i2, ifs, 0⟩] scope pos) 1 it' acc env) R s') NoE s) :
    codeAny (model prog w) A (.compStart (.ListComp elt [⟨t1, i1, [], 0⟩, ⟨t2, i2, ifs, 0⟩] scope pos) 1 it acc env) R s := by
  refine codeAny_of_tree ?_
  show wpAny _ _ ((compStart (.ListComp elt [⟨t1, i1, [], 0⟩, ⟨t2, i2, ifs, 0⟩] scope pos) 1 it acc env).onRaise (fun x => do noteFrame x env; standAt theWindowsPlace)) _ _ s
  refine wpAny_notedAt (noE ?_)
  unfold compStart
  show wpAny _ _ (ask >>= _) _ _ s
  refine wpAny_bind (wpAny_askSetting (wpAny_ite ?_))
  split
  · first
      | exact wpAny_bind (wpAny_pure (wpAny_pure (And.intro rfl h0)))
      | exact wpAny_pure (And.intro rfl h0)
  · first
      | exact wpAny_bind (wpAny_rule (wpAny_bind (wpAny_standAt (wpAny_bind (wpAny_mono h (fun it' s' h' => wpAny_pure (And.intro rfl h')) fun _ _ x => x)))))
      | (refine wpAny_bind (wpAny_rule ?_); show wpAny _ _ (standAt i2.pos >>= _) _ _ s; exact wpAny_bind (wpAny_standAt (wpAny_bind (wpAny_mono h (fun it' s' h' => wpAny_pure (And.intro rfl h')) fun _ _ x => x))))
theorem loop21 {elt t1 i1 i2 c : PySem.Expr} {x : Str} {px : Pos} (I : Nat → Shared → Prop)
    (turn : ∀ n s, I n s → wpAny (model prog w) A (pyNext it) (fun r s₁ => match r with
      | none => R (.ok .next) s₁
      | some v => wpAny (model prog w) A (assign (.Name x px) env v) (fun _ s₂ => wpAny (model prog w) A (isTrue c env (eval c env)) (fun ok s₃ => if ok = true then wpAny (model prog w) A (eval elt env) (fun x s₄ =>
            wpAny (model prog w) A (call (.builtin "list.append") [acc, x]) (fun _ s₅ => ∃ m, m < n ∧ I m s₅) NoE s₄) NoE s₃ else ∃ m, m < n ∧ I m s₃) NoE s₂) NoE s₁) NoE s)
    (n : Nat) (h : I n s) : codeAny (model prog w) A (.compLoop (.ListComp elt [⟨t1, i1, [], 0⟩, ⟨.Name x px, i2, [c], 0⟩] scope pos) 1 it acc env) R s := by
  refine codeAny_loop rfl I (fun n s hI => ?_) n h
  show wpAny _ A ((compTurn (.ListComp elt [⟨t1, i1, [], 0⟩, ⟨.Name x px, i2, [c], 0⟩] scope pos) 1 it acc env).onRaise (fun x => do noteFrame x env; theTreesLotGoes x)) _ _ s
  refine wpAny_noted (noE ?_)
  rw [turn21]
  refine wpAny_bind (wpAny_standAt (wpAny_bind (wpAny_mono (turn n s hI) (fun r s₁ h₁ => ?_) fun _ _ h' => h')))
  cases r with
  | none => exact wpAny_pure h₁
  | some v =>
    refine wpAny_bind (wpAny_of_eq rfl ?_)
    refine wpAny_bind (wpAny_mono h₁ (fun _ s₂ h₂ => ?_) fun _ _ h' => h')
    refine wpAny_bind (wpAny_tests_one (wpAny_mono h₂ (fun okb s₃ h₃ => ?_) fun _ _ h' => h'))
    cases okb with
    | false => exact wpAny_pure ⟨rfl, h₃⟩
    | true => exact wpAny_bind (wpAny_bind (wpAny_mono h₃ (fun x s₄ h₄ => wpAny_bind (wpAny_mono h₄ (fun _ s₅ h₅ => wpAny_pure (wpAny_pure ⟨rfl, h₅⟩)) fun _ _ h' => h')) fun _ _ h' => h'))
end
section
variable {prog : Program} {w : World} {A : Around} {E : Value → Shared → Prop} {s : Shared} {h₀ : Heap} {L : Addr} {m : Str → Option Value} {env : Env}
theorem flat_snoc {α β : Type} {f : α → List β} {l : List α} {i : Nat} {a : α} (h : l[i]? = some a) : (l.take (i + 1)).flatMap f = (l.take i).flatMap f ++ f a := by
  rw [List.take_add_one, h, List.flatMap_append]; simp
inductive L22 (s₁ : Shared) (C I D ax : Addr) (rs : List (Nat × List Value)) (pf : Value → Bool) (k : Nat) : Shared → Prop
  | mk (h' : Heap) (tk' : Nat) (m' : Str → Option Value) (i : Nat) (ys : List Value) (y1 : h'.Ns C m') (y2 : ∀ b o, s₁.heap.get? b = some o → h'.get? b = some o) (y3 : i ≤ rs.length) (y4 : k = rs.length + 1 - i) (y5 : h'.IsListIter I ax i) (y6 : h'.get? D = some (LCg.lst ys)) (y7 : ys = (rs.take i).flatMap (fun p => p.2.filter pf)) (y8 : ys.length ≤ 2 * i) : L22 s₁ C I D ax rs pf k { s₁ with heap := h', toks := tk' }
inductive L22b (s₁ : Shared) (C I D I2 ax r : Addr) (i : Nat) (ys row : List Value) (pf : Value → Bool) (k : Nat) : Shared → Prop
  | mk (h' : Heap) (tk' : Nat) (m' : Str → Option Value) (j : Nat) (zs : List Value) (y1 : h'.Ns C m') (y2 : ∀ b o, s₁.heap.get? b = some o → h'.get? b = some o) (y3 : j ≤ row.length) (y4 : k = row.length + 1 - j) (y5 : h'.IsListIter I2 r j) (y6 : h'.IsListIter I ax (i + 1)) (y7 : h'.get? D = some (LCg.lst zs)) (y8 : zs = ys ++ (row.take j).filter pf) (y9 : zs.length ≤ 2 * i + j) : L22b s₁ C I D I2 ax r i ys row pf k { s₁ with heap := h', toks := tk' }
inductive S22 (prog : Program) (w : World) (A : Around) (h₀ : Heap) (L : Addr) (m : Str → Option Value) (env : Env) (c : PySem.Expr) (x₂ : Str) (scope : Scope) (cl : List (Str × Addr)) (pf : Value → Bool) (Q : Value → Shared → Prop) (xv : Value) (s₁ : Shared) : Prop
  | mk (ax : Nat) (n : Nat) (rs : List (Nat × List Value)) (news : List (Addr × Obj)) (y1 : xv = .ref ax) (y2 : A.handled = none) (y3 : Fr h₀ L s₁.heap m) (y4 : News h₀ L s₁.heap news) (y5 : (ax, W.listOf (rs.map fun p => Value.ref p.1).toArray n) ∈ news) (y6 : (∀ p ∈ rs, (∃ k, (p.1, W.listOf p.2.toArray k) ∈ news) ∧ p.2.length ≤ 2)) (y7 : rs.length ≤ 2) (y8 : (∀ p ∈ rs, ∀ v ∈ p.2, ∀ C oC m₂ h tk (E' : Value → Shared → Prop), LCg.NsObj oC m₂ → m₂ x₂ = some v → Fr h₀ L h m → News h₀ L h ((C, oC) :: news) → wpAny (model prog w) A (isTrue c (compEnvC scope cl C env) (eval c (compEnvC scope cl C env))) (fun ok s₃ => ok = pf v ∧ ∃ tk' : Nat, s₃ = { s₁ with heap := h, toks := tk' }) E' { s₁ with heap := h, toks := tk })) (y9 : ∀ D h tk, Fr h₀ L h m → News h₀ L h ((D, LCg.lst (rs.flatMap fun p => p.2.filter pf)) :: news) → (∀ p ∈ news, p.1 < D) → Q (.ref D) { s₁ with heap := h, toks := tk }) : S22 prog w A h₀ L m env c x₂ scope cl pf Q xv s₁
theorem ListComp_22 {iter c : PySem.Expr} {x₁ x₂ : Str} {pe p1 p2 p3 : Pos} {scope : Scope} {cl : List (Str × Addr)} {pos : Pos} {Q : Value → Shared → Prop} (pf : Value → Bool)
    (_F₀ : Fr h₀ L s.heap m) (hclos : closureFor scope env = pure cl) (hcell : ∀ y ∈ scope.names, y.2 ≠ .cell) (hkind : scope.kind = .function)
    (hnames : ∀ y ∈ scope.names, y.2 = .local → scope.names.lookup y.1 = some .local) (hx₁ : scope.names.lookup x₁ = some .local) (hx₂ : scope.names.lookup x₂ = some .local)
    (h : wpAny (model prog w) A (eval iter env) (S22 prog w A h₀ L m env c x₂ scope cl pf Q) E s)
    (hs : ∀ x, foldedSetIterable iter env x = pure x := by intro _; rfl)
    (hd₁ : (x₁ == ("__debug__" : Str)) = false := by decide) (hd₂ : (x₂ == ("__debug__" : Str)) = false := by decide) :
    wpAny (model prog w) A (eval (.ListComp (.Name x₂ pe) [⟨.Name x₁ p1, iter, [], 0⟩, ⟨.Name x₂ p2, .Name x₁ p3, [c], 0⟩] scope pos) env) Q E s := by
  rw [eval_ListComp]
  refine wpAny_comprehension_free (use := none) rfl hs hclos hkind hnames (wpAny_mono h (fun xv s₁ h₁ => ?_) fun _ _ e => e)
  obtain ⟨ax, n, rs, news, rfl, hh, F, N, hax, hrs, hrl, htest, hQ⟩ := h₁
  have hl : s₁.heap.IsList ax (rs.map fun p => Value.ref p.1).toArray := ⟨_, (N _ hax).1, rfl, n, rfl⟩
  refine wpAny_pyIter_list hl ?_
  have nI := next_is_new F
  have LI : L < s₁.heap.objs.size := F.ns.lt
  refine wpAny_newObj_type (wpAny_newFunctionEnv hcell (by intro y hy; simp at hy) (fun h₁ hns₁ hsb₁ => ?_) hkind)
  dsimp only at hns₁ hsb₁ ⊢
  generalize hI1 : s₁.heap.push { cls := .type "list_iterator", data := .fields #[.ref ax, .int 0 0] } = H1 at hns₁ hsb₁ ⊢
  have sz1 : H1.objs.size = s₁.heap.objs.size + 1 := by rw [← hI1, Heap.size_push]
  have iI : H1.get? s₁.heap.objs.size = some { cls := .type "list_iterator", data := .fields #[.ref ax, .int 0 0] } := by rw [← hI1]; exact Heap.get?_push_size _ rfl
  have o1 : ∀ b o, s₁.heap.get? b = some o → H1.get? b = some o := fun b o e => by rw [← hI1]; exact Heap.get?_push_of_some _ e
  generalize hD2 : H1.push { cls := .type "list", dict := none, data := .seq ([] : List Value).toArray } = H2 at hns₁ hsb₁ ⊢
  have sz2 : H2.objs.size = H1.objs.size + 1 := by rw [← hD2, Heap.size_push]
  have o2 : ∀ b o, H1.get? b = some o → H2.get? b = some o := fun b o e => by rw [← hD2]; exact Heap.get?_push_of_some _ e
  have iD : H2.get? H1.objs.size = some (LCg.lst []) := by rw [← hD2]; exact Heap.get?_push_size _ rfl
  have k1 : ∀ b o, b ≠ H2.objs.size → H2.get? b = some o → h₁.get? b = some o := fun b o hb e => hsb₁.extBut b o hb (Heap.get?_push_of_some _ e)
  have iD' : h₁.get? H1.objs.size = some (LCg.lst []) := k1 _ _ (by rw [sz2]; exact Nat.ne_of_lt (Nat.lt_succ_self _)) iD
  have iI' : h₁.get? s₁.heap.objs.size = some { cls := .type "list_iterator", data := .fields #[.ref ax, .int 0 0] } := k1 _ _ (by rw [sz2, sz1]; exact Nat.ne_of_lt (Nat.lt_succ_of_lt (Nat.lt_succ_self _))) (o2 _ _ iI)
  have old : ∀ b o, s₁.heap.get? b = some o → h₁.get? b = some o := fun b o e => k1 b o (by rw [sz2, sz1]; exact Nat.ne_of_lt (Nat.lt_succ_of_lt (Nat.lt_succ_of_lt (Heap.lt_size e)))) (o2 _ _ (o1 _ _ e))
  have ltI : ∀ b o, s₁.heap.get? b = some o → b < s₁.heap.objs.size := fun b o e => Heap.lt_size e
  have I₀ : ∀ b, s₁.heap.objs.size ≤ b → h₀.get? b = none := fun b hb => by
    cases e : h₀.get? b with
    | none => rfl
    | some o => exact absurd (Heap.lt_size (F.keep _ _ e)) (Nat.not_lt.mpr hb)
  have szI : s₁.heap.objs.size < H1.objs.size := by rw [sz1]; exact Nat.lt_succ_self _
  have szD : H1.objs.size < H2.objs.size := by rw [sz2]; exact Nat.lt_succ_self _
  generalize s₁.heap.objs.size = I at *
  generalize H1.objs.size = D at *
  generalize H2.objs.size = C at *
  have hID : I ≠ D := Nat.ne_of_lt szI
  have hIC : I ≠ C := Nat.ne_of_lt (Nat.lt_trans szI szD)
  have hDC : D ≠ C := Nat.ne_of_lt szD
  have hlI : h₁.IsListIter I ax 0 := ⟨_, iI', rfl, rfl⟩
  have neI : ∀ b o, s₁.heap.get? b = some o → b ≠ I := fun b o e => Nat.ne_of_lt (ltI b o e)
  have neD : ∀ b o, s₁.heap.get? b = some o → b ≠ D := fun b o e => Nat.ne_of_lt (Nat.lt_trans (ltI b o e) szI)
  have neC : ∀ b o, s₁.heap.get? b = some o → b ≠ C := fun b o e => Nat.ne_of_lt (Nat.lt_trans (ltI b o e) (Nat.lt_trans szI szD))
  have CL : C ≠ L := Nat.ne_of_gt (Nat.lt_trans LI (Nat.lt_trans szI szD))
  have DL : D ≠ L := Nat.ne_of_gt (Nat.lt_trans LI szI)
  have C₀ : h₀.get? C = none := I₀ _ (Nat.le_of_lt (Nat.lt_trans szI szD))
  have D₀ : h₀.get? D = none := I₀ _ (Nat.le_of_lt szI)
  have loop : ∀ s₃ : Shared, s₃ = { s₁ with heap := h₁, toks := s₁.toks + ([] : List (Str × Value)).length } →
      codeAny (model prog w) A (.compLoop (.ListComp (.Name x₂ pe) [⟨.Name x₁ p1, iter, [], 0⟩, ⟨.Name x₂ p2, .Name x₁ p3, [c], 0⟩] scope pos) 0 (.ref I) (.ref D) (compEnvC scope cl C env))
        (compPost (model prog w) A E none Q (.ref D) C) s₃ := by
    rintro s₃ rfl
    refine loop20 hh
      (L22 s₁ C I D ax rs pf) (fun _ => rfl) ?_ (rs.length + 1)
      ⟨h₁, _, _, 0, [], hns₁, old, Nat.zero_le _, rfl, hlI, iD', rfl, Nat.le_refl _⟩
    rintro k s' ⟨h', tk', m', i, ys, hn', hk', hi, rfl, hit, hD', hys, hyl⟩
    have hl' : h'.IsList ax (rs.map fun p => Value.ref p.1).toArray := hl.at fun o e => hk' _ _ e
    by_cases hlt : i < rs.length
    · obtain ⟨⟨r, row⟩, hp⟩ : ∃ p, rs[i]? = some p := ⟨_, List.getElem?_eq_getElem hlt⟩
      have hpm := List.mem_of_getElem? hp
      obtain ⟨⟨kr, hrow⟩, hrowl⟩ := hrs _ hpm
      replace hrowl : row.length ≤ 2 := hrowl
      refine wpAny_pyNext_list_item hit hl' (x := .ref r) (by simp [hp]) fun h₂ hi₂ hs₂ => ?_
      have k₂ : ∀ b o, s₁.heap.get? b = some o → h₂.get? b = some o := fun b o e => hs₂.extBut _ _ (neI b o e) (hk' b o e)
      refine wpAny_assign_Name (wpAny_storeName_local (lookup_relabel_local hx₁) (hn'.sameBut hs₂ (Ne.symm hIC)) (fun h₃ n₃ s₃ => ?_) (by simp [compEnvC, relabel, hkind]))
      have k₃ : ∀ b o, s₁.heap.get? b = some o → h₃.get? b = some o := fun b o e => s₃.extBut _ _ (neC b o e) (k₂ b o e)
      refine wpAny_Name (wpAny_loadName_local (v := .ref r) (by simp [compEnvC, relabel, hkind]) (lookup_relabel_local hx₁) n₃ (by simp) ?_) hd₁
      have hlr₁ : s₁.heap.IsList r row.toArray := ⟨_, (N _ hrow).1, rfl, kr, rfl⟩
      have hlr : h₃.IsList r row.toArray := hlr₁.at fun o e => k₃ _ _ e
      have iI₃ : h₃.IsListIter I ax (i + 1) := hi₂.extBut s₃.extBut hIC
      have iD₃ : h₃.get? D = some (LCg.lst ys) := s₃.extBut _ _ hDC (hs₂.extBut _ _ (Ne.symm hID) hD')
      refine wpAny_pyIter_list hlr ?_
      dsimp only
      have lt₃ : ∀ b o, h₃.get? b = some o → b ≠ h₃.objs.size := fun b o e => Nat.ne_of_lt (Heap.lt_size e)
      have up₄ : ∀ b o, h₃.get? b = some o → (h₃.push { cls := .type "list_iterator", data := .fields #[.ref r, .int 0 0] }).get? b = some o := fun b o e => Heap.get?_push_of_some _ e
      have nC₄ := n₃.at' fun o e => up₄ _ o e
      have iI2 : (h₃.push { cls := .type "list_iterator", data := .fields #[.ref r, .int 0 0] }).IsListIter h₃.objs.size r 0 := ⟨_, Heap.get?_push_size _ rfl, rfl, rfl⟩
      have k₄ : ∀ b o, s₁.heap.get? b = some o → (h₃.push { cls := .type "list_iterator", data := .fields #[.ref r, .int 0 0] }).get? b = some o := fun b o e => up₄ b o (k₃ b o e)
      have iI₄ : (h₃.push { cls := .type "list_iterator", data := .fields #[.ref r, .int 0 0] }).IsListIter I ax (i + 1) := iI₃.at fun o e => up₄ _ _ e
      have iD₄ := up₄ _ _ iD₃
      have neI2 : ∀ b o, s₁.heap.get? b = some o → b ≠ h₃.objs.size := fun b o e => lt₃ b o (k₃ b o e)
      have hI2I : h₃.objs.size ≠ I := by obtain ⟨o, e, _⟩ := iI₃; exact (lt₃ _ _ e).symm
      have hI2D : h₃.objs.size ≠ D := (lt₃ _ _ iD₃).symm
      have hI2C : h₃.objs.size ≠ C := Nat.ne_of_gt n₃.lt
      generalize h₃.push { cls := .type "list_iterator", data := .fields #[.ref r, .int 0 0] } = h₄ at *
      generalize h₃.objs.size = I2 at *
      have loop2 : ∀ (s₅ : Shared) (tk₅ : Nat), s₅ = { s₁ with heap := h₄, toks := tk₅ } →
          codeAny (model prog w) A (.compLoop (.ListComp (.Name x₂ pe) [⟨.Name x₁ p1, iter, [], 0⟩, ⟨.Name x₂ p2, .Name x₁ p3, [c], 0⟩] scope pos) 1 (.ref I2) (.ref D) (compEnvC scope cl C env))
            (fun r s' => match r with
              | .ok _ => ∃ m, m < rs.length + 1 - i ∧ L22 s₁ C I D ax rs pf m s'
              | .error _ => False) s₅ := by
        rintro s₅ tk₅ rfl
        refine loop21
          (L22b s₁ C I D I2 ax r i ys row pf) ?_ (row.length + 1)
          ⟨h₄, _, _, 0, ys, nC₄, k₄, Nat.zero_le _, rfl, iI2, iI₄, iD₄, by simp, by omega⟩
        rintro k s' ⟨h', tk', m', j, zs, hn', hk', hj, rfl, hit2, hit1, hD', hzs, hzl⟩
        have hlr' : h'.IsList r row.toArray := hlr₁.at fun o e => hk' _ _ e
        by_cases hlt2 : j < row.length
        · obtain ⟨v, hv⟩ : ∃ v, row[j]? = some v := ⟨_, List.getElem?_eq_getElem hlt2⟩
          have hvm := List.mem_of_getElem? hv
          refine wpAny_pyNext_list_item hit2 hlr' (x := v) (by simp [hv]) fun h₅ hi₅ hs₅ => ?_
          refine wpAny_assign_Name (wpAny_storeName_local (lookup_relabel_local hx₂) (hn'.sameBut hs₅ (Ne.symm hI2C)) (fun h₆ n₆ s₆ => ?_) (by simp [compEnvC, relabel, hkind]))
          obtain ⟨oC, heC, hoC⟩ := LCg.ns_obj n₆
          have k₆ : ∀ b o, s₁.heap.get? b = some o → h₆.get? b = some o := fun b o e => s₆.extBut _ _ (neC b o e) (hs₅.extBut _ _ (neI2 b o e) (hk' b o e))
          have N₆ : News h₀ L h₆ ((C, oC) :: news) := fun p hp => by
            rcases List.mem_cons.mp hp with rfl | hp
            · exact ⟨heC, CL, C₀⟩
            · exact N.grown k₆ p hp
          have i2₆ : h₆.IsListIter I2 r (j + 1) := hi₅.extBut s₆.extBut hI2C
          have i1₆ : h₆.IsListIter I ax (i + 1) := (hit1.extBut hs₅.extBut (Ne.symm hI2I)).extBut s₆.extBut hIC
          have D₆ : h₆.get? D = some (LCg.lst zs) := s₆.extBut _ _ hDC (hs₅.extBut _ _ (Ne.symm hI2D) hD')
          have htk : (row.take (j + 1)).filter pf = (row.take j).filter pf ++ (if pf v then [v] else []) := by
            rw [List.take_add_one, hv, List.filter_append]
            cases hp : pf v <;> simp [hp]
          refine wpAny_mono (htest _ hpm v hvm C oC _ h₆ _ _ hoC (by simp) (F.keeps k₆) N₆) (fun okb s₇ h₇ => ?_) fun _ _ e => e
          obtain ⟨rfl, tk₇, rfl⟩ := h₇
          cases hpv : pf v with
          | false =>
            simp only [Bool.false_eq_true, if_false]
            refine ⟨row.length + 1 - (j + 1), by omega, h₆, _, _, j + 1, zs, n₆, k₆, hlt2, rfl, i2₆, i1₆, D₆, ?_, by omega⟩
            rw [htk, hpv, hzs]; simp
          | true =>
            simp only [if_true]
            refine wpAny_Name (wpAny_loadName_local (v := v) (by simp [compEnvC, relabel, hkind]) (lookup_relabel_local hx₂) n₆ (by simp) ?_) hd₂
            refine append_at (hsz := by rw [List.size_toArray, sizeLine_eq]; omega) D₆ fun h₈ s₈ hD₈ => ?_
            refine ⟨row.length + 1 - (j + 1), by omega, h₈, _, _, j + 1, zs ++ [v], n₆.sameBut s₈ (Ne.symm hDC), fun b o e => s₈.extBut _ _ (neD b o e) (k₆ b o e), hlt2, rfl, i2₆.extBut s₈.extBut hI2D, i1₆.extBut s₈.extBut hID, hD₈.trans (congrArg some (LCg.lst_snoc zs v)), ?_, ?_⟩
            · rw [htk, hpv, hzs]; simp
            · rw [List.length_append, List.length_singleton]; omega
        · obtain rfl : j = row.length := Nat.le_antisymm hj (Nat.not_lt.mp hlt2)
          refine wpAny_pyNext_list_end hh hit2 hlr' (by simp) fun h₅ he₅ => ?_
          refine ⟨rs.length + 1 - (i + 1), by omega, h₅, _, _, i + 1, zs, hn'.extBut he₅ (Ne.symm hI2C), fun b o e => he₅ _ _ (neI2 b o e) (hk' b o e), hlt, rfl, hit1.extBut he₅ (Ne.symm hI2I), he₅ _ _ (Ne.symm hI2D) hD', ?_, by omega⟩
          rw [List.take_length] at hzs
          rw [flat_snoc hp, hzs, hys]
      exact start21 (loop2 _ _ rfl) (wpAny_pyIter_listiter iI2 (loop2 _ _ rfl))
    · obtain rfl : i = rs.length := Nat.le_antisymm hi (Nat.not_lt.mp hlt)
      refine wpAny_pyNext_list_end hh hit hl' (by simp) fun h₂ he₂ => ?_
      rw [List.take_length] at hys
      refine ⟨m', hn'.extBut he₂ (Ne.symm hIC), fun h'' hs'' => ?_⟩
      have k'' : ∀ b o, s₁.heap.get? b = some o → h''.get? b = some o := fun b o e => hs''.extBut _ _ (neC b o e) (he₂ _ _ (neI b o e) (hk' b o e))
      refine hQ D h'' tk' (F.keeps k'') (fun p hp => ?_) fun p hp => Nat.lt_trans (ltI _ _ (N p hp).1) szI
      rcases List.mem_cons.mp hp with rfl | hp
      · rw [← hys]; exact ⟨hs''.extBut _ _ hDC (he₂ _ _ (Ne.symm hID) hD'), DL, D₀⟩
      · exact N.grown k'' p hp
  have hit : ∀ s₃ : Shared, s₃ = { s₁ with heap := h₁, toks := s₁.toks + ([] : List (Str × Value)).length } → s₃.heap.IsListIter I ax 0 := by rintro s₃ rfl; exact hlI
  exact codeAny_compStart_list (loop _ rfl) (wpAny_pyIter_listiter (hit _ rfl) (loop _ rfl))
end
section
variable {M : Model} {A : Around} {E : Value → Shared → Prop} {s' : Shared} {base g g₂ : Heap} {outer : List Env} {L e C d : Addr} {m : Str → Option Value} {env : Env} {Q : Unit → Shared → Prop} {news : List (Addr × Obj)}
theorem leave_onDX (hf : env.frame = some L) (K : Below A base outer g) (F : Fr g L g₂ m) (R : RaisedD base g₂ (env :: outer) e C d news s'.heap) (hsm : g₂.UpToSlots s'.heap)
    (hQ : ∀ h', RaisedD base g outer e C d news h' → g.UpToSlots h' → Q () { s' with heap := h' }) :
    wpAny M (A.deeper env) (leaving env (.ref e)) Q E s' := by
  obtain ⟨R, o, ho, hd⟩ := R
  refine wpAny_mono (SafeT.any (safe_leaving _ _) (Q := fun _ s₂ => ∃ h', s₂ = { s' with heap := h' } ∧ RaisedSN base g outer e (.ref C) news h' ∧ g.UpToSlots h') (E := fun _ _ => False) ?_) ?_ (fun _ _ x => x.1.elim)
  · obtain ⟨B, a0, hB, hBG, hl, hfl⟩ := R
    exact wpAny_leaves_onW (Around.frames_deeper K.stack) hf hfl fun h' x1 x2 =>
      ⟨h', rfl, ⟨B, a0, hB, fun b o q nm => hBG b o (F.keep b o q) (fun hm => by
        rcases kts_memX hf hm with z | z
        · rw [z, kts_self F] at q
          cases q
        · exact nm z), fun q hq => ⟨(hl q hq).1, kts_none F.keep (hl q hq).2.1, (hl q hq).2.2⟩, x1⟩, (Heap.UpToSlots.of_keeps F.keep).trans (hsm.trans x2)⟩
  · rintro u s₂ ⟨⟨h', rfl, R, U⟩, D⟩
    obtain ⟨o', ho', hd'⟩ := D _ _ ho
    exact hQ h' ⟨R, o', ho', hd'.trans hd⟩ U
end
theorem among_pos {p q : Pos} (h1 : p.line = q.line) (h2 : p.col = q.col) (l : List Value) : codeAmong p l = codeAmong q l := by
  fun_induction codeAmong p l with
  | case1 a t b u c r hc => simp only [codeAmong, ← h1, ← h2, hc, if_true]
  | case2 a t b u c r hc ih => simp only [codeAmong, ← h1, ← h2]; rw [if_neg hc]; exact ih
  | case3 l hl =>
    unfold codeAmong
    split
    · exact (hl _ _ _ _ _ _ rfl).elim
    · rfl
theorem among_ne {p q : Pos} {c : Value} (h : ¬ (p.line = q.line ∧ p.col = q.col)) (l : List Value) (hl : TriplesOk l) : codeAmong p (l ++ [rawInt q.line, rawInt q.col, c]) = codeAmong p l := by
  fun_induction TriplesOk l with
  | case1 =>
    simp only [List.nil_append, codeAmong, rawInt]
    rw [if_neg]
    intro hc
    refine h ?_
    simp only [Bool.and_eq_true, beq_iff_eq] at hc
    exact ⟨by omega, by omega⟩
  | case2 a t b u x r ih =>
    simp only [List.cons_append, codeAmong]
    split
    · rfl
    · exact ih hl
  | case3 l h1 h2 => exact hl.elim
inductive CodeR (qual : Str) (c' : Addr) (led : List (Addr × Obj)) : Prop
  | mk (oc : Obj) (vs : Array Value) (t : Nat) (y1 : (c', (oc : Obj)) ∈ led) (y2 : oc.data = .fields vs) (y3 : vs[1]? = some (.str qual t)) : CodeR qual c' led
theorem CodeR.more {qual : Str} {c' : Addr} {l l' : List (Addr × Obj)} (h : CodeR qual c' l) (s : ∀ p ∈ l, p ∈ l') : CodeR qual c' l' := let ⟨oc, vs, t, a, b, c⟩ := h; ⟨oc, vs, t, s _ a, b, c⟩
noncomputable def Codes (qual : Str) (poss : List (Nat × Nat)) (ps : Array Value) (rest : List (Addr × Obj)) : Prop :=
  TriplesOk ps.toList ∧ ∀ q ∈ poss, codeAmong ⟨q.1, q.2, 0, 0⟩ ps.toList = none ∨ ∃ c', codeAmong ⟨q.1, q.2, 0, 0⟩ ps.toList = some (.ref c') ∧ CodeR qual c' rest
theorem Codes.more {qual : Str} {poss : List (Nat × Nat)} {ps : Array Value} {l l' : List (Addr × Obj)} (h : Codes qual poss ps l) (s : ∀ p ∈ l, p ∈ l') : Codes qual poss ps l' :=
  ⟨h.1, fun q hq => (h.2 q hq).imp id fun ⟨c', a, b⟩ => ⟨c', a, b.more s⟩⟩
theorem Codes.nil {qual : Str} {poss : List (Nat × Nat)} {l : List (Addr × Obj)} : Codes qual poss #[] l := ⟨trivial, fun _ _ => .inl rfl⟩
theorem Codes.push {qual : Str} {poss : List (Nat × Nat)} {ps : Array Value} {l l' : List (Addr × Obj)} {pos : Pos} {c' : Addr} (h : Codes qual poss ps l) (s : ∀ p ∈ l, p ∈ l') (hn : codeAmong pos ps.toList = none) (hc : CodeR qual c' l') : Codes qual poss (ps ++ #[rawInt pos.line, rawInt pos.col, .ref c']) l' := by
  have e : (ps ++ #[rawInt pos.line, rawInt pos.col, .ref c']).toList = ps.toList ++ [rawInt pos.line, rawInt pos.col, .ref c'] := by simp
  refine ⟨by rw [e]; exact TriplesOk_snoc _ _ _ _ h.1, fun q hq => ?_⟩
  rw [e]
  by_cases hp : q.1 = pos.line ∧ q.2 = pos.col
  · refine .inr ⟨c', ?_, hc⟩
    rw [among_pos (q := pos) hp.1 hp.2]
    exact codeAmong_snoc _ h.1 hn
  · rw [among_ne hp _ h.1]
    exact (h.2 q hq).imp id fun ⟨c', a, b⟩ => ⟨c', a, b.more s⟩
section
variable {M : Model} {A : Around} {E : Value → Shared → Prop} {s : Shared} {h₀ : Heap} {L a c P : Addr} {m mg mb : Str → Option Value} {cn : Str} {cs : Scope} {ccd : Value} {cl : List (Str × Addr)} {rest : List (Addr × Obj)}
  {p : Program} {loose : List Str} {mean : ExcName → Option Value} {params : Arguments} {body : PySem.Expr} {scope : Scope} {ps : Array Value} {pos : Pos} {clos : List (Str × Addr)}
theorem lam_any {Q : Value → Shared → Prop} {poss : List (Nat × Nat)} (hdef : defaultsOf params (envX cn cs L a ccd cl) = ([], [])) (F : Fr h₀ L s.heap m) (N : News h₀ L s.heap ((P, tabObj ps) :: rest)) (T : Top p loose mean mg mb h₀) (C : CodeHd h₀ c P) (hcd : ccd = .ref c)
    (hcl : closureFor scope (envX cn cs L a ccd cl) = pure clos) {Zc : List (Addr × Obj)} (hC : Codes (cn ++ ".<locals>." ++ "<lambda>") poss ps Zc) (hZc : ∀ q ∈ Zc, q ∈ rest) (hpos : (pos.line, pos.col) ∈ poss) (hP : ∀ q ∈ rest, q.1 ≠ P)
    (h : ∀ f c' ctv ps' oc h' tk, Fr h₀ L h' m → News h₀ L h' ((P, tabObj ps') :: (f, kla_obj "<lambda>" (cn ++ ".<locals>." ++ "<lambda>") params body scope clos ((mg "__name__").getD .none) c' ctv) :: (c', oc) :: rest) →
      Codes (cn ++ ".<locals>." ++ "<lambda>") poss ps' ((c', oc) :: Zc) → CodeR (cn ++ ".<locals>." ++ "<lambda>") c' ((c', oc) :: rest) → (c', oc) ∈ Zc ∨ (P < c' ∧ ∀ q ∈ rest, q.1 < c') → c' < f → P < f → (∀ q ∈ rest, q.1 < f) → Q (.ref f) { s with heap := h', toks := tk }) :
    wpAny M A (eval (.Lambda params body scope pos) (envX cn cs L a ccd cl)) Q E s := by
  have hp0 : ∀ l : List Value, codeAmong pos l = codeAmong ⟨pos.line, pos.col, 0, 0⟩ l := fun l => among_pos (p := pos) (q := ⟨pos.line, pos.col, 0, 0⟩) rfl rfl l
  refine kla_eval hdef ?_
  rcases hC.2 _ hpos with hn | ⟨c', hs, hR⟩
  · rw [← hp0] at hn
    refine kla_nest F N T C hcd (.head hP) hC.1 hn hcl fun f c' oc vs t ctv h' tk F' N' d1 d2 l1 l2 => ?_
    have hR : CodeR (cn ++ ".<locals>." ++ "<lambda>") c' ((c', oc) :: rest) := ⟨oc, vs, t, .head _, d1, d2⟩
    have l3 : ∀ q ∈ rest, q.1 < c' := fun q hq => l1 q (.tail _ hq)
    have l4 : P < c' := l1 _ (.head _)
    refine h f c' ctv _ oc h' tk F' (fun p hp => N' p ?_) (hC.push (fun p hp => .tail _ hp) hn ⟨oc, vs, t, .head _, d1, d2⟩) hR (.inr ⟨l4, l3⟩) l2 (Nat.lt_trans l4 l2) fun q hq => Nat.lt_trans (l3 q hq) l2
    rcases List.mem_cons.mp hp with e | hp
    · rw [e]; exact .tail _ (.tail _ (.head _))
    rcases List.mem_cons.mp hp with e | hp
    · rw [e]; exact .head _
    rcases List.mem_cons.mp hp with e | hp
    · rw [e]; exact .tail _ (.head _)
    · exact .tail _ (.tail _ (.tail _ hp))
  · rw [← hp0] at hs
    obtain ⟨oc, vs, t, hm, d1, d2⟩ := id hR
    have hm' := hZc _ hm
    refine kla_hit (c' := c') F N T C hcd (.head _) hC.1 hs hcl fun f ctv h' tk F' N' l1 => ?_
    refine h f c' ctv ps oc h' tk F' (fun p hp => N' p ?_) (hC.more fun p hp => .tail _ hp) ⟨oc, vs, t, .head _, d1, d2⟩ (.inl hm) (l1 _ (.tail _ hm')) (l1 _ (.head _)) fun q hq => l1 q (.tail _ hq)
    rcases List.mem_cons.mp hp with e | hp
    · rw [e]; exact .tail _ (.head _)
    rcases List.mem_cons.mp hp with e | hp
    · rw [e]; exact .head _
    rcases List.mem_cons.mp hp with e | hp
    · rw [e]; exact .tail _ (.tail _ hm')
    · exact .tail _ (.tail _ hp)
end
theorem code56 {w : World} {h : Heap} (X : (hd.heap_39 w.params).In h) : CodeHd h 1056 1054 := ⟨_, _, _, _, _, _, _, _, _, X 1056 _ rfl, rfl, rfl, rfl, rfl, rfl, rfl, rfl, rfl, by decide⟩
theorem code73 {w : World} {h : Heap} (X : (hd.heap_39 w.params).In h) : CodeHd h 1073 1071 := ⟨_, _, _, _, _, _, _, _, _, X 1073 _ rfl, rfl, rfl, rfl, rfl, rfl, rfl, rfl, rfl, by decide⟩
section
inductive TupV (P : Params) (Z : List (Addr × Obj)) (bs : List Bool) (j : Nat) (v : Value) : Prop
  | mk (t e nt : Nat) (b : Bool) (y1 : v = .ref t) (y2 : bs[j]? = some b) (y3 : (t, ({ cls := .type "tuple", data := .seq #[.ref e, .bool b] nt } : Obj)) ∈ Z) (y4 : ExprAt P Z 1 (.ref e) b) : TupV P Z bs j v
noncomputable def TupsAt (P : Params) (Z : List (Addr × Obj)) (ys : List Value) (bs : List Bool) : Prop :=
  ys.length = bs.length ∧ ∀ (j : Nat) (v : Value), ys[j]? = some v → TupV P Z bs j v
inductive RowV (P : Params) (Z : List (Addr × Obj)) (bss : List (List Bool)) (i : Nat) (v : Value) : Prop
  | mk (r : Nat) (ys : List Value) (bs : List Bool) (y1 : v = .ref r) (y2 : (r, LCg.lst ys) ∈ Z) (y3 : bss[i]? = some bs) (y4 : TupsAt P Z ys bs) (y5 : ys.length ≤ 2) : RowV P Z bss i v
noncomputable def RowsT (P : Params) (Z : List (Addr × Obj)) (rs : List Value) (bss : List (List Bool)) : Prop :=
  rs.length = bss.length ∧ ∀ (i : Nat) (v : Value), rs[i]? = some v → RowV P Z bss i v
theorem TupsAt.more {P : Params} {Z Z' : List (Addr × Obj)} {ys : List Value} {bs : List Bool} (h : TupsAt P Z ys bs) (s : ∀ p ∈ Z, p ∈ Z') : TupsAt P Z' ys bs := ⟨h.1, fun j v e => let ⟨t, x, nt, b, h1, h2, h3, h4⟩ := h.2 j v e; ⟨t, x, nt, b, h1, h2, s _ h3, h4.more s⟩⟩
theorem RowsT.more {P : Params} {Z Z' : List (Addr × Obj)} {rs : List Value} {bss : List (List Bool)} (h : RowsT P Z rs bss) (s : ∀ p ∈ Z, p ∈ Z') : RowsT P Z' rs bss := ⟨h.1, fun i v e => let ⟨r, ys, bs, h1, h2, h3, h4, h5⟩ := h.2 i v e; ⟨r, ys, bs, h1, s _ h2, h3, h4.more s, h5⟩⟩
inductive JR (P : Params) (src : Nat) (c1 : Addr × Obj) (c2 : Addr × Obj) (rest : List (Addr × Obj)) (i : Nat) (ys : List Value) : List (Addr × Obj) → Prop
  | mk (o' : Obj) (Z : List (Addr × Obj)) (bss : List (List Bool)) (y1 : SrcO o') (y2 : (∀ p ∈ rest, p ∈ Z)) (y3 : (∀ p ∈ Z, p.1 ≠ src)) (y4 : RowsT P Z ys bss) (y5 : ys.length = i) : JR P src c1 c2 rest i ys ((src, o') :: c1 :: c2 :: Z)
theorem off1_mem {D : Addr} : ∀ {l : List (Addr × Obj)}, LCg.Off1 D l → ∀ p ∈ l, p.1 ≠ D
  | [], _, _, h => nomatch h
  | _ :: _, x, p, h => by
    rcases List.mem_cons.mp h with rfl | h
    · exact x.1
    · exact off1_mem x.2 p h
inductive JE (P : Params) (src : Nat) (W : List (Addr × Obj)) (i : Nat) (ys : List Value) : List (Addr × Obj) → Prop
  | mk (o' : Obj) (E : List (Addr × Obj)) (bs : List Bool) (y1 : SrcO o') (y2 : (∀ p ∈ E, src < p.1 ∧ ∀ q ∈ W, q.1 < p.1)) (y3 : TupsAt P E ys bs) (y4 : ys.length = i) : JE P src W i ys ((src, o') :: (E ++ W))
theorem vperm3 {h₀ h : Heap} {L : Addr} {a b c d : Addr × Obj} {r : List (Addr × Obj)} (N : News h₀ L h (a :: b :: c :: d :: r)) : News h₀ L h (d :: a :: b :: c :: r) := at_front [a, b, c] N
theorem packW {h₀ h : Heap} {L : Addr} {s I C D c1 c2 : Addr × Obj} {Z : List (Addr × Obj)} (N : News h₀ L h (s :: I :: C :: D :: c1 :: c2 :: Z)) : ∃ W, W = I :: C :: D :: c1 :: c2 :: Z ∧ c1 ∈ W ∧ c2 ∈ W ∧ News h₀ L h (s :: W) :=
  ⟨_, rfl, .tail _ (.tail _ (.tail _ (.head _))), .tail _ (.tail _ (.tail _ (.tail _ (.head _)))), N⟩
theorem packW_k {h₀ h : Heap} {L : Addr} {s I C D c1 c2 : Addr × Obj} {Z : List (Addr × Obj)} (N : News h₀ L h (s :: I :: C :: D :: c1 :: c2 :: Z)) {G9 : Prop} (k9 : ∀ W, (W = I :: C :: D :: c1 :: c2 :: Z) → (c1 ∈ W) → (c2 ∈ W) → (News h₀ L h (s :: W)) → G9) : G9 := by
  obtain ⟨W, b1, b2, b3, b4⟩ := packW N
  exact k9 W b1 b2 b3 b4
theorem back3 {h₀ h : Heap} {L : Addr} {s I C D : Addr × Obj} {x E W : List (Addr × Obj)} (N : News h₀ L h (s :: (x ++ (I :: C :: D :: (E ++ W))))) : News h₀ L h (I :: C :: D :: s :: ((x ++ E) ++ W)) := cb_drop N fun p hp => by
  simp only [List.mem_cons, List.mem_append] at hp ⊢
  rcases hp with h | h | h | h | (h | h) | h <;> simp [h]
theorem off_more {I C D s : Addr} {o o' : Obj} {x E W : List (Addr × Obj)} {oI oC oD : Obj} (off : LCg.Off3 I C D ((s, o) :: (E ++ W))) (hx : ∀ p ∈ x, s < p.1 ∧ ∀ q ∈ (I, oI) :: (C, oC) :: (D, oD) :: (E ++ W), q.1 < p.1) : LCg.Off3 I C D ((s, o') :: ((x ++ E) ++ W)) := .of fun p hp => by
  have f := off.mem
  rcases List.mem_cons.mp hp with rfl | hp
  · exact f (s, o) (.head _)
  rw [List.append_assoc] at hp
  rcases List.mem_append.mp hp with hp | hp
  · have := (hx p hp).2
    exact ⟨Nat.ne_of_gt (this _ (.head _)), Nat.ne_of_gt (this _ (.tail _ (.head _))), Nat.ne_of_gt (this _ (.tail _ (.tail _ (.head _))))⟩
  · exact f _ (.tail _ hp)
theorem je_ext {src : Nat} {I C D : Addr × Obj} {x E W : List (Addr × Obj)} (hx : ∀ p ∈ x, src < p.1 ∧ ∀ q ∈ I :: C :: D :: (E ++ W), q.1 < p.1) (hE : ∀ p ∈ E, src < p.1 ∧ ∀ q ∈ W, q.1 < p.1) : ∀ p ∈ x ++ E, src < p.1 ∧ ∀ q ∈ W, q.1 < p.1 := fun p hp => by
  rcases List.mem_append.mp hp with hp | hp
  · exact ⟨(hx p hp).1, fun q hq => (hx p hp).2 q (.tail _ (.tail _ (.tail _ (List.mem_append.mpr (.inr hq)))))⟩
  · exact hE p hp
theorem jr_off {I C D D2 s : Addr} {o o' : Obj} {oI oC oD oD2 : Obj} {c1 c2 : Addr × Obj} {E Z : List (Addr × Obj)} (off : LCg.Off3 I C D ((s, o) :: c1 :: c2 :: Z)) (o1 : LCg.Off1 D2 ((s, o') :: (E ++ ((I, oI) :: (C, oC) :: (D, oD) :: c1 :: c2 :: Z)))) (hE : ∀ p ∈ E, s < p.1 ∧ ∀ q ∈ (I, oI) :: (C, oC) :: (D, oD) :: c1 :: c2 :: Z, q.1 < p.1) : LCg.Off3 I C D ((s, o') :: c1 :: c2 :: (D2, oD2) :: (E ++ Z)) := .of fun p hp => by
  have f := off.mem
  have g := off1_mem o1
  have gW : ∀ p ∈ (I, oI) :: (C, oC) :: (D, oD) :: c1 :: c2 :: Z, p.1 ≠ D2 := fun p hp => g p (.tail _ (List.mem_append.mpr (.inr hp)))
  rcases List.mem_cons.mp hp with rfl | hp
  · exact f (s, o) (.head _)
  rcases List.mem_cons.mp hp with rfl | hp
  · exact f _ (.tail _ (.head _))
  rcases List.mem_cons.mp hp with rfl | hp
  · exact f _ (.tail _ (.tail _ (.head _)))
  rcases List.mem_cons.mp hp with rfl | hp
  · exact ⟨(gW _ (.head _)).symm, (gW _ (.tail _ (.head _))).symm, (gW _ (.tail _ (.tail _ (.head _)))).symm⟩
  rcases List.mem_append.mp hp with hp | hp
  · have := (hE p hp).2
    exact ⟨Nat.ne_of_gt (this _ (.head _)), Nat.ne_of_gt (this _ (.tail _ (.head _))), Nat.ne_of_gt (this _ (.tail _ (.tail _ (.head _))))⟩
  · exact f _ (.tail _ (.tail _ (.tail _ hp)))
theorem jr_ne {D2 s : Addr} {o' : Obj} {oD2 : Obj} {E W Z : List (Addr × Obj)} (o1 : LCg.Off1 D2 ((s, o') :: (E ++ W))) (hE : ∀ p ∈ E, s < p.1 ∧ ∀ q ∈ W, q.1 < p.1) (hZ : ∀ p ∈ Z, p.1 ≠ s) : ∀ p ∈ (D2, oD2) :: (E ++ Z), p.1 ≠ s := fun p hp => by
  rcases List.mem_cons.mp hp with rfl | hp
  · exact (off1_mem o1 _ (.head _)).symm
  rcases List.mem_append.mp hp with hp | hp
  · exact Nat.ne_of_gt (hE p hp).1
  · exact hZ p hp
theorem snoc_get {α : Type} {l : List α} {a b : α} {j : Nat} (h : (l ++ [a])[j]? = some b) : l[j]? = some b ∨ (j = l.length ∧ a = b) := by
  by_cases hj : j < l.length
  · rw [List.getElem?_append_left hj] at h; exact .inl h
  · rw [List.getElem?_append_right (by omega)] at h
    have h0 : j - l.length = 0 := by
      have := (List.getElem?_eq_some_iff.mp h).1
      simpa using this
    rw [h0] at h
    exact .inr ⟨by omega, Option.some.inj h⟩
theorem TupsAt.snoc {P : Params} {Z : List (Addr × Obj)} {ys : List Value} {bs : List Bool} {t e nt : Nat} {b : Bool} (h : TupsAt P Z ys bs) (h1 : (t, ({ cls := .type "tuple", data := .seq #[.ref e, .bool b] nt } : Obj)) ∈ Z) (h2 : ExprAt P Z 1 (.ref e) b) : TupsAt P Z (ys ++ [.ref t]) (bs ++ [b]) :=
  ⟨by rw [List.length_append, List.length_append, h.1]; rfl, fun j v hj => by
    rcases snoc_get hj with hj | ⟨rfl, rfl⟩
    · obtain ⟨t', e', n', b', a1, a2, a3, a4⟩ := h.2 j v hj
      exact ⟨t', e', n', b', a1, by rw [List.getElem?_append_left (List.getElem?_eq_some_iff.mp a2).1]; exact a2, a3, a4⟩
    · exact ⟨t, e, nt, b, rfl, by rw [h.1, List.getElem?_append_right (Nat.le_refl _), Nat.sub_self]; rfl, h1, h2⟩⟩
theorem RowsT.snoc {P : Params} {Z : List (Addr × Obj)} {rs : List Value} {bss : List (List Bool)} {r : Nat} {ys : List Value} {bs : List Bool} (h : RowsT P Z rs bss) (h1 : (r, LCg.lst ys) ∈ Z) (h2 : TupsAt P Z ys bs) (h3 : ys.length ≤ 2) : RowsT P Z (rs ++ [.ref r]) (bss ++ [bs]) :=
  ⟨by rw [List.length_append, List.length_append, h.1]; rfl, fun j v hj => by
    rcases snoc_get hj with hj | ⟨rfl, rfl⟩
    · obtain ⟨r', ys', bs', a1, a2, a3, a4, a5⟩ := h.2 j v hj
      exact ⟨r', ys', bs', a1, a2, by rw [List.getElem?_append_left (List.getElem?_eq_some_iff.mp a3).1]; exact a3, a4, a5⟩
    · exact ⟨r, ys, bs, rfl, h1, by rw [h.1, List.getElem?_append_right (Nat.le_refl _), Nat.sub_self]; rfl, h2, h3⟩⟩
theorem ne_lt_le {d c : Nat} {R : List (Addr × Obj)} (h : ∀ q ∈ R, q.1 < d) (hc : d ≤ c) : ∀ p ∈ R, p.1 ≠ c := fun p hp => Nat.ne_of_lt (Nat.lt_of_lt_of_le (h p hp) hc)
theorem ne_consN {a c : Nat} {o : Obj} {r : List (Addr × Obj)} (h : a ≠ c) (H : ∀ p ∈ r, p.1 ≠ c) : ∀ p ∈ (a, o) :: r, p.1 ≠ c := List.forall_mem_cons.2 ⟨h, H⟩
theorem packN {h₀ h : Heap} {L : Addr} {a : Addr × Obj} {Z : List (Addr × Obj)} (N : News h₀ L h (a :: Z)) : ∃ K, a ∈ K ∧ (∀ p ∈ Z, p ∈ K) ∧ News h₀ L h K := ⟨_, .head _, fun p hp => .tail _ hp, N⟩
theorem packN_k {h₀ h : Heap} {L : Addr} {a : Addr × Obj} {Z : List (Addr × Obj)} (N : News h₀ L h (a :: Z)) {G9 : Prop} (k9 : ∀ K, (a ∈ K) → ((∀ p ∈ Z, p ∈ K)) → (News h₀ L h K) → G9) : G9 := by
  obtain ⟨K, b1, b2, b3⟩ := packN N
  exact k9 K b1 b2 b3
theorem packK {h₀ h : Heap} {L : Addr} {a s c1 c2 : Addr × Obj} {Z rest : List (Addr × Obj)} (N : News h₀ L h (a :: s :: c1 :: c2 :: Z)) (hsub : ∀ p ∈ rest, p ∈ Z) : ∃ K, a ∈ K ∧ (∀ p ∈ Z, p ∈ K) ∧ (∀ p ∈ rest, p ∈ K) ∧ News h₀ L h K :=
  ⟨_, .head _, fun p hp => .tail _ (.tail _ (.tail _ (.tail _ hp))), fun p hp => .tail _ (.tail _ (.tail _ (.tail _ (hsub p hp)))), N⟩
theorem packK_k {h₀ h : Heap} {L : Addr} {a s c1 c2 : Addr × Obj} {Z rest : List (Addr × Obj)} (N : News h₀ L h (a :: s :: c1 :: c2 :: Z)) (hsub : ∀ p ∈ rest, p ∈ Z) {G9 : Prop} (k9 : ∀ K, (a ∈ K) → ((∀ p ∈ Z, p ∈ K)) → ((∀ p ∈ rest, p ∈ K)) → (News h₀ L h K) → G9) : G9 := by
  obtain ⟨K, b1, b2, b3, b4⟩ := packK N hsub
  exact k9 K b1 b2 b3 b4
inductive J4 (P : Params) (M : List (Addr × Obj)) (K : List (Addr × Obj)) (bs : List Bool) (j : Nat) (us : List Value) : List (Addr × Obj) → Prop
  | mk (xs : List Nat) (y1 : us = xs.map Value.ref) (y2 : xs.length = j) (y3 : ∀ (q x : Nat), xs[q]? = some x → ∃ b, bs[q]? = some b ∧ ExprAt P K 1 (.ref x) b) : J4 P M K bs j us (M)
inductive J3 (P : Params) (K : List (Addr × Obj)) (bss : List (List Bool)) (i : Nat) (zs : List Value) : List (Addr × Obj) → Prop
  | mk (rs : List Nat) (E3 : List (Addr × Obj)) (y1 : zs = rs.map Value.ref) (y2 : rs.length = i) (y3 : ∀ (j r : Nat), rs[j]? = some r → ∃ (xs : List Nat) (k : Nat) (bs : List Bool), (r, W.listOf (xs.map Value.ref).toArray k) ∈ E3 ∧ bss[j]? = some bs ∧ RowAt P K xs bs) : J3 P K bss i zs (E3 ++ K)
theorem rowsT_pairs {P : Params} {Z : List (Addr × Obj)} : ∀ (ys : List Value) (bss : List (List Bool)), RowsT P Z ys bss → ∃ rs : List (Nat × List Value), ys = rs.map (fun p => Value.ref p.1) ∧ rs.length = bss.length ∧ ∀ (i : Nat) (p : Nat × List Value), rs[i]? = some p → ∃ bs, (p.1, LCg.lst p.2) ∈ Z ∧ bss[i]? = some bs ∧ TupsAt P Z p.2 bs ∧ p.2.length ≤ 2
  | [], bss, h => ⟨[], rfl, h.1, fun i p e => by simp at e⟩
  | v :: ys, [], h => by have := h.1; simp at this
  | v :: ys, b :: bss, h => by
    obtain ⟨r, ys0, bs, rfl, h1, h2, h3, h4⟩ := h.2 0 v rfl
    obtain ⟨rs, e1, e2, e3⟩ := rowsT_pairs ys bss ⟨by simpa using h.1, fun i v e => let ⟨r, ys, bs, a1, a2, a3, a4, a5⟩ := h.2 (i + 1) v (by simpa using e); ⟨r, ys, bs, a1, a2, by simpa using a3, a4, a5⟩⟩
    refine ⟨(r, ys0) :: rs, by rw [e1]; rfl, by simp [e2], fun i p e => ?_⟩
    cases i with
    | zero =>
      obtain rfl : (r, ys0) = p := by simpa using e
      exact ⟨bs, h1, by simpa using h2, h3, h4⟩
    | succ i => simpa using e3 i p (by simpa using e)
noncomputable def selK (K : List (Addr × Obj)) (v : Value) : Bool := @decide (∃ t e nt : Nat, v = .ref t ∧ (t, ({ cls := .type "tuple", data := .seq #[.ref e, .bool true] nt } : Obj)) ∈ K) (Classical.propDecidable _)
theorem selK_is {h₀ h : Heap} {L : Addr} {K : List (Addr × Obj)} {t e nt : Nat} {b : Bool} (N : News h₀ L h K) (hm : (t, ({ cls := .type "tuple", data := .seq #[.ref e, .bool b] nt } : Obj)) ∈ K) : selK K (.ref t) = b := by
  cases b with
  | true => exact @decide_eq_true _ (Classical.propDecidable _) ⟨t, e, nt, rfl, hm⟩
  | false =>
    refine @decide_eq_false _ (Classical.propDecidable _) ?_
    rintro ⟨t', e', nt', h1, h2⟩
    cases h1
    have := (N _ hm).1.symm.trans (N _ h2).1
    injection this with this
    injection this with _ _ this
    injection this with this
    simp at this
theorem flat_any {P : Params} {Z : List (Addr × Obj)} {h₀ h : Heap} {L : Addr} {K : List (Addr × Obj)} {rs : List (Nat × List Value)} {bss : List (List Bool)} (N : News h₀ L h K) (hZ : ∀ p ∈ Z, p ∈ K) (hl : rs.length = bss.length)
    (hr : ∀ (i : Nat) (p : Nat × List Value), rs[i]? = some p → ∃ bs, (p.1, LCg.lst p.2) ∈ Z ∧ bss[i]? = some bs ∧ TupsAt P Z p.2 bs ∧ p.2.length ≤ 2) :
    ((rs.flatMap fun p => p.2.filter (selK K)).toArray.size != 0) = bss.any fun bs => bs.any id := by
  cases ha : bss.any fun bs => bs.any id with
  | true =>
    obtain ⟨bs, hb, hb2⟩ := List.any_eq_true.mp ha
    obtain ⟨b, hb3, hb4⟩ := List.any_eq_true.mp hb2
    obtain ⟨i, hi⟩ := List.mem_iff_getElem?.mp hb
    obtain ⟨j, hj⟩ := List.mem_iff_getElem?.mp hb3
    have hil : i < rs.length := hl ▸ (List.getElem?_eq_some_iff.mp hi).1
    obtain ⟨bs', h1, h2, h3, h4⟩ := hr i _ (List.getElem?_eq_getElem hil)
    rw [hi] at h2
    cases h2
    have hjl : j < (rs[i]).2.length := by rw [h3.1]; exact (List.getElem?_eq_some_iff.mp hj).1
    obtain ⟨t, e, nt, b', hv, hb', ht, _⟩ := h3.2 j _ (List.getElem?_eq_getElem hjl)
    rw [hj] at hb'
    cases hb'
    have hs := selK_is N (hZ _ ht)
    rw [← hv] at hs
    have hm : (rs[i]).2[j] ∈ rs.flatMap fun p => p.2.filter (selK K) := List.mem_flatMap.mpr ⟨rs[i], List.getElem_mem hil, List.mem_filter.mpr ⟨List.getElem_mem hjl, by rw [hs]; exact hb4⟩⟩
    have := List.length_pos_of_mem hm
    simp only [List.size_toArray, bne_iff_ne, ne_eq]
    omega
  | false =>
    have : (rs.flatMap fun p => p.2.filter (selK K)) = [] := by
      rw [List.flatMap_eq_nil_iff]
      intro p hp
      rw [List.filter_eq_nil_iff]
      intro v hv
      obtain ⟨i, hi⟩ := List.mem_iff_getElem?.mp hp
      obtain ⟨j, hj⟩ := List.mem_iff_getElem?.mp hv
      obtain ⟨bs, h1, h2, h3, h4⟩ := hr i _ hi
      obtain ⟨t, e, nt, b, hv', hb', ht, _⟩ := h3.2 j _ hj
      have hs := selK_is N (hZ _ ht)
      rw [← hv'] at hs
      rw [hs]
      have := List.any_eq_false.mp ha bs (List.mem_of_getElem? h2)
      intro hbt
      exact this (List.any_eq_true.mpr ⟨b, List.mem_of_getElem? hb', hbt⟩)
    rw [this]; rfl
section
variable {prog : Program} {w : World} {A : Around} {E : Value → Shared → Prop} {s : Shared}
theorem ne_nil {l b : Addr} {items : Array Value} {X : Bool} {Q : Value → Shared → Prop} (hl : s.heap.IsList l items) (hb : s.heap.IsList b #[]) (hX : (items.size != 0) = X) (hu : A.units < cLine) (h : Q (.bool X) s) : wpAny (model prog w) A (compareOp .NotEq (.ref l) (.ref b)) Q E s := by
  subst hX
  refine cmp_ofNotEq ?_
  by_cases hs : items.size = 0
  · refine PySem.SeqAt.RcNeAt.lists (e := fun _ => true) hl hb hs hu (fun j h1 h2 => absurd h2 (Nat.not_lt_zero _)) prog w E Q ?_
    have e : (items.size != 0) = false := by simp [hs]
    rw [e] at h
    rw [hs]; exact h
  · refine PySem.SeqAt.RcNeAt.lists_lengths hl hb (by simpa using hs) hu prog w E Q ?_
    have e : (items.size != 0) = true := by simpa using hs
    rw [e] at h; exact h
end
section
local macro_rules | `(tactic| k_all) => `(tactic| (repeat' (first | exact List.forall_mem_nil _ | assumption | refine ne_consN (by walk_at "nec") ?_ | exact ne_lt_le (by assumption) (by walk_at "lec"))))
local macro_rules | `(tactic| walk_at "call ref") => `(tactic| (k_here; k_dflt (refine Held.at [1019] rfl ?_)))
local macro_rules | `(tactic| walk_at "compareOp NotEq ref ref") => `(tactic| (k_here; k_dflt (refine' ne_nil ?k1 ?k2 ?k4 ?k3 ?_; (case k1 => walk_at "isl"); (case k2 => walk_at "isl"); (case k4 => assumption); (case k3 => ktr_units); k_whole)))
local macro_rules | `(tactic| walk_at "pad2") => `(tactic| skip)
theorem values_ctr {w : World} {src : Nat} {o : Obj} {rest : List (Addr × Obj)} (ho : SrcO o) (hr : ∀ p ∈ rest, p.1 ≠ src) :
    Ctr w ((src, o) :: rest) 14 (.ref 1069) [.ref src] (fun v led' => v = .bool true ∧ led' = rest) := by
  intro p loose mean mg mb dp un gd cn cs a ccd cl outer A₀ base h₀ L m hh9 gg9 dd9 tt9 oo9 Q E B F X N T hk hd hu hret
  refine wpAny_call ?_
  k_dflt (refine' code_defC ?k1 ?k2 ?k3 ?k4 ?k5 ?kA ?kF ?kK ?k6 ?k7 ?k8 ?k9 ?kB ?kD ?_ ?c2 ?c3 ?c4; (case kA => exact rfl); (case kF => exact rfl); (case kK => first | assumption | exact rfl); (case k1 => k_asm); (case k2 => k_asm); (case k3 => k_asm); (case k4 => k_asm); (case k5 => k_asm); (case k6 => k_is); (case k7 => k_is); (case k8 => ktr_room); (case k9 => first | exact BindsTo.of_eq rfl | exact binds_K (by k_in) rfl (by k_is) rfl rfl rfl); (case kB => exact rfl); (case kD => decide +kernel); (case c2 => exact rfl); (case c3 => exact rfl); (case c4 => exact rfl); k_whole; intro g9z L9z h9z tk9z cells9z FG9z F9z N9z Y9z B9z X9z T9z l19z; (try k_lt l19z); k_cells Y9z; (try simp only [List.cons_append, List.nil_append] at N9z); (try dsimp only); (try k_fold))
  k_steps
  refine Held.out ?_
  (rename News _ _ _ (_ :: _) => N1)
  (rename src < _ ∧ AllLt _ rest => g1)
  have g2 := ktn_ltOf g1.2
  have N2 := at_front [_,_] N1
  dsimp only [List.cons_append, List.nil_append] at N2
  k_dflt (refine' ctr_use (take_ctr ho ?w1 (by decide) (by decide)) ?B ?F ?X N2 (fun _ hp => hp) ?T ?hk ?hd ?hu ?_; ((case B => k_asm); (case F => k_asm); walk_at "use4"))
  case w1 => repeat' (first | exact List.forall_mem_nil _ | assumption | refine ne_cons (by first | walk_at "lt" | omega) ?_)
  refine take_cur ?_
  intro d9 t9 o9 hd9 he9 hS9 h9 tk9 F9 N9
  (try dsimp only)
  (try k_fold)
  (repeat ((fail_if_success (with_reducible show wpAny _ _ (exec (Stmt.Assign _ (Expr.ListComp _ _ _ _) _) _) _ _ _)); first | (k_unfold; (try dsimp only)) | walk1 | (dsimp only; walk1)))
  (k_dflt (refine LCg.Assign_ListComp_U (F₀ := by k_asm) (by rfl) (by with_unfolding_all rfl) (by with_unfolding_all rfl) (by decide) (by rfl) (by decide) (by rfl) (by rfl) (by rfl) ?_))
  k_steps
  refine Held.out ?_
  (rename News _ _ _ (_ :: _) => N4)
  k_dflt (refine' ctr_use (take_ctr hS9 ?w1 (by decide) (by decide)) ?B ?F ?X N4 (fun _ hp => hp) ?T ?hk ?hd ?hu ?_; ((case B => k_asm); (case F => k_asm); walk_at "use4"))
  case w1 => repeat' (first | exact List.forall_mem_nil _ | assumption | refine ne_cons (by first | walk_at "lt" | omega) ?_)
  refine take_cur ?_
  intro dr tr o8 hdr her hS8 h9 tk9 F9 N9
  (try dsimp only)
  (try k_fold)
  (repeat ((fail_if_success (with_reducible show LCg.CompSrc _ _ _ _ _ _ _ _ _ _ _ _ _ _)); first | (k_unfold; (try dsimp only)) | walk1 | (dsimp only; walk1)))
  (rename News _ _ _ (_ :: _) => N5)
  (rename IsRange _ _ _ _ _ _ _ _ => hr5)
  have hrg := rngI (d := 1 + dr) (by omega) (by omega)
  refine LCg.CompSrc.range (n := (1 + dr).toNat) rfl (by k_asm) N5 hr5 hrg.1 hrg.2.1 hrg.2.2 ?_
  clear hrg
  intro g8
  refine compRest_inv (n := (1 + dr).toNat) (JR w.params src _ _ rest) ?step ?fin _ 0 [] _ (Nat.zero_add _) ⟨o8, rest, [], hS8, fun _ hp => hp, hr, ⟨rfl, fun i v h => by simp at h⟩, rfl⟩
  case step =>
    rintro i v ys news I oI C oC D m₂ h tk E' hi hv ⟨o7, Z, bss, hS7, hsub, hne, hT, hl⟩ hC hm F7 N7 off ne
    k_dflt (refine LCg.ListComp_U (F₀ := F7) (by with_unfolding_all rfl) (by decide) (by rfl) (by decide) (by rfl) ?_)
    (repeat ((fail_if_success (with_reducible show LCg.CompSrc _ _ _ _ _ _ _ _ _ _ _ _ _ _)); first | (k_unfold; (try dsimp only)) | walk1 | (dsimp only; walk1)))
    (rename News _ _ _ (_ :: _) => N8)
    (rename IsRange _ _ _ _ _ _ _ _ => hr8)
    replace N8 := vperm3 N8
    refine packW_k N8 ?_
    intro W hW hc1 hc2 N8'
    clear N8
    have hWne : ∀ p ∈ W, p.1 ≠ src := hW ▸ fun p hp => by
      have f := off.mem (src, o7) (.head _)
      rcases List.mem_cons.mp hp with rfl | hp
      · exact f.1.symm
      rcases List.mem_cons.mp hp with rfl | hp
      · exact f.2.1.symm
      rcases List.mem_cons.mp hp with rfl | hp
      · exact f.2.2.symm
      rcases List.mem_cons.mp hp with rfl | hp
      · refine neN ?_; dsimp only; omega
      rcases List.mem_cons.mp hp with rfl | hp
      · refine neN ?_; dsimp only; omega
      · exact hne p hp
    have hrg := rngI (d := 1 + d9) (by omega) (by omega)
    refine LCg.CompSrc.range (n := (1 + d9).toNat) rfl (by k_asm) N8' hr8 hrg.1 hrg.2.1 hrg.2.2 ?_
    clear hrg
    intro g9
    refine compRest_inv (n := (1 + d9).toNat) (JE w.params src W) ?step2 ?fin2 _ 0 [] _ (Nat.zero_add _) ⟨o7, [], [], hS7, (fun p hp => nomatch hp), ⟨rfl, fun i v h => by simp at h⟩, rfl⟩
    case step2 =>
      rintro i2 v2 ys2 news2 I2 oI2 C2 oC2 D2 m₃ h2 tk2 E2 hi2 hv2 ⟨o6, E, bs, hS6, hE, hT2, hl2⟩ hC2 hm2 F6 N6 off2 ne2
      k_steps
      refine Held.out ?_
      have hne2 : ∀ p ∈ (I2, oI2) :: (C2, oC2) :: (D2, LCg.lst ys2) :: (E ++ W), p.1 ≠ src := fun p hp => by
        have f := off2.mem (src, o6) (.head _)
        rcases List.mem_cons.mp hp with rfl | hp
        · exact f.1.symm
        rcases List.mem_cons.mp hp with rfl | hp
        · exact f.2.1.symm
        rcases List.mem_cons.mp hp with rfl | hp
        · exact f.2.2.symm
        rcases List.mem_append.mp hp with hp | hp
        · exact Nat.ne_of_gt (hE p hp).1
        · exact hWne p hp
      (rename News _ _ _ (_ :: _) => N9)
      replace N9 := vperm3 N9
      k_dflt (refine' ctr_use (lexpr1_ctr hS6 hne2) ?B ?F ?X N9 (fun _ hp => hp) ?T ?hk ?hd ?hu ?_; ((case B => k_asm); (case F => k_asm); walk_at "use4"))
      refine expr_cur ?_
      intro t1 e1 n1 b1 o1 x1 hs2 ht1 hE1 hx1 h9 tk9 F9 N10
      exact LCg.CompEnd.intro (by assumption) (back3 N10) _ (fun _ hp => hp) (off_more off2 hx1) trivial ⟨o1, x1 ++ E, bs ++ [b1], hs2, je_ext hx1 hE, (hT2.more fun p hp => List.mem_append.mpr (.inr hp)).snoc (List.mem_append.mpr (.inl ht1)) (hE1.more fun p hp => List.mem_append.mpr (.inl hp)), by rw [List.length_append, hl2]; rfl⟩
    case fin2 =>
      rintro ys2 news2 ⟨o6, E, bs, hS6, hE, hT2, hl2⟩
      intro D2 h2 tk2 F6 N6 o2
      subst hW
      refine LCg.CompEnd.intro (by assumption) N6 ((src, o6) :: _ :: _ :: (D2, LCg.lst ys2) :: (E ++ Z)) (fun p hp => ?_) (jr_off off o2 hE) trivial ⟨o6, (D2, LCg.lst ys2) :: (E ++ Z), bss ++ [bs], hS6, fun p hp => .tail _ (List.mem_append.mpr (.inr (hsub p hp))), jr_ne o2 hE hne, (hT.more fun p hp => .tail _ (List.mem_append.mpr (.inr hp))).snoc (.head _) (hT2.more fun p hp => .tail _ (List.mem_append.mpr (.inl hp))) (by omega), by rw [List.length_append, hl]; rfl⟩
      simp only [List.mem_cons, List.mem_append] at hp ⊢
      rcases hp with h | h | h | h | h | h | h | h | h <;> simp [h]
  case fin =>
    rintro ys news ⟨o7, Z, bss, hS7, hsub, hne, hT, hl⟩
    intro D' h' tk' F' N' o1
    refine packK_k N' hsub ?_
    intro K hDK hZK hrK N''
    have hTK := hT.more hZK
    clear N' o1 hS7 hS8 hS9 hT hZK hne hsub
    dsimp only
    have hyl : ys.length ≤ 2 := by omega
    (repeat ((fail_if_success (with_reducible show wpAny _ _ (eval (Expr.ListComp _ _ _ _) _) _ _ _)); first | (k_unfold; (try dsimp only)) | walk1 | (dsimp only; walk1)))
    k_dflt (refine LCg.ListComp_U (F₀ := by k_asm) (by with_unfolding_all rfl) (by decide) (by rfl) (by decide) (by rfl) ?_)
    walk1
    refine LCg.CompSrc.ledger rfl (by k_asm) N'' hDK (by rw [List.size_toArray, sizeLine_eq]; omega) ?_
    intro g8
    refine compRest_inv (n := ys.toArray.size) (J3 w.params K bss) ?step3 ?fin3 _ 0 [] K (Nat.zero_add _) ⟨[], [], rfl, rfl, fun j r e => by simp at e⟩
    case step3 =>
      rintro i v zs news I oI C oC D m₂ h tk E' hi hv ⟨rs, E3, rfl, hlen, hrs⟩ hC hm F7 N7 off ne
      have hv' : ys[i]? = some v := by simpa using hv
      obtain ⟨r0, ys0, bs0, rfl, hr0, hbs0, hT0, hl0⟩ := hTK.2 i v hv'
      have hr0' : (r0, LCg.lst ys0) ∈ (I, oI) :: (C, oC) :: (D, LCg.lst (rs.map Value.ref)) :: (E3 ++ K) := .tail _ (.tail _ (.tail _ (List.mem_append.mpr (.inr hr0))))
      k_dflt (refine LCg.ListComp_U (F₀ := F7) (by with_unfolding_all rfl) (by decide) (by rfl) (by decide) (by rfl) ?_)
      walk1
      refine LCg.CompSrc.ledger rfl (by k_asm) (by k_asm) hr0' (by rw [List.size_toArray, sizeLine_eq]; omega) ?_
      intro g9
      refine compRest_inv (n := ys0.toArray.size) (J4 w.params ((I, oI) :: (C, oC) :: (D, LCg.lst (rs.map Value.ref)) :: (E3 ++ K)) K bs0) ?step4 ?fin4 _ 0 [] _ (Nat.zero_add _) ⟨[], rfl, rfl, fun q x e => by simp at e⟩
      case step4 =>
        rintro j v2 us n I2 oI2 C2 oC2 D2 m₃ h2 tk2 E2 hj hv2 ⟨xs, rfl, hxl, hx⟩ hC2 hm2 F6 N6 off2 ne2
        obtain ⟨t, e, nt, b, rfl, hb, ht, hE⟩ := hT0.2 j v2 (by simpa using hv2)
        have ht' := List.mem_append.mpr (.inr ht : _ ∈ E3 ∨ _ ∈ K)
        k_steps
        exact LCg.CompEnd.intro (by assumption) (by assumption) _ (fun p hp => hp) off2 (.inr ⟨_, hr0', rfl, _, rfl⟩) ⟨xs ++ [e], by simp, by rw [List.length_append, hxl]; rfl, fun q x hq => by
          rcases snoc_get hq with hq | ⟨rfl, rfl⟩
          · exact hx q x hq
          · exact ⟨b, by rw [hxl]; exact hb, hE⟩⟩
      case fin4 =>
        rintro us n ⟨xs, rfl, hxl, hx⟩
        intro D2 h2 tk2 F6 N6 o2
        have g := off1_mem o2
        refine LCg.CompEnd.intro (by assumption) N6 ((D2, LCg.lst (xs.map Value.ref)) :: (E3 ++ K)) (fun p hp => ?_) ⟨⟨(g _ (.head _)).symm, (g _ (.tail _ (.head _))).symm, (g _ (.tail _ (.tail _ (.head _)))).symm⟩, off⟩ (.inr ⟨_, .tail _ (List.mem_append.mpr (.inr hDK)), rfl, _, rfl⟩) ⟨rs ++ [D2], (D2, LCg.lst (xs.map Value.ref)) :: E3, by simp, by rw [List.length_append, hlen]; rfl, fun q r hq => ?_⟩
        · simp only [List.mem_cons, List.mem_append] at hp ⊢
          rcases hp with h | h | h | h | h | h <;> simp [h]
        · rcases snoc_get hq with hq | ⟨rfl, rfl⟩
          · obtain ⟨xs', k, bs, a, b, c⟩ := hrs q r hq
            exact ⟨xs', k, bs, .tail _ a, b, c⟩
          · exact ⟨xs, _, bs0, .head _, by rw [hlen]; exact hbs0, by rw [hxl, List.size_toArray]; exact hT0.1, hx⟩
    case fin3 =>
      rintro zs n ⟨rs, E3, rfl, hlen, hrs⟩
      intro D3 h3 tk3 F3 N3 o3
      refine packN_k N3 ?_
      intro K2 hD3 hKK N4
      have hRA : RowsAt w.params K2 rs bss := ⟨by rw [hlen, List.size_toArray]; exact hTK.1, fun j r e => let ⟨xs, k, bs, a, b, c⟩ := hrs j r e; ⟨xs, k, bs, hKK _ (List.mem_append.mpr (.inl a)), b, c.more fun p hp => hKK _ (List.mem_append.mpr (.inr hp))⟩⟩
      have hK2 : ∀ p ∈ K, p ∈ K2 := fun p hp => hKK _ (List.mem_append.mpr (.inr hp))
      obtain ⟨rp, rfl, hrp2, hrp3⟩ := rowsT_pairs ys bss hTK
      have hD' := hK2 _ hDK
      have hrK2 : ∀ p ∈ rest, p ∈ K2 := fun p hp => hK2 p (hrK p hp)
      have hany := flat_any N4 hK2 hrp2 hrp3
      obtain ⟨X, hX⟩ : ∃ X, (bss.any fun bs => bs.any id) = X := ⟨_, rfl⟩
      rw [hX] at hany
      have hsel : ∀ {t e nt : Nat} {b : Bool}, (t, ({ cls := .type "tuple", data := .seq #[.ref e, .bool b] nt } : Obj)) ∈ K2 → selK K2 (.ref t) = b := fun hm => selK_is N4 hm
      clear N3 o3 hrs hKK hrK hDK
      (repeat ((fail_if_success (with_reducible show wpAny _ _ (eval (Expr.ListComp _ _ _ _) _) _ _ _)); first | (k_unfold; (try dsimp only)) | walk1 | (dsimp only; walk1)))
      k_dflt (refine ListComp_22 (selK K2) (by k_asm) (by with_unfolding_all rfl) (by decide) (by rfl) (by decide) (by rfl) (by rfl) ?_)
      walk1
      refine ⟨D', _, rp, _, rfl, rfl, by k_asm, by k_asm, by k_mem, ?rows, by simpa using hyl, ?test, ?fin5⟩
      case rows =>
        intro p hp
        obtain ⟨i, hi⟩ := List.mem_iff_getElem?.mp hp
        obtain ⟨bs, h1, h2, h3, h4⟩ := hrp3 i p hi
        have h1' := hK2 _ h1
        exact ⟨⟨_, by k_mem⟩, h4⟩
      case test =>
        intro p hp v hv C oC m₂ h tk E' hC hm F7 N7
        obtain ⟨i, hi⟩ := List.mem_iff_getElem?.mp hp
        obtain ⟨bs, h1, h2, h3, h4⟩ := hrp3 i p hi
        obtain ⟨j, hj⟩ := List.mem_iff_getElem?.mp hv
        obtain ⟨t, e, nt, b, rfl, hb, ht, hE⟩ := h3.2 j _ hj
        have ht' := hK2 _ ht
        have hse := hsel ht'
        k_steps
        exact hse.symm
      case fin5 =>
        intro D5 h5 tk5 F5 N5 hlt5
        k_steps
        refine Held.out ?_
        (rename valsO _ _ _ => hV)
        k_dflt (refine' ctr_use (plain_ctr (rs := rs) (bss := bss) ?m1 ?m2 hV ?m3 ?m4) ?B ?F ?X ?N (fun _ hp => hp) ?T ?hk ?hd ?hu ?_; walk_at "use"; (case m1 => k_mem); (case m2 => k_mem); (case m3 => k_mem); (case m4 => exact hRA.more (by walk_at "subs")))
        refine eq_cur ?_
        intro  h9 tk9 F9 N9
        rw [hX]
        cases X
        all_goals (try dsimp only)
        all_goals (try k_fold)
        all_goals k_steps
        all_goals refine Held.out ?_
        all_goals (rename coreO _ _ _ _ _ _ _ _ => hCo)
        all_goals k_dflt (refine' ctr_use (plainN_ctr ?m1 ?m2 hCo) ?B ?F ?X ?N (fun _ hp => hp) ?T ?hk ?hd ?hu ?_; walk_at "use"; (case m1 => k_mem); (case m2 => k_mem))
        all_goals refine eq_cur ?_
        all_goals intro  h9 tk9 F9 N9
        all_goals (try dsimp only)
        all_goals (try k_fold)
        all_goals k_steps
        all_goals (rename News h₀ _ _ _ => kN)
        all_goals (rename Fr h₀ _ _ _ => kF)
        all_goals exact hret _ _ _ _ ⟨rfl, rfl⟩ kF (cb_drop kN (fun p hp => by have hp2 := hrK2 p hp; k_mem))
end
end
noncomputable def isNoneV : Value → Bool
  | .none => true
  | _ => false
theorem want_plc {names : List Str} {key : Option Nat} {rp : Value} {x : Str} {v : Value} (hk : ∀ k, key = some k → k < names.length) (hR : RpAt key names.length rp) (h : WantR names rp x v) : ∃ (z : Int) (t : Nat), v = .int z t ∧ plc names key x = some z := by
  have nof : (∀ nm ∈ names, lowS nm ≠ lowS x) → names.findIdx? (fun nm => lowS nm == lowS x) = none := fun h => by
    rw [List.findIdx?_eq_none_iff]
    intro z hz
    simpa using h z hz
  cases h with
  | found i t nm h1 h2 h3 =>
    refine ⟨i, t, rfl, ?_⟩
    have hf : names.findIdx? (fun nm => lowS nm == lowS x) = some i := by
      rw [List.findIdx?_eq_some_iff_getElem]
      obtain ⟨hl, he⟩ := List.getElem?_eq_some_iff.mp h1
      refine ⟨hl, by rw [he]; simpa using h2, fun j hj => ?_⟩
      have := h3 j _ hj (List.getElem?_eq_getElem (Nat.lt_trans hj hl))
      simpa using this
    unfold plc; rw [hf]
  | row t h1 h2 h3 =>
    subst h3
    refine ⟨-1, t, rfl, ?_⟩
    unfold plc; rw [nof h1, h2]
    cases key with
    | none => rfl
    | some k =>
      have := hk k rfl
      simp [RpAt, this] at hR
  | key h1 h2 h3 =>
    cases key with
    | none => simp [RpAt] at hR; exact absurd hR h3
    | some k =>
      have := hk k rfl
      simp only [RpAt, this, if_true] at hR
      obtain ⟨t, rfl⟩ := hR
      refine ⟨k, t, rfl, ?_⟩
      unfold plc; rw [nof h1, h2]; rfl
theorem no_plc {names : List Str} {key : Option Nat} {x : Str} (h1 : ∀ nm ∈ names, lowS nm ≠ lowS x) (h2 : rowNm (lowS x) = false) : plc names key x = none := by
  have : names.findIdx? (fun nm => lowS nm == lowS x) = none := by
    rw [List.findIdx?_eq_none_iff]
    intro z hz
    simpa using h1 z hz
  unfold plc; rw [this, h2]; rfl
section
variable {prog : Program} {w : World} {A : Around} {E : Value → Shared → Prop} {s : Shared}
theorem in_none {l : Addr} {items : Array Value} {X : Bool} {Q : Value → Shared → Prop} (hl : s.heap.IsList l items) (hk : ∀ y, y ∈ items → y = .none ∨ ∃ z t, y = .int z t) (hX : items.any isNoneV = X) (h : Q (.bool X) s) : wpAny (model prog w) A (compareOp .In .none (.ref l)) Q E s := by
  refine PySem.SeqAt.in_listAt isNoneV hl (fun y hy => ?_) (hX.symm ▸ h)
  rcases hk y hy with rfl | ⟨z, t, rfl⟩
  · exact PySem.SeqAt.EqAt.same _
  · exact PySem.SeqAt.EqAt.int_none _ _
theorem ne_ints {l b : Addr} {vs us : List Value} {Q : Value → Shared → Prop} (hl : s.heap.IsList l vs.toArray) (hb : s.heap.IsList b us.toArray) (hsz : vs.length = us.length) (he : ∀ (j : Nat) (x y : Value), vs[j]? = some x → us[j]? = some y → ∃ z t u, x = .int z t ∧ y = .int z u) (hu : A.units < cLine) (h : Q (.bool false) s) : wpAny (model prog w) A (compareOp .NotEq (.ref l) (.ref b)) Q E s := by
  refine cmp_ofNotEq (PySem.SeqAt.RcNeAt.lists (e := fun _ => true) hl hb (by simpa using hsz) hu (fun j h1 h2 => ?_) prog w E Q ?_)
  · have h1' : j < vs.length := by simpa using h1
    have h2' : j < us.length := by simpa using h2
    obtain ⟨z, t, u, e1, e2⟩ := he j _ _ (List.getElem?_eq_getElem h1') (List.getElem?_eq_getElem h2')
    simp only [List.getElem_toArray]
    rw [e1, e2]
    have := PySem.SeqAt.EqAt.int_int (A := A.in1) (s := s) z t z u
    rwa [beq_self_eq_true] at this
  · have : (List.range vs.toArray.size).all (fun _ => true) = true := by simp
    rw [this]; exact h
end
theorem pn_lt {d c : Nat} {R : List (Addr × Obj)} (h : ∀ q ∈ R, q.1 < d) (hc : d ≤ c) : ∀ p ∈ R, p.1 ≠ c := fun p hp => Nat.ne_of_lt (Nat.lt_of_lt_of_le (h p hp) hc)
theorem pn_cons {a c : Nat} {o : Obj} {r : List (Addr × Obj)} (h : a ≠ c) (H : ∀ p ∈ r, p.1 ≠ c) : ∀ p ∈ (a, o) :: r, p.1 ≠ c := List.forall_mem_cons.2 ⟨h, H⟩
theorem pw_pack {h₀ h : Heap} {L a1 a2 a3 : Addr} {o1 o2 o3 : Obj} {lw c4 c5 c6 c7 c8 s t : Addr × Obj} {rest : List (Addr × Obj)} (N : News h₀ L h (lw :: (a1, o1) :: (a2, o2) :: (a3, o3) :: c4 :: c5 :: c6 :: c7 :: c8 :: s :: t :: rest))
    (h1 : ∀ p ∈ lw :: c4 :: c5 :: c6 :: c7 :: c8 :: rest, p.1 ≠ a1) (h2 : ∀ p ∈ lw :: c4 :: c5 :: c6 :: c7 :: c8 :: rest, p.1 ≠ a2) (h3 : ∀ p ∈ lw :: c4 :: c5 :: c6 :: c7 :: c8 :: rest, p.1 ≠ a3) :
    ∃ W, (∀ p ∈ W, p ∈ lw :: c4 :: c5 :: c6 :: c7 :: c8 :: rest) ∧ lw ∈ W ∧ c4 ∈ W ∧ c5 ∈ W ∧ c6 ∈ W ∧ c7 ∈ W ∧ c8 ∈ W ∧ (∀ p ∈ rest, p ∈ W) ∧ (∀ p ∈ W, p.1 ≠ a1) ∧ (∀ p ∈ W, p.1 ≠ a2) ∧ (∀ p ∈ W, p.1 ≠ a3) ∧ News h₀ L h (s :: (a1, o1) :: (a2, o2) :: (a3, o3) :: t :: W) :=
  ⟨lw :: c4 :: c5 :: c6 :: c7 :: c8 :: rest, fun _ hp => hp, .head _, .tail _ (.head _), .tail _ (.tail _ (.head _)), .tail _ (.tail _ (.tail _ (.head _))), .tail _ (.tail _ (.tail _ (.tail _ (.head _)))), .tail _ (.tail _ (.tail _ (.tail _ (.tail _ (.head _))))), fun p hp => .tail _ (.tail _ (.tail _ (.tail _ (.tail _ (.tail _ hp))))), h1, h2, h3, cb_drop N (by walk_at "subs")⟩
theorem pw_pack_k {h₀ h : Heap} {L a1 a2 a3 : Addr} {o1 o2 o3 : Obj} {lw c4 c5 c6 c7 c8 s t : Addr × Obj} {rest : List (Addr × Obj)} (N : News h₀ L h (lw :: (a1, o1) :: (a2, o2) :: (a3, o3) :: c4 :: c5 :: c6 :: c7 :: c8 :: s :: t :: rest)) (h1 : ∀ p ∈ lw :: c4 :: c5 :: c6 :: c7 :: c8 :: rest, p.1 ≠ a1) (h2 : ∀ p ∈ lw :: c4 :: c5 :: c6 :: c7 :: c8 :: rest, p.1 ≠ a2) (h3 : ∀ p ∈ lw :: c4 :: c5 :: c6 :: c7 :: c8 :: rest, p.1 ≠ a3) {G9 : Prop} (k9 : ∀ W, ((∀ p ∈ W, p ∈ lw :: c4 :: c5 :: c6 :: c7 :: c8 :: rest)) → (lw ∈ W) → (c4 ∈ W) → (c5 ∈ W) → (c6 ∈ W) → (c7 ∈ W) → (c8 ∈ W) → ((∀ p ∈ rest, p ∈ W)) → ((∀ p ∈ W, p.1 ≠ a1)) → ((∀ p ∈ W, p.1 ≠ a2)) → ((∀ p ∈ W, p.1 ≠ a3)) → (News h₀ L h (s :: (a1, o1) :: (a2, o2) :: (a3, o3) :: t :: W)) → G9) : G9 := by
  obtain ⟨W, b1, b2, b3, b4, b5, b6, b7, b8, b9, b10, b11, b12⟩ := pw_pack N h1 h2 h3
  exact k9 W b1 b2 b3 b4 b5 b6 b7 b8 b9 b10 b11 b12
inductive JW (src : Nat) (U : List (Addr × Obj)) (i : Nat) (ys : List Value) : List (Addr × Obj) → Prop
  | mk (o' : Obj) (xs : List Str) (y1 : SrcO o') (y2 : StrsAre ys xs) (y3 : (∀ x ∈ xs, Wd x)) (y4 : ys.length = i) : JW src U i ys ((src, o') :: U)
theorem all_at {l W : List (Addr × Obj)} {P : Addr × Obj → Prop} (hW : ∀ p ∈ W, p ∈ l) (h : ∀ p ∈ l, P p) : ∀ p ∈ W, P p := fun p hp => h p (hW p hp)
theorem packU {h₀ h : Heap} {L : Addr} {s : Addr × Obj} {U : List (Addr × Obj)} (N : News h₀ L h (s :: U)) : ∃ V, V = U ∧ News h₀ L h (s :: V) := ⟨_, rfl, N⟩
theorem packU_k {h₀ h : Heap} {L : Addr} {s : Addr × Obj} {U : List (Addr × Obj)} (N : News h₀ L h (s :: U)) {G9 : Prop} (k9 : ∀ V, (V = U) → (News h₀ L h (s :: V)) → G9) : G9 := by
  obtain ⟨V, b1, b2⟩ := packU N
  exact k9 V b1 b2
theorem wd_up {x : Str} (h : Wd x) (h2 : Wd (Txt.upper x)) {v : Value} {t' : Nat} (hv : v = .str x t' ∨ v = .str (Txt.upper x) t') : ∃ y, v = .str y t' ∧ Wd y := by
  rcases hv with rfl | rfl
  · exact ⟨_, rfl, h⟩
  · exact ⟨_, rfl, h2⟩
theorem wordL_wd : ∀ x ∈ ([Str.ofString "a", Str.ofString "b", Str.ofString "d", Str.ofString "rowid", Str.ofString "oid", Str.ofString "_rowid_", Str.ofString "a", Str.ofString "b"] : List Str), Wd x ∧ Wd (Txt.upper x) := by
  unfold Wd
  decide +kernel
theorem p_front {h₀ h : Heap} {L : Addr} {q : Addr × Obj} (pre : List (Addr × Obj)) {rest : List (Addr × Obj)} (N : News h₀ L h (pre ++ q :: rest)) : News h₀ L h (q :: (pre ++ rest)) := fun x hx => N x (by
  simp only [List.mem_cons, List.mem_append] at hx ⊢
  rcases hx with h | h | h
  · exact .inr (.inl h)
  · exact .inl h
  · exact .inr (.inr h))
theorem off3_ne {I C D s : Addr} {o oI oC oD : Obj} {U : List (Addr × Obj)} (off : LCg.Off3 I C D ((s, o) :: U)) (hU : ∀ p ∈ U, p.1 ≠ s) : ∀ p ∈ (I, oI) :: (C, oC) :: (D, oD) :: U, p.1 ≠ s := fun p hp => by
  have f := off.mem (s, o) (.head _)
  rcases List.mem_cons.mp hp with rfl | hp
  · exact f.1.symm
  rcases List.mem_cons.mp hp with rfl | hp
  · exact f.2.1.symm
  rcases List.mem_cons.mp hp with rfl | hp
  · exact f.2.2.symm
  · exact hU p hp
theorem swap3 {s I C D : Addr × Obj} {U : List (Addr × Obj)} : ∀ p ∈ I :: C :: D :: s :: U, p ∈ s :: I :: C :: D :: U := by walk_at "subs"
theorem get3n {b v : Value} {i : Nat} (h : [.none, b, b][i]? = some v) : v = .none ∨ v = b := by
  match i, h with
  | 0, h => exact .inl (Option.some.inj h).symm
  | 1, h => exact .inr (Option.some.inj h).symm
  | 2, h => exact .inr (Option.some.inj h).symm
theorem skip1 {s l : Addr × Obj} {r : List (Addr × Obj)} : ∀ p ∈ s :: r, p ∈ s :: l :: r := fun p hp => (List.mem_cons.mp hp).elim (fun e => e ▸ .head _) fun hp => .tail _ (.tail _ hp)
section
noncomputable abbrev q54 : Str := Str.ofString "_law_places_right" ++ ".<locals>." ++ "<lambda>"
noncomputable abbrev p54 : List (Nat × Nat) := [(568, 33), (578, 22)]
noncomputable abbrev q71 : Str := Str.ofString "_law_right" ++ ".<locals>." ++ "<lambda>"
noncomputable abbrev p71 : List (Nat × Nat) := [(605, 22)]
noncomputable def lamP : PySem.Expr → Arguments
  | .Lambda p _ _ _ => p
  | _ => default
noncomputable def lamB : PySem.Expr → PySem.Expr
  | .Lambda _ b _ _ => b
  | _ => default
noncomputable def lamS : PySem.Expr → Scope
  | .Lambda _ _ s _ => s
  | _ => default
noncomputable def firstLam : PySem.Expr → PySem.Expr
  | .Call _ (l :: _) _ _ => l
  | .Compare (.Call _ (l :: _) _ _) _ _ _ => l
  | _ => default
noncomputable def valOf : Stmt → PySem.Expr
  | .Assign _ v _ => v
  | .Return (some v) _ => v
  | .For _ _ (_ :: _ :: .If t _ _ _ :: _) _ _ => t
  | _ => default
noncomputable def lx1 : PySem.Expr := the (firstLam (valOf (((bodyOf fs_76)[4]?).getD default))) _ (by conv => lhs; whnf)
noncomputable def lx2 : PySem.Expr := the (firstLam (valOf (((bodyOf fs_76)[9]?).getD default))) _ (by conv => lhs; whnf)
noncomputable def lx3 : PySem.Expr := the (firstLam (valOf (((bodyOf fs_79)[4]?).getD default))) _ (by conv => lhs; whnf)
noncomputable def lb1 : PySem.Expr := the (lamB lx1) _ (by conv => lhs; whnf)
noncomputable def ls1 : Scope := the (lamS lx1) _ (by conv => lhs; whnf)
noncomputable def lp1 : Arguments := the (lamP lx1) _ (by conv => lhs; whnf)
noncomputable def lb2 : PySem.Expr := the (lamB lx2) _ (by conv => lhs; whnf)
noncomputable def ls2 : Scope := the (lamS lx2) _ (by conv => lhs; whnf)
noncomputable def lp2 : Arguments := the (lamP lx2) _ (by conv => lhs; whnf)
noncomputable def lb3 : PySem.Expr := the (lamB lx3) _ (by conv => lhs; whnf)
noncomputable def ls3 : Scope := the (lamS lx3) _ (by conv => lhs; whnf)
noncomputable def lp3 : Arguments := the (lamP lx3) _ (by conv => lhs; whnf)
section
local macro_rules | `(tactic| walk_at "ctrE") => `(tactic| assumption)
local macro_rules | `(tactic| walk_at "eval Name") => `(tactic| (k_here; k_dflt (refine' nameX_F ?N ?c ?m ?d ?_ ?a ?b; (case a => rfl); (case b => rfl); (case N => k_asm); (case c => exact rfl); (case m => assumption); (case d => assumption); k_whole)))
theorem lamI_ctr {w : World} {led : List (Addr × Obj)} {f c' a1 a2 tb : Nat} {oc o1 o2 : Obj} {ws : Array Value} {t : Tok} {ctv pm cv : Value} {R : Value → List (Addr × Obj) → Prop} {RX : Str → Prop}
    (hf : (f, kla_obj "<lambda>" q54 lp1 lb1 ls1 [(Str.ofString "table", a1), (Str.ofString "columns", a2)] pm c' ctv) ∈ led) (hc : (c', oc) ∈ led) (hd0 : oc.data = .fields ws) (hv0 : ws[1]? = some (.str q54 t))
    (h1 : (a1, o1) ∈ led) (hd1 : o1.data = .cell (some (.ref tb))) (h2 : (a2, o2) ∈ led) (hd2 : o2.data = .cell (some cv)) (hI : CtrE w led 7 (.ref 745) [.ref tb, cv] R RX) : CtrE w led 9 (.ref f) [] R RX := by
  intro p loose mean mg mb dp un gd cn cs a ccd cl outer A₀ base h₀ L m hh9 gg9 dd9 tt9 oo9 Q E B F X N T hk hd hu hret hexc
  refine wpAny_call ?_
  k_dflt (refine' kla_code ?k1 ?k2 ?k3 ?k4 ?k5 ?kA ?kF ?kK ?k6 ?k7 ?k8 ?k9 ?kB ?_ ?c2 ?c3 ?c4 ?c5; (case kA => exact rfl); (case kF => exact rfl); (case kK => assumption); (case k1 => k_asm); (case k2 => k_asm); (case k3 => k_asm); (case k4 => k_asm); (case k5 => k_asm); (case k6 => assumption); (case k7 => exact codeRec_news (by k_asm) (by assumption) (by assumption) (by assumption)); (case k8 => ktr_room); (case k9 => exact rfl); (case c5 => decide); (case kB => exact locs rfl); (case c2 => exact rfl); (case c3 => exact rfl); (case c4 => exact rfl); k_whole; intro g9z L9z h9z FG9z F9z N9z B9z X9z T9z; (try k_fold))
  delta lb1 ls1 the
  k_steps
  · (rename News h₀ _ _ _ => kN)
    (rename Fr h₀ _ _ _ => kF)
    exact hret _ _ _ _ (by assumption) kF kN
  · (rename RaisedD _ _ _ _ _ _ _ _ => RD)
    refine' leave_onDX rfl ?K ?F RD ?U ?_
    case K => assumption
    case F => assumption
    case U => assumption
    intro h8 R8 U8
    exact hexc _ _ _ _ _ _ _ _ (by assumption) (by assumption) (by assumption) U8 R8
theorem lamW_ctr {w : World} {led : List (Addr × Obj)} {f c' a1 a2 a3 a4 tb dl wt : Nat} {wd : Int} {oc o1 o2 o3 o4 : Obj} {ws : Array Value} {t : Tok} {ctv pm cv : Value} {R : Value → List (Addr × Obj) → Prop} {RX : Str → Prop}
    (hf : (f, kla_obj "<lambda>" q54 lp2 lb2 ls2 [(Str.ofString "width", a4), (Str.ofString "table", a1), (Str.ofString "due", a3), (Str.ofString "columns", a2)] pm c' ctv) ∈ led) (hc : (c', oc) ∈ led) (hd0 : oc.data = .fields ws) (hv0 : ws[1]? = some (.str q54 t))
    (h1 : (a1, o1) ∈ led) (hd1 : o1.data = .cell (some (.ref tb))) (h2 : (a2, o2) ∈ led) (hd2 : o2.data = .cell (some cv)) (h3 : (a3, o3) ∈ led) (hd3 : o3.data = .cell (some (.ref dl))) (h4 : (a4, o4) ∈ led) (hd4 : o4.data = .cell (some (.int wd wt)))
    (hI : CtrE w led 5 (.ref 752) [.ref tb, cv, .ref dl, .int wd wt] R RX) : CtrE w led 7 (.ref f) [] R RX := by
  intro p loose mean mg mb dp un gd cn cs a ccd cl outer A₀ base h₀ L m hh9 gg9 dd9 tt9 oo9 Q E B F X N T hk hd hu hret hexc
  refine wpAny_call ?_
  k_dflt (refine' kla_code ?k1 ?k2 ?k3 ?k4 ?k5 ?kA ?kF ?kK ?k6 ?k7 ?k8 ?k9 ?kB ?_ ?c2 ?c3 ?c4 ?c5; (case kA => exact rfl); (case kF => exact rfl); (case kK => assumption); (case k1 => k_asm); (case k2 => k_asm); (case k3 => k_asm); (case k4 => k_asm); (case k5 => k_asm); (case k6 => assumption); (case k7 => exact codeRec_news (by k_asm) (by assumption) (by assumption) (by assumption)); (case k8 => ktr_room); (case k9 => exact rfl); (case c5 => decide); (case kB => exact locs rfl); (case c2 => exact rfl); (case c3 => exact rfl); (case c4 => exact rfl); k_whole; intro g9z L9z h9z FG9z F9z N9z B9z X9z T9z; (try k_fold))
  delta lb2 ls2 the
  k_steps
  · (rename News h₀ _ _ _ => kN)
    (rename Fr h₀ _ _ _ => kF)
    exact hret _ _ _ _ (by assumption) kF kN
  · (rename RaisedD _ _ _ _ _ _ _ _ => RD)
    refine' leave_onDX rfl ?K ?F RD ?U ?_
    case K => assumption
    case F => assumption
    case U => assumption
    intro h8 R8 U8
    exact hexc _ _ _ _ _ _ _ _ (by assumption) (by assumption) (by assumption) U8 R8
local macro_rules | `(tactic| walk_at "ctrE") => `(tactic| ((rename ∀ _, CtrE _ _ _ _ _ _ _ => hcE); exact hcE _))
theorem lamR_ctr {w : World} {led : List (Addr × Obj)} {f c' a1 a2 tb xt : Nat} {x : Str} {oc o1 o2 : Obj} {ws : Array Value} {t : Tok} {ctv pm : Value} {R : Value → List (Addr × Obj) → Prop} {RX : Str → Prop}
    (hf : (f, kla_obj "<lambda>" q71 lp3 lb3 ls3 [(Str.ofString "table", a1), (Str.ofString "name", a2)] pm c' ctv) ∈ led) (hc : (c', oc) ∈ led) (hd0 : oc.data = .fields ws) (hv0 : ws[1]? = some (.str q71 t))
    (h1 : (a1, o1) ∈ led) (hd1 : o1.data = .cell (some (.ref tb))) (h2 : (a2, o2) ∈ led) (hd2 : o2.data = .cell (some (.str x xt))) (hx : x.length ≤ 1000)
    (hI : ∀ tm, CtrE w led 5 (.ref 738) [.ref tb, .str x xt, .str (Str.ofString "no " ++ x) tm] R RX) : CtrE w led 7 (.ref f) [] R RX := by
  intro p loose mean mg mb dp un gd cn cs a ccd cl outer A₀ base h₀ L m hh9 gg9 dd9 tt9 oo9 Q E B F X N T hk hd hu hret hexc
  refine wpAny_call ?_
  k_dflt (refine' kla_code ?k1 ?k2 ?k3 ?k4 ?k5 ?kA ?kF ?kK ?k6 ?k7 ?k8 ?k9 ?kB ?_ ?c2 ?c3 ?c4 ?c5; (case kA => exact rfl); (case kF => exact rfl); (case kK => assumption); (case k1 => k_asm); (case k2 => k_asm); (case k3 => k_asm); (case k4 => k_asm); (case k5 => k_asm); (case k6 => assumption); (case k7 => exact codeRec_news (by k_asm) (by assumption) (by assumption) (by assumption)); (case k8 => ktr_room); (case k9 => exact rfl); (case c5 => decide); (case kB => exact locs rfl); (case c2 => exact rfl); (case c3 => exact rfl); (case c4 => exact rfl); k_whole; intro g9z L9z h9z FG9z F9z N9z B9z X9z T9z; (try k_fold))
  delta lb3 ls3 the
  k_steps
  · (rename News h₀ _ _ _ => kN)
    (rename Fr h₀ _ _ _ => kF)
    exact hret _ _ _ _ (by assumption) kF kN
  · (rename RaisedD _ _ _ _ _ _ _ _ => RD)
    refine' leave_onDX rfl ?K ?F RD ?U ?_
    case K => assumption
    case F => assumption
    case U => assumption
    intro h8 R8 U8
    exact hexc _ _ _ _ _ _ _ _ (by assumption) (by assumption) (by assumption) U8 R8
end
end
local macro_rules | `(tactic| walk_at "call ref") => `(tactic| (k_here; k_dflt (refine Held.at [1019, 738] rfl ?_)))
local macro_rules | `(tactic| walk_at "eval Lambda") => `(tactic| (k_here; refine Held.mk ?_))
local macro_rules | `(tactic| walk_at "eval Name") => `(tactic| (k_here; k_dflt (refine' nameX_C ?N ?c ?m ?d ?_ ?a ?b; (case a => rfl); (case b => rfl); (case N => k_asm); (case c => exact rfl); (case m => k_mem); (case d => assumption); k_whole)))
local macro_rules | `(tactic| walk_at "eval Name") => `(tactic| (k_here; k_dflt (refine' nameX_L ?F ?v ?_ ?a ?b; (case a => rfl); (case b => rfl); (case F => k_asm); (case v => walk_at "mget"); k_whole)))
noncomputable def b76 : List Stmt := the ((bodyOf fs_76).drop 4) _ (by conv => lhs; whnf)
noncomputable def b76r : List Stmt := the ((bodyOf fs_76).drop 9) _ (by conv => lhs; whnf)
noncomputable def sc76 : Scope := the (scopeOf fs_76) _ (by conv => lhs; whnf)
theorem CtrE.mono {w : World} {led : List (Addr × Obj)} {need : Nat} {f : Value} {vs : List Value} {R R' : Value → List (Addr × Obj) → Prop} {RX RX' : Str → Prop} (C : CtrE w led need f vs R RX) (h : ∀ v l, R v l → R' v l) (hx : ∀ m, RX m → RX' m) : CtrE w led need f vs R' RX' :=
  fun p loose mean mg mb dp un gd cn cs a ccd cl outer A₀ base h₀ L m hh9 gg9 dd9 tt9 oo9 Q E B F X N T hk hd hu hret hexc =>
    C p loose mean mg mb dp un gd cn cs a ccd cl outer A₀ base h₀ L m hh9 gg9 dd9 tt9 oo9 Q E B F X N T hk hd hu (fun v l h' tk' hR => hret v l h' tk' (h v l hR)) (fun e d G h' tk' tk msg u hm => hexc e d G h' tk' tk msg u (hx msg hm))
theorem ints_same {xs : List Value} {ks : List Int} (h : IntsAre xs ks) : ∀ {ys : List Value}, IntsAre ys ks → xs.length = ys.length ∧ xs.any isNoneV = false ∧ (∀ y ∈ ys, ∃ z t, y = .int z t) ∧ ∀ (j : Nat) (x y : Value), xs[j]? = some x → ys[j]? = some y → ∃ z t u, x = .int z t ∧ y = .int z u := by
  induction h with
  | nil => intro ys hy; cases hy; exact ⟨rfl, rfl, (fun y hy => nomatch hy), fun j x y e => by simp at e⟩
  | cons k t hr ih =>
    intro ys hy
    cases hy with
    | cons k u hs =>
      obtain ⟨h1, h2, h3, h4⟩ := ih hs
      refine ⟨by simp [h1], by simpa [isNoneV] using h2, fun y hy => ?_, fun j x y e1 e2 => ?_⟩
      · rcases List.mem_cons.mp hy with rfl | hy
        · exact ⟨_, _, rfl⟩
        · exact h3 y hy
      · cases j with
        | zero =>
          simp at e1 e2
          exact ⟨k, t, u, e1.symm, e2.symm⟩
        | succ j => exact h4 j x y (by simpa using e1) (by simpa using e2)
noncomputable def ColsV (Z : List (Addr × Obj)) (cv : Value) (names : List Str) (key : Option Nat) (dv : List Value) : Prop :=
  (cv = .none ∧ IntsAre dv (rangeKs 0 names.length)) ∨ ∃ (ca ck : Nat) (cvs : List Value) (xs : List Str), cv = .ref ca ∧ (ca, W.listOf cvs.toArray ck) ∈ Z ∧ StrsAre cvs xs ∧ (∀ x ∈ xs, Wd x) ∧ cvs.length ≤ 100 ∧ dv.length = xs.length ∧ ∀ (j : Nat) (x : Str) (y : Value), xs[j]? = some x → dv[j]? = some y → PlV (plc names key x) y
inductive InsR (led : List (Addr × Obj)) (dv : List Value) (v : Value) (led' : List (Addr × Obj)) : Prop
  | mk (l : Nat) (k : Nat) (ys : List Value) (y1 : v = .ref l) (y2 : led' = (l, W.listOf ys.toArray k) :: led) (y3 : (∀ p ∈ led, p.1 < l)) (y4 : dv.any isNoneV = false) (y5 : ys.length = dv.length) (y6 : ∀ (j : Nat) (x y : Value), ys[j]? = some x → dv[j]? = some y → ∃ z t u, x = .int z t ∧ y = .int z u) : InsR led dv v led'
inductive InsX (Z : List (Addr × Obj)) (cv : Value) (dv : List Value) (msg : Str) : Prop
  | mk (i : Nat) (ca : Nat) (ck : Nat) (x : Str) (cvs : List Value) (xs : List Str) (y1 : cv = .ref ca) (y2 : (ca, W.listOf cvs.toArray ck) ∈ Z) (y3 : StrsAre cvs xs) (y4 : xs[i]? = some x) (y5 : dv[i]? = some .none) (y6 : (∀ (j : Nat) (y : Value), j < i → dv[j]? = some y → isNoneV y = false)) (y7 : msg = noMsg x) (y8 : dv.any isNoneV = true) (y9 : x.length ≤ 1000) (y10 : cvs.length ≤ 100) : InsX Z cv dv msg
theorem insV_ctr {w : World} {led Z : List (Addr × Obj)} {tb lc : Nat} {rp cv : Value} {names : List Str} {key : Option Nat} {dv : List Value} (hT : TabAt w.params led tb lc rp names) (hk : ∀ k, key = some k → k < names.length) (hR : RpAt key names.length rp) (hcv : ColsV Z cv names key dv) (hZ : ∀ p ∈ Z, p ∈ led) :
    CtrE w led 7 (.ref 745) [.ref tb, cv] (InsR led dv) (InsX Z cv dv) := by
  rcases hcv with ⟨rfl, hi⟩ | ⟨ca, ck, cvs, xs, rfl, hca, hcs, hxs, hcl, hdl, hpl⟩
  · refine (insertN_ctr hT).mono (fun v l h => ?_) fun m h => h.elim
    obtain ⟨l', ys, k, rfl, rfl, hlt, hy⟩ := h
    obtain ⟨h1, h2, h3, h4⟩ := ints_same hi hy
    exact ⟨l', k, ys, rfl, rfl, hlt, h2, h1.symm, fun j x y e1 e2 => let ⟨z, t, u, a, b⟩ := h4 j y x e2 e1; ⟨z, u, t, b, a⟩⟩
  · have hrp : rp = .none ∨ ∃ k t : Nat, rp = .int k t := by
      cases key with
      | none => exact .inl hR
      | some k =>
        simp only [RpAt, hk k rfl, if_true] at hR
        obtain ⟨t, rfl⟩ := hR
        exact .inr ⟨k, t, rfl⟩
    have hw : ∀ (j : Nat) (x : Str) (y d : Value), xs[j]? = some x → dv[j]? = some d → WantR names rp x y → ∃ z t u, y = .int z t ∧ d = .int z u := fun j x y d e1 e2 hw => by
      obtain ⟨z, t, rfl, hp⟩ := want_plc hk hR hw
      have := hpl j x d e1 e2
      rw [hp] at this
      obtain ⟨u, rfl⟩ := this
      exact ⟨z, t, u, rfl, rfl⟩
    refine (insertC_ctr hT hrp (hZ _ hca) hcs (fun x hx => (hxs x hx).1) hcl).mono (fun v l h => ?_) fun m h => ?_
    · obtain ⟨l', ys, k, rfl, rfl, hlt, hyl, hy⟩ := h
      have hlen : ys.length = dv.length := by rw [hyl, hdl, strs_len hcs]
      have hel : ∀ (j : Nat) (x y : Value), ys[j]? = some x → dv[j]? = some y → ∃ z t u, x = .int z t ∧ y = .int z u := fun j x y e1 e2 => by
        have hj : j < xs.length := by rw [← hdl]; exact (List.getElem?_eq_some_iff.mp e2).1
        exact hw j _ x y (List.getElem?_eq_getElem hj) e2 (hy j _ x (List.getElem?_eq_getElem hj) e1)
      refine ⟨l', k, ys, rfl, rfl, hlt, ?_, hlen, hel⟩
      rw [List.any_eq_false]
      intro d hd
      obtain ⟨j, hj⟩ := List.mem_iff_getElem?.mp hd
      have hjl : j < ys.length := by rw [hlen]; exact (List.getElem?_eq_some_iff.mp hj).1
      obtain ⟨z, t, u, _, rfl⟩ := hel j _ d (List.getElem?_eq_getElem hjl) hj
      simp [isNoneV]
    · obtain ⟨i, x, hx, rfl, h1, h2, h3⟩ := h
      have hil : i < dv.length := by rw [hdl]; exact (List.getElem?_eq_some_iff.mp hx).1
      have hdi := hpl i x _ hx (List.getElem?_eq_getElem hil)
      rw [no_plc h1 h2] at hdi
      have hdi : dv[i] = .none := hdi
      have hdn : dv[i]? = some .none := by rw [List.getElem?_eq_getElem hil, hdi]
      refine ⟨i, ca, ck, x, cvs, xs, rfl, hca, hcs, hx, hdn, fun j y hj e => ?_, rfl, List.any_eq_true.mpr ⟨_, List.mem_of_getElem? hdn, rfl⟩, (hxs x (List.mem_of_getElem? hx)).1, hcl⟩
      have hjl : j < xs.length := Nat.lt_trans hj (List.getElem?_eq_some_iff.mp hx).1
      obtain ⟨y', hy'⟩ := h3 j _ hj (List.getElem?_eq_getElem hjl)
      obtain ⟨z, t, u, _, rfl⟩ := hw j _ y' y (List.getElem?_eq_getElem hjl) e hy'
      rfl
theorem colsV_kinds {Z : List (Addr × Obj)} {cv : Value} {names : List Str} {key : Option Nat} {dv : List Value} (h : ColsV Z cv names key dv) : ∀ y ∈ dv, y = .none ∨ ∃ z t, y = .int z t := by
  rcases h with ⟨_, hi⟩ | ⟨ca, ck, cvs, xs, _, _, _, _, _, hdl, hpl⟩
  · intro y hy
    exact .inr ((ints_same hi hi).2.2.1 y hy)
  · intro y hy
    obtain ⟨j, hj⟩ := List.mem_iff_getElem?.mp hy
    have hjl : j < xs.length := by rw [← hdl]; exact (List.getElem?_eq_some_iff.mp hj).1
    have := hpl j _ y (List.getElem?_eq_getElem hjl) hj
    cases ho : plc names key xs[j] with
    | none => rw [ho] at this; exact .inl this
    | some z => rw [ho] at this; obtain ⟨t, rfl⟩ := this; exact .inr ⟨z, t, rfl⟩
theorem noMsg_eq (x : Str) : noMsg x = Str.ofString "table Tab has no column named " ++ x := congrArg (· ++ x) (by decide +kernel : Str.ofString "table " ++ Str.ofString "Tab" ++ Str.ofString " has no column named " = Str.ofString "table Tab has no column named ")
theorem strs_at {vs : List Value} {xs : List Str} (h : StrsAre vs xs) : ∀ {i : Nat} {x : Str}, xs[i]? = some x → ∃ t, vs[i]? = some (.str x t) := by
  induction h with
  | nil => intro i x e; simp at e
  | cons y t hr ih =>
    intro i x e
    cases i with
    | zero => simp at e; exact ⟨t, by simp [e]⟩
    | succ i => simpa using ih (by simpa using e)
theorem colsV_len {Z : List (Addr × Obj)} {cv : Value} {names : List Str} {key : Option Nat} {dv : List Value} (h : ColsV Z cv names key dv) : cv = .none → dv.length = names.length := by
  rcases h with ⟨_, hi⟩ | ⟨ca, ck, cvs, xs, rfl, _⟩
  · intro _
    have := IntsAre.length hi
    simpa [rangeKs_length] using this
  · intro h; cases h
theorem ext2_ok {c2 c' : Addr} {oc2 oc : Obj} {Z Z1 Zc : List (Addr × Obj)} (h1 : (c', oc) ∈ Zc ∨ (1054 < c' ∧ ∀ q ∈ Z, q.1 < c')) (h2 : (c2, oc2) ∈ (c', oc) :: Zc ∨ (1054 < c2 ∧ ∀ q ∈ Z1, q.1 < c2)) (hZ : ∀ p ∈ Z, p ∈ Z1) : ∀ p ∈ [(c2, oc2), (c', oc)], p ∈ Zc ∨ (1054 < p.1 ∧ ∀ q ∈ Z, q.1 < p.1) := fun p hp => by
  rcases List.mem_cons.mp hp with rfl | hp
  · rcases h2 with h | h
    · rcases List.mem_cons.mp h with h | h
      · rw [h]; exact h1
      · exact .inl h
    · exact .inr ⟨h.1, fun q hq => h.2 q (hZ q hq)⟩
  · rw [List.mem_singleton.mp hp]; exact h1
theorem sub2_ok {a c2 c' : Addr × Obj} {Z Z1 Z2 : List (Addr × Obj)} (h2 : ∀ p ∈ c2 :: Z1, p ∈ Z2) (h1 : ∀ p ∈ c' :: Z, p ∈ Z1) : ∀ p ∈ a :: ([c2, c'] ++ Z), p ∈ a :: Z2 := fun p hp => by
  rcases List.mem_cons.mp hp with rfl | hp
  · exact .head _
  rcases List.mem_cons.mp hp with rfl | hp
  · exact .tail _ (h2 _ (.head _))
  · exact .tail _ (h2 _ (.tail _ (h1 _ hp)))
theorem sub3_ok {a c2 c' : Addr × Obj} {Z Z1 : List (Addr × Obj)} (h1 : ∀ p ∈ c' :: Z, p ∈ Z1) : ∀ p ∈ a :: ([c2, c'] ++ Z), p ∈ a :: c2 :: Z1 := fun p hp => by
  rcases List.mem_cons.mp hp with rfl | hp
  · exact .head _
  rcases List.mem_cons.mp hp with rfl | hp
  · exact .tail _ (.head _)
  · exact .tail _ (.tail _ (h1 _ hp))
theorem sub1_ok {a d c' : Addr × Obj} {Z Z1 : List (Addr × Obj)} (h1 : ∀ p ∈ c' :: Z, p ∈ Z1) : ∀ p ∈ a :: ([c'] ++ Z), p ∈ d :: a :: Z1 := fun p hp => by
  rcases List.mem_cons.mp hp with rfl | hp
  · exact .tail _ (.head _)
  · exact .tail _ (.tail _ (h1 _ hp))
theorem bne_f {a b : Int} (h : (a != b) = false) : a = b := by simpa using h
theorem bne_t {a b : Int} (h : (a != b) = true) : a ≠ b := by simpa using h
theorem tup_at {h₀ h : Heap} {L d : Addr} {vs : List Value} {news : List (Addr × Obj)} {k : Nat} (N : News h₀ L h news) (hm : (d, ({ cls := .type "tuple", data := .seq vs.toArray k } : Obj)) ∈ news) : h.IsTuple d vs.toArray := ⟨_, (N _ hm).1, rfl, k, rfl⟩
section
variable {prog : Program} {w : World} {A : Around} {E : Value → Shared → Prop} {s : Shared}
theorem pair_at {v1 v2 u1 u2 : Value} (h1 : PySem.SeqAt.EqAt A s v1 u1 true) (h2 : PySem.SeqAt.EqAt A s v2 u2 true) : ∀ j (h1 : j < ([v1, v2].toArray).size) (h2 : j < ([u1, u2].toArray).size), PySem.SeqAt.EqAt A s [v1, v2].toArray[j] [u1, u2].toArray[j] ((fun _ => true) j) := fun j hj hj2 => by
  match j, hj, hj2 with
  | 0, _, _ => exact h1
  | 1, _, _ => exact h2
  | j + 2, hj, _ => exact absurd hj (by simp)
theorem eq_pair {a b : Addr} {v1 v2 u1 u2 : Value} {Q : Value → Shared → Prop} (ha : s.heap.IsTuple a [v1, v2].toArray) (hb : s.heap.IsTuple b [u1, u2].toArray) (hu : A.units < cLine) (h1 : PySem.SeqAt.EqAt A.in1 s v1 u1 true) (h2 : PySem.SeqAt.EqAt A.in1 s v2 u2 true) (h : Q (.bool true) s) : wpAny (model prog w) A (compareOp .Eq (.ref a) (.ref b)) Q E s :=
  PySem.SeqAt.eq_tupleAt (e := fun _ => true) ha hb hu (pair_at h1 h2) h
theorem ne_pair {a b : Addr} {v1 v2 u1 u2 : Value} {Q : Value → Shared → Prop} (ha : s.heap.IsTuple a [v1, v2].toArray) (hb : s.heap.IsTuple b [u1, u2].toArray) (hu : A.units < cLine) (h1 : PySem.SeqAt.EqAt A.in1 s v1 u1 true) (h2 : PySem.SeqAt.EqAt A.in1 s v2 u2 true) (h : Q (.bool false) s) : wpAny (model prog w) A (compareOp .NotEq (.ref a) (.ref b)) Q E s :=
  cmp_ofNotEq (PySem.SeqAt.RcNeAt.tuples (e := fun _ => true) ha hb hu (pair_at h1 h2) prog w E Q h)
theorem str_same (x : Str) (t u : Tok) : PySem.SeqAt.EqAt A s (.str x t) (.str x u) true := by
  have := PySem.SeqAt.EqAt.str_str (A := A) (s := s) x t x u
  rwa [beq_self_eq_true] at this
theorem int_same (x : Int) (t u : Tok) : PySem.SeqAt.EqAt A s (.int x t) (.int x u) true := by
  have := PySem.SeqAt.EqAt.int_int (A := A) (s := s) x t x u
  rwa [beq_self_eq_true] at this
end
theorem ne_int_is {prog : Program} {w : World} {A : Around} {E : Value → Shared → Prop} {s : Shared} {a b : Int} {t u : Tok} {X : Bool} {Q : Value → Shared → Prop} (hX : (a != b) = X) (h : Q (.bool X) s) : wpAny (model prog w) A (compareOp .NotEq (.int a t) (.int b u)) Q E s := by
  subst hX
  exact PyProof.Rows.ne_int h
theorem packL {h₀ h : Heap} {L f c' P : Addr} {a of oc : Obj} {Z Zc : List (Addr × Obj)} (N : News h₀ L h ((P, a) :: (f, of) :: (c', oc) :: Z)) (hP : ∀ p ∈ Z, p.1 ≠ P) (hcc : (c', oc) ∈ Zc ∨ (P < c' ∧ ∀ q ∈ Z, q.1 < c')) (hZc : ∀ p ∈ Zc, p ∈ Z) (hf : P < f) : ∃ Z1, (f, of) ∈ Z1 ∧ (∀ p ∈ (c', oc) :: Z, p ∈ Z1) ∧ (∀ p ∈ Z1, p.1 ≠ P) ∧ News h₀ L h ((P, a) :: Z1) :=
  ⟨_, .head _, fun p hp => .tail _ hp, fun p hp => by
    rcases List.mem_cons.mp hp with rfl | hp
    · exact Nat.ne_of_gt hf
    rcases List.mem_cons.mp hp with rfl | hp
    · rcases hcc with h | h
      · exact hP _ (hZc _ h)
      · exact Nat.ne_of_gt h.1
    · exact hP p hp, N⟩
theorem packL_k {h₀ h : Heap} {L f c' P : Addr} {a of oc : Obj} {Z Zc : List (Addr × Obj)} (N : News h₀ L h ((P, a) :: (f, of) :: (c', oc) :: Z)) (hP : ∀ p ∈ Z, p.1 ≠ P) (hcc : (c', oc) ∈ Zc ∨ (P < c' ∧ ∀ q ∈ Z, q.1 < c')) (hZc : ∀ p ∈ Zc, p ∈ Z) (hf : P < f) {G9 : Prop} (k9 : ∀ Z1, ((f, of) ∈ Z1) → ((∀ p ∈ (c', oc) :: Z, p ∈ Z1)) → ((∀ p ∈ Z1, p.1 ≠ P)) → (News h₀ L h ((P, a) :: Z1)) → G9) : G9 := by
  obtain ⟨Z1, b1, b2, b3, b4⟩ := packL N hP hcc hZc hf
  exact k9 Z1 b1 b2 b3 b4
local macro_rules | `(tactic| walk_at "same") => `(tactic| first | with_reducible exact PySem.SeqAt.EqAt.same _ | with_reducible exact str_same _ _ _ | with_reducible exact int_same _ _ _)
local macro_rules | `(tactic| walk_at "ist") => `(tactic| exact tup_at (by k_asm) (by k_mem))
section
section
local macro_rules | `(tactic| walk_at "compareOp In none ref") => `(tactic| (k_here; k_dflt (refine in_none (by walk_at "isl") (by assumption) (by assumption) ?_; k_whole)))
local macro_rules | `(tactic| walk_at "compareOp NotEq ref ref") => `(tactic| (k_here; k_dflt (refine ne_ints (by walk_at "isl") (by walk_at "isl") (by assumption) (by assumption) (by ktr_units) ?_; k_whole)))
local macro_rules | `(tactic| walk_at "call builtin:list.index") => `(tactic| (k_here; refine Held.mk ?_))
local macro_rules | `(tactic| walk_at "compareOp Eq ref ref") => `(tactic| (k_here; k_dflt (refine eq_pair (by walk_at "ist") (by walk_at "ist") (by ktr_units) (by walk_at "same") (by walk_at "same") ?_; k_whole)))
local macro_rules | `(tactic| walk_at "compareOp NotEq int int") => `(tactic| (k_here; k_dflt (refine ne_int_is (by assumption) ?_; k_whole)))
section
theorem tailQ {w : World} {p : Program} {loose : List Str} {mean : ExcName → Option Value} {mg mb : Str → Option Value} {dp un : Nat} {gd : Option (List Code)} {outer : List Env} {A₀ : Around} {base g : Heap} {L : Addr} {m : Str → Option Value} {s : Shared} {Q : Flow → Shared → Prop} {E : Value → Shared → Prop}
    {tb lc dl kd wt : Nat} {wd : Int} {rp cv mv : Value} {dv : List Value} {names : List Str} {ps : Array Value} {Z Zc : List (Addr × Obj)} {o4 o6 o7 o8 : Obj}
    (B : Below A₀ base outer g) (F : Fr g L s.heap m) (X : (hd.heap_39 w.params).In g) (N : News g L s.heap ((1054, tabObj ps) :: Z)) (T : Top p loose mean mg mb g) (XB : (hd.heap_39 w.params).In base) (TB : Top p loose mean mg mb base) (D : KtsDicts (outer.filterMap (·.frame)) g)
    (hd : dp + 14 < recursionLimit) (hu : un + 8 * 14 < cLine) (hP : ∀ p ∈ Z, p.1 ≠ 1054) (hC : Codes q54 p54 ps Zc) (hZc : ∀ p ∈ Zc, p ∈ Z)
    (h4 : (L + 1 + 1 + 1 + 1, o4) ∈ Z) (hd4 : o4.data = .cell (some (.ref tb))) (h6 : (L + 1 + 1 + 1 + 1 + 1 + 1, o6) ∈ Z) (hd6 : o6.data = .cell (some cv))
    (h7 : (L + 1 + 1 + 1 + 1 + 1 + 1 + 1, o7) ∈ Z) (hd7 : o7.data = .cell (some (.ref dl))) (h8 : (L + 1 + 1 + 1 + 1 + 1 + 1 + 1 + 1, o8) ∈ Z) (hd8 : o8.data = .cell (some (.int wd wt)))
    (hT : TabAt w.params Z tb lc rp names) (hdl : (dl, W.listOf dv.toArray kd) ∈ Z) (hdn : dv.length ≤ 100) (hcv : cv = .none ∨ ∃ ca : Nat, cv = .ref ca) (hw : 0 ≤ wd ∧ wd ≤ 100)
    (hm : m (Str.ofString "message") = some mv) (hmv : (mv = .none ∧ wd = dv.length) ∨ (wd ≠ dv.length ∧ ∃ msg u, mv = .str msg u ∧ ∀ msg', ((cv = .none ∧ msg' = widMsgN dv.length wd) ∨ (cv ≠ .none ∧ msg' = widMsgC dv.length wd)) → msg' = msg))
    (ret : ∀ (ps' : Array Value) (c2 : Addr) (oc2 : Obj) (g' h' : Heap) (tk' : Nat) (m' : Str → Option Value), KtsTurn (outer.filterMap (·.frame)) g g' → Fr g' L h' m' → News g' L h' ((1054, tabObj ps') :: (c2, oc2) :: Z) → Codes q54 p54 ps' ((c2, oc2) :: Zc) → (c2, oc2) ∈ Zc ∨ (1054 < c2 ∧ ∀ q ∈ Z, q.1 < c2) → Q (.ret (.bool true)) { s with heap := h', toks := tk' }) :
    wpAny (model PySem.Challenge.rw_xm0769_01.row.prog w) (ktrTop dp un gd (Str.ofString "_law_places_right") sc76 L 1057 (.ref 1056) (cellsFrom (L + 1) sc76.names []) outer) (execs b76r (envX (Str.ofString "_law_places_right") sc76 L 1057 (.ref 1056) (cellsFrom (L + 1) sc76.names []))) Q E s := by
  delta b76r sc76 the
  k_steps
  refine Held.out ?_
  (k_dflt (refine' lam_any (poss := p54) ?l1 (by assumption) (by assumption) (by assumption) (code56 (by assumption)) ?l2 ?l3 (by assumption) (by assumption) ?l4 (by assumption) ?_); (case l1 => exact rfl); (case l2 => exact rfl); (case l3 => exact rfl); (case l4 => decide))
  intro f2 c2 ctv2 ps2 oc2' h2' tk2' F4 N4 hC2 hR2 hcc2 l4 l5 l6
  obtain ⟨oc3, ws2, t2, hm2, hd02, hv02⟩ := hR2
  refine packL_k N4 hP hcc2 hZc l5 ?_
  intro Z2 hf2 hZL2 hP2 N5
  have hc2 := hZL2 _ hm2
  have hZ2' : ∀ p ∈ Z, p ∈ (1054, tabObj ps2) :: Z2 := fun p hp => .tail _ (hZL2 p (.tail _ hp))
  clear N4 N
  have h4L := hZ2' _ h4
  have h6L := hZ2' _ h6
  have h7L := hZ2' _ h7
  have h8L := hZ2' _ h8
  have hdL := hZ2' _ hdl
  k_steps
  refine Held.out ?_
  k_dflt (refine' ctrS_use (tried_ctr (.tail _ hf2) (lamW_ctr (.tail _ hf2) (.tail _ hc2) hd02 hv02 h4L hd4 h6L hd6 h7L hd7 h8L hd8 (width_ctr (hT.more hZ2') hdL hdn hw hcv))) ?B ?F ?X N5 (fun _ hp => hp) ?T ?XB ?TB ?D ?hk ?hd ?hu ?_; ((case B => k_asm); (case F => k_asm); (case XB => k_asm); (case TB => k_asm); (case D => assumption); walk_at "use4"))
  intro v9 led9 g8 h9 tk9 hR9 KT8 F8 N8 B8 X8 T8 D8
  have hsub2 : ∀ p ∈ (1054, tabObj ps2) :: (c2, oc2') :: Z, p ∈ (1054, tabObj ps2) :: Z2 := List.forall_mem_cons.2 ⟨.head _, fun p hp => .tail _ (hZL2 p hp)⟩
  cases hR9 with
  | ok hR0 hlt0 =>
    obtain ⟨rfl, rfl, hwl⟩ := hR0
    rcases hmv with ⟨rfl, _⟩ | ⟨hne, _⟩
    · (try dsimp only)
      (try k_fold)
      k_steps
      (rename News g8 _ _ _ => kN8)
      exact ret ps2 c2 oc2' g8 _ _ _ KT8 (by assumption) (cb_drop kN8 fun p hp => .tail _ (.tail _ (hsub2 p hp))) hC2 hcc2
    · exact absurd hwl hne
  | exc hX0 hlt0 =>
    obtain ⟨hne, hmm⟩ := hX0
    rcases hmv with ⟨_, he⟩ | ⟨_, msg, u, rfl, hq⟩
    · exact absurd he hne
    · obtain rfl := hq _ hmm
      (try dsimp only)
      (try k_fold)
      k_steps
      (rename News g8 _ _ _ => kN8)
      exact ret ps2 c2 oc2' g8 _ _ _ KT8 (by assumption) (cb_drop kN8 fun p hp => .tail _ (.tail _ (hsub2 p hp))) hC2 hcc2
end
theorem tailP {w : World} {p : Program} {loose : List Str} {mean : ExcName → Option Value} {mg mb : Str → Option Value} {dp un : Nat} {gd : Option (List Code)} {outer : List Env} {A₀ : Around} {base g : Heap} {L : Addr} {m : Str → Option Value} {s : Shared} {Q : Flow → Shared → Prop} {E : Value → Shared → Prop}
    {ln kn tb lc dl kd wt : Nat} {wd : Int} {rp cv : Value} {vs dv : List Value} {names : List Str} {key : Option Nat} {ps : Array Value} {Z Zc : List (Addr × Obj)} {o2 o4 o6 o7 o8 : Obj}
    (B : Below A₀ base outer g) (F : Fr g L s.heap m) (X : (hd.heap_39 w.params).In g) (N : News g L s.heap ((1054, tabObj ps) :: Z)) (T : Top p loose mean mg mb g) (XB : (hd.heap_39 w.params).In base) (TB : Top p loose mean mg mb base) (D : KtsDicts (outer.filterMap (·.frame)) g)
    (hd : dp + 14 < recursionLimit) (hu : un + 8 * 14 < cLine) (hP : ∀ p ∈ Z, p.1 ≠ 1054) (hC : Codes q54 p54 ps Zc) (hZc : ∀ p ∈ Zc, p ∈ Z)
    (h2 : (L + 1 + 1, o2) ∈ Z) (hd2 : o2.data = .cell (some (.ref ln))) (h4 : (L + 1 + 1 + 1 + 1, o4) ∈ Z) (hd4 : o4.data = .cell (some (.ref tb))) (h6 : (L + 1 + 1 + 1 + 1 + 1 + 1, o6) ∈ Z) (hd6 : o6.data = .cell (some cv))
    (h7 : (L + 1 + 1 + 1 + 1 + 1 + 1 + 1, o7) ∈ Z) (hd7 : o7.data = .cell (some (.ref dl))) (h8 : (L + 1 + 1 + 1 + 1 + 1 + 1 + 1 + 1, o8) ∈ Z) (hd8 : o8.data = .cell (some (.int wd wt)))
    (hnl : (ln, W.listOf vs.toArray kn) ∈ Z) (hvl : vs.length = names.length) (hn : names.length ≤ 50) (hT : TabAt w.params Z tb lc rp names) (hk : ∀ k, key = some k → k < names.length) (hR : RpAt key names.length rp)
    (hdl : (dl, W.listOf dv.toArray kd) ∈ Z) (hdn : dv.length ≤ 100) (hcv : ColsV Z cv names key dv) (hw : 0 ≤ wd ∧ wd ≤ 100)
    (ret : ∀ (ps' : Array Value) (ext : List (Addr × Obj)) (g' h' : Heap) (tk' : Nat) (m' : Str → Option Value), KtsTurn (outer.filterMap (·.frame)) g g' → Fr g' L h' m' → News g' L h' ((1054, tabObj ps') :: (ext ++ Z)) → Codes q54 p54 ps' (ext ++ Zc) → (∀ p ∈ ext, p ∈ Zc ∨ (1054 < p.1 ∧ ∀ q ∈ Z, q.1 < p.1)) → Q (.ret (.bool true)) { s with heap := h', toks := tk' }) :
    wpAny (model PySem.Challenge.rw_xm0769_01.row.prog w) (ktrTop dp un gd (Str.ofString "_law_places_right") sc76 L 1057 (.ref 1056) (cellsFrom (L + 1) sc76.names []) outer) (execs b76 (envX (Str.ofString "_law_places_right") sc76 L 1057 (.ref 1056) (cellsFrom (L + 1) sc76.names []))) Q E s := by
  delta b76 sc76 the
  have hkinds : ∀ y, y ∈ dv.toArray → y = .none ∨ ∃ z t, y = .int z t := fun y hy => colsV_kinds hcv y (by simpa using hy)
  k_steps
  refine Held.out ?_
  (k_dflt (refine' lam_any (poss := p54) ?l1 (by assumption) (by assumption) (by assumption) (code56 (by assumption)) ?l2 ?l3 (by assumption) (by assumption) ?l4 (by assumption) ?_); (case l1 => exact rfl); (case l2 => exact rfl); (case l3 => exact rfl); (case l4 => decide))
  intro f c' ctv ps' oc h' tk' F1 N1 hC1 hR1 hcc l1 l2 l3
  obtain ⟨oc2, ws, t0, hm0, hd0, hv0⟩ := hR1
  refine packL_k N1 hP hcc hZc l2 ?_
  intro Z1 hf1 hZL hP1 N2
  have hc1 := hZL _ hm0
  have hZ1 : ∀ p ∈ Z, p ∈ Z1 := fun p hp => hZL p (.tail _ hp)
  have hZ1' : ∀ p ∈ Z, p ∈ (1054, tabObj ps') :: Z1 := fun p hp => .tail _ (hZ1 p hp)
  have hZc1 : ∀ q ∈ (c', oc) :: Zc, q ∈ Z1 := fun q hq => hZL q ((List.mem_cons.mp hq).elim (fun e => e ▸ .head _) fun h => .tail _ (hZc q h))
  have h4L := hZ1 _ h4
  have h6L := hZ1 _ h6
  have h7L := hZ1 _ h7
  have h8L := hZ1 _ h8
  have h2L := hZ1 _ h2
  have hnL := hZ1 _ hnl
  have hdL := hZ1 _ hdl
  clear N1 N
  k_steps
  refine Held.out ?_
  k_dflt (refine' ctrS_use (tried_ctr (.tail _ hf1) (lamI_ctr (.tail _ hf1) (.tail _ hc1) hd0 hv0 (.tail _ h4L) hd4 (.tail _ h6L) hd6 (insV_ctr (hT.more hZ1') hk hR hcv hZ1'))) ?B ?F ?X N2 (fun _ hp => hp) ?T ?XB ?TB ?D ?hk ?hd ?hu ?_; ((case B => k_asm); (case F => k_asm); (case XB => k_asm); (case TB => k_asm); (case D => assumption); walk_at "use4"))
  intro v9 led9 g9 h9 tk9 hR9 KT9 F9 N9 B9 X9 T9 D9
  cases hR9 with
  | ok hR0 hlt0 =>
    obtain ⟨l, k, ys, rfl, rfl, hlt1, hnone, hlen, hel⟩ := hR0
    have hany : dv.toArray.any isNoneV = false := by simpa using hnone
    have hdl2 := (colsV_len hcv)
    (try dsimp only)
    (try k_fold)
    have hcv2 : cv = .none ∨ ∃ ca : Nat, cv = .ref ca := by
      rcases hcv with ⟨rfl, _⟩ | ⟨ca, _, _, _, rfl, _⟩
      · exact .inl rfl
      · exact .inr ⟨ca, rfl⟩
    have hdn2 : cv = .none → vs.length = dv.length := fun h => hvl.trans (hdl2 h).symm
    clear hcv
    obtain ⟨bw, hbw⟩ : ∃ b : Bool, (wd != (dv.length : Int)) = b := ⟨_, rfl⟩
    cases bw
    all_goals rcases hcv2 with rfl | ⟨ca, rfl⟩
    all_goals (repeat ((fail_if_success (with_reducible show wpAny _ _ (execs (Stmt.Return (some (Expr.Compare _ _ _ _)) _ :: _) _) _ _ _)); first | (k_unfold; (try dsimp only)) | walk1 | (dsimp only; walk1)))
    all_goals (rename Fr g9 _ _ _ => F3)
    all_goals (rename News g9 _ _ _ => N3)
    all_goals replace N3 := cb_drop N3 fun p hp => List.Mem.tail _ (.tail _ hp)
    · k_dflt (refine' tailQ (Zc := (c', oc) :: Zc) ?B F3 ?X N3 ?T ?XB ?TB ?D ?hd ?hu hP1 hC1 hZc1 h4L hd4 h6L hd6 h7L hd7 h8L hd8 (hT.more hZ1) hdL hdn ?hcv hw ?hm ?hmv ?_; (case B => k_asm); (case X => k_asm); (case T => k_asm); (case XB => k_asm); (case TB => k_asm); (case D => assumption); (case hd => ktr_room); (case hu => ktr_units); (case hcv => first | exact .inl rfl | exact .inr ⟨_, rfl⟩); (case hm => walk_at "mget"))
      case hmv => exact .inl ⟨rfl, bne_f hbw⟩
      intro ps2 c2 oc2' g8 h8 tk8 m8 KT8 F8 N8 hC2 hcc2
      exact ret ps2 [(c2, oc2'), (c', oc)] g8 _ _ _ (KT9.trans KT8) F8 (cb_drop N8 (sub3_ok hZL)) hC2 (ext2_ok hcc hcc2 hZ1)
    · k_dflt (refine' tailQ (Zc := (c', oc) :: Zc) ?B F3 ?X N3 ?T ?XB ?TB ?D ?hd ?hu hP1 hC1 hZc1 h4L hd4 h6L hd6 h7L hd7 h8L hd8 (hT.more hZ1) hdL hdn ?hcv hw ?hm ?hmv ?_; (case B => k_asm); (case X => k_asm); (case T => k_asm); (case XB => k_asm); (case TB => k_asm); (case D => assumption); (case hd => ktr_room); (case hu => ktr_units); (case hcv => first | exact .inl rfl | exact .inr ⟨_, rfl⟩); (case hm => walk_at "mget"))
      case hmv => exact .inl ⟨rfl, bne_f hbw⟩
      intro ps2 c2 oc2' g8 h8 tk8 m8 KT8 F8 N8 hC2 hcc2
      exact ret ps2 [(c2, oc2'), (c', oc)] g8 _ _ _ (KT9.trans KT8) F8 (cb_drop N8 (sub3_ok hZL)) hC2 (ext2_ok hcc hcc2 hZ1)
    · k_dflt (refine' tailQ (Zc := (c', oc) :: Zc) ?B F3 ?X N3 ?T ?XB ?TB ?D ?hd ?hu hP1 hC1 hZc1 h4L hd4 h6L hd6 h7L hd7 h8L hd8 (hT.more hZ1) hdL hdn ?hcv hw ?hm ?hmv ?_; (case B => k_asm); (case X => k_asm); (case T => k_asm); (case XB => k_asm); (case TB => k_asm); (case D => assumption); (case hd => ktr_room); (case hu => ktr_units); (case hcv => first | exact .inl rfl | exact .inr ⟨_, rfl⟩); (case hm => walk_at "mget"))
      case hmv => exact .inr ⟨bne_t hbw, _, _, rfl, fun msg' h => by
        rcases h with ⟨_, h⟩ | ⟨h, _⟩
        · rw [h, ← hdn2 rfl]; rfl
        · exact absurd rfl h⟩
      intro ps2 c2 oc2' g8 h8 tk8 m8 KT8 F8 N8 hC2 hcc2
      exact ret ps2 [(c2, oc2'), (c', oc)] g8 _ _ _ (KT9.trans KT8) F8 (cb_drop N8 (sub3_ok hZL)) hC2 (ext2_ok hcc hcc2 hZ1)
    · k_dflt (refine' tailQ (Zc := (c', oc) :: Zc) ?B F3 ?X N3 ?T ?XB ?TB ?D ?hd ?hu hP1 hC1 hZc1 h4L hd4 h6L hd6 h7L hd7 h8L hd8 (hT.more hZ1) hdL hdn ?hcv hw ?hm ?hmv ?_; (case B => k_asm); (case X => k_asm); (case T => k_asm); (case XB => k_asm); (case TB => k_asm); (case D => assumption); (case hd => ktr_room); (case hu => ktr_units); (case hcv => first | exact .inl rfl | exact .inr ⟨_, rfl⟩); (case hm => walk_at "mget"))
      case hmv => exact .inr ⟨bne_t hbw, _, _, rfl, fun msg' h => by
        rcases h with ⟨h, _⟩ | ⟨_, h⟩
        · cases h
        · rw [h]; rfl⟩
      intro ps2 c2 oc2' g8 h8 tk8 m8 KT8 F8 N8 hC2 hcc2
      exact ret ps2 [(c2, oc2'), (c', oc)] g8 _ _ _ (KT9.trans KT8) F8 (cb_drop N8 (sub3_ok hZL)) hC2 (ext2_ok hcc hcc2 hZ1)
  | exc hX0 hlt0 =>
    obtain ⟨i, ca, ck, x, cvs, xs, rfl, hca, hcs, hxi, hdi, hno, hmsg, hnone, hxl, hcl⟩ := hX0
    replace hmsg := hmsg.trans (noMsg_eq x)
    subst hmsg
    obtain ⟨xt, hci⟩ := strs_at hcs hxi
    have hci' : cvs[((i : Nat) : Int).toNat]? = some (.str x xt) := by simpa using hci
    have hil : i < cvs.length := (List.getElem?_eq_some_iff.mp hci).1
    have hany : dv.toArray.any isNoneV = true := by simpa using hnone
    have hcaL := hZ1 _ hca
    (try dsimp only)
    (try k_fold)
    k_steps
    refine Held.out ?_
    (rename News _ _ _ (_ :: _) => kN9)
    k_dflt (refine' index_gen isNoneV kN9 (.tail _ (.tail _ hdL)) ?he hdi rfl hno ?hsz ?_)
    case he =>
      intro y hy
      rcases colsV_kinds hcv y hy with rfl | ⟨z, t, rfl⟩
      · exact PySem.SeqAt.EqAt.same _
      · exact PySem.SeqAt.EqAt.int_none _ _
    case hsz => omega
    k_steps
    rw [beq_self_eq_true]
    (rename News g9 _ _ _ => kN8)
    exact ret ps' [(c', oc)] g9 _ _ _ KT9 (by assumption) (cb_drop kN8 (sub1_ok hZL)) hC1 (fun p hp => by rw [List.mem_singleton.mp hp]; exact hcc)
end
end
local macro_rules | `(tactic| k_all) => `(tactic| (repeat' (first | exact List.forall_mem_nil _ | assumption | refine pn_cons (by walk_at "nec") ?_ | exact pn_lt (by assumption) (by walk_at "lec"))))
section
inductive JD (U : List (Addr × Obj)) (names : List Str) (key : Option Nat) (xs : List Str) (i : Nat) (zs : List Value) : List (Addr × Obj) → Prop
  | mk (y1 : zs.length = i) (y2 : ∀ (j : Nat) (x : Str) (y : Value), xs[j]? = some x → zs[j]? = some y → PlV (plc names key x) y) : JD U names key xs i zs (U)
theorem packV {h₀ h : Heap} {L : Addr} {U : List (Addr × Obj)} (N : News h₀ L h U) : ∃ V, V = U ∧ News h₀ L h V := ⟨_, rfl, N⟩
theorem packV_k {h₀ h : Heap} {L : Addr} {U : List (Addr × Obj)} (N : News h₀ L h U) {G9 : Prop} (k9 : ∀ V, (V = U) → (News h₀ L h V) → G9) : G9 := by
  obtain ⟨V, b1, b2⟩ := packV N
  exact k9 V b1 b2
theorem jd_snoc {α : Type} {l : List α} {a b : α} {j : Nat} (h : (l ++ [a])[j]? = some b) : l[j]? = some b ∨ (j = l.length ∧ a = b) := by
  by_cases hj : j < l.length
  · rw [List.getElem?_append_left hj] at h; exact .inl h
  · rw [List.getElem?_append_right (by omega)] at h
    have h0 : j - l.length = 0 := by
      have := (List.getElem?_eq_some_iff.mp h).1
      simpa using this
    rw [h0] at h
    exact .inr ⟨by omega, Option.some.inj h⟩
theorem ret_sub {s a : Addr × Obj} {ext Z rest : List (Addr × Obj)} (z2 : s ∈ Z) (hr : ∀ p ∈ rest, p ∈ Z) : ∀ p ∈ s :: a :: (ext ++ rest), p ∈ a :: (ext ++ Z) := fun p hp => by
  rcases List.mem_cons.mp hp with rfl | hp
  · exact .tail _ (List.mem_append.mpr (.inr z2))
  rcases List.mem_cons.mp hp with rfl | hp
  · exact .head _
  · exact .tail _ ((List.mem_append.mp hp).elim (fun h => List.mem_append.mpr (.inl h)) fun h => List.mem_append.mpr (.inr (hr _ h)))
theorem tz_pack {h₀ h : Heap} {L P : Addr} {a : Obj} {dl tp s told c8 c7 c6 : Addr × Obj} {W rest : List (Addr × Obj)} (N : News h₀ L h (dl :: tp :: s :: told :: c8 :: c7 :: c6 :: (P, a) :: W)) (hrest : ∀ p ∈ rest, p ∈ W) (hP : ∀ p ∈ dl :: s :: told :: c8 :: c7 :: c6 :: W, p.1 ≠ P) :
    ∃ Z, dl ∈ Z ∧ s ∈ Z ∧ told ∈ Z ∧ c8 ∈ Z ∧ c7 ∈ Z ∧ c6 ∈ Z ∧ (∀ p ∈ W, p ∈ Z) ∧ (∀ p ∈ Z, p.1 ≠ P) ∧ (∀ p ∈ rest, p ∈ Z) ∧ News h₀ L h ((P, a) :: Z) :=
  ⟨dl :: s :: told :: c8 :: c7 :: c6 :: W, .head _, .tail _ (.head _), .tail _ (.tail _ (.head _)), .tail _ (.tail _ (.tail _ (.head _))), .tail _ (.tail _ (.tail _ (.tail _ (.head _)))), .tail _ (.tail _ (.tail _ (.tail _ (.tail _ (.head _))))), fun p hp => .tail _ (.tail _ (.tail _ (.tail _ (.tail _ (.tail _ hp))))), hP, fun p hp => .tail _ (.tail _ (.tail _ (.tail _ (.tail _ (.tail _ (hrest p hp)))))), cb_drop N (by walk_at "subs")⟩
theorem tz_pack_k {h₀ h : Heap} {L P : Addr} {a : Obj} {dl tp s told c8 c7 c6 : Addr × Obj} {W rest : List (Addr × Obj)} (N : News h₀ L h (dl :: tp :: s :: told :: c8 :: c7 :: c6 :: (P, a) :: W)) (hrest : ∀ p ∈ rest, p ∈ W) (hP : ∀ p ∈ dl :: s :: told :: c8 :: c7 :: c6 :: W, p.1 ≠ P) {G9 : Prop} (k9 : ∀ Z, (dl ∈ Z) → (s ∈ Z) → (told ∈ Z) → (c8 ∈ Z) → (c7 ∈ Z) → (c6 ∈ Z) → ((∀ p ∈ W, p ∈ Z)) → ((∀ p ∈ Z, p.1 ≠ P)) → ((∀ p ∈ rest, p ∈ Z)) → (News h₀ L h ((P, a) :: Z)) → G9) : G9 := by
  obtain ⟨Z, b1, b2, b3, b4, b5, b6, b7, b8, b9, b10⟩ := tz_pack N hrest hP
  exact k9 Z b1 b2 b3 b4 b5 b6 b7 b8 b9 b10
section
local macro_rules | `(tactic| walk_at "call type:list") => `(tactic| (k_here; refine Held.mk ?_))
theorem placesR_ctr {w : World} {src ln kn tb lc : Nat} {o : Obj} {kv rp : Value} {vs : List Value} {names : List Str} {key : Option Nat} {ps : Array Value} {Zc rest : List (Addr × Obj)} (ho : SrcO o) (hr : ∀ p ∈ rest, p.1 ≠ src) (hsP : src ≠ 1054) (hrP : ∀ p ∈ rest, p.1 ≠ 1054)
    (hnl : (ln, W.listOf vs.toArray kn) ∈ rest) (hvs : StrsAre vs names) (hkey : KeyV key kv) (hn : names.length ≤ 50) (hns : ∀ nm ∈ names, Wd nm) (hT : TabAt w.params rest tb lc rp names) (hk : ∀ k, key = some k → k < names.length) (hRp : RpAt key names.length rp) (hC : Codes q54 p54 ps Zc) (hZc : ∀ p ∈ Zc, p ∈ rest) :
    CtrS w ((src, o) :: (1054, tabObj ps) :: rest) 20 (.ref 1057) [.ref src, .ref ln, kv, .ref tb] (fun v led' => v = .bool true ∧ ∃ (o' : Obj) (ps' : Array Value) (ext : List (Addr × Obj)), SrcO o' ∧ led' = (src, o') :: (1054, tabObj ps') :: (ext ++ rest) ∧ Codes q54 p54 ps' (ext ++ Zc) ∧ ∀ p ∈ ext, p ∈ Zc ∨ (1054 < p.1 ∧ src < p.1 ∧ ∀ q ∈ rest, q.1 < p.1)) := by
  intro p loose mean mg mb dp un gd cn cs a ccd cl outer A₀ base h₀ L m hh9 gg9 dd9 tt9 oo9 Q E B F X N T XB TB D hk hd hu hret
  refine wpAny_call ?_
  k_dflt (refine' code_defSC ?k1 ?k2 ?k3 ?k4 ?k5 ?XB ?TB ?D ?T0 ?kA ?kF ?kK ?k6 ?k7 ?k8 ?k9 ?kB ?kD ?_ ?c2 ?c3 ?c4; (case kA => exact rfl); (case kF => exact rfl); (case kK => first | assumption | exact rfl); (case k1 => k_asm); (case k2 => k_asm); (case XB => assumption); (case TB => assumption); (case D => assumption); (case T0 => first | assumption | exact KtsTurn.refl); (case k3 => k_asm); (case k4 => k_asm); (case k5 => k_asm); (case k6 => k_is); (case k7 => k_is); (case k8 => ktr_room); (case k9 => first | exact BindsTo.of_eq rfl | exact binds_K (by k_in) rfl (by k_is) rfl rfl rfl); (case kB => exact rfl); (case kD => decide +kernel); (case c2 => exact rfl); (case c3 => exact rfl); (case c4 => exact rfl); k_whole; intro g9z L9z h9z tk9z cells9z FG9z F9z N9z Y9z B9z X9z T9z D9z l19z; (try k_lt l19z); k_cells Y9z; (try simp only [List.cons_append, List.nil_append] at N9z); (try dsimp only); (try k_fold))
  have hvl : vs.length = names.length := strs_len hvs
  have hv50 : vs.length ≤ 50 := by omega
  (rename src < _ ∧ 1054 < _ ∧ AllLt _ rest => g1)
  have g2 := ktn_ltOf g1.2.2
  have g3 := g1.1
  have g4 := g1.2.1
  clear g1
  (repeat ((fail_if_success (with_reducible show wpAny _ _ (exec (Stmt.Assign _ (Expr.ListComp _ _ _ _) _) _) _ _ _)); first | (k_unfold; (try dsimp only)) | walk1 | (dsimp only; walk1)))
  (rename News _ _ _ (_ :: _) => N1)
  refine pw_pack_k N1 (by (repeat' (first | exact List.forall_mem_nil _ | assumption | refine pn_cons (by walk_at "nec") ?_ | exact pn_lt (by assumption) (by walk_at "lec")))) (by (repeat' (first | exact List.forall_mem_nil _ | assumption | refine pn_cons (by walk_at "nec") ?_ | exact pn_lt (by assumption) (by walk_at "lec")))) (by (repeat' (first | exact List.forall_mem_nil _ | assumption | refine pn_cons (by walk_at "nec") ?_ | exact pn_lt (by assumption) (by walk_at "lec")))) ?_
  intro W hW hlw hcw hct hck hcn hcs hrW hW1 hW2 hW3 N2
  have hnW := hrW _ hnl
  have hWs : ∀ p ∈ W, p.1 ≠ src := all_at hW (by (repeat' (first | exact List.forall_mem_nil _ | assumption | refine pn_cons (by walk_at "nec") ?_ | exact pn_lt (by assumption) (by walk_at "lec"))))
  have hWP : ∀ p ∈ W, p.1 ≠ 1054 := all_at hW (by (repeat' (first | exact List.forall_mem_nil _ | assumption | refine pn_cons (by walk_at "nec") ?_ | exact pn_lt (by assumption) (by walk_at "lec"))))
  clear hW N1
  (k_dflt (refine LCg.Assign_ListComp_U (F₀ := by k_asm) (by rfl) (by with_unfolding_all rfl) (by with_unfolding_all rfl) (by decide) (by rfl) (by decide) (by rfl) (by rfl) (by rfl) ?_))
  k_steps
  refine Held.out ?_
  (rename News _ _ _ (_ :: _) => N1)
  k_dflt (refine' ctr_use (take_ctr ho ?w1 (by decide) (by decide)) ?B ?F ?X N1 (fun _ hp => hp) ?T ?hk ?hd ?hu ?_; ((case B => k_asm); (case F => k_asm); walk_at "use4"))
  case w1 => (repeat' (first | exact List.forall_mem_nil _ | assumption | refine pn_cons (by walk_at "nec") ?_ | exact pn_lt (by assumption) (by walk_at "lec")))
  refine take_cur ?_
  intro d9 t9 o9 hd9 he9 hS9 h9 tk9 F9 N9
  clear N1
  (try dsimp only)
  (try k_fold)
  (repeat ((fail_if_success (with_reducible show LCg.CompSrc _ _ _ _ _ _ _ _ _ _ _ _ _ _)); first | (k_unfold; (try dsimp only)) | walk1 | (dsimp only; walk1)))
  (rename News _ _ _ (_ :: _) => N5)
  (rename IsRange _ _ _ _ _ _ _ _ => hr5)
  refine packU_k N5 ?_
  intro U hU N6
  clear N5
  have hrg := rngI hd9 (Int.lt_trans he9 (by decide))
  refine LCg.CompSrc.range (n := d9.toNat) rfl (by k_asm) N6 hr5 hrg.1 hrg.2.1 hrg.2.2 ?_
  clear hrg
  intro g8
  refine compRest_inv (n := d9.toNat) (JW src U) ?step ?fin _ 0 [] _ (Nat.zero_add _) ⟨o9, [], hS9, .nil, (fun x hx => nomatch hx), rfl⟩
  case step =>
    rintro i v ys news I oI C oC D m₂ h tk E' hi hv ⟨o7, xs, hS7, hys, hxs, hl⟩ hC hm F7 N7 off ne
    have hUs : ∀ p ∈ U, p.1 ≠ src := hU ▸ (by (repeat' (first | exact List.forall_mem_nil _ | assumption | refine pn_cons (by walk_at "nec") ?_ | exact pn_lt (by assumption) (by walk_at "lec"))))
    have hlU : _ ∈ U := hU ▸ List.Mem.tail _ (.tail _ (.tail _ (.tail _ hlw)))
    have hcU : _ ∈ U := hU ▸ List.Mem.tail _ (.tail _ (.tail _ (.tail _ hcw)))
    have hsU : _ ∈ U := hU ▸ List.Mem.tail _ (.tail _ (.tail _ (.tail _ hcs)))
    k_steps
    refine Held.out ?_
    have hne3 := off3_ne (oI := oI) (oC := oC) (oD := LCg.lst ys) off hUs
    (rename News _ _ _ (_ :: _) => N8)
    replace N8 := p_front [_, _, _] N8
    dsimp only [List.cons_append, List.nil_append] at N8
    k_dflt (refine' ctr_use (one_ctr hS7 hne3 (.tail _ (.tail _ (.tail _ hlU))) (by simp) (by simp)) ?B ?F ?X N8 (fun _ hp => hp) ?T ?hk ?hd ?hu ?_; ((case B => k_asm); (case F => k_asm); walk_at "use4"))
    refine one_cur ?_
    intro v9 i9 o9 hi9 hs9 h9 tk9 F9 N9
    obtain ⟨x, xt, rfl, hx⟩ := strs_get (xs := [Str.ofString "a", Str.ofString "b", Str.ofString "d", Str.ofString "rowid", Str.ofString "oid", Str.ofString "_rowid_", Str.ofString "a", Str.ofString "b"]) (by repeat' constructor) hi9
    obtain ⟨hx1, hx2⟩ := wordL_wd x (List.mem_of_getElem? hx)
    clear N8
    (try dsimp only)
    (try k_fold)
    k_steps
    refine Held.out ?_
    (rename News _ _ _ (_ :: _) => N8)
    k_dflt (refine' ctr_use (letters_ctr hs9 hne3 hx1.1) ?B ?F ?X N8 (fun _ hp => hp) ?T ?hk ?hd ?hu ?_; ((case B => k_asm); (case F => k_asm); walk_at "use4"))
    refine letters_cur ?_
    intro v9 t7 o6 hv9 hs6 h9 tk9 F9 N9
    obtain ⟨y, rfl, hy⟩ := wd_up hx1 hx2 hv9
    exact LCg.CompEnd.intro (by assumption) N9 ((src, o6) :: U) swap3 off trivial ⟨o6, xs ++ [y], hs6, strs_snoc hys, fun z hz => (List.mem_append.mp hz).elim (hxs z) (fun h => by rw [List.mem_singleton.mp h]; exact hy), by rw [List.length_append, hl]; rfl⟩
  case fin =>
    rintro ys news ⟨o7, xs, hS7, hys, hxs, hl⟩
    intro D' h' tk' F' N' o1
    subst hU
    have e1 : @Ne Nat src D' := o1.1
    have e2 : @Ne Nat _ D' := o1.2.1
    have e3 : @Ne Nat _ D' := o1.2.2.1
    have e4 : @Ne Nat _ D' := o1.2.2.2.1
    have e5 : @Ne Nat 1054 D' := o1.2.2.2.2.1
    clear N6 o1
    dsimp only
    k_steps
    refine Held.out ?_
    (rename News _ _ _ (_ :: _) => N8)
    replace N8 := p_front [_, _] N8
    dsimp only [List.cons_append, List.nil_append] at N8
    k_dflt (refine' ctr_use (one_ctr hS7 ?w1 (.head _) (by simp) (by simp)) ?B ?F ?X N8 (fun _ hp => hp) ?T ?hk ?hd ?hu ?_; ((case B => k_asm); (case F => k_asm); walk_at "use4"))
    case w1 => (repeat' (first | exact List.forall_mem_nil _ | assumption | refine pn_cons (by walk_at "nec") ?_ | exact pn_lt (by assumption) (by walk_at "lec")))
    refine one_cur ?_
    intro v9 i9 o9 hi9 hs9 h9 tk9 F9 N9
    replace N9 := cb_drop N9 skip1
    clear N8 hS7 hS9
    have hwl : ys.length ≤ 4 := toNat_le hl he9
    clear hr5 hl he9 hd9
    obtain rfl | rfl := get3n hi9
    all_goals clear hi9
    all_goals (try dsimp only)
    all_goals (try k_fold)
    all_goals k_steps
    all_goals refine Held.out ?_
    all_goals (rename News _ _ _ (_ :: _) => N8)
    all_goals k_dflt (refine' ctr_use (take_ctr hs9 ?_ (by decide) (by decide)) ?B ?F ?X N8 (fun _ hp => hp) ?T ?hk ?hd ?hu ?_; ((case B => k_asm); (case F => k_asm); walk_at "use4"))
    all_goals first | ((repeat' (first | exact List.forall_mem_nil _ | assumption | refine pn_cons (by walk_at "nec") ?_ | exact pn_lt (by assumption) (by walk_at "lec"))); done) | skip
    all_goals refine take_cur ?_
    all_goals intro wd wt o8 hw0 hw1 hS8 h9 tk9 F9 N9
    all_goals clear N8 hs9
    all_goals (try dsimp only)
    all_goals (try k_fold)
    · (repeat ((fail_if_success (with_reducible show wpAny _ _ (execs (Stmt.Assign [Expr.Tuple _ _ _] (Expr.Call (Expr.Name _ _) [Expr.Lambda _ _ _ _] _ _) _ :: _) _) _ _ _)); first | (k_unfold; (try dsimp only)) | walk1 | (dsimp only; walk1)))
      refine Held.out ?_
      (rename IsRange _ _ _ _ _ _ _ _ => rgX)
      (with_unfolding_all refine' kll_range ?k0 ?k1 ?k2 ?k3 ?k4 ?k5 ?k6 ?_; (case k0 => rfl); (case k1 => k_asm); (case k2 => k_asm); (case k3 => exact rgX); (case k4 => first | exact small_ok (by omega) | exact small_one (by omega) (by omega) (by omega) (by omega)); (case k5 => first | exact rangeSize_nat _ _ | rfl); (case k6 => (try simp only [sizeLine_eq]); omega); k_whole)
      intro D9 vs9 c9 h9 tk9 F9 N9 l9 hI9
      (try k_lt l9)
      (try k_sweep)
      (repeat ((fail_if_success (with_reducible show wpAny _ _ (execs (Stmt.Assign [Expr.Tuple _ _ _] (Expr.Call (Expr.Name _ _) [Expr.Lambda _ _ _ _] _ _) _ :: _) _) _ _ _)); first | (k_unfold; (try dsimp only)) | walk1 | (dsimp only; walk1)))
      (rename News _ _ _ (_ :: _) => N8)
      (rename IntsAre _ _ => hIn)
      have hcols : ∀ Z, ColsV Z .none names key _ := fun Z => .inl ⟨rfl, (by simpa [hvl] using hIn)⟩
      have hdn := IntsAre.length hIn
      rw [rangeKs_length] at hdn
      refine tz_pack_k N8 hrW (by (repeat' (first | exact List.forall_mem_nil _ | assumption | refine pn_cons (by walk_at "nec") ?_ | exact pn_lt (by assumption) (by walk_at "lec")))) ?_
      intro Z z1 z2 z3 z4 z5 z6 hZW hZP hZr N9
      k_dflt (refine' tailP (Zc := Zc) ?B ?F ?X N9 ?T ?XB ?TB ?D ?hd ?hu hZP hC (fun p hp => hZr p (hZc p hp)) (hZW _ hcn) ?d2 (hZW _ hct) ?d4 z6 ?d6 z5 ?d7 z4 ?d8 (hZW _ hnW) hvl hn (hT.more hZr) ?hkk hRp z1 ?hl (hcols Z) ?hw ?_)
      case B => k_asm
      case F => k_asm
      case X => k_asm
      case T => k_asm
      case XB => k_asm
      case TB => k_asm
      case D => assumption
      case hd => ktr_room
      case hu => ktr_units
      case d2 => k_asm
      case d4 => k_asm
      case d6 => k_asm
      case d7 => k_asm
      case d8 => k_asm
      case hkk => assumption
      case hl => omega
      case hw => omega
      intro ps2 ext2 g2 h2 tk2 m2 KT2 F2 N2 C2 hx2
      dsimp only
      exact leaveS_r F2 (cb_drop N2 (ret_sub z2 hZr)) KT2 fun h₀' T₀ F₀ N₀ B₀ X₀ T₀' D₀ => hret _ _ _ _ _ ⟨rfl, o8, ps2, ext2, hS8, rfl, C2, fun p hp => (hx2 p hp).imp id fun h => ⟨h.1, h.2 _ z2, fun q hq => h.2 q (hZr q hq)⟩⟩ T₀ F₀ N₀ B₀ X₀ T₀' D₀
    · (repeat ((fail_if_success (with_reducible show wpAny _ _ (eval (Expr.ListComp _ _ _ _) _) _ _ _)); first | (k_unfold; (try dsimp only)) | walk1 | (dsimp only; walk1)))
      k_dflt (refine LCg.ListComp_U (F₀ := by k_asm) (by with_unfolding_all rfl) (by decide) (by rfl) (by decide) (by rfl) ?_)
      walk1
      (rename News _ _ _ (_ :: _) => N8)
      refine packV_k N8 ?_
      intro U hU N9
      have htU : (D', LCg.lst ys) ∈ U := hU ▸ .tail _ (.tail _ (.head _))
      have hWU : ∀ p ∈ W, p ∈ U := hU ▸ fun p hp => .tail _ (.tail _ (.tail _ (.tail _ (.tail _ (.tail _ (.tail _ hp))))))
      refine LCg.CompSrc.ledger rfl (by k_asm) N9 htU (by rw [List.size_toArray, sizeLine_eq]; omega) ?_
      intro g9
      refine compRest_inv (n := ys.toArray.size) (JD U names key xs) ?step2 ?fin2 _ 0 [] U (Nat.zero_add _) ⟨rfl, fun j x y _ e => by simp at e⟩
      case step2 =>
        rintro i v zs news I oI C oC D m₂ h tk E' hi hv ⟨hzl, hzp⟩ hC2 hm F7 N7 off ne
        obtain ⟨x, xt, rfl, hx⟩ := strs_get hys (by simpa using hv)
        have hwd : Wd x := hxs x (List.mem_of_getElem? hx)
        have hcnU := hWU _ hcn
        have hckU := hWU _ hck
        have hnU := hWU _ hnW
        k_steps
        refine Held.out ?_
        k_dflt (refine' ctr_use (lplace_ctr ?hnl hvs hkey hn hns hwd) ?B ?F ?X ?N (fun _ hp => hp) ?T ?hk ?hd ?hu ?_; walk_at "use"; (case hnl => k_mem))
        refine pair_cur ?_
        intro v9 hP9 h9 tk9 F9 N10
        exact LCg.CompEnd.intro (by assumption) N10 _ (fun _ hp => hp) off (.inr ⟨_, htU, rfl, _, rfl⟩) ⟨by rw [List.length_append, hzl]; rfl, fun j x' y h1 h2 => by
          rcases jd_snoc h2 with h2 | ⟨rfl, rfl⟩
          · exact hzp j x' y h1 h2
          · rw [hzl] at h1; rw [hx] at h1; rw [← Option.some.inj h1]; exact hP9⟩
      case fin2 =>
      rintro zs news ⟨hzl, hzp⟩
      intro D2 h2 tk2 F6 N6 o2
      subst hU
      have e6 : @Ne Nat _ D2 := o2.1
      have e7 : @Ne Nat src D2 := o2.2.1
      have e8 : @Ne Nat _ D2 := o2.2.2.1
      have e9 : @Ne Nat _ D2 := o2.2.2.2.1
      have e10 : @Ne Nat _ D2 := o2.2.2.2.2.1
      have e11 : @Ne Nat _ D2 := o2.2.2.2.2.2.1
      have e12 : @Ne Nat 1054 D2 := o2.2.2.2.2.2.2.1
      clear o2 N9 N8
      have hzl2 : zs.length = ys.length := by rw [hzl, List.size_toArray]
      (repeat ((fail_if_success (with_reducible show wpAny _ _ (execs (Stmt.Assign [Expr.Tuple _ _ _] (Expr.Call (Expr.Name _ _) [Expr.Lambda _ _ _ _] _ _) _ :: _) _) _ _ _)); first | (k_unfold; (try dsimp only)) | walk1 | (dsimp only; walk1)))
      (rename News _ _ _ (_ :: _) => N8)
      refine tz_pack_k N8 hrW (by (repeat' (first | exact List.forall_mem_nil _ | assumption | refine pn_cons (by walk_at "nec") ?_ | exact pn_lt (by assumption) (by walk_at "lec")))) ?_
      intro Z z1 z2 z3 z4 z5 z6 hZW hZP hZr N9
      k_dflt (refine' tailP (Zc := Zc) ?B ?F ?X N9 ?T ?XB ?TB ?D ?hd ?hu hZP hC (fun p hp => hZr p (hZc p hp)) (hZW _ hcn) ?d2 (hZW _ hct) ?d4 z6 ?d6 z5 ?d7 z4 ?d8 (hZW _ hnW) hvl hn (hT.more hZr) ?hkk hRp z1 ?hl (.inr ⟨_, _, _, xs, rfl, z3, hys, hxs, by omega, by rw [hzl, List.size_toArray]; exact strs_len hys, hzp⟩) ?hw ?_)
      case B => k_asm
      case F => k_asm
      case X => k_asm
      case T => k_asm
      case XB => k_asm
      case TB => k_asm
      case D => assumption
      case hd => ktr_room
      case hu => ktr_units
      case d2 => k_asm
      case d4 => k_asm
      case d6 => k_asm
      case d7 => k_asm
      case d8 => k_asm
      case hkk => assumption
      case hl => omega
      case hw => omega
      intro ps2 ext2 g2 h2 tk2 m2 KT2 F2 N2 C2 hx2
      dsimp only
      exact leaveS_r F2 (cb_drop N2 (ret_sub z2 hZr)) KT2 fun h₀' T₀ F₀ N₀ B₀ X₀ T₀' D₀ => hret _ _ _ _ _ ⟨rfl, o8, ps2, ext2, hS8, rfl, C2, fun p hp => (hx2 p hp).imp id fun h => ⟨h.1, h.2 _ z2, fun q hq => h.2 q (hZr q hq)⟩⟩ T₀ F₀ N₀ B₀ X₀ T₀' D₀
end
end
section
variable {prog : Program} {w : World} {A : Around} {E : Value → Shared → Prop} {s : Shared} {env : Env} {Q : Flow → Shared → Prop} {body : List Stmt}
theorem tup_loopG {t : Addr} {vs : List Value} {x : Str} {px : Pos} (J : Addr → Nat → Shared → Prop) (hh : A.handled = none) (ht : s.heap.IsTuple t vs.toArray)
    (start : J s.heap.objs.size 0 { s with heap := s.heap.push { cls := .type "tuple_iterator", data := .fields #[.ref t, .int 0 0] } })
    (get : ∀ I i s', J I i s' → s'.heap.IsTupleIter I t i ∧ s'.heap.IsTuple t vs.toArray)
    (turn : ∀ I i v s' h', J I i s' → vs[i]? = some v → h'.IsTupleIter I t (i + 1) → Heap.SameBut I s'.heap h' → wpAny (model prog w) A (assign (.Name x px) env v) (fun _ s₂ => wpAny (model prog w) A (execs body env) (fun f s₃ => match f with
        | .next | .cont => J I (i + 1) s₃
        | .brk => Q .next s₃
        | .ret v => Q (.ret v) s₃) E s₂) E { s' with heap := h' })
    (fin : ∀ I s' h', J I vs.length s' → Heap.ExtBut I s'.heap h' → Q .next { s' with heap := h' }) :
    wpAny (model prog w) A (pyIter (.ref t)) (fun it s₂ => LoopG prog w A env (.Name x px) body Q E it s₂) E s := by
  refine wpAny_pyIter_tuple ht ?_
  refine ⟨fun n s' => ∃ i, i ≤ vs.length ∧ n = vs.length - i ∧ J s.heap.objs.size i s', vs.length, ⟨0, Nat.zero_le _, rfl, start⟩, ?_⟩
  rintro n s' ⟨i, hi, rfl, hJ⟩
  obtain ⟨hit, htu⟩ := get _ _ _ hJ
  by_cases hlt : i < vs.length
  · obtain ⟨v, hv⟩ : ∃ v, vs[i]? = some v := ⟨_, List.getElem?_eq_getElem hlt⟩
    refine wpAny_pyNext_tuple_item hit htu (x := v) (by simpa using hv) fun h' hi' hs' => ?_
    refine wpAny_of_eq rfl ?_
    refine wpAny_mono (turn _ i v s' h' hJ hv hi' hs') (fun _ s₂ h₂ => wpAny_mono h₂ (fun f s₃ h₃ => ?_) fun _ _ e => e) fun _ _ e => e
    cases f with
    | next => exact ⟨vs.length - (i + 1), by omega, i + 1, hlt, rfl, h₃⟩
    | cont => exact ⟨vs.length - (i + 1), by omega, i + 1, hlt, rfl, h₃⟩
    | brk => exact h₃
    | ret v => exact h₃
  · obtain rfl : i = vs.length := Nat.le_antisymm hi (Nat.not_lt.mp hlt)
    exact wpAny_pyNext_tuple_end hh hit htu (by simp) fun h' he => fin _ s' h' hJ he
end
section
noncomputable def sc79 : Scope := the (scopeOf fs_79) _ (by conv => lhs; whnf)
noncomputable def b79 : List Stmt := the ((bodyOf fs_79).drop 4) _ (by conv => lhs; whnf)
noncomputable def sixL : List Str := [Str.ofString "A", Str.ofString "b", Str.ofString "ROWID", Str.ofString "oid", Str.ofString "_rowid_", Str.ofString "q"]
theorem sixL_wd : ∀ x ∈ sixL, Wd x := by
  unfold Wd
  decide +kernel
theorem packY {h₀ h : Heap} {L : Addr} {t n q s r : Addr × Obj} {Y : List (Addr × Obj)} (N : News h₀ L h (t :: n :: q :: s :: r :: Y)) : ∃ Y2, Y2 = t :: Y ∧ News h₀ L h (n :: q :: s :: r :: Y2) := ⟨_, rfl, cb_drop N (by walk_at "subs")⟩
theorem packY_k {h₀ h : Heap} {L : Addr} {t n q s r : Addr × Obj} {Y : List (Addr × Obj)} (N : News h₀ L h (t :: n :: q :: s :: r :: Y)) {G9 : Prop} (k9 : ∀ Y2, (Y2 = t :: Y) → (News h₀ L h (n :: q :: s :: r :: Y2)) → G9) : G9 := by
  obtain ⟨Y2, b1, b2⟩ := packY N
  exact k9 Y2 b1 b2
theorem start_news {h₀ h : Heap} {L : Addr} {m : Str → Option Value} {n : Addr × Obj} {Y : List (Addr × Obj)} (N : News h₀ L h (n :: Y)) (F : Fr h₀ L h m) (o : Obj) (hf : o.isFreed = false) : News h₀ L (h.push o) (n :: (h.objs.size, o) :: Y) := cb_drop (N.push F o (hfree := hf)) fun p hp => by
  simp only [List.mem_cons] at hp ⊢
  rcases hp with h | h | h <;> simp [h]
theorem turn_news {h₀ h h' : Heap} {L I n : Addr} {oN oI oI2 : Obj} {V : List (Addr × Obj)} (N : News h₀ L h ((n, oN) :: (I, oI) :: V)) (hsb : Heap.SameBut I h h') (hI : h'.get? I = some oI2) (h1 : @Ne Nat I n) (h3 : ∀ p ∈ V, p.1 ≠ I) : News h₀ L h' ((n, oN) :: (I, oI2) :: V) := fun p hp => by
  rcases List.mem_cons.mp hp with rfl | hp
  · exact ⟨hsb.extBut _ _ (fun e => h1 e.symm) (N _ (.head _)).1, (N _ (.head _)).2⟩
  rcases List.mem_cons.mp hp with rfl | hp
  · exact ⟨hI, (N (I, oI) (.tail _ (.head _))).2⟩
  · have := N p (.tail _ (.tail _ hp))
    exact ⟨hsb.extBut _ _ (h3 p hp) this.1, this.2⟩
theorem fin_news {h₀ h h' : Heap} {L I n : Addr} {oN oI : Obj} {V : List (Addr × Obj)} (N : News h₀ L h ((n, oN) :: (I, oI) :: V)) (hsb : Heap.ExtBut I h h') (h1 : @Ne Nat I n) (h3 : ∀ p ∈ V, p.1 ≠ I) : News h₀ L h' ((n, oN) :: V) := fun p hp => by
  rcases List.mem_cons.mp hp with rfl | hp
  · exact ⟨hsb _ _ (fun e => h1 e.symm) (N _ (.head _)).1, (N _ (.head _)).2⟩
  · have := N p (.tail _ (.tail _ hp))
    exact ⟨hsb _ _ (h3 p hp) this.1, this.2⟩
theorem fin_perm {h₀ h : Heap} {L : Addr} {n q s r : Addr × Obj} {V : List (Addr × Obj)} (N : News h₀ L h (n :: q :: s :: r :: V)) : News h₀ L h (s :: r :: n :: q :: V) := cb_drop N (by walk_at "subs")
theorem packR {h₀ h : Heap} {L : Addr} {s : Addr × Obj} {R : List (Addr × Obj)} (N : News h₀ L h (s :: R)) : ∃ R', R' = R ∧ News h₀ L h (s :: R') := ⟨_, rfl, N⟩
theorem packR_k {h₀ h : Heap} {L : Addr} {s : Addr × Obj} {R : List (Addr × Obj)} (N : News h₀ L h (s :: R)) {G9 : Prop} (k9 : ∀ R', (R' = R) → (News h₀ L h (s :: R')) → G9) : G9 := by
  obtain ⟨R', b1, b2⟩ := packR N
  exact k9 R' b1 b2
theorem fin_ne1 {src : Addr} {a : Obj} {ext Zc R : List (Addr × Obj)} (h1 : @Ne Nat src 1054) (hx : ∀ p ∈ ext, p ∈ Zc ∨ (1054 < p.1 ∧ src < p.1 ∧ ∀ q ∈ R, q.1 < p.1)) (hZ : ∀ p ∈ Zc, p.1 ≠ src) (hR : ∀ p ∈ R, p.1 ≠ src) : ∀ p ∈ (1054, a) :: (ext ++ R), p.1 ≠ src := fun p hp => by
  rcases List.mem_cons.mp hp with rfl | hp
  · exact h1.symm
  rcases List.mem_append.mp hp with hp | hp
  · rcases hx p hp with h | h
    · exact hZ p h
    · exact Nat.ne_of_gt h.2.1
  · exact hR p hp
theorem fin_sub {ext9 ext1 Zc V : List (Addr × Obj)} {a n b : Addr × Obj} (hZV : ∀ p ∈ ext1 ++ Zc, p ∈ V) : ∀ p ∈ a :: b :: ((ext9 ++ ext1) ++ Zc), p ∈ a :: (ext9 ++ (n :: b :: V)) := fun p hp => by
  rcases List.mem_cons.mp hp with rfl | hp
  · exact .head _
  rcases List.mem_cons.mp hp with rfl | hp
  · exact .tail _ (List.mem_append.mpr (.inr (.tail _ (.head _))))
  rw [List.append_assoc] at hp
  rcases List.mem_append.mp hp with hp | hp
  · exact .tail _ (List.mem_append.mpr (.inl hp))
  · exact .tail _ (List.mem_append.mpr (.inr (.tail _ (.tail _ (hZV p hp)))))
theorem fin_c1 {ext9 ext1 Zc : List (Addr × Obj)} : ∀ p ∈ ext9 ++ Zc, p ∈ (ext9 ++ ext1) ++ Zc := fun p hp => (List.mem_append.mp hp).elim (fun h => List.mem_append.mpr (.inl (List.mem_append.mpr (.inl h)))) fun h => List.mem_append.mpr (.inr h)
theorem fin_c2 {ext9 ext1 Zc : List (Addr × Obj)} : ∀ p ∈ ext1 ++ Zc, p ∈ (ext9 ++ ext1) ++ Zc := fun p hp => (List.mem_append.mp hp).elim (fun h => List.mem_append.mpr (.inl (List.mem_append.mpr (.inr h)))) fun h => List.mem_append.mpr (.inr h)
theorem fin_ne2 {src : Addr} {n : Addr × Obj} {b : Obj} {ext9 ext1 Zc V : List (Addr × Obj)} (hx : ∀ p ∈ ext9, p ∈ Zc ∨ (1054 < p.1 ∧ src < p.1 ∧ ∀ q ∈ n :: (1071, b) :: V, q.1 < p.1)) (h1 : ∀ p ∈ ext1, p ∈ V) (hZ : ∀ p ∈ Zc, p ∈ V) (h5 : ∀ p ∈ V, p.1 ≠ 1054) (h7 : ∀ p ∈ V, p.1 ≠ 1071) : ∀ p ∈ ext9 ++ ext1, p.1 ≠ 1054 ∧ p.1 ≠ 1071 := fun p hp => by
  rcases List.mem_append.mp hp with hp | hp
  · rcases hx p hp with h | h
    · exact ⟨h5 p (hZ p h), h7 p (hZ p h)⟩
    · exact ⟨Nat.ne_of_gt h.1, Nat.ne_of_gt (h.2.2 _ (.tail _ (.head _)))⟩
  · exact ⟨h5 p (h1 p hp), h7 p (h1 p hp)⟩
theorem code_ne {c' a P : Addr} {oc : Obj} {E V R : List (Addr × Obj)} (hcc : (c', oc) ∈ E ∨ (P < c' ∧ ∀ q ∈ R, q.1 < c')) (hEV : ∀ p ∈ E, p ∈ V) (hV : ∀ p ∈ V, p.1 ≠ a) (ha : P = a ∨ ∃ oa, (a, oa) ∈ R) : c' ≠ a := by
  rcases hcc with h | h
  · exact hV _ (hEV _ h)
  · rcases ha with rfl | ⟨oa, hm⟩
    · exact Nat.ne_of_gt h.1
    · exact Nat.ne_of_gt (h.2 _ hm)
theorem code_hx {c' P : Addr} {oc : Obj} {ext Zc R Y2 : List (Addr × Obj)} (hcc : (c', oc) ∈ ext ++ Zc ∨ (P < c' ∧ ∀ q ∈ R, q.1 < c')) (hYR : ∀ p ∈ Y2, p ∈ R) (hx : ∀ p ∈ ext, p ∈ Zc ∨ ∀ q ∈ Y2, q.1 < p.1) : ∀ p ∈ (c', oc) :: ext, p ∈ Zc ∨ ∀ q ∈ Y2, q.1 < p.1 := fun p hp => by
  rcases List.mem_cons.mp hp with rfl | hp
  · rcases hcc with h | h
    · rcases List.mem_append.mp h with h | h
      · exact hx _ h
      · exact .inl h
    · exact .inr fun q hq => h.2 q (hYR q hq)
  · exact hx p hp
theorem turn_sub {d1 d2 q f c n I s r : Addr × Obj} {V : List (Addr × Obj)} : ∀ p ∈ n :: I :: q :: s :: r :: c :: V, p ∈ d1 :: d2 :: q :: f :: c :: n :: I :: s :: r :: V := by walk_at "subs"
theorem turn_zv {c : Addr × Obj} {ext Zc V : List (Addr × Obj)} (h : ∀ p ∈ ext ++ Zc, p ∈ V) : ∀ p ∈ (c :: ext) ++ Zc, p ∈ c :: V := fun p hp => (List.mem_cons.mp hp).elim (fun e => e ▸ .head _) fun hp => .tail _ (h p hp)
inductive JLp (s₂ : Shared) (fs : List Addr) (A₀ : Around) (base : Heap) (outer : List Env) (K : Frag) (p : Program) (loose : List Str) (mean : ExcName → Option Value) (mg : Str → Option Value) (mb : Str → Option Value) (g : Heap) (L : Addr) (t : Addr) (ln : Addr) (src : Addr) (o : Obj) (ps : Array Value) (kv : Value) (Y2 : List (Addr × Obj)) (Zc : List (Addr × Obj)) (I : Addr) (i : Nat) : Shared → Prop
  | mk (g' : Heap) (h' : Heap) (tk : Nat) (m' : Str → Option Value) (qs' : Array Value) (ext : List (Addr × Obj)) (V : List (Addr × Obj)) (oN : Obj) (oI : Obj) (v0 : Option Value) (y1 : KtsTurn fs g g') (y2 : Fr g' L h' m') (y3 : m' (Str.ofString "names") = some (.ref ln)) (y4 : m' (Str.ofString "key") = some kv) (y5 : News g' L h' ((L + 1 + 1, oN) :: (I, oI) :: (1071, tabObj qs') :: (src, o) :: (1054, tabObj ps) :: V)) (y6 : oN.data = .cell v0) (y7 : oI.cls = .type "tuple_iterator") (y8 : oI.data = .fields #[.ref t, .int i 0]) (y9 : Below A₀ base outer g') (y10 : K.In g') (y11 : Top p loose mean mg mb g') (y12 : KtsDicts fs g') (y13 : Codes q71 p71 qs' (ext ++ Zc)) (y14 : (∀ p ∈ ext ++ Zc, p ∈ V)) (y15 : (∀ p ∈ Y2, p ∈ V)) (y16 : (∀ p ∈ V, p.1 ≠ L + 1 + 1)) (y17 : (∀ p ∈ V, p.1 ≠ I)) (y18 : (∀ p ∈ V, p.1 ≠ 1071)) (y19 : (∀ p ∈ V, p.1 ≠ src)) (y20 : (∀ p ∈ V, p.1 ≠ 1054)) (y21 : (@Ne Nat I 1071 ∧ @Ne Nat I (L + 1 + 1) ∧ @Ne Nat I src ∧ @Ne Nat I 1054)) (y22 : (∀ p ∈ ext, p ∈ Zc ∨ ∀ q ∈ Y2, q.1 < p.1)) : JLp s₂ fs A₀ base outer K p loose mean mg mb g L t ln src o ps kv Y2 Zc I i ({ s₂ with heap := h', toks := tk })
section
local macro_rules | `(tactic| walk_at "compareOp NotEq ref ref") => `(tactic| (k_here; k_dflt (refine ne_pair (by walk_at "ist") (by walk_at "ist") (by ktr_units) (by walk_at "same") (by walk_at "same") ?_; k_whole)))
local macro_rules | `(tactic| walk_at "pad3") => `(tactic| skip)
theorem tailL {w : World} {p : Program} {loose : List Str} {mean : ExcName → Option Value} {mg mb : Str → Option Value} {dp un : Nat} {gd : Option (List Code)} {outer : List Env} {A₀ : Around} {base g : Heap} {L : Nat} {m : Str → Option Value} {s : Shared} {Q : Flow → Shared → Prop} {E : Value → Shared → Prop}
    {src ln kn tb lc : Nat} {o oN oS oT : Obj} {v0 : Option Value} {rp kv : Value} {vs : List Value} {names : List Str} {key : Option Nat} {ps qs : Array Value} {Y Zc : List (Addr × Obj)}
    (B : Below A₀ base outer g) (F : Fr g L s.heap m) (X : (hd.heap_39 w.params).In g) (N : News g L s.heap ((L + 1 + 1, oN) :: (1071, tabObj qs) :: (src, o) :: (1054, tabObj ps) :: Y)) (T : Top p loose mean mg mb g) (XB : (hd.heap_39 w.params).In base) (TB : Top p loose mean mg mb base) (D : KtsDicts (outer.filterMap (·.frame)) g)
    (hd : dp + 23 < recursionLimit) (hu : un + 8 * 23 < cLine) (hdN : oN.data = .cell v0) (hS : (L + 1, oS) ∈ Y) (hdS : oS.data = .cell (some (.ref src))) (hTc : (L + 1 + 1 + 1, oT) ∈ Y) (hdT : oT.data = .cell (some (.ref tb)))
    (hm1 : m (Str.ofString "names") = some (.ref ln)) (hm2 : m (Str.ofString "key") = some kv) (hnl : (ln, W.listOf vs.toArray kn) ∈ Y) (hvs : StrsAre vs names) (hkey : KeyV key kv) (hn : names.length ≤ 50) (hns : ∀ nm ∈ names, Wd nm) (hk : ∀ k, key = some k → k < names.length)
    (hTab : TabAt w.params Y tb lc rp names) (hRp : RpAt key names.length rp) (hYs : ∀ p ∈ Y, p.1 ≠ src) (hY54 : ∀ p ∈ Y, p.1 ≠ 1054) (hY71 : ∀ p ∈ Y, p.1 ≠ 1071) (hYN : ∀ p ∈ Y, p.1 ≠ L + 1 + 1)
    (h1 : @Ne Nat src 1054) (h2 : @Ne Nat src 1071) (h3 : @Ne Nat src (L + 1 + 1)) (h4 : @LT.lt Nat _ 1071 L) (ho : SrcO o) (hC : Codes q54 p54 ps Zc) (hC7 : Codes q71 p71 qs Zc) (hZc : ∀ p ∈ Zc, p ∈ Y)
    (hE : PassesOwn (model PySem.Challenge.rw_xm0769_01.row.prog w) (ktrTop dp un gd (Str.ofString "_law_right") sc79 L 1074 (.ref 1073) (cellsFrom (L + 1) sc79.names []) outer) (envX (Str.ofString "_law_right") sc79 L 1074 (.ref 1073) (cellsFrom (L + 1) sc79.names [])) E)
    (ret : ∀ (ps' qs' : Array Value) (ext : List (Addr × Obj)) (g' h' : Heap) (tk' : Nat) (m' : Str → Option Value), KtsTurn (outer.filterMap (·.frame)) g g' → Fr g' L h' m' → News g' L h' ((1054, tabObj ps') :: (1071, tabObj qs') :: (ext ++ Zc)) → Codes q54 p54 ps' (ext ++ Zc) → Codes q71 p71 qs' (ext ++ Zc) → (∀ p ∈ ext, p.1 ≠ 1054 ∧ p.1 ≠ 1071) → Q (.ret (.bool true)) { s with heap := h', toks := tk' }) :
    wpAny (model PySem.Challenge.rw_xm0769_01.row.prog w) (ktrTop dp un gd (Str.ofString "_law_right") sc79 L 1074 (.ref 1073) (cellsFrom (L + 1) sc79.names []) outer) (execs b79 (envX (Str.ofString "_law_right") sc79 L 1074 (.ref 1073) (cellsFrom (L + 1) sc79.names []))) Q E s := by
  have hrp : rp = .none ∨ ∃ k t : Nat, rp = .int k t := by
    cases key with
    | none => exact .inl hRp
    | some k =>
      simp only [RpAt, hk k rfl, if_true] at hRp
      obtain ⟨t, rfl⟩ := hRp
      exact .inr ⟨k, t, rfl⟩
  delta b79 sc79 the
  (repeat ((fail_if_success (with_reducible show wpAny _ _ (exec (Stmt.For _ _ _ _ _) _) _ _ _)); first | (k_unfold; (try dsimp only)) | walk1 | (dsimp only; walk1)))
  k_dflt (refine For_G ?_ (hE := hE))
  (repeat ((fail_if_success (with_reducible show wpAny _ _ (pyIter _) _ _ _)); first | (k_unfold; (try dsimp only)) | walk1 | (dsimp only; walk1)))
  rename_i D3 h3 F3 N3 l3
  refine packY_k N3 ?_
  intro Y2 hY2 N4
  have hsz : ∀ p ∈ (L + 1 + 1, oN) :: (1071, tabObj qs) :: (src, o) :: (1054, tabObj ps) :: Y2, p.1 < h3.objs.size := fun p hp => Heap.lt_size (N4 p hp).1
  have hY2N : ∀ p ∈ Y2, p.1 ≠ L + 1 + 1 := hY2 ▸ (by (repeat' (first | exact List.forall_mem_nil _ | assumption | refine pn_cons (by walk_at "nec") ?_ | exact pn_lt (by assumption) (by walk_at "lec"))))
  have hY27 : ∀ p ∈ Y2, p.1 ≠ 1071 := hY2 ▸ (by (repeat' (first | exact List.forall_mem_nil _ | assumption | refine pn_cons (by walk_at "nec") ?_ | exact pn_lt (by assumption) (by walk_at "lec"))))
  have hY2s : ∀ p ∈ Y2, p.1 ≠ src := hY2 ▸ (by (repeat' (first | exact List.forall_mem_nil _ | assumption | refine pn_cons (by walk_at "nec") ?_ | exact pn_lt (by assumption) (by walk_at "lec"))))
  have hY25 : ∀ p ∈ Y2, p.1 ≠ 1054 := hY2 ▸ (by (repeat' (first | exact List.forall_mem_nil _ | assumption | refine pn_cons (by walk_at "nec") ?_ | exact pn_lt (by assumption) (by walk_at "lec"))))
  have hYY : ∀ p ∈ Y, p ∈ Y2 := hY2 ▸ fun p hp => .tail _ hp
  have htY : _ ∈ Y2 := hY2 ▸ List.Mem.head _
  clear N3
  k_dflt (refine tup_loopG (t := D3) (JLp s (outer.filterMap (·.frame)) A₀ base outer (Mine.hd.heap_39 w.params) p loose mean mg mb g L D3 ln src o ps kv Y2 Zc) rfl (tup_at N4 (.tail _ (.tail _ (.tail _ (.tail _ htY))))) ?start ?get ?turn ?fin)
  case start =>
    exact ⟨g, _, _, m, qs, [], Y2, oN, _, v0, KtsTurn.refl, F3.push _, hm1, hm2, start_news N4 F3 _ rfl, hdN, rfl, rfl, B, X, T, D, hC7, fun p hp => hYY p (hZc p hp), fun p hp => hp, hY2N, fun p hp => Nat.ne_of_lt (hsz p (.tail _ (.tail _ (.tail _ (.tail _ hp))))), hY27, hY2s, hY25, ⟨Nat.ne_of_gt (hsz _ (.tail _ (.head _))), Nat.ne_of_gt (hsz _ (.head _)), Nat.ne_of_gt (hsz _ (.tail _ (.tail _ (.head _)))), Nat.ne_of_gt (hsz _ (.tail _ (.tail _ (.tail _ (.head _)))))⟩, fun p hp => nomatch hp⟩
  case get =>
    rintro I i s' ⟨g1, h1', tk1, m1, qs1, ext1, V, oN1, oI1, v1, KT1, F1, hn1, hk1, N1, hdN1, hIc, hId, B1, X1, T1, D1, hC1, hZV, hYV, hVN, hVI, hV7, hVs, hV5, ⟨hI7, hIN, hIs, hI5⟩, hx1⟩
    exact ⟨⟨_, (N1 _ (.tail _ (.head _))).1, hIc, hId⟩, tup_at N1 (.tail _ (.tail _ (.tail _ (.tail _ (.tail _ (hYV _ htY))))))⟩
  case turn =>
    rintro I i v s' h' ⟨g1, h1', tk1, m1, qs1, ext1, V, oN1, oI1, v1, KT1, F1, hn1, hk1, N1, hdN1, hIc, hId, B1, X1, T1, D1, hC1, hZV, hYV, hVN, hVI, hV7, hVs, hV5, ⟨hI7, hIN, hIs, hI5⟩, hx1⟩ hv hit' hsb
    obtain ⟨x, xt, rfl, hx⟩ := strs_get (xs := sixL) (by repeat' constructor) hv
    have hwd := sixL_wd x (List.mem_of_getElem? hx)
    obtain ⟨oI2, hoI2, hc2, hd2⟩ := hit'
    have F2 : Fr g1 L h' m1 := F1.change hsb (N1 _ (.tail _ (.head _))).2.1 (N1 _ (.tail _ (.head _))).2.2
    have N2 := turn_news N1 hsb hoI2 hIN (List.forall_mem_cons.2 ⟨hI7.symm, List.forall_mem_cons.2 ⟨hIs.symm, List.forall_mem_cons.2 ⟨hI5.symm, hVI⟩⟩⟩)
    clear N1 F1 hsb N4 F3 hv hx hIc hId
    have hlnV := hYV _ (hYY _ hnl)
    k_steps
    refine Held.out ?_
    k_dflt (refine' ctr_use (lplace_ctr ?hnl hvs hkey hn hns hwd) ?B ?F ?X ?N (fun _ hp => hp) ?T ?hk ?hd ?hu ?_; walk_at "use"; (case hnl => k_mem))
    refine pair_cur ?_
    intro v9 hP9 h9 tk9 F9 N9
    have hxl := hwd.1
    (rename _ = Data.cell (some (Value.str x xt)) => hdx)
    have hZV4 : ∀ p ∈ ext1 ++ Zc, ∀ n' I' s' r' : Addr × Obj, p ∈ n' :: I' :: s' :: r' :: V := fun p hp n' I' s' r' => .tail _ (.tail _ (.tail _ (.tail _ (hZV p hp))))
    cases hpl : plc names key x with
    | none =>
      rw [hpl] at hP9
      obtain rfl : v9 = .none := hP9
      (try dsimp only)
      (try k_fold)
      k_steps
      refine Held.out ?_
      (rename News g1 _ _ _ => N5)
      (rename Fr g1 _ _ _ => F5)
      replace N5 := p_front [_, _] N5
      dsimp only [List.cons_append, List.nil_append] at N5
      (k_dflt (refine' lam_any (poss := p71) ?l1 (by assumption) (by assumption) (by assumption) (code73 (by assumption)) ?l2 ?l3 (by assumption) ?l5 ?l4 ?l6 ?_); (case l1 => exact rfl); (case l2 => exact rfl); (case l3 => exact rfl); (case l4 => decide); (case l5 => (rename ∀ p ∈ _ ++ _, ∀ n' I' s' r' : Addr × Obj, _ => hh; exact fun q hq => hh q hq _ _ _ _)); (case l6 => (repeat' (first | exact List.forall_mem_nil _ | assumption | refine pn_cons (by walk_at "nec") ?_ | exact pn_lt (by assumption) (by walk_at "lec")))))
      intro f c' ctv qs2 oc h2' tk2 F6 N6 hC2 hR2 hcc l1 l2 l3
      obtain ⟨oc2, ws, t0, hm0, hd0, hv0⟩ := hR2
      clear N5 F5
      have hTV := hYV _ (hYY _ hTc)
      k_steps
      refine Held.out ?_
      k_dflt (refine' ctrS_use (tried_ctr (.tail _ (.head _)) (lamR_ctr (.tail _ (.head _)) (.tail _ (.tail _ hm0)) hd0 hv0 (.tail _ (.tail _ (.tail _ (.tail _ (.tail _ (.tail _ (.tail _ hTV))))))) hdT (.tail _ (.tail _ (.tail _ (.head _)))) hdx hxl (fun tm => want_ctr hxl (hTab.more fun p hp => .tail _ (.tail _ (.tail _ (.tail _ (.tail _ (.tail _ (.tail _ (hYV p (hYY p hp))))))))) hrp))) ?B ?F ?X N6 (fun _ hp => hp) ?T ?XB ?TB ?D ?hk ?hd ?hu ?_; ((case B => k_asm); (case F => k_asm); (case XB => k_asm); (case TB => k_asm); (case D => assumption); walk_at "use4"))
      intro v9 led9 g9 h9 tk9 hR9 KT9 F9 N9 B9 X9 T9 D9
      cases hR9 with
      | ok hR0 hlt0 =>
        obtain ⟨hWt, rfl⟩ := hR0
        obtain ⟨z2, zt2, rfl, hpz⟩ := want_plc hk hRp hWt
        rw [hpl] at hpz
        cases hpz
      | exc hX0 hlt0 =>
        obtain ⟨rfl, hno1, hno2⟩ := hX0
        (try dsimp only)
        (try k_fold)
        k_steps
        (rename News g9 _ _ _ => kN9)
        exact ⟨g9, _, _, _, qs2, (c', oc) :: ext1, (c', oc) :: V, _, oI2, _, KT1.trans KT9, by assumption, by walk_at "mget", by walk_at "mget", cb_drop kN9 turn_sub, hdx, hc2, hd2, B9, X9, T9, D9, hC2, turn_zv hZV, fun p hp => .tail _ (hYV p hp), List.forall_mem_cons.2 ⟨code_ne hcc hZV hVN (.inr ⟨_, .head _⟩), hVN⟩, List.forall_mem_cons.2 ⟨code_ne hcc hZV hVI (.inr ⟨_, .tail _ (.head _)⟩), hVI⟩, List.forall_mem_cons.2 ⟨code_ne hcc hZV hV7 (.inl rfl), hV7⟩, List.forall_mem_cons.2 ⟨code_ne hcc hZV hVs (.inr ⟨_, .tail _ (.tail _ (.head _))⟩), hVs⟩, List.forall_mem_cons.2 ⟨code_ne hcc hZV hV5 (.inr ⟨_, .tail _ (.tail _ (.tail _ (.head _)))⟩), hV5⟩, ⟨hI7, hIN, hIs, hI5⟩, code_hx hcc (fun p hp => .tail _ (.tail _ (.tail _ (.tail _ (hYV p hp))))) hx1⟩
    | some z =>
      rw [hpl] at hP9
      obtain ⟨zt, rfl⟩ := hP9
      (try dsimp only)
      (try k_fold)
      k_steps
      refine Held.out ?_
      (rename News g1 _ _ _ => N5)
      (rename Fr g1 _ _ _ => F5)
      replace N5 := p_front [_, _] N5
      dsimp only [List.cons_append, List.nil_append] at N5
      (k_dflt (refine' lam_any (poss := p71) ?l1 (by assumption) (by assumption) (by assumption) (code73 (by assumption)) ?l2 ?l3 (by assumption) ?l5 ?l4 ?l6 ?_); (case l1 => exact rfl); (case l2 => exact rfl); (case l3 => exact rfl); (case l4 => decide); (case l5 => (rename ∀ p ∈ _ ++ _, ∀ n' I' s' r' : Addr × Obj, _ => hh; exact fun q hq => hh q hq _ _ _ _)); (case l6 => (repeat' (first | exact List.forall_mem_nil _ | assumption | refine pn_cons (by walk_at "nec") ?_ | exact pn_lt (by assumption) (by walk_at "lec")))))
      intro f c' ctv qs2 oc h2' tk2 F6 N6 hC2 hR2 hcc l1 l2 l3
      obtain ⟨oc2, ws, t0, hm0, hd0, hv0⟩ := hR2
      clear N5 F5
      have hTV := hYV _ (hYY _ hTc)
      k_steps
      refine Held.out ?_
      k_dflt (refine' ctrS_use (tried_ctr (.tail _ (.head _)) (lamR_ctr (.tail _ (.head _)) (.tail _ (.tail _ hm0)) hd0 hv0 (.tail _ (.tail _ (.tail _ (.tail _ (.tail _ (.tail _ (.tail _ hTV))))))) hdT (.tail _ (.tail _ (.tail _ (.head _)))) hdx hxl (fun tm => want_ctr hxl (hTab.more fun p hp => .tail _ (.tail _ (.tail _ (.tail _ (.tail _ (.tail _ (.tail _ (hYV p (hYY p hp))))))))) hrp))) ?B ?F ?X N6 (fun _ hp => hp) ?T ?XB ?TB ?D ?hk ?hd ?hu ?_; ((case B => k_asm); (case F => k_asm); (case XB => k_asm); (case TB => k_asm); (case D => assumption); walk_at "use4"))
      intro v9 led9 g9 h9 tk9 hR9 KT9 F9 N9 B9 X9 T9 D9
      cases hR9 with
      | ok hR0 hlt0 =>
        obtain ⟨hWt, rfl⟩ := hR0
        obtain ⟨z2, zt2, rfl, hpz⟩ := want_plc hk hRp hWt
        rw [hpl] at hpz
        obtain rfl : z = z2 := Option.some.inj hpz
        (try dsimp only)
        (try k_fold)
        k_steps
        (rename News g9 _ _ _ => kN9)
        exact ⟨g9, _, _, _, qs2, (c', oc) :: ext1, (c', oc) :: V, _, oI2, _, KT1.trans KT9, by assumption, by walk_at "mget", by walk_at "mget", cb_drop kN9 turn_sub, hdx, hc2, hd2, B9, X9, T9, D9, hC2, turn_zv hZV, fun p hp => .tail _ (hYV p hp), List.forall_mem_cons.2 ⟨code_ne hcc hZV hVN (.inr ⟨_, .head _⟩), hVN⟩, List.forall_mem_cons.2 ⟨code_ne hcc hZV hVI (.inr ⟨_, .tail _ (.head _)⟩), hVI⟩, List.forall_mem_cons.2 ⟨code_ne hcc hZV hV7 (.inl rfl), hV7⟩, List.forall_mem_cons.2 ⟨code_ne hcc hZV hVs (.inr ⟨_, .tail _ (.tail _ (.head _))⟩), hVs⟩, List.forall_mem_cons.2 ⟨code_ne hcc hZV hV5 (.inr ⟨_, .tail _ (.tail _ (.tail _ (.head _)))⟩), hV5⟩, ⟨hI7, hIN, hIs, hI5⟩, code_hx hcc (fun p hp => .tail _ (.tail _ (.tail _ (.tail _ (hYV p hp))))) hx1⟩
      | exc hX0 hlt0 =>
        obtain ⟨_, hno1, hno2⟩ := hX0
        rw [no_plc hno1 hno2] at hpl
        cases hpl
  case fin =>
    rintro I s' h' ⟨g1, h1', tk1, m1, qs1, ext1, V, oN1, oI1, v1, KT1, F1, hn1, hk1, N1, hdN1, hIc, hId, B1, X1, T1, D1, hC1, hZV, hYV, hVN, hVI, hV7, hVs, hV5, ⟨hI7, hIN, hIs, hI5⟩, hx1⟩ hsb
    have F2 : Fr g1 L h' m1 := LCg.fr_but F1 (fun b o hb e => hsb b o (fun q => hb (List.mem_singleton.mpr q)) e) (fun e => (N1 _ (.tail _ (.head _))).2.1 e.symm) (N1 _ (.tail _ (.head _))).2.2
    have N2 := fin_news N1 hsb hIN (List.forall_mem_cons.2 ⟨hI7.symm, List.forall_mem_cons.2 ⟨hIs.symm, List.forall_mem_cons.2 ⟨hI5.symm, hVI⟩⟩⟩)
    clear N1 F1 hsb N4 F3
    have hlnV := hYV _ (hYY _ hnl)
    have hTV := hYV _ (hYY _ hTc)
    have hSV := hYV _ (hYY _ hS)
    (try dsimp only)
    k_steps
    refine Held.out ?_
    (rename News g1 _ _ _ => N3)
    replace N3 := fin_perm N3
    have hZR : ∀ q ∈ Zc, q ∈ V := fun q hq => hZV q (List.mem_append.mpr (.inr hq))
    k_dflt (refine' ctrS_use (placesR_ctr (Zc := Zc) ho ?p1 h1 ?p2 (.tail _ (.tail _ hlnV)) hvs hkey hn hns (hTab.more fun p hp => .tail _ (.tail _ (hYV p (hYY p hp)))) hk hRp hC (fun q hq => .tail _ (.tail _ (hZR q hq)))) ?B ?F ?X N3 (fun _ hp => hp) ?T ?XB ?TB ?D ?hk ?hd ?hu ?_; ((case B => k_asm); (case F => k_asm); (case XB => k_asm); (case TB => k_asm); (case D => assumption); walk_at "use4"))
    · (repeat' (first | exact List.forall_mem_nil _ | assumption | refine pn_cons (by walk_at "nec") ?_ | exact pn_lt (by assumption) (by walk_at "lec")))
    · (repeat' (first | exact List.forall_mem_nil _ | assumption | refine pn_cons (by walk_at "nec") ?_ | exact pn_lt (by assumption) (by walk_at "lec")))
    · intro v9 led9 g9 h9 tk9 hR9 KT9 F9 N9 B9 X9 T9 D9
      obtain ⟨rfl, o9, ps9, ext9, hS9, rfl, hC9, hx9⟩ := hR9
      refine packR_k N9 ?_
      intro R9 hR9 N10
      have hSR : _ ∈ R9 := hR9 ▸ List.Mem.tail _ (List.mem_append.mpr (.inr (.tail _ (.tail _ hSV))))
      have hRs : ∀ p ∈ R9, p.1 ≠ src := hR9 ▸ fin_ne1 h1 hx9 (fun p hp => hVs p (hZR p hp)) (by (repeat' (first | exact List.forall_mem_nil _ | assumption | refine pn_cons (by walk_at "nec") ?_ | exact pn_lt (by assumption) (by walk_at "lec"))))
      clear N9 N3
      (try dsimp only)
      k_steps
      refine Held.out ?_
      k_dflt (refine' ctr_use (values_ctr hS9 hRs) ?B ?F ?X N10 (fun _ hp => hp) ?T ?hk ?hd ?hu ?_; ((case B => k_asm); (case F => k_asm); walk_at "use4"))
      intro v9 led9 h8 tk8 hR8 F8 N8
      obtain ⟨rfl, rfl⟩ := hR8
      subst hR9
      (try dsimp only)
      k_steps
      exact ret ps9 qs1 (ext9 ++ ext1) g9 _ _ _ (KT1.trans KT9) F8 (cb_drop N8 (fin_sub hZV)) (hC9.more fin_c1) (hC1.more fin_c2) (fin_ne2 hx9 (fun p hp => hZV p (List.mem_append.mpr (.inl hp))) hZR hV5 hV7)
end
end
section
noncomputable def b79n : List Stmt := the ((bodyOf fs_79).drop 1) _ (by conv => lhs; whnf)
noncomputable def fiveL : List (List Str) := [[Str.ofString "a"], [Str.ofString "a", Str.ofString "b"], [Str.ofString "b", Str.ofString "oid", Str.ofString "c"], [Str.ofString "c", Str.ofString "_rowid_", Str.ofString "a", Str.ofString "b"], [Str.ofString "rowid", Str.ofString "a"]]
theorem fiveL_ok : ∀ xs ∈ fiveL, 1 ≤ xs.length ∧ xs.length ≤ 4 ∧ (∀ x ∈ xs, Wd x ∧ Wd (Txt.upper x) ∧ lowS (Txt.upper x) = lowS x) ∧ (xs.map lowS).Nodup := by
  unfold Wd
  decide +kernel
inductive JN (src : Nat) (U : List (Addr × Obj)) (xs : List Str) (i : Nat) (ys : List Value) : List (Addr × Obj) → Prop
  | mk (o' : Obj) (nms : List Str) (y1 : SrcO o') (y2 : StrsAre ys nms) (y3 : nms.length = i) (y4 : ∀ (j : Nat) (x y : Str), xs[j]? = some x → nms[j]? = some y → Wd y ∧ lowS y = lowS x) : JN src U xs i ys ((src, o') :: U)
theorem nms_dist {xs nms : List Str} (hl : nms.length = xs.length) (hnd : (xs.map lowS).Nodup) (h : ∀ (j : Nat) (x y : Str), xs[j]? = some x → nms[j]? = some y → Wd y ∧ lowS y = lowS x) : ∀ (i j : Nat) (x y : Str), i < j → nms[i]? = some x → nms[j]? = some y → lowS x ≠ lowS y := fun i j x y hij hi hj e => by
  have hil : i < xs.length := hl ▸ (List.getElem?_eq_some_iff.mp hi).1
  have hjl : j < xs.length := hl ▸ (List.getElem?_eq_some_iff.mp hj).1
  have h1 := (h i _ x (List.getElem?_eq_getElem hil) hi).2
  have h2 := (h j _ y (List.getElem?_eq_getElem hjl) hj).2
  rw [h1, h2] at e
  have := List.pairwise_iff_getElem.mp hnd i j (by simpa using hil) (by simpa using hjl) hij
  exact this (by simpa using e)
theorem lett_up {x : Str} (h : Wd x ∧ Wd (Txt.upper x) ∧ lowS (Txt.upper x) = lowS x) {v : Value} {t' : Nat} (hv : v = .str x t' ∨ v = .str (Txt.upper x) t') : ∃ y, v = .str y t' ∧ Wd y ∧ lowS y = lowS x := by
  rcases hv with rfl | rfl
  · exact ⟨_, rfl, h.1, rfl⟩
  · exact ⟨_, rfl, h.2.1, h.2.2⟩
theorem key_of {n i : Nat} {v : Value} {t u : Tok} (hn : 1 ≤ n) (h : [.none, .int 0 t, .int ((n : Int) - 1) u][i]? = some v) : ∃ key, KeyV key v ∧ ∀ k, key = some k → k < n := by
  match i, h with
  | 0, h => obtain rfl := (Option.some.inj h).symm; exact ⟨none, .none, fun k e => by cases e⟩
  | 1, h => obtain rfl := (Option.some.inj h).symm; exact ⟨some 0, .some 0 t, fun k e => by cases e; omega⟩
  | 2, h =>
    obtain rfl := (Option.some.inj h).symm
    have e : ((n : Int) - 1) = ((n - 1 : Nat) : Int) := by omega
    rw [e]
    exact ⟨some (n - 1), .some (n - 1) u, fun k e => by cases e; omega⟩
theorem key_of_k {n i : Nat} {v : Value} {t u : Tok} (hn : 1 ≤ n) (h : [.none, .int 0 t, .int ((n : Int) - 1) u][i]? = some v) {G9 : Prop} (k9 : ∀ key, (KeyV key v) → (∀ k, key = some k → k < n) → G9) : G9 := by
  obtain ⟨key, b1, b2⟩ := key_of hn h
  exact k9 key b1 b2
theorem packN3 {h₀ h : Heap} {L : Addr} {s d t n r q : Addr × Obj} {Y : List (Addr × Obj)} (N : News h₀ L h (s :: d :: t :: n :: r :: q :: Y)) : ∃ Y3, Y3 = d :: Y ∧ News h₀ L h (t :: n :: q :: s :: r :: Y3) := ⟨_, rfl, cb_drop N (by walk_at "subs")⟩
theorem packN3_k {h₀ h : Heap} {L : Addr} {s d t n r q : Addr × Obj} {Y : List (Addr × Obj)} (N : News h₀ L h (s :: d :: t :: n :: r :: q :: Y)) {G9 : Prop} (k9 : ∀ Y3, (Y3 = d :: Y) → (News h₀ L h (t :: n :: q :: s :: r :: Y3)) → G9) : G9 := by
  obtain ⟨Y3, b1, b2⟩ := packN3 N
  exact k9 Y3 b1 b2
theorem packN4 {h₀ h : Heap} {L : Addr} {t n q s r : Addr × Obj} {Y ext : List (Addr × Obj)} (N : News h₀ L h ((t :: n :: q :: s :: r :: Y) ++ ext)) : ∃ Y4, Y4 = Y ++ ext ∧ News h₀ L h (t :: n :: q :: s :: r :: Y4) := ⟨_, rfl, N⟩
theorem packN4_k {h₀ h : Heap} {L : Addr} {t n q s r : Addr × Obj} {Y ext : List (Addr × Obj)} (N : News h₀ L h ((t :: n :: q :: s :: r :: Y) ++ ext)) {G9 : Prop} (k9 : ∀ Y4, (Y4 = Y ++ ext) → (News h₀ L h (t :: n :: q :: s :: r :: Y4)) → G9) : G9 := by
  obtain ⟨Y4, b1, b2⟩ := packN4 N
  exact k9 Y4 b1 b2
theorem app_ne {a : Addr} {Y ext led : List (Addr × Obj)} (hY : ∀ p ∈ Y, p.1 ≠ a) (hx : ∀ p ∈ ext, ∀ q ∈ led, q.1 < p.1) (ha : ∃ oa, (a, oa) ∈ led) : ∀ p ∈ Y ++ ext, p.1 ≠ a := fun p hp => (List.mem_append.mp hp).elim (hY p) fun h => by
  obtain ⟨oa, hm⟩ := ha
  exact Nat.ne_of_gt (hx p h _ hm)
theorem rot5 {h₀ h : Heap} {L : Addr} {t n q s r : Addr × Obj} {Y : List (Addr × Obj)} (N : News h₀ L h (t :: n :: q :: s :: r :: Y)) : News h₀ L h (n :: q :: s :: r :: t :: Y) := cb_drop N (by walk_at "subs")
section
theorem tailN {w : World} {p : Program} {loose : List Str} {mean : ExcName → Option Value} {mg mb : Str → Option Value} {dp un : Nat} {gd : Option (List Code)} {outer : List Env} {A₀ : Around} {base g : Heap} {L : Nat} {m : Str → Option Value} {s : Shared} {Q : Flow → Shared → Prop} {E : Value → Shared → Prop}
    {src la ck : Nat} {o oN oS oT : Obj} {v0 v1 : Option Value} {cvs : List Value} {xs : List Str} {ps qs : Array Value} {Y Zc : List (Addr × Obj)}
    (B : Below A₀ base outer g) (F : Fr g L s.heap m) (X : (hd.heap_39 w.params).In g) (N : News g L s.heap ((src, o) :: (L + 1 + 1 + 1, oT) :: (L + 1 + 1, oN) :: (1054, tabObj ps) :: (1071, tabObj qs) :: Y)) (T : Top p loose mean mg mb g) (XB : (hd.heap_39 w.params).In base) (TB : Top p loose mean mg mb base) (D : KtsDicts (outer.filterMap (·.frame)) g)
    (hd : dp + 23 < recursionLimit) (hu : un + 8 * 23 < cLine) (hdT : oT.data = .cell v1) (hdN : oN.data = .cell v0) (hS : (L + 1, oS) ∈ Y) (hdS : oS.data = .cell (some (.ref src)))
    (hm0 : m (Str.ofString "first") = some (.ref la)) (hla : (la, W.listOf cvs.toArray ck) ∈ Y) (hcs : StrsAre cvs xs) (hxs : xs ∈ fiveL)
    (hYs : ∀ p ∈ Y, p.1 ≠ src) (hY54 : ∀ p ∈ Y, p.1 ≠ 1054) (hY71 : ∀ p ∈ Y, p.1 ≠ 1071) (hYN : ∀ p ∈ Y, p.1 ≠ L + 1 + 1) (hYT : ∀ p ∈ Y, p.1 ≠ L + 1 + 1 + 1)
    (h1 : @Ne Nat src 1054) (h2 : @Ne Nat src 1071) (h3 : @LT.lt Nat _ src L) (h4 : @LT.lt Nat _ 1071 L) (ho : SrcO o) (hC : Codes q54 p54 ps Zc) (hC7 : Codes q71 p71 qs Zc) (hZc : ∀ p ∈ Zc, p ∈ Y)
    (hE : PassesOwn (model PySem.Challenge.rw_xm0769_01.row.prog w) (ktrTop dp un gd (Str.ofString "_law_right") sc79 L 1074 (.ref 1073) (cellsFrom (L + 1) sc79.names []) outer) (envX (Str.ofString "_law_right") sc79 L 1074 (.ref 1073) (cellsFrom (L + 1) sc79.names [])) E)
    (ret : ∀ (ps' qs' : Array Value) (ext : List (Addr × Obj)) (g' h' : Heap) (tk' : Nat) (m' : Str → Option Value), KtsTurn (outer.filterMap (·.frame)) g g' → Fr g' L h' m' → News g' L h' ((1054, tabObj ps') :: (1071, tabObj qs') :: (ext ++ Zc)) → Codes q54 p54 ps' (ext ++ Zc) → Codes q71 p71 qs' (ext ++ Zc) → (∀ p ∈ ext, p.1 ≠ 1054 ∧ p.1 ≠ 1071) → Q (.ret (.bool true)) { s with heap := h', toks := tk' }) :
    wpAny (model PySem.Challenge.rw_xm0769_01.row.prog w) (ktrTop dp un gd (Str.ofString "_law_right") sc79 L 1074 (.ref 1073) (cellsFrom (L + 1) sc79.names []) outer) (execs b79n (envX (Str.ofString "_law_right") sc79 L 1074 (.ref 1073) (cellsFrom (L + 1) sc79.names []))) Q E s := by
  obtain ⟨hx1, hx2, hx3, hx4⟩ := fiveL_ok xs hxs
  have hcl : cvs.length = xs.length := strs_len hcs
  delta b79n sc79 the
  (repeat ((fail_if_success (with_reducible show wpAny _ _ (exec (Stmt.Assign _ (Expr.ListComp _ _ _ _) _) _) _ _ _)); first | (k_unfold; (try dsimp only)) | walk1 | (dsimp only; walk1)))
  (k_dflt (refine LCg.Assign_ListComp_U (F₀ := by k_asm) (by rfl) (by with_unfolding_all rfl) (by with_unfolding_all rfl) (by decide) (by rfl) (by decide) (by rfl) (by rfl) (by rfl) ?_))
  walk1
  refine packU_k N ?_
  intro U hU N2
  have hUs : ∀ p ∈ U, p.1 ≠ src := hU ▸ (by (repeat' (first | exact List.forall_mem_nil _ | assumption | refine pn_cons (by walk_at "nec") ?_ | exact pn_lt (by assumption) (by walk_at "lec"))))
  have hlU : _ ∈ U := hU ▸ List.Mem.tail _ (.tail _ (.tail _ (.tail _ hla)))
  have hSU : _ ∈ U := hU ▸ List.Mem.tail _ (.tail _ (.tail _ (.tail _ hS)))
  refine LCg.CompSrc.ledger rfl (by k_asm) N2 (.tail _ hlU) (by rw [List.size_toArray, sizeLine_eq]; omega) ?_
  intro g8
  refine compRest_inv (n := cvs.toArray.size) (JN src U xs) ?step ?fin _ 0 [] _ (Nat.zero_add _) ⟨o, [], ho, .nil, rfl, fun j x y _ e => by simp at e⟩
  case step =>
    rintro i v ys news I oI C oC D m₂ h tk E' hi hv ⟨o7, nms, hS7, hys, hl, hnm⟩ hC2 hm F7 N7 off ne
    obtain ⟨x, xt, rfl, hx⟩ := strs_get hcs (by simpa using hv)
    have hxw := hx3 x (List.mem_of_getElem? hx)
    k_steps
    refine Held.out ?_
    have hne3 := off3_ne (oI := oI) (oC := oC) (oD := LCg.lst ys) off hUs
    (rename News _ _ _ (_ :: _) => N8)
    replace N8 := p_front [_, _, _] N8
    dsimp only [List.cons_append, List.nil_append] at N8
    k_dflt (refine' ctr_use (letters_ctr hS7 hne3 hxw.1.1) ?B ?F ?X N8 (fun _ hp => hp) ?T ?hk ?hd ?hu ?_; ((case B => k_asm); (case F => k_asm); walk_at "use4"))
    refine letters_cur ?_
    intro v9 t7 o6 hv9 hs6 h9 tk9 F9 N9
    obtain ⟨y, rfl, hy⟩ := lett_up hxw hv9
    exact LCg.CompEnd.intro (by assumption) N9 ((src, o6) :: U) swap3 off (.inr ⟨_, .tail _ hlU, rfl, _, rfl⟩) ⟨o6, nms ++ [y], hs6, strs_snoc hys, by rw [List.length_append, hl]; rfl, fun j x' y' e1 e2 => by
      rcases jd_snoc e2 with e2 | ⟨rfl, rfl⟩
      · exact hnm j x' y' e1 e2
      · rw [hl, hx] at e1; rw [← Option.some.inj e1]; exact hy⟩
  case fin =>
    rintro ys news ⟨o7, nms, hS7, hys, hl, hnm⟩
    intro D' h' tk' F' N' o1
    rw [List.size_toArray, hcl] at hl
    have hyl : ys.length = nms.length := strs_len hys
    have hnw : ∀ nm ∈ nms, Wd nm := fun nm hm => by
      obtain ⟨j, hj⟩ := List.mem_iff_getElem?.mp hm
      have hjl : j < xs.length := hl ▸ (List.getElem?_eq_some_iff.mp hj).1
      exact (hnm j _ nm (List.getElem?_eq_getElem hjl) hj).1
    have hdist := nms_dist hl hx4 hnm
    subst hU
    have e1 : @Ne Nat src D' := o1.1
    have e2 : @Ne Nat (L + 1 + 1 + 1) D' := o1.2.1
    have e3 : @Ne Nat (L + 1 + 1) D' := o1.2.2.1
    have e4 : @Ne Nat 1054 D' := o1.2.2.2.1
    have e5 : @Ne Nat 1071 D' := o1.2.2.2.2.1
    clear o1 N2
    have hy4 : ys.length ≤ 4 := by omega
    dsimp only
    k_steps
    refine Held.out ?_
    (rename News _ _ _ (_ :: _) => N8)
    replace N8 := p_front [_, _] N8
    dsimp only [List.cons_append, List.nil_append] at N8
    k_dflt (refine' ctr_use (one_ctr hS7 ?w1 (.head _) (by simp) (by simp)) ?B ?F ?X N8 (fun _ hp => hp) ?T ?hk ?hd ?hu ?_; ((case B => k_asm); (case F => k_asm); walk_at "use4"))
    case w1 => (repeat' (first | exact List.forall_mem_nil _ | assumption | refine pn_cons (by walk_at "nec") ?_ | exact pn_lt (by assumption) (by walk_at "lec")))
    refine one_cur ?_
    intro v9 i9 o9 hi9 hs9 h9 tk9 F9 N9
    replace N9 := cb_drop N9 skip1
    clear N8 hS7
    refine key_of_k (n := ys.length) (by omega) hi9 ?_
    intro key hkey hkk
    clear hi9
    (try dsimp only)
    (try k_fold)
    k_steps
    refine Held.out ?_
    (rename News _ _ _ (_ :: _) => N8)
    refine packN3_k N8 ?_
    intro Y3 hY3 N7
    have hY3s : ∀ p ∈ Y3, p.1 ≠ src := hY3 ▸ (by (repeat' (first | exact List.forall_mem_nil _ | assumption | refine pn_cons (by walk_at "nec") ?_ | exact pn_lt (by assumption) (by walk_at "lec"))))
    have hY35 : ∀ p ∈ Y3, p.1 ≠ 1054 := hY3 ▸ (by (repeat' (first | exact List.forall_mem_nil _ | assumption | refine pn_cons (by walk_at "nec") ?_ | exact pn_lt (by assumption) (by walk_at "lec"))))
    have hY37 : ∀ p ∈ Y3, p.1 ≠ 1071 := hY3 ▸ (by (repeat' (first | exact List.forall_mem_nil _ | assumption | refine pn_cons (by walk_at "nec") ?_ | exact pn_lt (by assumption) (by walk_at "lec"))))
    have hY3N : ∀ p ∈ Y3, p.1 ≠ L + 1 + 1 := hY3 ▸ (by (repeat' (first | exact List.forall_mem_nil _ | assumption | refine pn_cons (by walk_at "nec") ?_ | exact pn_lt (by assumption) (by walk_at "lec"))))
    have hY3T : ∀ p ∈ Y3, p.1 ≠ L + 1 + 1 + 1 := hY3 ▸ (by (repeat' (first | exact List.forall_mem_nil _ | assumption | refine pn_cons (by walk_at "nec") ?_ | exact pn_lt (by assumption) (by walk_at "lec"))))
    have hD3 : _ ∈ Y3 := hY3 ▸ List.Mem.head _
    have hYY3 : ∀ p ∈ Y, p ∈ Y3 := hY3 ▸ fun p hp => .tail _ hp
    clear N8
    k_dflt (refine' ctr_use (ltable_ctr (.tail _ (.tail _ (.tail _ (.tail _ (.tail _ hD3))))) hys hkey (by omega) (fun nm h => (hnw nm h).1) hdist) ?B ?F ?X N7 (fun _ hp => hp) ?T ?hk ?hd ?hu ?_; ((case B => k_asm); (case F => k_asm); walk_at "use4"))
    refine tabfrom_cur ?_
    intro tb lc rp ext2 hT2 hR2 hx2 h9 tk9 F9 N9
    refine packN4_k N9 ?_
    intro Y4 hY4 N10
    have hY4s : ∀ p ∈ Y4, p.1 ≠ src := hY4 ▸ app_ne hY3s hx2 ⟨_, .tail _ (.tail _ (.tail _ (.head _)))⟩
    have hY45 : ∀ p ∈ Y4, p.1 ≠ 1054 := hY4 ▸ app_ne hY35 hx2 ⟨_, .tail _ (.tail _ (.tail _ (.tail _ (.head _))))⟩
    have hY47 : ∀ p ∈ Y4, p.1 ≠ 1071 := hY4 ▸ app_ne hY37 hx2 ⟨_, .tail _ (.tail _ (.head _))⟩
    have hY4N : ∀ p ∈ Y4, p.1 ≠ L + 1 + 1 := hY4 ▸ app_ne hY3N hx2 ⟨_, .tail _ (.head _)⟩
    have hY4T : ∀ p ∈ Y4, p.1 ≠ L + 1 + 1 + 1 := hY4 ▸ app_ne hY3T hx2 ⟨_, .head _⟩
    have hY34 : ∀ p ∈ Y3, p ∈ Y4 := hY4 ▸ fun p hp => List.mem_append.mpr (.inl hp)
    have hx24 : ∀ p ∈ ext2, p ∈ Y4 := hY4 ▸ fun p hp => List.mem_append.mpr (.inr hp)
    (try clear N9)
    (try clear N7)
    (try clear hx2)
    (try dsimp only)
    (repeat ((fail_if_success (with_reducible show wpAny _ _ (execs (Stmt.For _ _ _ _ _ :: _) _) _ _ _)); first | (k_unfold; (try dsimp only)) | walk1 | (dsimp only; walk1)))
    (rename News _ _ _ (_ :: _) => N8)
    replace N8 := rot5 N8
    k_dflt (refine' tailL (Zc := Zc) ?B ?F ?X N8 ?T ?XB ?TB ?D ?hd ?hu hdN (.tail _ (hY34 _ (hYY3 _ hS))) hdS (.head _) ?d4 ?m1 ?m2 (.tail _ (hY34 _ hD3)) hys hkey ?hn hnw ?hkk (hT2.more fun p hp => .tail _ (hx24 p hp)) hR2 ?y1 ?y2 ?y3 ?y4 h1 h2 ?s3 h4 hs9 hC hC7 (fun p hp => .tail _ (hY34 _ (hYY3 _ (hZc p hp)))) hE ?_)
    case B => k_asm
    case F => k_asm
    case X => k_asm
    case T => k_asm
    case XB => k_asm
    case TB => k_asm
    case D => assumption
    case hd => ktr_room
    case hu => ktr_units
    case d4 => assumption
    case m1 => walk_at "mget"
    case m2 => walk_at "mget"
    case hn => omega
    case hkk => rw [← hyl]; exact hkk
    case y1 => (repeat' (first | exact List.forall_mem_nil _ | assumption | refine pn_cons (by walk_at "nec") ?_ | exact pn_lt (by assumption) (by walk_at "lec")))
    case y2 => (repeat' (first | exact List.forall_mem_nil _ | assumption | refine pn_cons (by walk_at "nec") ?_ | exact pn_lt (by assumption) (by walk_at "lec")))
    case y3 => (repeat' (first | exact List.forall_mem_nil _ | assumption | refine pn_cons (by walk_at "nec") ?_ | exact pn_lt (by assumption) (by walk_at "lec")))
    case y4 => (repeat' (first | exact List.forall_mem_nil _ | assumption | refine pn_cons (by walk_at "nec") ?_ | exact pn_lt (by assumption) (by walk_at "lec")))
    case s3 => omega
    exact ret
end
end
section
theorem get5 {a b c d e v : Value} {i : Nat} (h : [a, b, c, d, e][i]? = some v) : v = a ∨ v = b ∨ v = c ∨ v = d ∨ v = e := by
  match i, h with
  | 0, h => exact .inl (Option.some.inj h).symm
  | 1, h => exact .inr (.inl (Option.some.inj h).symm)
  | 2, h => exact .inr (.inr (.inl (Option.some.inj h).symm))
  | 3, h => exact .inr (.inr (.inr (.inl (Option.some.inj h).symm)))
  | 4, h => exact .inr (.inr (.inr (.inr (Option.some.inj h).symm)))
inductive FirstV (Y : List (Addr × Obj)) : Value → Prop
  | mk (la ck : Nat) (cvs : List Value) (xs : List Str) (h1 : (la, W.listOf cvs.toArray ck) ∈ Y) (h2 : StrsAre cvs xs) (h3 : xs ∈ fiveL) : FirstV Y (.ref la)
theorem get5L {Y : List (Addr × Obj)} {i : Nat} {v : Value} {a b c d e n1 n2 n3 n4 n5 : Nat} {v1 v2 v3 v4 v5 : List Value} (h : [Value.ref a, .ref b, .ref c, .ref d, .ref e][i]? = some v)
    (y1 : (a, W.listOf v1.toArray n1) ∈ Y) (y2 : (b, W.listOf v2.toArray n2) ∈ Y) (y3 : (c, W.listOf v3.toArray n3) ∈ Y) (y4 : (d, W.listOf v4.toArray n4) ∈ Y) (y5 : (e, W.listOf v5.toArray n5) ∈ Y)
    (s1 : StrsAre v1 [Str.ofString "a"]) (s2 : StrsAre v2 [Str.ofString "a", Str.ofString "b"]) (s3 : StrsAre v3 [Str.ofString "b", Str.ofString "oid", Str.ofString "c"]) (s4 : StrsAre v4 [Str.ofString "c", Str.ofString "_rowid_", Str.ofString "a", Str.ofString "b"]) (s5 : StrsAre v5 [Str.ofString "rowid", Str.ofString "a"]) : FirstV Y v := by
  rcases get5 h with rfl | rfl | rfl | rfl | rfl
  · exact ⟨_, _, _, _, y1, s1, .head _⟩
  · exact ⟨_, _, _, _, y2, s2, .tail _ (.head _)⟩
  · exact ⟨_, _, _, _, y3, s3, .tail _ (.tail _ (.head _))⟩
  · exact ⟨_, _, _, _, y4, s4, .tail _ (.tail _ (.tail _ (.head _)))⟩
  · exact ⟨_, _, _, _, y5, s5, .tail _ (.tail _ (.tail _ (.tail _ (.head _))))⟩
theorem packF {h₀ h : Heap} {L a b : Addr} {oa ob : Obj} {s l l1 l2 l3 l4 l5 c r q : Addr × Obj} {rest : List (Addr × Obj)} (N : News h₀ L h (s :: l :: l5 :: l4 :: l3 :: l2 :: l1 :: (a, oa) :: (b, ob) :: c :: r :: q :: rest)) (ha : ∀ p ∈ l5 :: l4 :: l3 :: l2 :: l1 :: c :: rest, p.1 ≠ a) (hb : ∀ p ∈ l5 :: l4 :: l3 :: l2 :: l1 :: c :: rest, p.1 ≠ b) :
    ∃ Y, Y = l5 :: l4 :: l3 :: l2 :: l1 :: c :: rest ∧ (l1 ∈ Y ∧ l2 ∈ Y ∧ l3 ∈ Y ∧ l4 ∈ Y ∧ l5 ∈ Y) ∧ c ∈ Y ∧ (∀ p ∈ rest, p ∈ Y) ∧ (∀ p ∈ Y, p.1 ≠ a) ∧ (∀ p ∈ Y, p.1 ≠ b) ∧ News h₀ L h (s :: (a, oa) :: (b, ob) :: r :: q :: Y) :=
  ⟨_, rfl, ⟨.tail _ (.tail _ (.tail _ (.tail _ (.head _)))), .tail _ (.tail _ (.tail _ (.head _))), .tail _ (.tail _ (.head _)), .tail _ (.head _), .head _⟩, .tail _ (.tail _ (.tail _ (.tail _ (.tail _ (.head _))))), fun p hp => .tail _ (.tail _ (.tail _ (.tail _ (.tail _ (.tail _ hp))))), ha, hb, cb_drop N (by walk_at "subs")⟩
section
theorem right_cur {rest : List (Addr × Obj)} {K : Value → List (Addr × Obj) → Heap → Heap → Nat → Prop} (k9 : ∀ ps' : Array Value, ∀ qs' : Array Value, ∀ ext : List (Addr × Obj), (Codes q54 p54 ps' (ext ++ rest)) → (Codes q71 p71 qs' (ext ++ rest)) → (∀ p ∈ ext, p.1 ≠ 1054 ∧ p.1 ≠ 1071) → ∀ g_ h_ t_, K (.bool true) ((1054, tabObj ps') :: (1071, tabObj qs') :: (ext ++ rest)) g_ h_ t_) : ∀ v led' g_ h_ t_, (v = .bool true ∧ ∃ (ps' qs' : Array Value) (ext : List (Addr × Obj)), led' = (1054, tabObj ps') :: (1071, tabObj qs') :: (ext ++ rest) ∧ Codes q54 p54 ps' (ext ++ rest) ∧ Codes q71 p71 qs' (ext ++ rest) ∧ ∀ p ∈ ext, p.1 ≠ 1054 ∧ p.1 ≠ 1071) → K v led' g_ h_ t_ := by
  rintro _ _ g_ h_ t_ ⟨rfl, ps', qs', ext, rfl, a1, a2, a3⟩
  exact k9 ps' qs' ext a1 a2 a3 g_ h_ t_
theorem right_ctr {w : World} {src : Nat} {o : Obj} {ps qs : Array Value} {rest : List (Addr × Obj)} (ho : SrcO o) (hr : ∀ p ∈ rest, p.1 ≠ src) (hr54 : ∀ p ∈ rest, p.1 ≠ 1054) (hr71 : ∀ p ∈ rest, p.1 ≠ 1071) (hs54 : src ≠ 1054) (hs71 : src ≠ 1071) (hC : Codes q54 p54 ps rest) (hC7 : Codes q71 p71 qs rest) :
    CtrS w ((src, o) :: (1054, tabObj ps) :: (1071, tabObj qs) :: rest) 24 (.ref 1074) [.ref src] (fun v led' => v = .bool true ∧ ∃ (ps' qs' : Array Value) (ext : List (Addr × Obj)), led' = (1054, tabObj ps') :: (1071, tabObj qs') :: (ext ++ rest) ∧ Codes q54 p54 ps' (ext ++ rest) ∧ Codes q71 p71 qs' (ext ++ rest) ∧ ∀ p ∈ ext, p.1 ≠ 1054 ∧ p.1 ≠ 1071) := by
  intro p loose mean mg mb dp un gd cn cs a ccd cl outer A₀ base h₀ L m hh9 gg9 dd9 tt9 oo9 Q E B F X N T XB TB D hk hd hu hret
  refine wpAny_call ?_
  k_dflt (refine' code_defSC ?k1 ?k2 ?k3 ?k4 ?k5 ?XB ?TB ?D ?T0 ?kA ?kF ?kK ?k6 ?k7 ?k8 ?k9 ?kB ?kD ?_ ?c2 ?c3 ?c4; (case kA => exact rfl); (case kF => exact rfl); (case kK => first | assumption | exact rfl); (case k1 => k_asm); (case k2 => k_asm); (case XB => assumption); (case TB => assumption); (case D => assumption); (case T0 => first | assumption | exact KtsTurn.refl); (case k3 => k_asm); (case k4 => k_asm); (case k5 => k_asm); (case k6 => k_is); (case k7 => k_is); (case k8 => ktr_room); (case k9 => first | exact BindsTo.of_eq rfl | exact binds_K (by k_in) rfl (by k_is) rfl rfl rfl); (case kB => exact rfl); (case kD => decide +kernel); (case c2 => exact rfl); (case c3 => exact rfl); (case c4 => exact rfl); k_whole; intro g9z L9z h9z tk9z cells9z FG9z F9z N9z Y9z B9z X9z T9z D9z l19z; (try k_lt l19z); k_cells Y9z; (try simp only [List.cons_append, List.nil_append] at N9z); (try dsimp only); (try k_fold))
  (rename src < _ ∧ 1054 < _ ∧ 1071 < _ ∧ AllLt _ rest => g1)
  have g2 := ktn_ltOf g1.2.2.2
  have g3 := g1.1
  have g4 := g1.2.1
  have g5 := g1.2.2.1
  clear g1
  k_steps
  refine Held.out ?_
  (rename News _ _ _ (_ :: _) => N8)
  replace N8 := p_front [_, _, _, _, _, _, _, _, _] N8
  dsimp only [List.cons_append, List.nil_append] at N8
  k_dflt (refine' ctr_use (one_ctr ho ?w1 (.head _) (by simp) (by simp)) ?B ?F ?X N8 (fun _ hp => hp) ?T ?hk ?hd ?hu ?_; ((case B => k_asm); (case F => k_asm); walk_at "use4"))
  case w1 => (repeat' (first | exact List.forall_mem_nil _ | assumption | refine pn_cons (by walk_at "nec") ?_ | exact pn_lt (by assumption) (by walk_at "lec")))
  refine one_cur ?_
  intro v9 i9 o9 hi9 hs9 h9 tk9 F9 N9
  obtain ⟨Y, hY, ⟨y1, y2, y3, y4, y5⟩, yS, yr, hYT, hYN, N10⟩ := packF N9 (by (repeat' (first | exact List.forall_mem_nil _ | assumption | refine pn_cons (by walk_at "nec") ?_ | exact pn_lt (by assumption) (by walk_at "lec")))) (by (repeat' (first | exact List.forall_mem_nil _ | assumption | refine pn_cons (by walk_at "nec") ?_ | exact pn_lt (by assumption) (by walk_at "lec"))))
  have hYs : ∀ p ∈ Y, p.1 ≠ src := hY ▸ (by (repeat' (first | exact List.forall_mem_nil _ | assumption | refine pn_cons (by walk_at "nec") ?_ | exact pn_lt (by assumption) (by walk_at "lec"))))
  have hY5 : ∀ p ∈ Y, p.1 ≠ 1054 := hY ▸ (by (repeat' (first | exact List.forall_mem_nil _ | assumption | refine pn_cons (by walk_at "nec") ?_ | exact pn_lt (by assumption) (by walk_at "lec"))))
  have hY7 : ∀ p ∈ Y, p.1 ≠ 1071 := hY ▸ (by (repeat' (first | exact List.forall_mem_nil _ | assumption | refine pn_cons (by walk_at "nec") ?_ | exact pn_lt (by assumption) (by walk_at "lec"))))
  clear N8 N9
  obtain ⟨la, ck, cvs, xs, q1, q2, q3⟩ := get5L hi9 y1 y2 y3 y4 y5 (by repeat' constructor) (by repeat' constructor) (by repeat' constructor) (by repeat' constructor) (by repeat' constructor)
  clear hi9
  (try dsimp only)
  (repeat ((fail_if_success (with_reducible show wpAny _ _ (execs (Stmt.Assign _ (Expr.ListComp _ _ _ _) _ :: _) _) _ _ _)); first | (k_unfold; (try dsimp only)) | walk1 | (dsimp only; walk1)))
  (rename News _ _ _ (_ :: _) => N8)
  k_dflt (refine' tailN (Zc := rest) ?B ?F ?X N8 ?T ?XB ?TB ?D ?hd ?hu ?d1 ?d2 yS ?d3 ?m0 q1 q2 q3 hYs hY5 hY7 hYN hYT hs54 hs71 g3 g5 hs9 hC hC7 yr ?hE ?_)
  case B => k_asm
  case F => k_asm
  case X => k_asm
  case T => k_asm
  case XB => k_asm
  case TB => k_asm
  case D => assumption
  case hd => ktr_room
  case hu => ktr_units
  case d1 => assumption
  case d2 => assumption
  case d3 => assumption
  case m0 => walk_at "mget"
  case hE => passes_own
  intro ps2 qs2 ext2 g2 h2 tk2 m2 KT2 F2 N2 C2 C3 hx2
  dsimp only
  exact leaveS_r F2 N2 KT2 fun h₀' T₀ F₀ N₀ B₀ X₀ T₀' D₀ => hret _ _ _ _ _ ⟨rfl, ps2, qs2, ext2, rfl, C2, C3, hx2⟩ T₀ F₀ N₀ B₀ X₀ T₀' D₀
end
end
section
theorem pool_bits {ns : List Int} {j : Nat} (h : PyData.layable0 (.list (ns.map .int)) = true) : ∀ z, (z = ns.getD j 0 ∨ z = 0) → z.natAbs.log2 < 2 ^ 22 := by
  rintro z (rfl | rfl)
  · have hb := kbm_getD (j := j) h (d := 0) (by decide)
    by_cases h0 : ns.getD j 0 = 0
    · rw [h0]; decide
    · unfold Builtin.Int.intBits at hb
      rw [if_neg (by simpa using h0)] at hb
      omega
  · decide
theorem pool_src {z c y : Int} {t1 t2 n : Nat} (hz : z.natAbs.log2 < 2 ^ 22) (hc : c = 0 ∨ c = 1) : SrcO (W.listOf #[.int ((if -1 - z > z then -1 - z else z) * c) t1, .int (y.fmod 2147483647) t2] n) := by
  have hb : 0 ≤ (if -1 - z > z then -1 - z else z) ∧ (if -1 - z > z then -1 - z else z).natAbs ≤ z.natAbs := by split <;> omega
  refine ⟨_, _, _, _, _, rfl, ?_, ?_, (fm_bd y).1, (fm_bd y).2⟩
  · rcases hc with rfl | rfl <;> simp [hb.1]
  · refine log2_mono_nat (x := z.natAbs) ?_ (Nat.two_pow_pos 22) hz
    rcases hc with rfl | rfl
    · simp
    · simpa using hb.2
theorem ite01 {p : Prop} [Decidable p] : (if p then (1 : Int) else 0) = 0 ∨ (if p then (1 : Int) else 0) = 1 := by split <;> simp
section
local macro_rules | `(tactic| walk_at "binaryOp Mult") => `(tactic| (k_here; (with_reducible show wpAny _ _ (binaryOp Operator.Mult (Value.int _ _) (Value.int _ _)) _ _ _); k_dflt (first | refine PyProof.Rows.mul_int ?_ (fm_ok _ _) | refine PyProof.Rows.mul_int ?_ (IntMulOk.of_right (intBits_le_64 (by omega) (by omega))))))
local macro_rules | `(tactic| walk_at "subscriptTail") => `(tactic| walk_at "item sym")
theorem pool_ctr {w : World} {sl : Addr} {ws : List Value} {xs : List Int} {k : Int} {t : Nat} {led : List (Addr × Obj)} (hI : IntsAre ws xs) (hlay : PyData.layable0 (.list (xs.map .int)) = true) (hk1 : k = 0 ∨ k = 1) (hlen : ws.length ≤ 63)
    (p : Program) (loose : List Str) (mean : ExcName → Option Value) (mg mb : Str → Option Value) (dp un : Nat) (gd : Option (List Code)) (cn : Str) (cs : Scope) (a : Addr) (ccd : Value) (cl : List (Str × Addr)) (outer : List Env) (A₀ : Around) (base h₀ : Heap) (L : Addr) (m : Str → Option Value) (s : Shared) (Q E : Value → Shared → Prop)
    (hl : h₀.IsList sl ws.toArray) (B : Below A₀ base outer h₀) (F : Fr h₀ L s.heap m) (X : (hd.heap_39 w.params).In h₀) (N : News h₀ L s.heap led) (T : Top p loose mean mg mb h₀) (hk : cs.kind = .function) (hd : dp + 3 < recursionLimit) (hu : un + 8 * 3 < cLine)
    (hret : ∀ v led' h' tk', (∃ (l : Addr) (o : Obj), v = .ref l ∧ SrcO o ∧ led' = (l, o) :: led ∧ ∀ p ∈ led, p.1 < l) → Fr h₀ L h' m → News h₀ L h' led' → Q v { s with heap := h', toks := tk' }) :
    wpAny (model PySem.Challenge.rw_xm0769_01.row.prog w) (ktrTop dp un gd cn cs L a ccd cl outer) (call (.ref 1012) [.ref sl, .int k t]) Q E s := by
  have hk0 : 0 ≤ k := by rcases hk1 with rfl | rfl <;> decide
  have hk2 : k ≤ 1 := by rcases hk1 with rfl | rfl <;> decide
  clear hk1
  refine wpAny_call ?_
  k_dflt cell_enter
  ((rename Fr h₀ L _ m => FG0); have hgl := hl.at (fun o e => FG0.keep _ o e))
  clear hl
  k_steps
  all_goals ((rename News _ _ _ (_ :: _) => kN); (rename Fr _ _ _ _ => kF); exact hret _ _ _ _ ⟨_, _, rfl, pool_src (by first | exact pool_bits hlay _ (.inl rfl) | exact pool_bits (j := 0) hlay _ (.inr rfl)) ite01, rfl, by assumption⟩ kF kN)
end
end
section
variable {prog : Program} {w : World} {A : Around} {E : Value → Shared → Prop} {s : Shared} {env : Env} {Q : Flow → Shared → Prop} {body : List Stmt}
noncomputable def rngO (i k : Int) : Obj := { cls := .type "range_iterator", data := .fields #[rawInt i, rawInt k, rawInt 1] }
theorem range_loopG {r : Addr} {b : Int} {t u v : Tok} {x : Str} {px : Pos} {n : Nat} (J : Addr → Nat → Shared → Prop) (hh : A.handled = none) (hr : IsRange s.heap r 0 b 1 t u v) (hsmall : Builtin.Range.small 0 b 1 = true) (hn : Builtin.Range.rangeSize 0 b 1 = n)
    (start : J s.heap.objs.size 0 { s with heap := s.heap.push (rngO 0 n) })
    (get : ∀ I i s', J I i s' → s'.heap.get? I = some (rngO i ((n : Int) - i)))
    (turn : ∀ I i s' h', J I i s' → i < n → h'.get? I = some (rngO ((i + 1 : Nat) : Int) ((n : Int) - (i + 1 : Nat))) → Heap.SameBut I s'.heap h' → wpAny (model prog w) A (assign (.Name x px) env (.int (i : Int) s'.toks)) (fun _ s₂ => wpAny (model prog w) A (execs body env) (fun f s₃ => match f with
        | .next | .cont => J I (i + 1) s₃
        | .brk => Q .next s₃
        | .ret v => Q (.ret v) s₃) E s₂) E { s' with heap := h', toks := s'.toks + 1 })
    (fin : ∀ I s' h', J I n s' → Heap.ExtBut I s'.heap h' → Q .next { s' with heap := h' }) :
    wpAny (model prog w) A (pyIter (.ref r)) (fun it s₂ => LoopG prog w A env (.Name x px) body Q E it s₂) E s := by
  refine wpAny_pyIter_range hr hsmall ?_
  rw [hn]
  refine ⟨fun k s' => ∃ i, i ≤ n ∧ k = n - i ∧ J s.heap.objs.size i s', n, ⟨0, Nat.zero_le _, rfl, start⟩, ?_⟩
  rintro k s' ⟨i, hi, rfl, hJ⟩
  have hit := get _ _ _ hJ
  by_cases hlt : i < n
  · refine wpAny_pyNext_range_item (x := (i : Int)) (left := (n : Int) - i) (step := 1) hit (by omega) fun h' hi' hs' => ?_
    refine wpAny_of_eq rfl ?_
    have e1 : ((i : Int) + 1) = ((i + 1 : Nat) : Int) := by omega
    have e2 : ((n : Int) - i - 1) = ((n : Int) - (i + 1 : Nat)) := by omega
    rw [e1, e2] at hi'
    refine wpAny_mono (turn _ i s' h' hJ hlt hi' hs') (fun _ s₂ h₂ => wpAny_mono h₂ (fun f s₃ h₃ => ?_) fun _ _ e => e) fun _ _ e => e
    cases f with
    | next => exact ⟨n - (i + 1), by omega, i + 1, hlt, rfl, h₃⟩
    | cont => exact ⟨n - (i + 1), by omega, i + 1, hlt, rfl, h₃⟩
    | brk => exact h₃
    | ret v => exact h₃
  · obtain rfl : i = n := Nat.le_antisymm hi (Nat.not_lt.mp hlt)
    exact wpAny_pyNext_range_end hh (x := (i : Int)) (left := (i : Int) - i) (step := 1) hit (by omega) fun h' he => fin _ s' h' hJ he
end
theorem codeR_keep {q : Str} {c' I : Addr} {i k : Int} {h₀ h : Heap} {L : Addr} {Z Z' : List (Addr × Obj)} (hC : CodeR q c' Z) (N : News h₀ L h Z') (hZ : ∀ p ∈ Z, p ∈ Z') (hI : h.get? I = some (rngO i k)) : CodeR q c' (Z.filter fun p => p.1 != I) := by
  obtain ⟨oc, vs, t, hm, hd, hv⟩ := hC
  refine ⟨oc, vs, t, List.mem_filter.mpr ⟨hm, ?_⟩, hd, hv⟩
  by_cases e : c' = I
  · subst e
    have := (N _ (hZ _ hm)).1
    rw [hI] at this
    obtain rfl := Option.some.inj this
    obtain rfl := Data.fields.inj hd
    simp [rawInt] at hv
  · simpa using e
theorem codes_keep {q : Str} {poss : List (Nat × Nat)} {ps : Array Value} {I : Addr} {i k : Int} {h₀ h : Heap} {L : Addr} {Z Z' : List (Addr × Obj)} (hC : Codes q poss ps Z) (N : News h₀ L h Z') (hZ : ∀ p ∈ Z, p ∈ Z') (hI : h.get? I = some (rngO i k)) : Codes q poss ps (Z.filter fun p => p.1 != I) :=
  ⟨hC.1, fun x hx => (hC.2 x hx).imp id fun ⟨c', e, r⟩ => ⟨c', e, codeR_keep r N hZ hI⟩⟩
section
noncomputable def sc80 : Scope := the (scopeOf fs_80) _ (by conv => lhs; whnf)
noncomputable def b80 : List Stmt := the ((bodyOf fs_80).drop 2) _ (by conv => lhs; whnf)
theorem turnI {h₀ h h' : Heap} {L I : Addr} {oI oI2 : Obj} {V : List (Addr × Obj)} (N : News h₀ L h ((I, oI) :: V)) (hsb : Heap.SameBut I h h') (hI : h'.get? I = some oI2) (h3 : ∀ p ∈ V, p.1 ≠ I) : News h₀ L h' ((I, oI2) :: V) := fun p hp => by
  rcases List.mem_cons.mp hp with rfl | hp
  · exact ⟨hI, (N (I, oI) (.head _)).2⟩
  · have := N p (.tail _ hp)
    exact ⟨hsb.extBut _ _ (h3 p hp) this.1, this.2⟩
theorem finI {h₀ h h' : Heap} {L I : Addr} {oI : Obj} {V : List (Addr × Obj)} (N : News h₀ L h ((I, oI) :: V)) (hsb : Heap.ExtBut I h h') (h3 : ∀ p ∈ V, p.1 ≠ I) : News h₀ L h' V := fun p hp => by
  have := N p (.tail _ hp)
  exact ⟨hsb _ _ (h3 p hp) this.1, this.2⟩
theorem rng_b (k : Nat) : ∃ n : Nat, 1 ≤ n ∧ n ≤ 2 ∧ (if (if (k : Int) < 2 then (k : Int) else 2) > 1 then (if (k : Int) < 2 then (k : Int) else 2) else 1) = (n : Int) := by
  by_cases h : k < 2
  · exact ⟨1, by omega, by omega, by (repeat' split) <;> omega⟩
  · exact ⟨2, by omega, by omega, by (repeat' split) <;> omega⟩
theorem rng_b_k (k : Nat) {G9 : Prop} (k9 : ∀ n : Nat, (1 ≤ n) → (n ≤ 2) → ((if (if (k : Int) < 2 then (k : Int) else 2) > 1 then (if (k : Int) < 2 then (k : Int) else 2) else 1) = (n : Int)) → G9) : G9 := by
  obtain ⟨n, b1, b2, b3⟩ := rng_b k
  exact k9 n b1 b2 b3
theorem swI {h₀ h : Heap} {L : Addr} {l I a b : Addr × Obj} {V : List (Addr × Obj)} (N : News h₀ L h (l :: I :: a :: b :: V)) : News h₀ L h (l :: a :: b :: I :: V) := cb_drop N (by walk_at "subs")
theorem packJ {h₀ h : Heap} {L I : Addr} {i k : Int} {a b : Addr × Obj} {ext V : List (Addr × Obj)} {q q' : Str} {po po' : List (Nat × Nat)} {ps qs : Array Value} (N : News h₀ L h (a :: b :: (ext ++ (I, rngO i k) :: V))) (C : Codes q po ps (ext ++ (I, rngO i k) :: V)) (D : Codes q' po' qs (ext ++ (I, rngO i k) :: V))
    (hx : ∀ p ∈ ext, p.1 ≠ 1054 ∧ p.1 ≠ 1071) (h4 : ∀ p ∈ V, p.1 ≠ 1054) (h7 : ∀ p ∈ V, p.1 ≠ 1071) :
    ∃ V2, News h₀ L h ((I, rngO i k) :: a :: b :: V2) ∧ Codes q po ps V2 ∧ Codes q' po' qs V2 ∧ (∀ p ∈ V2, p.1 ≠ I) ∧ (∀ p ∈ V2, p.1 ≠ 1054) ∧ (∀ p ∈ V2, p.1 ≠ 1071) := by
  have hI : h.get? I = some (rngO i k) := (N _ (.tail _ (.tail _ (List.mem_append.mpr (.inr (.head _)))))).1
  have hne : ∀ p ∈ (ext ++ (I, rngO i k) :: V).filter (fun p => p.1 != I), p ∈ ext ∨ p ∈ V := fun p hp => by
    obtain ⟨hm, hn⟩ := List.mem_filter.mp hp
    rcases List.mem_append.mp hm with hm | hm
    · exact .inl hm
    rcases List.mem_cons.mp hm with rfl | hm
    · simp at hn
    · exact .inr hm
  refine ⟨(ext ++ (I, rngO i k) :: V).filter (fun p => p.1 != I), cb_drop N fun p hp => ?_, codes_keep C N (fun p hp => .tail _ (.tail _ hp)) hI, codes_keep D N (fun p hp => .tail _ (.tail _ hp)) hI, fun p hp => ?_, fun p hp => ?_, fun p hp => ?_⟩
  · rcases List.mem_cons.mp hp with rfl | hp
    · exact .tail _ (.tail _ (List.mem_append.mpr (.inr (.head _))))
    rcases List.mem_cons.mp hp with rfl | hp
    · exact .head _
    rcases List.mem_cons.mp hp with rfl | hp
    · exact .tail _ (.head _)
    · exact .tail _ (.tail _ (List.mem_filter.mp hp).1)
  · simpa using (List.mem_filter.mp hp).2
  · exact (hne p hp).elim (fun h => (hx p h).1) (h4 p)
  · exact (hne p hp).elim (fun h => (hx p h).2) (h7 p)
theorem packJ_k {h₀ h : Heap} {L I : Addr} {i k : Int} {a b : Addr × Obj} {ext V : List (Addr × Obj)} {q q' : Str} {po po' : List (Nat × Nat)} {ps qs : Array Value} (N : News h₀ L h (a :: b :: (ext ++ (I, rngO i k) :: V))) (C : Codes q po ps (ext ++ (I, rngO i k) :: V)) (D : Codes q' po' qs (ext ++ (I, rngO i k) :: V)) (hx : ∀ p ∈ ext, p.1 ≠ 1054 ∧ p.1 ≠ 1071) (h4 : ∀ p ∈ V, p.1 ≠ 1054) (h7 : ∀ p ∈ V, p.1 ≠ 1071) {G9 : Prop} (k9 : ∀ V2, (News h₀ L h ((I, rngO i k) :: a :: b :: V2)) → (Codes q po ps V2) → (Codes q' po' qs V2) → ((∀ p ∈ V2, p.1 ≠ I)) → ((∀ p ∈ V2, p.1 ≠ 1054)) → ((∀ p ∈ V2, p.1 ≠ 1071)) → G9) : G9 := by
  obtain ⟨V2, b1, b2, b3, b4, b5, b6⟩ := packJ N C D hx h4 h7
  exact k9 V2 b1 b2 b3 b4 b5 b6
inductive JWl (s₂ : Shared) (K : Frag) (p : Program) (loose : List Str) (mean : ExcName → Option Value) (mg : Str → Option Value) (mb : Str → Option Value) (G : Heap) (L : Nat) (sl : Addr) (n : Nat) (I : Addr) (i : Nat) : Shared → Prop
  | mk (g' : Heap) (h' : Heap) (tk : Nat) (m' : Str → Option Value) (ps : Array Value) (qs : Array Value) (V : List (Addr × Obj)) (y1 : KtsTurn [] G g') (y2 : Fr g' L h' m') (y3 : m' (Str.ofString "script") = some (.ref sl)) (y4 : News g' L h' ((I, rngO i ((n : Int) - i)) :: (1054, tabObj ps) :: (1071, tabObj qs) :: V)) (y5 : Below callerA G [] g') (y6 : K.In g') (y7 : Top p loose mean mg mb g') (y8 : Codes q54 p54 ps V) (y9 : Codes q71 p71 qs V) (y10 : (∀ p ∈ V, p.1 ≠ I)) (y11 : (∀ p ∈ V, p.1 ≠ 1054)) (y12 : (∀ p ∈ V, p.1 ≠ 1071)) (y13 : @Ne Nat I 1054) (y14 : @Ne Nat I 1071) : JWl s₂ K p loose mean mg mb G L sl n I i ({ s₂ with heap := h', toks := tk })
section
theorem lawL {w : World} {p : Program} {loose : List Str} {mean : ExcName → Option Value} {mg mb : Str → Option Value} {fa : Addr} {cd : Value} {G : Heap} {L : Nat} {m : Str → Option Value} {s : Shared} {Q : Flow → Shared → Prop} {E : Value → Shared → Prop} {sl : Addr} {ws : List Value} {xs : List Int} {V : List (Addr × Obj)}
    (F : Fr G L s.heap m) (B : Below callerA G [] G) (X : (hd.heap_39 w.params).In G) (T : Top p loose mean mg mb G) (hl : G.IsList sl ws.toArray) (hm : m (Str.ofString "script") = some (.ref sl)) (hI : IntsAre ws xs) (hlay : PyData.layable0 (.list (xs.map .int)) = true) (hlen : ws.length ≤ 63)
    (N : News G L s.heap ((1054, tabObj #[]) :: (1071, tabObj #[]) :: V)) (hV4 : ∀ p ∈ V, p.1 ≠ 1054) (hV7 : ∀ p ∈ V, p.1 ≠ 1071)
    (hE : PassesOwn (model PySem.Challenge.rw_xm0769_01.row.prog w) (callerA.deeper (envOf (Str.ofString "law") sc80 L fa cd)) (envOf (Str.ofString "law") sc80 L fa cd) E)
    (ret : ∀ (g' h' : Heap) (tk' : Nat) (m' : Str → Option Value) (ps qs : Array Value) (V' : List (Addr × Obj)), KtsTurn [] G g' → Fr g' L h' m' → News g' L h' ((1054, tabObj ps) :: (1071, tabObj qs) :: V') → Codes q54 p54 ps V' → Codes q71 p71 qs V' → ∀ t, Q (.ret (.bool true)) { s with heap := h', toks := t }) :
    wpAny (model PySem.Challenge.rw_xm0769_01.row.prog w) (callerA.deeper (envOf (Str.ofString "law") sc80 L fa cd)) (execs b80 (envOf (Str.ofString "law") sc80 L fa cd)) Q E s := by
  have hIA : True → IntsAre ws xs := fun _ => hI
  delta b80 sc80 the
  (repeat ((fail_if_success (with_reducible show wpAny _ _ (exec (Stmt.For _ _ _ _ _) _) _ _ _)); first | (k_unfold; (try dsimp only)) | walk1 | (dsimp only; walk1)))
  k_dflt (refine For_G ?_ (hE := hE))
  (repeat ((fail_if_success (with_reducible show wpAny _ _ (pyIter _) _ _ _)); first | (k_unfold; (try dsimp only)) | walk1 | (dsimp only; walk1)))
  (rename IsRange _ _ _ _ _ _ _ _ => rgX)
  refine rng_b_k xs.length ?_
  intro n n1 n2 hb
  rw [hb] at rgX
  (rename Fr G L _ m => F3)
  (rename News G L _ _ => N3)
  have e0 : rngO ((0 : Nat) : Int) ((n : Int) - (0 : Nat)) = rngO 0 n := by simp
  k_dflt (refine range_loopG (n := n) (JWl s (hd.heap_39 w.params) p loose mean mg mb G L sl n) rfl rgX (small_ok (by omega)) rsz0 ?start ?get ?turn ?fin)
  case start =>
    have hz : ∀ q ∈ (1054, tabObj #[]) :: (1071, tabObj #[]) :: V, q.1 < _ := fun q hq => Heap.lt_size (N3 q hq).1
    refine ⟨G, _, _, m, #[], #[], V, KtsTurn.refl, F3.push _, hm, ?_, B, X, T, Codes.nil, Codes.nil, fun q hq => Nat.ne_of_lt (hz q (.tail _ (.tail _ hq))), hV4, hV7, (Nat.ne_of_lt (hz _ (.head _))).symm, (Nat.ne_of_lt (hz _ (.tail _ (.head _)))).symm⟩
    rw [e0]
    exact N3.push F3 (rngO 0 n) (hfree := rfl)
  case get =>
    rintro I i s' ⟨g1, h1', tk1, m1, ps1, qs1, V1, KT1, F1, hn1, N1, B1, X1, T1, C1, D1, hVI, hV54, hV71, hI5, hI7⟩
    exact (N1 _ (.head _)).1
  case turn =>
    rintro I i s' h' ⟨g1, h1', tk1, m1, ps1, qs1, V1, KT1, F1, hn1, N1, B1, X1, T1, C1, D1, hVI, hV54, hV71, hI5, hI7⟩ hi hit hsb
    have F2 : Fr g1 L h' m1 := F1.change hsb (N1 _ (.head _)).2.1 (N1 _ (.head _)).2.2
    have N2 := turnI N1 hsb hit (List.forall_mem_cons.2 ⟨hI5.symm, List.forall_mem_cons.2 ⟨hI7.symm, hVI⟩⟩)
    have hl1 : g1.IsList sl ws.toArray := hl.at fun o e => KT1.other _ _ e (fun h => nomatch h)
    clear N1 F1 hsb hit N3 F3 rgX hl
    k_steps
    refine Held.out ?_
    (rename News g1 _ _ _ => N5)
    k_dflt (refine' pool_ctr (hIA trivial) hlay ?k01 hlen _ _ _ _ _ _ _ _ _ _ _ _ _ _ _ _ _ _ _ _ _ _ hl1 ?B ?F ?X N5 ?T ?hk ?hd ?hu ?_; ((case B => k_asm); (case F => k_asm); walk_at "use4"))
    case k01 => omega
    intro v9 led9 h9 tk9 hR9 F9 N9
    obtain ⟨l, o, rfl, hS, rfl, hlt⟩ := hR9
    (try dsimp only)
    (try k_fold)
    k_steps
    refine Held.out ?_
    (try clear N5)
    (rename News g1 _ _ _ => N6)
    replace N6 := swI N6
    have DX : KtsDicts (([] : List Env).filterMap (·.frame)) g1 := ktsDicts_nil
    k_dflt (refine' ctrS_use (right_ctr hS ?a1 ?a2 ?a3 ?a4 ?a5 (C1.more fun q hq => .tail _ hq) (D1.more fun q hq => .tail _ hq)) ?B ?F ?X N6 (fun _ hp => hp) ?T ?XB ?TB ?D ?hk ?hd ?hu ?_; ((case B => k_asm); (case F => k_asm); (case XB => k_asm); (case TB => k_asm); (case D => assumption); walk_at "use4"))
    case a1 => exact List.forall_mem_cons.2 ⟨Nat.ne_of_lt (hlt _ (.head _)), fun q hq => Nat.ne_of_lt (hlt q (.tail _ (.tail _ (.tail _ hq))))⟩
    case a2 => exact List.forall_mem_cons.2 ⟨hI5, hV54⟩
    case a3 => exact List.forall_mem_cons.2 ⟨hI7, hV71⟩
    case a4 => exact (Nat.ne_of_lt (hlt _ (.tail _ (.head _)))).symm
    case a5 => exact (Nat.ne_of_lt (hlt _ (.tail _ (.tail _ (.head _))))).symm
    refine right_cur ?_
    intro ps2 qs2 ext C2 D2 hx g9 h9 tk9 KT9 F9 N9 B9 X9 T9 D9
    refine packJ_k N9 C2 D2 hx hV54 hV71 ?_
    intro V2 N10 C3 D3 hV2I hV25 hV27
    clear N9 N6 C2 D2
    (try dsimp only)
    k_steps
    exact ⟨g9, _, _, _, ps2, qs2, V2, KT1.trans KT9, by assumption, by walk_at "mget", by assumption, B9, X9, T9, C3, D3, hV2I, hV25, hV27, hI5, hI7⟩
  case fin =>
    rintro I s' h' ⟨g1, h1', tk1, m1, ps1, qs1, V1, KT1, F1, hn1, N1, B1, X1, T1, C1, D1, hVI, hV54, hV71, hI5, hI7⟩ he
    have F2 : Fr g1 L h' m1 := LCg.fr_but F1 (fun b o hb e => he b o (fun q => hb (List.mem_singleton.mpr q)) e) (fun e => (N1 _ (.head _)).2.1 e.symm) (N1 _ (.head _)).2.2
    have N2 := finI N1 he (List.forall_mem_cons.2 ⟨hI5.symm, List.forall_mem_cons.2 ⟨hI7.symm, hVI⟩⟩)
    clear N1 F1 he N3 F3 rgX
    dsimp only
    k_steps
    exact ret _ _ 0 _ _ _ _ KT1 (by assumption) (by assumption) C1 D1 _
end
end
section
theorem ab_dist : ∀ (i j : Nat) (x y : Str), i < j → [Str.ofString "a", Str.ofString "b"][i]? = some x → [Str.ofString "a", Str.ofString "b"][j]? = some y → lowS x ≠ lowS y := fun i j x y hij hi hj => by
  match i, j, hij, hi, hj with
  | 0, 1, _, hi, hj => obtain rfl := Option.some.inj hi; obtain rfl := Option.some.inj hj; decide +kernel
  | 0, j + 2, _, _, hj => simp at hj
  | i + 1, j + 2, _, _, hj => simp at hj
theorem a_dist : ∀ (i j : Nat) (x y : Str), i < j → [Str.ofString "a"][i]? = some x → [Str.ofString "a"][j]? = some y → lowS x ≠ lowS y := fun i j x y hij hi hj => by
  match i, j, hij, hj with
  | i, j + 1, _, hj => simp at hj
theorem rp_ok {key : Option Nat} {n : Nat} {rp : Value} (h : RpAt key n rp) : rp = .none ∨ ∃ k t : Nat, rp = .int k t := by
  cases key with
  | none => exact .inl h
  | some k =>
    simp only [RpAt] at h
    split at h
    · obtain ⟨t, rfl⟩ := h; exact .inr ⟨k, t, rfl⟩
    · first | exact .inl h | exact absurd h id
theorem lawN {l2 l a b : Addr × Obj} {e1 e2 : List (Addr × Obj)} : ∀ p ∈ [a, b], p ∈ l2 :: ([l, a, b] ++ e1) ++ e2 := fun p hp => by
  simp only [List.mem_cons, List.mem_append, List.cons_append, List.nil_append, List.not_mem_nil, or_false] at hp ⊢
  rcases hp with h | h <;> simp [h]
theorem ints_len {vs : List Value} {xs : List Int} (h : IntsAre vs xs) : vs.length = xs.length := by
  induction h with
  | nil => rfl
  | cons _ _ _ ih => simp [ih]
theorem law_t : PySem.Challenge.rw_xm0769_01.Holds := by
  refine holds_law (l := PySem.Challenge.rw_xm0769_01) ok0 fun said => ?_
  refine holds_open (q := qv) (loose := looseL) (Xt := XtQ) (XP := XL qv []) (Yf := Hook.obs HK) (Ya := Hook.val HK) (YP := Hook.says HK) (N := 20140) leftO (Hook.of HK) (Hook.keeps HK) (fun s e => xl_of s (Bool.and_eq_true_iff.mp e).1) XL.keeps (by rfl) (by rfl) (by rfl) (fun s e => recFacts_of (Bool.and_eq_true_iff.mp e).2) (by rfl) (by assumption) (by decide +kernel) ⟨rfl, rfl, rfl, rfl, rfl, by decide +kernel⟩ wit0 ?hc
  delta HK
  k_go0
  (all_goals try k_fold)
  k_steps
  refine Held.out ?_
  (rename News _ _ _ (_ :: _) => N8)
  k_dflt (refine' ctr_use (ltable_ctr (names := [Str.ofString "a", Str.ofString "b"]) (key := some 1) (.head _) (by repeat' constructor) (.some 1 _) (by decide) (by decide) ?d) ?B ?F ?X N8 (fun _ hp => hp) ?T ?hk ?hd ?hu ?_; ((case B => k_asm); (case F => k_asm); walk_at "use4"))
  case d => exact ab_dist
  refine tabfrom_cur ?_
  intro tb lc rp ext2 hT2 hR2 hx2 h9 tk9 F9 N9
  (try dsimp only)
  k_steps
  refine Held.out ?_
  clear N8 hx2
  k_dflt (refine' ctrE_use (want_ctr (by decide) (hT2.more fun p hp => List.mem_append.mpr (.inr hp)) (rp_ok hR2)) ?B ?F ?X N9 ?T ?hk ?hd ?hu ?_ ?_; ((case B => k_asm); (case F => k_asm); walk_at "use4"))
  rotate_left
  · rintro e d G h' tk' tk msg u ⟨_, _, hf⟩
    exact absurd hf (by decide +kernel)
  refine pair_cur ?_
  intro v9 hW h9 tk9 F9 N9
  obtain ⟨z, t9, rfl, hz⟩ := want_plc (fun k e => by cases e; decide) hR2 hW
  obtain rfl : (1 : Int) = z := Option.some.inj ((by decide +kernel : plc [Str.ofString "a", Str.ofString "b"] (some 1) (Str.ofString "oid") = some 1).symm.trans hz)
  (try dsimp only)
  k_steps
  refine Held.out ?_
  clear hz hW hR2 hT2
  (try clear N9)
  (rename News _ _ _ (_ :: _) => N8)
  k_dflt (refine' ctr_use (ltable_ctr (names := [Str.ofString "a"]) (key := none) (.head _) (by repeat' constructor) .none (by decide) (by decide) a_dist) ?B ?F ?X N8 (fun _ hp => hp) ?T ?hk ?hd ?hu ?_; ((case B => k_asm); (case F => k_asm); walk_at "use4"))
  refine tabfrom_cur ?_
  intro tb lc rp ext3 hT2 hR2 _ h9 tk9 F9 N9
  (try dsimp only)
  k_steps
  refine Held.out ?_
  (try clear N8)
  k_dflt (refine' ctrE_use (want_ctr (by decide) (hT2.more fun p hp => List.mem_append.mpr (.inr hp)) (rp_ok hR2)) ?B ?F ?X N9 ?T ?hk ?hd ?hu ?_ ?_; ((case B => k_asm); (case F => k_asm); walk_at "use4"))
  rotate_left
  · rintro e d G h' tk' tk msg u ⟨_, _, hf⟩
    exact absurd hf (by decide +kernel)
  refine pair_cur ?_
  intro v9 hW h9 tk9 F9 N9
  obtain ⟨z, t9, rfl, hz⟩ := want_plc (fun k e => by cases e) hR2 hW
  obtain rfl : (-1 : Int) = z := Option.some.inj ((by decide +kernel : plc [Str.ofString "a"] none (Str.ofString "Oid") = some (-1)).symm.trans hz)
  clear hz hW hR2 hT2
  (try dsimp only)
  (repeat ((fail_if_success (with_reducible show wpAny _ _ (execs (Stmt.For _ _ _ _ _ :: _) _) _ _ _)); (fail_if_success (with_reducible show wpAny _ _ (exec (Stmt.For _ _ _ _ _) _) _ _ _)); first | (k_unfold; (try dsimp only)) | walk1 | (dsimp only; walk1)))
  (rename News _ _ _ _ => N8)
  (rename IntsAre _ _ => hIA)
  (rename PyData.layable0 _ = true => hLay)
  k_dflt (refine' lawL (V := []) ?F ?B ?X ?T ?hl ?hm hIA hLay ?hlen ?N ?v4 ?v7 ?hE ?_)
  case F => k_asm
  case B => k_asm
  case X => k_asm
  case T => k_asm
  case hl => k_asm
  case hm => exact rfl
  case hlen => have := ints_len hIA; omega
  case N => exact cb_drop N8 lawN
  case v4 => exact List.forall_mem_nil _
  case v7 => exact List.forall_mem_nil _
  case hE => passes_own
  intro g' h' tk' m' ps qs V' KT F2 N2 C2 D2 t
  dsimp only
  refine ⟨⟨.inl ⟨_, _, _, rfl, fun _ => rfl, .bool true, ?post, ?un⟩, fun b o e => F2.keep b o (KT.other b o e (fun h => nomatch h)), rfl, by assumption⟩, GrownAt.of N2 (.head _), GrownAt.of N2 (.tail _ (.head _)), trivial⟩
  case un => exact unshared_nil
  case post => first | wrow_post | kc_post
end
end Mine
theorem PySem.Challenge.cw_xm0769_01_holds : PySem.Challenge.rw_xm0769_01.Holds := by
  exact Mine.law_t
