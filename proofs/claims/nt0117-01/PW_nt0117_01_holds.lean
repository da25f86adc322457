import PyProof.Rows.All
import Wide.All
import OpenK.AllK
import Wide.FinOn
import KE.KIsNot
import KE.KxStill
import Lean
import PySem.Challenge.RW_nt0117_01
set_option Elab.async false
set_option linter.all false
open PySem PySem.W PyProof.Rows PySem.Calls
set_option maxRecDepth 100000
set_option maxHeartbeats 8000000
namespace Mine
theorem left_of {p q : Program} {loose : List Str} {Xt : Shared → Bool} {α : Type} {Yf : Shared → α} {Ya : World → α} {N : Nat} {g0 : Bool} {H₀ : Params → Heap} {gs₀ : Array GenState} {d₀ : Drawn} {k₀ m₀ : Nat} {ann : Option Value} {M : Nat}
  (op : ∀ w : World, (fencedOpening treeTable p w N).map (fun s => (s.heap, s.gens, s.drawn, s.toks)) = some (H₀ w.params, gs₀, d₀, k₀))
  (size : ∀ w : World, ((H₀ w.params).isNs mainGlobals && gs₀.size == 0, (H₀ w.params).objs.size, (H₀ w.params).nsMap mainGlobals "__annotations__") = (true, m₀, ann))
  (run : ∀ (w : World) (os : OsState), ∃ s₁, topRun treeTable p w m₀ ann M ⟨H₀ w.params, gs₀, d₀, k₀, os⟩ (topStub p) = some s₁ ∧
   ((staticsOk (importedModules p.main.body) (H₀ w.params) s₁.heap && namesBound p s₁.heap && gensDone s₁ && laidKept (H₀ w.params) s₁.heap), openSeen q loose (importedModules p.main.body) Xt g0 s₁, Yf s₁) = (true, openGood q loose, Ya w))
  (le : M ≤ N) : LeftO p q loose Xt Yf Ya N g0 := fun w => by
 obtain ⟨⟨h, gs, d, k, os⟩, e, e'⟩ := Option.map_eq_some_iff.mp (op w)
 simp only [Prod.mk.injEq] at e'
 obtain ⟨rfl, rfl, rfl, rfl⟩ := e'
 obtain ⟨s₁, r, l⟩ := run w os
 have r' := topRun_mono (N - M) _ _ _ _ r
 rw [Nat.add_sub_cancel' le] at r'
 have z1 := congrArg Prod.fst (size w)
 have z2 := congrArg (fun x => x.2.1) (size w)
 have z3 := congrArg (fun x => x.2.2) (size w)
 have l1 := congrArg Prod.fst l
 have l2 := congrArg Prod.snd l
 dsimp only at z1 z2 z3 l1 l2
 have t : topFrom treeTable p w N ⟨H₀ w.params, gs, d, k, os⟩ = some s₁ := by
  unfold topFrom
  dsimp only
  rw [z1, z2, z3, r']
  dsimp only [Option.bind_some]
  rw [l1]
 unfold openEnds
 rw [e, Option.bind_some, t, Option.map_some]
 exact congrArg some l2
noncomputable abbrev rr : RowW := OpenRow.toRowW (OpenLaw.row PySem.Challenge.rw_nt0117_01)
noncomputable abbrev pm : Program := RowW.prog rr
noncomputable abbrev p0 : Pos := ⟨0, 0, 0, 0⟩
noncomputable abbrev an6 : Option Value := some (.ref 6)
noncomputable def em : Env := { scope := pm.main.scope, locals := mainNs, globals := mainNs, cells := [], code := .ref 13, frame := some 14 }
noncomputable abbrev cm : Code := .body (behindTheImports pm) em
theorem fin_any {p : Program} {w : World} {m : Nat} {ann : Option Value} {s : Shared} {c : Code} {q q' : Pos} : topRun treeTable p w m ann 2 s ⟨doneF .next, c, q, [topFrame q']⟩ = some s := rfl
theorem row_pm : PySem.Challenge.rw_nt0117_01.row.wellSaid = true := by kernel_rfl
theorem said_pm : PySem.Challenge.rw_nt0117_01.wellSaid = true := by
 delta OpenLaw.wellSaid
 rw [row_pm]
 kernel_rfl
set_option maxHeartbeats 200000
noncomputable def bdy : Stmt → List Stmt
 | .FunctionDef _ _ b _ _ _ _ _ _ _ => b
 | .ClassDef _ _ _ b _ _ _ _ _ _ _ => b
 | _ => []
noncomputable def prm : Stmt → Arguments
 | .FunctionDef _ a _ _ _ _ _ _ _ _ => a
 | _ => default
noncomputable def scp : Stmt → Scope
 | .FunctionDef _ _ _ _ _ _ s _ _ _ => s
 | _ => default
noncomputable def tt (i : Nat) : Stmt := (pm.main.body[i]?).getD (.Pass p0)
noncomputable def mm (i j : Nat) : Stmt := ((bdy (tt i))[j]?).getD (.Pass p0)
set_option maxHeartbeats 8000000
theorem op_pm (N : Nat) (hN : Nat.ble 600 N = true) : ∀ w : World, (fencedOpening treeTable pm w N).map (fun s => (s.heap, s.gens, s.drawn, s.toks)) = some (boot_heap w.params, Array.mk [], boot_drawn, boot_toks) :=
 boot_open (by kernel_rfl) hN fun s => by kernel_rfl
theorem size_pm : ∀ w : World, ((boot_heap w.params).isNs mainGlobals && (Array.mk [] : Array GenState).size == 0, (boot_heap w.params).objs.size, (boot_heap w.params).nsMap mainGlobals "__annotations__") = (true, 11, an6) := fun w => by kernel_rfl
noncomputable def o11 : Obj := { cls := .type "tuple", data := .seq #[] }
noncomputable def o12 : Obj := { cls := .none, data := .fields #[] }
noncomputable def o13 : Obj := { cls := .type "code", data := .fields #[.str "<module>" 182, .str "<module>" 183, .str "/claim/cut.py" 184, .int 1 0, .int 0 0, .int 0 0, .int 0 0, .int 0 0, .ref 11, .bool false, .int 181 0, .ref 12, .none, .none, .none, .none, .int 185 0, .int 1 0, .str "/claim/cut.py" 186] }
noncomputable def o14 : Obj := { cls := .type "frame", slots := #[some (.ref 13), some (.ref 3), some (.ref 3), none, some (.str "__main__" 164), none, some (.ref 0)] }
noncomputable def hA (P : Params) : Heap := { objs := ⟨[boot_o_0 P, boot_o_1 P, boot_o_2 P, boot_o_3 P, boot_o_4 P, boot_o_5 P, boot_o_6 P, boot_o_7 P, boot_o_8 P, boot_o_9 P, boot_o_10 P, o11, o12, o13, o14]⟩ }
noncomputable def tA (P : Params) : BT :=
 .node (boot_o_0 P)
  (.node (boot_o_1 P) (.node (boot_o_3 P) (.node (boot_o_7 P) .nil .nil) (.node o11 .nil .nil)) (.node (boot_o_5 P) (.node (boot_o_9 P) .nil .nil) (.node o13 .nil .nil)))
  (.node (boot_o_2 P) (.node (boot_o_4 P) (.node (boot_o_8 P) .nil .nil) (.node o12 .nil .nil)) (.node (boot_o_6 P) (.node (boot_o_10 P) .nil .nil) (.node o14 .nil .nil)))
noncomputable def sA (w : World) (os : OsState) : SharedT := ⟨tA w.params, 15, {}, #[], {}, 187, os⟩
theorem pre_pm (w : World) (os : OsState) : topGo treeTable pm w 11 an6 12 ⟨boot_heap w.params, Array.mk [], boot_drawn, boot_toks, os⟩ (topStub pm) = some (⟨hA w.params, #[], {}, 187, os⟩, ⟨denote treeTable cm, cm, p0, [topFrame p0]⟩) := by kernel_rfl
theorem blk_pm (w : World) (os : OsState) : segRun treeTable pm w 11 an6 1 1 ⟨hA w.params, #[], {}, 187, os⟩ (blockOf (behindTheImports pm) em cm p0 [topFrame p0]) = some (.next, (sA w os).abs, cm, p0) := by kernel_rfl
set_option maxHeartbeats 0
noncomputable def K39 (P : Params) : Frag :=
(nat_lit 3, ⟨.type "dict", none, .dict #[⟨PyData.keyHash P "__name__", .str "__name__" 165, .str "law_nt0117_01" 1239⟩, ⟨PyData.keyHash P "__doc__", .str "__doc__" 166, .none⟩, ⟨PyData.keyHash P "__package__", .str "__package__" 167, .none⟩, ⟨PyData.keyHash P "__loader__", .str "__loader__" 168, .builtin "__main__.__loader__#opaque"⟩, ⟨PyData.keyHash P "__spec__", .str "__spec__" 169, .none⟩, ⟨PyData.keyHash P "__annotations__", .str "__annotations__" 170, .ref 6⟩, ⟨PyData.keyHash P "__builtins__", .str "__builtins__" 171, .ref 4⟩, ⟨PyData.keyHash P "__file__", .str "__file__" 173, .str "/claim/cut.py" 172⟩, ⟨PyData.keyHash P "__cached__", .str "__cached__" 174, .none⟩, ⟨PyData.keyHash P "_wall", .str "_wall" 193, .ref 21⟩, ⟨PyData.keyHash P "PagebaseError", .str "PagebaseError" 224, .ref 38⟩, ⟨PyData.keyHash P "MisuseError", .str "MisuseError" 240, .ref 51⟩, ⟨PyData.keyHash P "row_of", .str "row_of" 249, .ref 60⟩, ⟨PyData.keyHash P "rows_of", .str "rows_of" 255, .ref 65⟩, ⟨PyData.keyHash P "Node", .str "Node" 282, .ref 82⟩, ⟨PyData.keyHash P "Expr", .str "Expr" 298, .ref 96⟩, ⟨PyData.keyHash P "Literal", .str "Literal" 330, .ref 122⟩, ⟨PyData.keyHash P "Name", .str "Name" 367, .ref 148⟩, ⟨PyData.keyHash P "Variable", .str "Variable" 399, .ref 174⟩, ⟨PyData.keyHash P "Unary", .str "Unary" 433, .ref 200⟩, ⟨PyData.keyHash P "Binary", .str "Binary" 469, .ref 226⟩, ⟨PyData.keyHash P "Between", .str "Between" 507, .ref 252⟩, ⟨PyData.keyHash P "InList", .str "InList" 543, .ref 278⟩, ⟨PyData.keyHash P "Scalar", .str "Scalar" 575, .ref 304⟩, ⟨PyData.keyHash P "Case", .str "Case" 610, .ref 328⟩, ⟨PyData.keyHash P "Cast", .str "Cast" 644, .ref 354⟩, ⟨PyData.keyHash P "Collate", .str "Collate" 678, .ref 380⟩, ⟨PyData.keyHash P "IsNull", .str "IsNull" 712, .ref 406⟩, ⟨PyData.keyHash P "NUMERIC_AFFINITIES", .str "NUMERIC_AFFINITIES" 717, .ref 409⟩, ⟨PyData.keyHash P "SPACES", .str "SPACES" 719, .str " \t\n\x0b\x0c\x0d" 718⟩, ⟨PyData.keyHash P "fold_ascii", .str "fold_ascii" 728, .ref 416⟩, ⟨PyData.keyHash P "affinity_of_type", .str "affinity_of_type" 737, .ref 423⟩, ⟨PyData.keyHash P "comparison_affinities", .str "comparison_affinities" 745, .ref 430⟩, ⟨PyData.keyHash P "fold", .str "fold" 753, .ref 435⟩, ⟨PyData.keyHash P "affinity_of", .str "affinity_of" 761, .ref 443⟩, ⟨PyData.keyHash P "explicit_collation", .str "explicit_collation" 768, .ref 450⟩, ⟨PyData.keyHash P "column_collation", .str "column_collation" 775, .ref 457⟩, ⟨PyData.keyHash P "collation_of", .str "collation_of" 783, .ref 465⟩, ⟨PyData.keyHash P "comparison_collation", .str "comparison_collation" 792, .ref 472⟩, ⟨PyData.keyHash P "is_comparison", .str "is_comparison" 801, .ref 479⟩, ⟨PyData.keyHash P "opposite", .str "opposite" 808, .ref 486⟩, ⟨PyData.keyHash P "OperatorCoder", .str "OperatorCoder" 1020, .ref 611⟩, ⟨PyData.keyHash P "JUMPS", .str "JUMPS" 1113, .ref 616⟩, ⟨PyData.keyHash P "Program", .str "Program" 1238, .ref 707⟩, ⟨PyData.keyHash P "_law_pool", .str "_law_pool" 1251, .ref 718⟩, ⟨PyData.keyHash P "_law_take", .str "_law_take" 1260, .ref 725⟩, ⟨PyData.keyHash P "_law_one", .str "_law_one" 1268, .ref 732⟩, ⟨PyData.keyHash P "_law_value", .str "_law_value" 1275, .ref 739⟩, ⟨PyData.keyHash P "_law_tree", .str "_law_tree" 1287, .ref 746⟩, ⟨PyData.keyHash P "_law_node", .str "_law_node" 1293, .ref 751⟩, ⟨PyData.keyHash P "_law_number", .str "_law_number" 1300, .ref 758⟩, ⟨PyData.keyHash P "_law_true", .str "_law_true" 1308, .ref 765⟩, ⟨PyData.keyHash P "_law_class", .str "_law_class" 1316, .ref 772⟩, ⟨PyData.keyHash P "_law_compared", .str "_law_compared" 1330, .ref 779⟩, ⟨PyData.keyHash P "_law_led", .str "_law_led" 1338, .ref 786⟩, ⟨PyData.keyHash P "_law_affinity", .str "_law_affinity" 1345, .ref 793⟩, ⟨PyData.keyHash P "_law_pair", .str "_law_pair" 1351, .ref 798⟩, ⟨PyData.keyHash P "_law_named", .str "_law_named" 1358, .ref 805⟩, ⟨PyData.keyHash P "_law_either", .str "_law_either" 1368, .ref 812⟩, ⟨PyData.keyHash P "_law_opposite", .str "_law_opposite" 1376, .ref 819⟩, ⟨PyData.keyHash P "_law_found", .str "_law_found" 1382, .ref 824⟩, ⟨PyData.keyHash P "_law_joined", .str "_law_joined" 1394, .ref 831⟩, ⟨PyData.keyHash P "_law_told", .str "_law_told" 1410, .ref 838⟩, ⟨PyData.keyHash P "_law_jumps", .str "_law_jumps" 1425, .ref 845⟩, ⟨PyData.keyHash P "_law_run", .str "_law_run" 1442, .ref 852⟩, ⟨PyData.keyHash P "_law_coder", .str "_law_coder" 1453, .ref 859⟩, ⟨PyData.keyHash P "_law_jump_right", .str "_law_jump_right" 1472, .ref 866⟩, ⟨PyData.keyHash P "law", .str "law" 1486, .ref 873⟩] 68, #[]⟩) ::
(nat_lit 81, ⟨.type "dict", none, .dict #[⟨PyData.keyHash P "__module__", .str "__module__" 263, .str "pagebase.nodes" 241⟩, ⟨PyData.keyHash P "__firstlineno__", .str "__firstlineno__" 267, .int 16 266⟩, ⟨PyData.keyHash P "row", .str "row" 274, .ref 79⟩, ⟨PyData.keyHash P "__static_attributes__", .str "__static_attributes__" 275, .ref 80⟩, ⟨PyData.keyHash P "__dict__", .str "__dict__" 277, .ref 83⟩, ⟨PyData.keyHash P "__weakref__", .str "__weakref__" 279, .ref 84⟩, ⟨PyData.keyHash P "__doc__", .str "__doc__" 280, .none⟩] 4, #[]⟩) ::
(nat_lit 82, ⟨.type "type", none, .cls ⟨"Node", [.type "object"], [.ref 82, .type "object"], 81, "Node", true, [], [.ref 96], false, none, false⟩, #[none, none, some (.str "Node" 256), some (.str "Node" 264), some (.builtin "object.__new__"), some (.bool true)]⟩) ::
(nat_lit 95, ⟨.type "dict", none, .dict #[⟨PyData.keyHash P "__module__", .str "__module__" 290, .str "pagebase.nodes" 241⟩, ⟨PyData.keyHash P "__firstlineno__", .str "__firstlineno__" 294, .int 20 293⟩, ⟨PyData.keyHash P "__static_attributes__", .str "__static_attributes__" 295, .ref 94⟩, ⟨PyData.keyHash P "__doc__", .str "__doc__" 296, .none⟩] 2, #[]⟩) ::
(nat_lit 96, ⟨.type "type", none, .cls ⟨"Expr", [.ref 82], [.ref 96, .ref 82, .type "object"], 95, "Expr", true, [], [.ref 122, .ref 148, .ref 174, .ref 200, .ref 226, .ref 252, .ref 278, .ref 304, .ref 328, .ref 354, .ref 380, .ref 406], false, none, false⟩, #[some (.ref 87), none, some (.str "Expr" 283), some (.str "Expr" 291), some (.builtin "object.__new__"), some (.bool true)]⟩) ::
(nat_lit 111, ⟨.type "code", none, .fields #[.str "__init__" 311, .str "Literal.__init__" 312, .str "/claim/cut.py" 313, .int 24 0, .int 2 0, .int 0 0, .int 0 0, .int 3 0, .ref 106, .bool true, .int 181 0, .ref 107, .none, .ref 108, .ref 109, .ref 110, .int 316 0, .int 24 0, .str "/claim/cut.py" 317], #[]⟩) ::
(nat_lit 112, ⟨.type "function", none, .func ⟨"__init__", "Literal.__init__", prm (mm 9 0), .stmts (bdy (mm 9 0)), scp (mm 9 0), 3, [], .none, .none, .none, .str "pagebase.nodes" 241, none, .ref 111, .none, 0⟩, #[]⟩) ::
(nat_lit 121, ⟨.type "dict", none, .dict #[⟨PyData.keyHash P "__module__", .str "__module__" 306, .str "pagebase.nodes" 241⟩, ⟨PyData.keyHash P "__firstlineno__", .str "__firstlineno__" 310, .int 22 309⟩, ⟨PyData.keyHash P "__init__", .str "__init__" 318, .ref 112⟩, ⟨PyData.keyHash P "row", .str "row" 325, .ref 119⟩, ⟨PyData.keyHash P "__static_attributes__", .str "__static_attributes__" 327, .ref 120⟩, ⟨PyData.keyHash P "__doc__", .str "__doc__" 328, .none⟩] 2, #[]⟩) ::
(nat_lit 122, ⟨.type "type", none, .cls ⟨"Literal", [.ref 96], [.ref 122, .ref 96, .ref 82, .type "object"], 121, "Literal", true, [], [], false, none, false⟩, #[some (.ref 99), none, some (.str "Literal" 299), some (.str "Literal" 307), some (.builtin "object.__new__"), some (.bool true)]⟩) ::
(nat_lit 137, ⟨.type "code", none, .fields #[.str "__init__" 343, .str "Name.__init__" 344, .str "/claim/cut.py" 345, .int 35 0, .int 3 0, .int 0 0, .int 0 0, .int 3 0, .ref 132, .bool true, .int 181 0, .ref 133, .none, .ref 134, .ref 135, .ref 136, .int 349 0, .int 35 0, .str "/claim/cut.py" 350], #[]⟩) ::
(nat_lit 138, ⟨.type "function", none, .func ⟨"__init__", "Name.__init__", prm (mm 10 0), .stmts (bdy (mm 10 0)), scp (mm 10 0), 3, [], .none, .none, .none, .str "pagebase.nodes" 241, none, .ref 137, .none, 0⟩, #[]⟩) ::
(nat_lit 147, ⟨.type "dict", none, .dict #[⟨PyData.keyHash P "__module__", .str "__module__" 338, .str "pagebase.nodes" 241⟩, ⟨PyData.keyHash P "__firstlineno__", .str "__firstlineno__" 342, .int 33 341⟩, ⟨PyData.keyHash P "__init__", .str "__init__" 351, .ref 138⟩, ⟨PyData.keyHash P "row", .str "row" 358, .ref 145⟩, ⟨PyData.keyHash P "__static_attributes__", .str "__static_attributes__" 364, .ref 146⟩, ⟨PyData.keyHash P "__doc__", .str "__doc__" 365, .none⟩] 2, #[]⟩) ::
(nat_lit 148, ⟨.type "type", none, .cls ⟨"Name", [.ref 96], [.ref 148, .ref 96, .ref 82, .type "object"], 147, "Name", true, [], [], false, none, false⟩, #[some (.ref 125), none, some (.str "Name" 331), some (.str "Name" 339), some (.builtin "object.__new__"), some (.bool true)]⟩) ::
(nat_lit 174, ⟨.type "type", none, .cls ⟨"Variable", [.ref 96], [.ref 174, .ref 96, .ref 82, .type "object"], 173, "Variable", true, [], [], false, none, false⟩, #[some (.ref 151), none, some (.str "Variable" 368), some (.str "Variable" 376), some (.builtin "object.__new__"), some (.bool true)]⟩) ::
(nat_lit 189, ⟨.type "code", none, .fields #[.str "__init__" 412, .str "Unary.__init__" 413, .str "/claim/cut.py" 414, .int 53 0, .int 3 0, .int 0 0, .int 0 0, .int 3 0, .ref 184, .bool true, .int 181 0, .ref 185, .none, .ref 186, .ref 187, .ref 188, .int 418 0, .int 53 0, .str "/claim/cut.py" 419], #[]⟩) ::
(nat_lit 190, ⟨.type "function", none, .func ⟨"__init__", "Unary.__init__", prm (mm 12 0), .stmts (bdy (mm 12 0)), scp (mm 12 0), 3, [], .none, .none, .none, .str "pagebase.nodes" 241, none, .ref 189, .none, 0⟩, #[]⟩) ::
(nat_lit 199, ⟨.type "dict", none, .dict #[⟨PyData.keyHash P "__module__", .str "__module__" 407, .str "pagebase.nodes" 241⟩, ⟨PyData.keyHash P "__firstlineno__", .str "__firstlineno__" 411, .int 51 410⟩, ⟨PyData.keyHash P "__init__", .str "__init__" 420, .ref 190⟩, ⟨PyData.keyHash P "row", .str "row" 427, .ref 197⟩, ⟨PyData.keyHash P "__static_attributes__", .str "__static_attributes__" 430, .ref 198⟩, ⟨PyData.keyHash P "__doc__", .str "__doc__" 431, .none⟩] 2, #[]⟩) ::
(nat_lit 200, ⟨.type "type", none, .cls ⟨"Unary", [.ref 96], [.ref 200, .ref 96, .ref 82, .type "object"], 199, "Unary", true, [], [], false, none, false⟩, #[some (.ref 177), none, some (.str "Unary" 400), some (.str "Unary" 408), some (.builtin "object.__new__"), some (.bool true)]⟩) ::
(nat_lit 215, ⟨.type "code", none, .fields #[.str "__init__" 446, .str "Binary.__init__" 447, .str "/claim/cut.py" 448, .int 61 0, .int 4 0, .int 0 0, .int 0 0, .int 3 0, .ref 210, .bool true, .int 181 0, .ref 211, .none, .ref 212, .ref 213, .ref 214, .int 453 0, .int 61 0, .str "/claim/cut.py" 454], #[]⟩) ::
(nat_lit 216, ⟨.type "function", none, .func ⟨"__init__", "Binary.__init__", prm (mm 13 0), .stmts (bdy (mm 13 0)), scp (mm 13 0), 3, [], .none, .none, .none, .str "pagebase.nodes" 241, none, .ref 215, .none, 0⟩, #[]⟩) ::
(nat_lit 225, ⟨.type "dict", none, .dict #[⟨PyData.keyHash P "__module__", .str "__module__" 441, .str "pagebase.nodes" 241⟩, ⟨PyData.keyHash P "__firstlineno__", .str "__firstlineno__" 445, .int 59 444⟩, ⟨PyData.keyHash P "__init__", .str "__init__" 455, .ref 216⟩, ⟨PyData.keyHash P "row", .str "row" 462, .ref 223⟩, ⟨PyData.keyHash P "__static_attributes__", .str "__static_attributes__" 466, .ref 224⟩, ⟨PyData.keyHash P "__doc__", .str "__doc__" 467, .none⟩] 2, #[]⟩) ::
(nat_lit 226, ⟨.type "type", none, .cls ⟨"Binary", [.ref 96], [.ref 226, .ref 96, .ref 82, .type "object"], 225, "Binary", true, [], [], false, none, false⟩, #[some (.ref 203), none, some (.str "Binary" 434), some (.str "Binary" 442), some (.builtin "object.__new__"), some (.bool true)]⟩) ::
(nat_lit 241, ⟨.type "code", none, .fields #[.str "__init__" 482, .str "Between.__init__" 483, .str "/claim/cut.py" 484, .int 70 0, .int 5 0, .int 0 0, .int 0 0, .int 3 0, .ref 236, .bool true, .int 181 0, .ref 237, .none, .ref 238, .ref 239, .ref 240, .int 490 0, .int 70 0, .str "/claim/cut.py" 491], #[]⟩) ::
(nat_lit 242, ⟨.type "function", none, .func ⟨"__init__", "Between.__init__", prm (mm 14 0), .stmts (bdy (mm 14 0)), scp (mm 14 0), 3, [], .none, .none, .none, .str "pagebase.nodes" 241, none, .ref 241, .none, 0⟩, #[]⟩) ::
(nat_lit 251, ⟨.type "dict", none, .dict #[⟨PyData.keyHash P "__module__", .str "__module__" 477, .str "pagebase.nodes" 241⟩, ⟨PyData.keyHash P "__firstlineno__", .str "__firstlineno__" 481, .int 68 480⟩, ⟨PyData.keyHash P "__init__", .str "__init__" 492, .ref 242⟩, ⟨PyData.keyHash P "row", .str "row" 499, .ref 249⟩, ⟨PyData.keyHash P "__static_attributes__", .str "__static_attributes__" 504, .ref 250⟩, ⟨PyData.keyHash P "__doc__", .str "__doc__" 505, .none⟩] 2, #[]⟩) ::
(nat_lit 252, ⟨.type "type", none, .cls ⟨"Between", [.ref 96], [.ref 252, .ref 96, .ref 82, .type "object"], 251, "Between", true, [], [], false, none, false⟩, #[some (.ref 229), none, some (.str "Between" 470), some (.str "Between" 478), some (.builtin "object.__new__"), some (.bool true)]⟩) ::
(nat_lit 267, ⟨.type "code", none, .fields #[.str "__init__" 520, .str "InList.__init__" 521, .str "/claim/cut.py" 522, .int 80 0, .int 4 0, .int 0 0, .int 0 0, .int 3 0, .ref 262, .bool true, .int 181 0, .ref 263, .none, .ref 264, .ref 265, .ref 266, .int 527 0, .int 80 0, .str "/claim/cut.py" 528], #[]⟩) ::
(nat_lit 268, ⟨.type "function", none, .func ⟨"__init__", "InList.__init__", prm (mm 15 0), .stmts (bdy (mm 15 0)), scp (mm 15 0), 3, [], .none, .none, .none, .str "pagebase.nodes" 241, none, .ref 267, .none, 0⟩, #[]⟩) ::
(nat_lit 277, ⟨.type "dict", none, .dict #[⟨PyData.keyHash P "__module__", .str "__module__" 515, .str "pagebase.nodes" 241⟩, ⟨PyData.keyHash P "__firstlineno__", .str "__firstlineno__" 519, .int 78 518⟩, ⟨PyData.keyHash P "__init__", .str "__init__" 529, .ref 268⟩, ⟨PyData.keyHash P "row", .str "row" 536, .ref 275⟩, ⟨PyData.keyHash P "__static_attributes__", .str "__static_attributes__" 540, .ref 276⟩, ⟨PyData.keyHash P "__doc__", .str "__doc__" 541, .none⟩] 2, #[]⟩) ::
(nat_lit 278, ⟨.type "type", none, .cls ⟨"InList", [.ref 96], [.ref 278, .ref 96, .ref 82, .type "object"], 277, "InList", true, [], [], false, none, false⟩, #[some (.ref 255), none, some (.str "InList" 508), some (.str "InList" 516), some (.builtin "object.__new__"), some (.bool true)]⟩) ::
(nat_lit 304, ⟨.type "type", none, .cls ⟨"Scalar", [.ref 96], [.ref 304, .ref 96, .ref 82, .type "object"], 303, "Scalar", true, [], [], false, none, false⟩, #[some (.ref 281), none, some (.str "Scalar" 544), some (.str "Scalar" 552), some (.builtin "object.__new__"), some (.bool true)]⟩) ::
(nat_lit 319, ⟨.type "code", none, .fields #[.str "__init__" 588, .str "Case.__init__" 589, .str "/claim/cut.py" 590, .int 96 0, .int 4 0, .int 0 0, .int 0 0, .int 3 0, .ref 314, .bool true, .int 181 0, .ref 315, .none, .ref 316, .ref 317, .ref 318, .int 595 0, .int 96 0, .str "/claim/cut.py" 596], #[]⟩) ::
(nat_lit 320, ⟨.type "function", none, .func ⟨"__init__", "Case.__init__", prm (mm 17 0), .stmts (bdy (mm 17 0)), scp (mm 17 0), 3, [], .none, .none, .none, .str "pagebase.nodes" 241, none, .ref 319, .none, 0⟩, #[]⟩) ::
(nat_lit 327, ⟨.type "dict", none, .dict #[⟨PyData.keyHash P "__module__", .str "__module__" 583, .str "pagebase.nodes" 241⟩, ⟨PyData.keyHash P "__firstlineno__", .str "__firstlineno__" 587, .int 94 586⟩, ⟨PyData.keyHash P "__init__", .str "__init__" 597, .ref 320⟩, ⟨PyData.keyHash P "row", .str "row" 603, .ref 325⟩, ⟨PyData.keyHash P "__static_attributes__", .str "__static_attributes__" 607, .ref 326⟩, ⟨PyData.keyHash P "__doc__", .str "__doc__" 608, .none⟩] 2, #[]⟩) ::
(nat_lit 328, ⟨.type "type", none, .cls ⟨"Case", [.ref 96], [.ref 328, .ref 96, .ref 82, .type "object"], 327, "Case", true, [], [], false, none, false⟩, #[some (.ref 307), none, some (.str "Case" 576), some (.str "Case" 584), some (.builtin "object.__new__"), some (.bool true)]⟩) ::
(nat_lit 354, ⟨.type "type", none, .cls ⟨"Cast", [.ref 96], [.ref 354, .ref 96, .ref 82, .type "object"], 353, "Cast", true, [], [], false, none, false⟩, #[some (.ref 331), none, some (.str "Cast" 611), some (.str "Cast" 619), some (.builtin "object.__new__"), some (.bool true)]⟩) ::
(nat_lit 380, ⟨.type "type", none, .cls ⟨"Collate", [.ref 96], [.ref 380, .ref 96, .ref 82, .type "object"], 379, "Collate", true, [], [], false, none, false⟩, #[some (.ref 357), none, some (.str "Collate" 645), some (.str "Collate" 653), some (.builtin "object.__new__"), some (.bool true)]⟩) ::
(nat_lit 395, ⟨.type "code", none, .fields #[.str "__init__" 691, .str "IsNull.__init__" 692, .str "/claim/cut.py" 693, .int 122 0, .int 3 0, .int 0 0, .int 0 0, .int 3 0, .ref 390, .bool true, .int 181 0, .ref 391, .none, .ref 392, .ref 393, .ref 394, .int 697 0, .int 122 0, .str "/claim/cut.py" 698], #[]⟩) ::
(nat_lit 396, ⟨.type "function", none, .func ⟨"__init__", "IsNull.__init__", prm (mm 20 0), .stmts (bdy (mm 20 0)), scp (mm 20 0), 3, [], .none, .none, .none, .str "pagebase.nodes" 241, none, .ref 395, .none, 0⟩, #[]⟩) ::
(nat_lit 405, ⟨.type "dict", none, .dict #[⟨PyData.keyHash P "__module__", .str "__module__" 686, .str "pagebase.nodes" 241⟩, ⟨PyData.keyHash P "__firstlineno__", .str "__firstlineno__" 690, .int 120 689⟩, ⟨PyData.keyHash P "__init__", .str "__init__" 699, .ref 396⟩, ⟨PyData.keyHash P "row", .str "row" 706, .ref 403⟩, ⟨PyData.keyHash P "__static_attributes__", .str "__static_attributes__" 709, .ref 404⟩, ⟨PyData.keyHash P "__doc__", .str "__doc__" 710, .none⟩] 2, #[]⟩) ::
(nat_lit 406, ⟨.type "type", none, .cls ⟨"IsNull", [.ref 96], [.ref 406, .ref 96, .ref 82, .type "object"], 405, "IsNull", true, [], [], false, none, false⟩, #[some (.ref 383), none, some (.str "IsNull" 679), some (.str "IsNull" 687), some (.builtin "object.__new__"), some (.bool true)]⟩) ::
(nat_lit 409, ⟨.type "tuple", none, .seq #[.str "integer" 715, .str "numeric" 716] 0, #[]⟩) ::
(nat_lit 429, ⟨.type "code", none, .fields #[.str "comparison_affinities" 738, .str "comparison_affinities" 739, .str "/claim/cut.py" 740, .int 151 0, .int 2 0, .int 0 0, .int 0 0, .int 3 0, .ref 424, .bool true, .int 181 0, .ref 425, .none, .ref 426, .ref 427, .ref 428, .int 743 0, .int 151 0, .str "/claim/cut.py" 744], #[]⟩) ::
(nat_lit 430, ⟨.type "function", none, .func ⟨"comparison_affinities", "comparison_affinities", prm (tt 26), .stmts (bdy (tt 26)), scp (tt 26), 3, [], .none, .none, .none, .str "pagebase.values" 713, none, .ref 429, .none, 0⟩, #[]⟩) ::
(nat_lit 436, ⟨.type "tuple", none, .seq #[.none] 0, #[]⟩) ::
(nat_lit 442, ⟨.type "code", none, .fields #[.str "affinity_of" 754, .str "affinity_of" 755, .str "/claim/cut.py" 756, .int 164 0, .int 2 0, .int 0 0, .int 0 0, .int 3 0, .ref 437, .bool true, .int 181 0, .ref 438, .none, .ref 439, .ref 440, .ref 441, .int 759 0, .int 164 0, .str "/claim/cut.py" 760], #[]⟩) ::
(nat_lit 443, ⟨.type "function", none, .func ⟨"affinity_of", "affinity_of", prm (tt 29), .stmts (bdy (tt 29)), scp (tt 29), 3, [], .ref 436, .none, .none, .str "pagebase.expr_tools" 746, none, .ref 442, .none, 0⟩, #[]⟩) ::
(nat_lit 449, ⟨.type "code", none, .fields #[.str "explicit_collation" 762, .str "explicit_collation" 763, .str "/claim/cut.py" 764, .int 174 0, .int 1 0, .int 0 0, .int 0 0, .int 3 0, .ref 444, .bool true, .int 181 0, .ref 445, .none, .ref 446, .ref 447, .ref 448, .int 766 0, .int 174 0, .str "/claim/cut.py" 767], #[]⟩) ::
(nat_lit 450, ⟨.type "function", none, .func ⟨"explicit_collation", "explicit_collation", prm (tt 30), .stmts (bdy (tt 30)), scp (tt 30), 3, [], .none, .none, .none, .str "pagebase.expr_tools" 746, none, .ref 449, .none, 0⟩, #[]⟩) ::
(nat_lit 456, ⟨.type "code", none, .fields #[.str "column_collation" 769, .str "column_collation" 770, .str "/claim/cut.py" 771, .int 184 0, .int 1 0, .int 0 0, .int 0 0, .int 3 0, .ref 451, .bool true, .int 181 0, .ref 452, .none, .ref 453, .ref 454, .ref 455, .int 773 0, .int 184 0, .str "/claim/cut.py" 774], #[]⟩) ::
(nat_lit 457, ⟨.type "function", none, .func ⟨"column_collation", "column_collation", prm (tt 31), .stmts (bdy (tt 31)), scp (tt 31), 3, [], .none, .none, .none, .str "pagebase.expr_tools" 746, none, .ref 456, .none, 0⟩, #[]⟩) ::
(nat_lit 458, ⟨.type "tuple", none, .seq #[.none] 0, #[]⟩) ::
(nat_lit 464, ⟨.type "code", none, .fields #[.str "collation_of" 776, .str "collation_of" 777, .str "/claim/cut.py" 778, .int 192 0, .int 2 0, .int 0 0, .int 0 0, .int 3 0, .ref 459, .bool true, .int 181 0, .ref 460, .none, .ref 461, .ref 462, .ref 463, .int 781 0, .int 192 0, .str "/claim/cut.py" 782], #[]⟩) ::
(nat_lit 465, ⟨.type "function", none, .func ⟨"collation_of", "collation_of", prm (tt 32), .stmts (bdy (tt 32)), scp (tt 32), 3, [], .ref 458, .none, .none, .str "pagebase.expr_tools" 746, none, .ref 464, .none, 0⟩, #[]⟩) ::
(nat_lit 471, ⟨.type "code", none, .fields #[.str "comparison_collation" 784, .str "comparison_collation" 785, .str "/claim/cut.py" 786, .int 194 0, .int 2 0, .int 0 0, .int 0 0, .int 3 0, .ref 466, .bool true, .int 181 0, .ref 467, .none, .ref 468, .ref 469, .ref 470, .int 790 0, .int 194 0, .str "/claim/cut.py" 791], #[]⟩) ::
(nat_lit 472, ⟨.type "function", none, .func ⟨"comparison_collation", "comparison_collation", prm (tt 33), .stmts (bdy (tt 33)), scp (tt 33), 3, [], .none, .none, .none, .str "pagebase.expr_tools" 746, none, .ref 471, .none, 0⟩, #[]⟩) ::
(nat_lit 478, ⟨.type "code", none, .fields #[.str "is_comparison" 795, .str "is_comparison" 796, .str "/claim/cut.py" 797, .int 200 0, .int 1 0, .int 0 0, .int 0 0, .int 3 0, .ref 473, .bool true, .int 181 0, .ref 474, .none, .ref 475, .ref 476, .ref 477, .int 799 0, .int 200 0, .str "/claim/cut.py" 800], #[]⟩) ::
(nat_lit 479, ⟨.type "function", none, .func ⟨"is_comparison", "is_comparison", prm (tt 35), .stmts (bdy (tt 35)), scp (tt 35), 3, [], .none, .none, .none, .str "pagebase.code_operators" 793, none, .ref 478, .none, 0⟩, #[]⟩) ::
(nat_lit 485, ⟨.type "code", none, .fields #[.str "opposite" 802, .str "opposite" 803, .str "/claim/cut.py" 804, .int 202 0, .int 1 0, .int 0 0, .int 0 0, .int 3 0, .ref 480, .bool true, .int 181 0, .ref 481, .none, .ref 482, .ref 483, .ref 484, .int 806 0, .int 202 0, .str "/claim/cut.py" 807], #[]⟩) ::
(nat_lit 486, ⟨.type "function", none, .func ⟨"opposite", "opposite", prm (tt 36), .stmts (bdy (tt 36)), scp (tt 36), 3, [], .none, .none, .none, .str "pagebase.code_operators" 793, none, .ref 485, .none, 0⟩, #[]⟩) ::
(nat_lit 499, ⟨.type "code", none, .fields #[.str "__init__" 821, .str "OperatorCoder.__init__" 822, .str "/claim/cut.py" 823, .int 206 0, .int 2 0, .int 0 0, .int 0 0, .int 3 0, .ref 494, .bool true, .int 181 0, .ref 495, .none, .ref 496, .ref 497, .ref 498, .int 826 0, .int 206 0, .str "/claim/cut.py" 827], #[]⟩) ::
(nat_lit 500, ⟨.type "function", none, .func ⟨"__init__", "OperatorCoder.__init__", prm (mm 37 0), .stmts (bdy (mm 37 0)), scp (mm 37 0), 3, [], .none, .none, .none, .str "pagebase.code_operators" 793, none, .ref 499, .none, 0⟩, #[]⟩) ::
(nat_lit 501, ⟨.type "tuple", none, .seq #[.none] 0, #[]⟩) ::
(nat_lit 507, ⟨.type "code", none, .fields #[.str "expression" 829, .str "OperatorCoder.expression" 830, .str "/claim/cut.py" 831, .int 210 0, .int 3 0, .int 0 0, .int 0 0, .int 3 0, .ref 502, .bool true, .int 181 0, .ref 503, .none, .ref 504, .ref 505, .ref 506, .int 837 0, .int 210 0, .str "/claim/cut.py" 838], #[]⟩) ::
(nat_lit 508, ⟨.type "function", none, .func ⟨"expression", "OperatorCoder.expression", prm (mm 37 1), .stmts (bdy (mm 37 1)), scp (mm 37 1), 3, [], .ref 501, .none, .none, .str "pagebase.code_operators" 793, none, .ref 507, .none, 0⟩, #[]⟩) ::
(nat_lit 528, ⟨.type "code", none, .fields #[.str "column" 857, .str "OperatorCoder.column" 858, .str "/claim/cut.py" 859, .int 243 0, .int 4 0, .int 0 0, .int 0 0, .int 3 0, .ref 523, .bool true, .int 181 0, .ref 524, .none, .ref 525, .ref 526, .ref 527, .int 866 0, .int 243 0, .str "/claim/cut.py" 867], #[]⟩) ::
(nat_lit 529, ⟨.type "function", none, .func ⟨"column", "OperatorCoder.column", prm (mm 37 4), .stmts (bdy (mm 37 4)), scp (mm 37 4), 3, [], .none, .none, .none, .str "pagebase.code_operators" 793, none, .ref 528, .none, 0⟩, #[]⟩) ::
(nat_lit 535, ⟨.type "code", none, .fields #[.str "binary" 869, .str "OperatorCoder.binary" 870, .str "/claim/cut.py" 871, .int 247 0, .int 3 0, .int 0 0, .int 0 0, .int 3 0, .ref 530, .bool true, .int 181 0, .ref 531, .none, .ref 532, .ref 533, .ref 534, .int 879 0, .int 247 0, .str "/claim/cut.py" 880], #[]⟩) ::
(nat_lit 536, ⟨.type "function", none, .func ⟨"binary", "OperatorCoder.binary", prm (mm 37 5), .stmts (bdy (mm 37 5)), scp (mm 37 5), 3, [], .none, .none, .none, .str "pagebase.code_operators" 793, none, .ref 535, .none, 0⟩, #[]⟩) ::
(nat_lit 542, ⟨.type "code", none, .fields #[.str "compared" 882, .str "OperatorCoder.compared" 883, .str "/claim/cut.py" 884, .int 259 0, .int 6 0, .int 0 0, .int 0 0, .int 3 0, .ref 537, .bool true, .int 181 0, .ref 538, .none, .ref 539, .ref 540, .ref 541, .int 894 0, .int 259 0, .str "/claim/cut.py" 895], #[]⟩) ::
(nat_lit 543, ⟨.type "function", none, .func ⟨"compared", "OperatorCoder.compared", prm (mm 37 6), .stmts (bdy (mm 37 6)), scp (mm 37 6), 3, [], .none, .none, .none, .str "pagebase.code_operators" 793, none, .ref 542, .none, 0⟩, #[]⟩) ::
(nat_lit 549, ⟨.type "code", none, .fields #[.str "between" 897, .str "OperatorCoder.between" 898, .str "/claim/cut.py" 899, .int 265 0, .int 3 0, .int 0 0, .int 0 0, .int 3 0, .ref 544, .bool true, .int 181 0, .ref 545, .none, .ref 546, .ref 547, .ref 548, .int 906 0, .int 265 0, .str "/claim/cut.py" 907], #[]⟩) ::
(nat_lit 550, ⟨.type "function", none, .func ⟨"between", "OperatorCoder.between", prm (mm 37 7), .stmts (bdy (mm 37 7)), scp (mm 37 7), 3, [], .none, .none, .none, .str "pagebase.code_operators" 793, none, .ref 549, .none, 0⟩, #[]⟩) ::
(nat_lit 556, ⟨.type "code", none, .fields #[.str "negate" 909, .str "OperatorCoder.negate" 910, .str "/claim/cut.py" 911, .int 274 0, .int 3 0, .int 0 0, .int 0 0, .int 3 0, .ref 551, .bool true, .int 181 0, .ref 552, .none, .ref 553, .ref 554, .ref 555, .int 915 0, .int 274 0, .str "/claim/cut.py" 916], #[]⟩) ::
(nat_lit 557, ⟨.type "function", none, .func ⟨"negate", "OperatorCoder.negate", prm (mm 37 8), .stmts (bdy (mm 37 8)), scp (mm 37 8), 3, [], .none, .none, .none, .str "pagebase.code_operators" 793, none, .ref 556, .none, 0⟩, #[]⟩) ::
(nat_lit 563, ⟨.type "code", none, .fields #[.str "is_null" 918, .str "OperatorCoder.is_null" 919, .str "/claim/cut.py" 920, .int 278 0, .int 3 0, .int 0 0, .int 0 0, .int 3 0, .ref 558, .bool true, .int 181 0, .ref 559, .none, .ref 560, .ref 561, .ref 562, .int 926 0, .int 278 0, .str "/claim/cut.py" 927], #[]⟩) ::
(nat_lit 564, ⟨.type "function", none, .func ⟨"is_null", "OperatorCoder.is_null", prm (mm 37 9), .stmts (bdy (mm 37 9)), scp (mm 37 9), 3, [], .none, .none, .none, .str "pagebase.code_operators" 793, none, .ref 563, .none, 0⟩, #[]⟩) ::
(nat_lit 570, ⟨.type "code", none, .fields #[.str "case" 929, .str "OperatorCoder.case" 930, .str "/claim/cut.py" 931, .int 286 0, .int 3 0, .int 0 0, .int 0 0, .int 3 0, .ref 565, .bool true, .int 181 0, .ref 566, .none, .ref 567, .ref 568, .ref 569, .int 941 0, .int 286 0, .str "/claim/cut.py" 942], #[]⟩) ::
(nat_lit 571, ⟨.type "function", none, .func ⟨"case", "OperatorCoder.case", prm (mm 37 10), .stmts (bdy (mm 37 10)), scp (mm 37 10), 3, [], .none, .none, .none, .str "pagebase.code_operators" 793, none, .ref 570, .none, 0⟩, #[]⟩) ::
(nat_lit 577, ⟨.type "code", none, .fields #[.str "in_list" 944, .str "OperatorCoder.in_list" 945, .str "/claim/cut.py" 946, .int 306 0, .int 3 0, .int 0 0, .int 0 0, .int 3 0, .ref 572, .bool true, .int 181 0, .ref 573, .none, .ref 574, .ref 575, .ref 576, .int 958 0, .int 306 0, .str "/claim/cut.py" 959], #[]⟩) ::
(nat_lit 578, ⟨.type "function", none, .func ⟨"in_list", "OperatorCoder.in_list", prm (mm 37 11), .stmts (bdy (mm 37 11)), scp (mm 37 11), 3, [], .none, .none, .none, .str "pagebase.code_operators" 793, none, .ref 577, .none, 0⟩, #[]⟩) ::
(nat_lit 579, ⟨.type "tuple", none, .seq #[.bool false] 0, #[]⟩) ::
(nat_lit 585, ⟨.type "code", none, .fields #[.str "jump_if" 961, .str "OperatorCoder.jump_if" 962, .str "/claim/cut.py" 963, .int 327 0, .int 4 0, .int 0 0, .int 0 0, .int 3 0, .ref 580, .bool true, .int 181 0, .ref 581, .none, .ref 582, .ref 583, .ref 584, .int 970 0, .int 327 0, .str "/claim/cut.py" 971], #[]⟩) ::
(nat_lit 586, ⟨.type "function", none, .func ⟨"jump_if", "OperatorCoder.jump_if", prm (mm 37 12), .stmts (bdy (mm 37 12)), scp (mm 37 12), 3, [], .ref 579, .none, .none, .str "pagebase.code_operators" 793, none, .ref 585, .none, 0⟩, #[]⟩) ::
(nat_lit 587, ⟨.type "tuple", none, .seq #[.bool false] 0, #[]⟩) ::
(nat_lit 593, ⟨.type "code", none, .fields #[.str "jump_unless" 973, .str "OperatorCoder.jump_unless" 974, .str "/claim/cut.py" 975, .int 346 0, .int 4 0, .int 0 0, .int 0 0, .int 3 0, .ref 588, .bool true, .int 181 0, .ref 589, .none, .ref 590, .ref 591, .ref 592, .int 982 0, .int 346 0, .str "/claim/cut.py" 983], #[]⟩) ::
(nat_lit 594, ⟨.type "function", none, .func ⟨"jump_unless", "OperatorCoder.jump_unless", prm (mm 37 13), .stmts (bdy (mm 37 13)), scp (mm 37 13), 3, [], .ref 587, .none, .none, .str "pagebase.code_operators" 793, none, .ref 593, .none, 0⟩, #[]⟩) ::
(nat_lit 600, ⟨.type "code", none, .fields #[.str "jump_compared" 985, .str "OperatorCoder.jump_compared" 986, .str "/claim/cut.py" 987, .int 365 0, .int 5 0, .int 0 0, .int 0 0, .int 3 0, .ref 595, .bool true, .int 181 0, .ref 596, .none, .ref 597, .ref 598, .ref 599, .int 997 0, .int 365 0, .str "/claim/cut.py" 998], #[]⟩) ::
(nat_lit 601, ⟨.type "function", none, .func ⟨"jump_compared", "OperatorCoder.jump_compared", prm (mm 37 14), .stmts (bdy (mm 37 14)), scp (mm 37 14), 3, [], .none, .none, .none, .str "pagebase.code_operators" 793, none, .ref 600, .none, 0⟩, #[]⟩) ::
(nat_lit 607, ⟨.type "code", none, .fields #[.str "jump_null" 1000, .str "OperatorCoder.jump_null" 1001, .str "/claim/cut.py" 1002, .int 372 0, .int 4 0, .int 0 0, .int 0 0, .int 3 0, .ref 602, .bool true, .int 181 0, .ref 603, .none, .ref 604, .ref 605, .ref 606, .int 1008 0, .int 372 0, .str "/claim/cut.py" 1009], #[]⟩) ::
(nat_lit 608, ⟨.type "function", none, .func ⟨"jump_null", "OperatorCoder.jump_null", prm (mm 37 15), .stmts (bdy (mm 37 15)), scp (mm 37 15), 3, [], .none, .none, .none, .str "pagebase.code_operators" 793, none, .ref 607, .none, 0⟩, #[]⟩) ::
(nat_lit 610, ⟨.type "dict", none, .dict #[⟨PyData.keyHash P "__module__", .str "__module__" 816, .str "pagebase.code_operators" 793⟩, ⟨PyData.keyHash P "__firstlineno__", .str "__firstlineno__" 820, .int 204 819⟩, ⟨PyData.keyHash P "__init__", .str "__init__" 828, .ref 500⟩, ⟨PyData.keyHash P "expression", .str "expression" 839, .ref 508⟩, ⟨PyData.keyHash P "other", .str "other" 848, .ref 515⟩, ⟨PyData.keyHash P "row_of", .str "row_of" 856, .ref 522⟩, ⟨PyData.keyHash P "column", .str "column" 868, .ref 529⟩, ⟨PyData.keyHash P "binary", .str "binary" 881, .ref 536⟩, ⟨PyData.keyHash P "compared", .str "compared" 896, .ref 543⟩, ⟨PyData.keyHash P "between", .str "between" 908, .ref 550⟩, ⟨PyData.keyHash P "negate", .str "negate" 917, .ref 557⟩, ⟨PyData.keyHash P "is_null", .str "is_null" 928, .ref 564⟩, ⟨PyData.keyHash P "case", .str "case" 943, .ref 571⟩, ⟨PyData.keyHash P "in_list", .str "in_list" 960, .ref 578⟩, ⟨PyData.keyHash P "jump_if", .str "jump_if" 972, .ref 586⟩, ⟨PyData.keyHash P "jump_unless", .str "jump_unless" 984, .ref 594⟩, ⟨PyData.keyHash P "jump_compared", .str "jump_compared" 999, .ref 601⟩, ⟨PyData.keyHash P "jump_null", .str "jump_null" 1010, .ref 608⟩, ⟨PyData.keyHash P "__static_attributes__", .str "__static_attributes__" 1013, .ref 609⟩, ⟨PyData.keyHash P "__dict__", .str "__dict__" 1015, .ref 612⟩, ⟨PyData.keyHash P "__weakref__", .str "__weakref__" 1017, .ref 613⟩, ⟨PyData.keyHash P "__doc__", .str "__doc__" 1018, .none⟩] 4, #[]⟩) ::
(nat_lit 611, ⟨.type "type", none, .cls ⟨"OperatorCoder", [.type "object"], [.ref 611, .type "object"], 610, "OperatorCoder", true, [], [], false, none, false⟩, #[none, none, some (.str "OperatorCoder" 809), some (.str "OperatorCoder" 817), some (.builtin "object.__new__"), some (.bool true)]⟩) ::
(nat_lit 616, ⟨.type "dict", none, .dict #[⟨PyData.keyHash P "Goto", .str "Goto" 1023, .int 1 1024⟩, ⟨PyData.keyHash P "Gosub", .str "Gosub" 1026, .int 1 1027⟩, ⟨PyData.keyHash P "Once", .str "Once" 1029, .int 1 1030⟩, ⟨PyData.keyHash P "If", .str "If" 1032, .int 1 1033⟩, ⟨PyData.keyHash P "IfNot", .str "IfNot" 1035, .int 1 1036⟩, ⟨PyData.keyHash P "IsNull", .str "IsNull" 1038, .int 1 1039⟩, ⟨PyData.keyHash P "NotNull", .str "NotNull" 1041, .int 1 1042⟩, ⟨PyData.keyHash P "IfPos", .str "IfPos" 1044, .int 1 1045⟩, ⟨PyData.keyHash P "MustBeInt", .str "MustBeInt" 1047, .int 1 1048⟩, ⟨PyData.keyHash P "CompareJump", .str "CompareJump" 1050, .int 1 1051⟩, ⟨PyData.keyHash P "Rewind", .str "Rewind" 1053, .int 1 1054⟩, ⟨PyData.keyHash P "Last", .str "Last" 1056, .int 1 1057⟩, ⟨PyData.keyHash P "Next", .str "Next" 1059, .int 1 1060⟩, ⟨PyData.keyHash P "Prev", .str "Prev" 1062, .int 1 1063⟩, ⟨PyData.keyHash P "SeekRowid", .str "SeekRowid" 1065, .int 1 1066⟩, ⟨PyData.keyHash P "SeekGE", .str "SeekGE" 1068, .int 1 1069⟩, ⟨PyData.keyHash P "SeekGT", .str "SeekGT" 1071, .int 1 1072⟩, ⟨PyData.keyHash P "SeekLE", .str "SeekLE" 1074, .int 1 1075⟩, ⟨PyData.keyHash P "SeekLT", .str "SeekLT" 1076, .int 1 1077⟩, ⟨PyData.keyHash P "IdxGT", .str "IdxGT" 1078, .int 1 1079⟩, ⟨PyData.keyHash P "IdxGE", .str "IdxGE" 1080, .int 1 1081⟩, ⟨PyData.keyHash P "IdxLT", .str "IdxLT" 1082, .int 1 1083⟩, ⟨PyData.keyHash P "IdxLE", .str "IdxLE" 1084, .int 1 1085⟩, ⟨PyData.keyHash P "Found", .str "Found" 1086, .int 1 1087⟩, ⟨PyData.keyHash P "NotFound", .str "NotFound" 1088, .int 1 1089⟩, ⟨PyData.keyHash P "NoConflict", .str "NoConflict" 1090, .int 1 1091⟩, ⟨PyData.keyHash P "NotExists", .str "NotExists" 1092, .int 1 1093⟩, ⟨PyData.keyHash P "SorterSort", .str "SorterSort" 1094, .int 1 1095⟩, ⟨PyData.keyHash P "SorterNext", .str "SorterNext" 1096, .int 1 1097⟩, ⟨PyData.keyHash P "IntegrityRows", .str "IntegrityRows" 1098, .int 1 1099⟩] 30, #[]⟩) ::
(nat_lit 630, ⟨.type "code", none, .fields #[.str "__init__" 1126, .str "Program.__init__" 1127, .str "/claim/cut.py" 1128, .int 379 0, .int 1 0, .int 0 0, .int 0 0, .int 3 0, .ref 625, .bool true, .int 181 0, .ref 626, .none, .ref 627, .ref 628, .ref 629, .int 1130 0, .int 379 0, .str "/claim/cut.py" 1131], #[]⟩) ::
(nat_lit 631, ⟨.type "function", none, .func ⟨"__init__", "Program.__init__", prm (mm 40 0), .stmts (bdy (mm 40 0)), scp (mm 40 0), 3, [], .none, .none, .none, .str "pagebase.program" 1021, none, .ref 630, .none, 0⟩, #[]⟩) ::
(nat_lit 632, ⟨.type "tuple", none, .seq #[.int 0 1133, .int 0 1134, .int 0 1135, .none] 0, #[]⟩) ::
(nat_lit 638, ⟨.type "code", none, .fields #[.str "add" 1136, .str "Program.add" 1137, .str "/claim/cut.py" 1138, .int 389 0, .int 6 0, .int 0 0, .int 0 0, .int 3 0, .ref 633, .bool true, .int 181 0, .ref 634, .none, .ref 635, .ref 636, .ref 637, .int 1145 0, .int 389 0, .str "/claim/cut.py" 1146], #[]⟩) ::
(nat_lit 639, ⟨.type "function", none, .func ⟨"add", "Program.add", prm (mm 40 1), .stmts (bdy (mm 40 1)), scp (mm 40 1), 3, [], .ref 632, .none, .none, .str "pagebase.program" 1021, none, .ref 638, .none, 0⟩, #[]⟩) ::
(nat_lit 652, ⟨.type "code", none, .fields #[.str "label" 1155, .str "Program.label" 1156, .str "/claim/cut.py" 1157, .int 396 0, .int 1 0, .int 0 0, .int 0 0, .int 3 0, .ref 647, .bool true, .int 181 0, .ref 648, .none, .ref 649, .ref 650, .ref 651, .int 1160 0, .int 396 0, .str "/claim/cut.py" 1161], #[]⟩) ::
(nat_lit 653, ⟨.type "function", none, .func ⟨"label", "Program.label", prm (mm 40 3), .stmts (bdy (mm 40 3)), scp (mm 40 3), 3, [], .none, .none, .none, .str "pagebase.program" 1021, none, .ref 652, .none, 0⟩, #[]⟩) ::
(nat_lit 659, ⟨.type "code", none, .fields #[.str "place" 1163, .str "Program.place" 1164, .str "/claim/cut.py" 1165, .int 401 0, .int 2 0, .int 0 0, .int 0 0, .int 3 0, .ref 654, .bool true, .int 181 0, .ref 655, .none, .ref 656, .ref 657, .ref 658, .int 1168 0, .int 401 0, .str "/claim/cut.py" 1169], #[]⟩) ::
(nat_lit 660, ⟨.type "function", none, .func ⟨"place", "Program.place", prm (mm 40 4), .stmts (bdy (mm 40 4)), scp (mm 40 4), 3, [], .none, .none, .none, .str "pagebase.program" 1021, none, .ref 659, .none, 0⟩, #[]⟩) ::
(nat_lit 661, ⟨.type "tuple", none, .seq #[.int 1 1171] 0, #[]⟩) ::
(nat_lit 667, ⟨.type "code", none, .fields #[.str "register" 1172, .str "Program.register" 1173, .str "/claim/cut.py" 1174, .int 408 0, .int 2 0, .int 0 0, .int 0 0, .int 3 0, .ref 662, .bool true, .int 181 0, .ref 663, .none, .ref 664, .ref 665, .ref 666, .int 1178 0, .int 408 0, .str "/claim/cut.py" 1179], #[]⟩) ::
(nat_lit 668, ⟨.type "function", none, .func ⟨"register", "Program.register", prm (mm 40 5), .stmts (bdy (mm 40 5)), scp (mm 40 5), 3, [], .ref 661, .none, .none, .str "pagebase.program" 1021, none, .ref 667, .none, 0⟩, #[]⟩) ::
(nat_lit 703, ⟨.type "code", none, .fields #[.str "finish" 1214, .str "Program.finish" 1215, .str "/claim/cut.py" 1216, .int 429 0, .int 1 0, .int 0 0, .int 0 0, .int 3 0, .ref 698, .bool true, .int 181 0, .ref 699, .none, .ref 700, .ref 701, .ref 702, .int 1220 0, .int 429 0, .str "/claim/cut.py" 1221], #[]⟩) ::
(nat_lit 704, ⟨.type "function", none, .func ⟨"finish", "Program.finish", prm (mm 40 10), .stmts (bdy (mm 40 10)), scp (mm 40 10), 3, [], .none, .none, .none, .str "pagebase.program" 1021, none, .ref 703, .none, 0⟩, #[]⟩) ::
(nat_lit 706, ⟨.type "dict", none, .dict #[⟨PyData.keyHash P "__module__", .str "__module__" 1121, .str "pagebase.program" 1021⟩, ⟨PyData.keyHash P "__firstlineno__", .str "__firstlineno__" 1125, .int 377 1124⟩, ⟨PyData.keyHash P "__init__", .str "__init__" 1132, .ref 631⟩, ⟨PyData.keyHash P "add", .str "add" 1147, .ref 639⟩, ⟨PyData.keyHash P "here", .str "here" 1154, .ref 646⟩, ⟨PyData.keyHash P "label", .str "label" 1162, .ref 653⟩, ⟨PyData.keyHash P "place", .str "place" 1170, .ref 660⟩, ⟨PyData.keyHash P "register", .str "register" 1180, .ref 668⟩, ⟨PyData.keyHash P "cursor", .str "cursor" 1187, .ref 675⟩, ⟨PyData.keyHash P "slot", .str "slot" 1194, .ref 682⟩, ⟨PyData.keyHash P "value", .str "value" 1203, .ref 689⟩, ⟨PyData.keyHash P "null", .str "null" 1213, .ref 697⟩, ⟨PyData.keyHash P "finish", .str "finish" 1222, .ref 704⟩, ⟨PyData.keyHash P "__static_attributes__", .str "__static_attributes__" 1231, .ref 705⟩, ⟨PyData.keyHash P "__dict__", .str "__dict__" 1233, .ref 708⟩, ⟨PyData.keyHash P "__weakref__", .str "__weakref__" 1235, .ref 709⟩, ⟨PyData.keyHash P "__doc__", .str "__doc__" 1236, .none⟩] 4, #[]⟩) ::
(nat_lit 707, ⟨.type "type", none, .cls ⟨"Program", [.type "object"], [.ref 707, .type "object"], 706, "Program", true, [], [], false, none, false⟩, #[none, none, some (.str "Program" 1114), some (.str "Program" 1122), some (.builtin "object.__new__"), some (.bool true)]⟩) ::
(nat_lit 717, ⟨.type "code", none, .fields #[.str "_law_pool" 1241, .str "_law_pool" 1242, .str "/claim/cut.py" 1243, .int 443 0, .int 2 0, .int 0 0, .int 0 0, .int 3 0, .ref 712, .bool true, .int 181 0, .ref 713, .none, .ref 714, .ref 715, .ref 716, .int 1249 0, .int 443 0, .str "/claim/cut.py" 1250], #[]⟩) ::
(nat_lit 718, ⟨.type "function", none, .func ⟨"_law_pool", "_law_pool", prm (tt 42), .stmts (bdy (tt 42)), scp (tt 42), 3, [], .none, .none, .none, .str "law_nt0117_01" 1239, none, .ref 717, .none, 0⟩, #[]⟩) ::
(nat_lit 724, ⟨.type "code", none, .fields #[.str "_law_take" 1252, .str "_law_take" 1253, .str "/claim/cut.py" 1254, .int 450 0, .int 2 0, .int 0 0, .int 0 0, .int 3 0, .ref 719, .bool true, .int 181 0, .ref 720, .none, .ref 721, .ref 722, .ref 723, .int 1258 0, .int 450 0, .str "/claim/cut.py" 1259], #[]⟩) ::
(nat_lit 725, ⟨.type "function", none, .func ⟨"_law_take", "_law_take", prm (tt 43), .stmts (bdy (tt 43)), scp (tt 43), 3, [], .none, .none, .none, .str "law_nt0117_01" 1239, none, .ref 724, .none, 0⟩, #[]⟩) ::
(nat_lit 731, ⟨.type "code", none, .fields #[.str "_law_one" 1261, .str "_law_one" 1262, .str "/claim/cut.py" 1263, .int 457 0, .int 2 0, .int 0 0, .int 0 0, .int 3 0, .ref 726, .bool true, .int 181 0, .ref 727, .none, .ref 728, .ref 729, .ref 730, .int 1266 0, .int 457 0, .str "/claim/cut.py" 1267], #[]⟩) ::
(nat_lit 732, ⟨.type "function", none, .func ⟨"_law_one", "_law_one", prm (tt 44), .stmts (bdy (tt 44)), scp (tt 44), 3, [], .none, .none, .none, .str "law_nt0117_01" 1239, none, .ref 731, .none, 0⟩, #[]⟩) ::
(nat_lit 738, ⟨.type "code", none, .fields #[.str "_law_value" 1269, .str "_law_value" 1270, .str "/claim/cut.py" 1271, .int 459 0, .int 1 0, .int 0 0, .int 0 0, .int 3 0, .ref 733, .bool true, .int 181 0, .ref 734, .none, .ref 735, .ref 736, .ref 737, .int 1273 0, .int 459 0, .str "/claim/cut.py" 1274], #[]⟩) ::
(nat_lit 739, ⟨.type "function", none, .func ⟨"_law_value", "_law_value", prm (tt 45), .stmts (bdy (tt 45)), scp (tt 45), 3, [], .none, .none, .none, .str "law_nt0117_01" 1239, none, .ref 738, .none, 0⟩, #[]⟩) ::
(nat_lit 745, ⟨.type "code", none, .fields #[.str "_law_tree" 1276, .str "_law_tree" 1277, .str "/claim/cut.py" 1278, .int 461 0, .int 2 0, .int 0 0, .int 0 0, .int 3 0, .ref 740, .bool true, .int 181 0, .ref 741, .none, .ref 742, .ref 743, .ref 744, .int 1285 0, .int 461 0, .str "/claim/cut.py" 1286], #[]⟩) ::
(nat_lit 746, ⟨.type "function", none, .func ⟨"_law_tree", "_law_tree", prm (tt 46), .stmts (bdy (tt 46)), scp (tt 46), 3, [], .none, .none, .none, .str "law_nt0117_01" 1239, none, .ref 745, .none, 0⟩, #[]⟩) ::
(nat_lit 750, ⟨.type "code", none, .fields #[.str "_law_node" 1288, .str "_law_node" 1289, .str "/claim/cut.py" 1290, .int 483 0, .int 2 0, .int 0 0, .int 0 0, .int 3 0, .ref 747, .bool true, .int 181 0, .ref 748, .none, .none, .none, .ref 749, .int 1291 0, .int 483 0, .str "/claim/cut.py" 1292], #[]⟩) ::
(nat_lit 751, ⟨.type "function", none, .func ⟨"_law_node", "_law_node", prm (tt 47), .stmts (bdy (tt 47)), scp (tt 47), 3, [], .none, .none, .none, .str "law_nt0117_01" 1239, none, .ref 750, .none, 0⟩, #[]⟩) ::
(nat_lit 757, ⟨.type "code", none, .fields #[.str "_law_number" 1294, .str "_law_number" 1295, .str "/claim/cut.py" 1296, .int 506 0, .int 1 0, .int 0 0, .int 0 0, .int 3 0, .ref 752, .bool true, .int 181 0, .ref 753, .none, .ref 754, .ref 755, .ref 756, .int 1298 0, .int 506 0, .str "/claim/cut.py" 1299], #[]⟩) ::
(nat_lit 758, ⟨.type "function", none, .func ⟨"_law_number", "_law_number", prm (tt 48), .stmts (bdy (tt 48)), scp (tt 48), 3, [], .none, .none, .none, .str "law_nt0117_01" 1239, none, .ref 757, .none, 0⟩, #[]⟩) ::
(nat_lit 764, ⟨.type "code", none, .fields #[.str "_law_true" 1301, .str "_law_true" 1302, .str "/claim/cut.py" 1303, .int 510 0, .int 1 0, .int 0 0, .int 0 0, .int 3 0, .ref 759, .bool true, .int 181 0, .ref 760, .none, .ref 761, .ref 762, .ref 763, .int 1306 0, .int 510 0, .str "/claim/cut.py" 1307], #[]⟩) ::
(nat_lit 765, ⟨.type "function", none, .func ⟨"_law_true", "_law_true", prm (tt 49), .stmts (bdy (tt 49)), scp (tt 49), 3, [], .none, .none, .none, .str "law_nt0117_01" 1239, none, .ref 764, .none, 0⟩, #[]⟩) ::
(nat_lit 771, ⟨.type "code", none, .fields #[.str "_law_class" 1309, .str "_law_class" 1310, .str "/claim/cut.py" 1311, .int 513 0, .int 2 0, .int 0 0, .int 0 0, .int 3 0, .ref 766, .bool true, .int 181 0, .ref 767, .none, .ref 768, .ref 769, .ref 770, .int 1314 0, .int 513 0, .str "/claim/cut.py" 1315], #[]⟩) ::
(nat_lit 772, ⟨.type "function", none, .func ⟨"_law_class", "_law_class", prm (tt 50), .stmts (bdy (tt 50)), scp (tt 50), 3, [], .none, .none, .none, .str "law_nt0117_01" 1239, none, .ref 771, .none, 0⟩, #[]⟩) ::
(nat_lit 778, ⟨.type "code", none, .fields #[.str "_law_compared" 1317, .str "_law_compared" 1318, .str "/claim/cut.py" 1319, .int 519 0, .int 4 0, .int 0 0, .int 0 0, .int 3 0, .ref 773, .bool true, .int 181 0, .ref 774, .none, .ref 775, .ref 776, .ref 777, .int 1328 0, .int 519 0, .str "/claim/cut.py" 1329], #[]⟩) ::
(nat_lit 779, ⟨.type "function", none, .func ⟨"_law_compared", "_law_compared", prm (tt 51), .stmts (bdy (tt 51)), scp (tt 51), 3, [], .none, .none, .none, .str "law_nt0117_01" 1239, none, .ref 778, .none, 0⟩, #[]⟩) ::
(nat_lit 785, ⟨.type "code", none, .fields #[.str "_law_led" 1331, .str "_law_led" 1332, .str "/claim/cut.py" 1333, .int 528 0, .int 2 0, .int 0 0, .int 0 0, .int 3 0, .ref 780, .bool true, .int 181 0, .ref 781, .none, .ref 782, .ref 783, .ref 784, .int 1336 0, .int 528 0, .str "/claim/cut.py" 1337], #[]⟩) ::
(nat_lit 786, ⟨.type "function", none, .func ⟨"_law_led", "_law_led", prm (tt 52), .stmts (bdy (tt 52)), scp (tt 52), 3, [], .none, .none, .none, .str "law_nt0117_01" 1239, none, .ref 785, .none, 0⟩, #[]⟩) ::
(nat_lit 792, ⟨.type "code", none, .fields #[.str "_law_affinity" 1339, .str "_law_affinity" 1340, .str "/claim/cut.py" 1341, .int 532 0, .int 1 0, .int 0 0, .int 0 0, .int 3 0, .ref 787, .bool true, .int 181 0, .ref 788, .none, .ref 789, .ref 790, .ref 791, .int 1343 0, .int 532 0, .str "/claim/cut.py" 1344], #[]⟩) ::
(nat_lit 793, ⟨.type "function", none, .func ⟨"_law_affinity", "_law_affinity", prm (tt 53), .stmts (bdy (tt 53)), scp (tt 53), 3, [], .none, .none, .none, .str "law_nt0117_01" 1239, none, .ref 792, .none, 0⟩, #[]⟩) ::
(nat_lit 797, ⟨.type "code", none, .fields #[.str "_law_pair" 1346, .str "_law_pair" 1347, .str "/claim/cut.py" 1348, .int 534 0, .int 4 0, .int 0 0, .int 0 0, .int 3 0, .ref 794, .bool true, .int 181 0, .ref 795, .none, .none, .none, .ref 796, .int 1349 0, .int 534 0, .str "/claim/cut.py" 1350], #[]⟩) ::
(nat_lit 798, ⟨.type "function", none, .func ⟨"_law_pair", "_law_pair", prm (tt 54), .stmts (bdy (tt 54)), scp (tt 54), 3, [], .none, .none, .none, .str "law_nt0117_01" 1239, none, .ref 797, .none, 0⟩, #[]⟩) ::
(nat_lit 804, ⟨.type "code", none, .fields #[.str "_law_named" 1352, .str "_law_named" 1353, .str "/claim/cut.py" 1354, .int 547 0, .int 1 0, .int 0 0, .int 0 0, .int 3 0, .ref 799, .bool true, .int 181 0, .ref 800, .none, .ref 801, .ref 802, .ref 803, .int 1356 0, .int 547 0, .str "/claim/cut.py" 1357], #[]⟩) ::
(nat_lit 805, ⟨.type "function", none, .func ⟨"_law_named", "_law_named", prm (tt 55), .stmts (bdy (tt 55)), scp (tt 55), 3, [], .none, .none, .none, .str "law_nt0117_01" 1239, none, .ref 804, .none, 0⟩, #[]⟩) ::
(nat_lit 811, ⟨.type "code", none, .fields #[.str "_law_either" 1359, .str "_law_either" 1360, .str "/claim/cut.py" 1361, .int 549 0, .int 3 0, .int 0 0, .int 0 0, .int 3 0, .ref 806, .bool true, .int 181 0, .ref 807, .none, .ref 808, .ref 809, .ref 810, .int 1366 0, .int 549 0, .str "/claim/cut.py" 1367], #[]⟩) ::
(nat_lit 812, ⟨.type "function", none, .func ⟨"_law_either", "_law_either", prm (tt 56), .stmts (bdy (tt 56)), scp (tt 56), 3, [], .none, .none, .none, .str "law_nt0117_01" 1239, none, .ref 811, .none, 0⟩, #[]⟩) ::
(nat_lit 818, ⟨.type "code", none, .fields #[.str "_law_opposite" 1369, .str "_law_opposite" 1370, .str "/claim/cut.py" 1371, .int 554 0, .int 2 0, .int 0 0, .int 0 0, .int 3 0, .ref 813, .bool true, .int 181 0, .ref 814, .none, .ref 815, .ref 816, .ref 817, .int 1374 0, .int 554 0, .str "/claim/cut.py" 1375], #[]⟩) ::
(nat_lit 819, ⟨.type "function", none, .func ⟨"_law_opposite", "_law_opposite", prm (tt 57), .stmts (bdy (tt 57)), scp (tt 57), 3, [], .none, .none, .none, .str "law_nt0117_01" 1239, none, .ref 818, .none, 0⟩, #[]⟩) ::
(nat_lit 823, ⟨.type "code", none, .fields #[.str "_law_found" 1377, .str "_law_found" 1378, .str "/claim/cut.py" 1379, .int 558 0, .int 3 0, .int 0 0, .int 0 0, .int 3 0, .ref 820, .bool true, .int 181 0, .ref 821, .none, .none, .none, .ref 822, .int 1380 0, .int 558 0, .str "/claim/cut.py" 1381], #[]⟩) ::
(nat_lit 824, ⟨.type "function", none, .func ⟨"_law_found", "_law_found", prm (tt 58), .stmts (bdy (tt 58)), scp (tt 58), 3, [], .none, .none, .none, .str "law_nt0117_01" 1239, none, .ref 823, .none, 0⟩, #[]⟩) ::
(nat_lit 830, ⟨.type "code", none, .fields #[.str "_law_joined" 1383, .str "_law_joined" 1384, .str "/claim/cut.py" 1385, .int 589 0, .int 4 0, .int 0 0, .int 0 0, .int 3 0, .ref 825, .bool true, .int 181 0, .ref 826, .none, .ref 827, .ref 828, .ref 829, .int 1392 0, .int 589 0, .str "/claim/cut.py" 1393], #[]⟩) ::
(nat_lit 831, ⟨.type "function", none, .func ⟨"_law_joined", "_law_joined", prm (tt 59), .stmts (bdy (tt 59)), scp (tt 59), 3, [], .none, .none, .none, .str "law_nt0117_01" 1239, none, .ref 830, .none, 0⟩, #[]⟩) ::
(nat_lit 837, ⟨.type "code", none, .fields #[.str "_law_told" 1395, .str "_law_told" 1396, .str "/claim/cut.py" 1397, .int 598 0, .int 2 0, .int 0 0, .int 0 0, .int 3 0, .ref 832, .bool true, .int 181 0, .ref 833, .none, .ref 834, .ref 835, .ref 836, .int 1408 0, .int 598 0, .str "/claim/cut.py" 1409], #[]⟩) ::
(nat_lit 838, ⟨.type "function", none, .func ⟨"_law_told", "_law_told", prm (tt 60), .stmts (bdy (tt 60)), scp (tt 60), 3, [], .none, .none, .none, .str "law_nt0117_01" 1239, none, .ref 837, .none, 0⟩, #[]⟩) ::
(nat_lit 844, ⟨.type "code", none, .fields #[.str "_law_jumps" 1411, .str "_law_jumps" 1412, .str "/claim/cut.py" 1413, .int 603 0, .int 2 0, .int 0 0, .int 0 0, .int 3 0, .ref 839, .bool true, .int 181 0, .ref 840, .none, .ref 841, .ref 842, .ref 843, .int 1423 0, .int 603 0, .str "/claim/cut.py" 1424], #[]⟩) ::
(nat_lit 845, ⟨.type "function", none, .func ⟨"_law_jumps", "_law_jumps", prm (tt 61), .stmts (bdy (tt 61)), scp (tt 61), 3, [], .none, .none, .none, .str "law_nt0117_01" 1239, none, .ref 844, .none, 0⟩, #[]⟩) ::
(nat_lit 851, ⟨.type "code", none, .fields #[.str "_law_run" 1426, .str "_law_run" 1427, .str "/claim/cut.py" 1428, .int 615 0, .int 2 0, .int 0 0, .int 0 0, .int 3 0, .ref 846, .bool true, .int 181 0, .ref 847, .none, .ref 848, .ref 849, .ref 850, .int 1440 0, .int 615 0, .str "/claim/cut.py" 1441], #[]⟩) ::
(nat_lit 852, ⟨.type "function", none, .func ⟨"_law_run", "_law_run", prm (tt 62), .stmts (bdy (tt 62)), scp (tt 62), 3, [], .none, .none, .none, .str "law_nt0117_01" 1239, none, .ref 851, .none, 0⟩, #[]⟩) ::
(nat_lit 858, ⟨.type "code", none, .fields #[.str "_law_coder" 1443, .str "_law_coder" 1444, .str "/claim/cut.py" 1445, .int 641 0, .int 2 0, .int 0 0, .int 0 0, .int 3 0, .ref 853, .bool true, .int 181 0, .ref 854, .none, .ref 855, .ref 856, .ref 857, .int 1451 0, .int 641 0, .str "/claim/cut.py" 1452], #[]⟩) ::
(nat_lit 859, ⟨.type "function", none, .func ⟨"_law_coder", "_law_coder", prm (tt 63), .stmts (bdy (tt 63)), scp (tt 63), 3, [], .none, .none, .none, .str "law_nt0117_01" 1239, none, .ref 858, .none, 0⟩, #[]⟩) ::
(nat_lit 865, ⟨.type "code", none, .fields #[.str "_law_jump_right" 1454, .str "_law_jump_right" 1455, .str "/claim/cut.py" 1456, .int 649 0, .int 5 0, .int 0 0, .int 0 0, .int 3 0, .ref 860, .bool true, .int 181 0, .ref 861, .none, .ref 862, .ref 863, .ref 864, .int 1470 0, .int 649 0, .str "/claim/cut.py" 1471], #[]⟩) ::
(nat_lit 866, ⟨.type "function", none, .func ⟨"_law_jump_right", "_law_jump_right", prm (tt 64), .stmts (bdy (tt 64)), scp (tt 64), 3, [], .none, .none, .none, .str "law_nt0117_01" 1239, none, .ref 865, .none, 0⟩, #[]⟩) ::
(nat_lit 872, ⟨.type "code", none, .fields #[.str "law" 1473, .str "law" 1474, .str "/claim/cut.py" 1475, .int 666 0, .int 1 0, .int 0 0, .int 0 0, .int 3 0, .ref 867, .bool true, .int 181 0, .ref 868, .none, .ref 869, .ref 870, .ref 871, .int 1484 0, .int 666 0, .str "/claim/cut.py" 1485], #[]⟩) ::
(nat_lit 873, ⟨.type "function", none, .func ⟨"law", "law", prm (tt 65), .stmts (bdy (tt 65)), scp (tt 65), 3, [], .none, .none, .none, .str "law_nt0117_01" 1239, none, .ref 872, .none, 0⟩, #[]⟩) :: []
noncomputable def as39 : List Addr := nat_lit 3 :: nat_lit 81 :: nat_lit 82 :: nat_lit 95 :: nat_lit 96 :: nat_lit 111 :: nat_lit 112 :: nat_lit 121 :: nat_lit 122 :: nat_lit 137 :: nat_lit 138 :: nat_lit 147 :: nat_lit 148 :: nat_lit 174 :: nat_lit 189 :: nat_lit 190 :: nat_lit 199 :: nat_lit 200 :: nat_lit 215 :: nat_lit 216 :: nat_lit 225 :: nat_lit 226 :: nat_lit 241 :: nat_lit 242 :: nat_lit 251 :: nat_lit 252 :: nat_lit 267 :: nat_lit 268 :: nat_lit 277 :: nat_lit 278 :: nat_lit 304 :: nat_lit 319 :: nat_lit 320 :: nat_lit 327 :: nat_lit 328 :: nat_lit 354 :: nat_lit 380 :: nat_lit 395 :: nat_lit 396 :: nat_lit 405 :: nat_lit 406 :: nat_lit 409 :: nat_lit 429 :: nat_lit 430 :: nat_lit 436 :: nat_lit 442 :: nat_lit 443 :: nat_lit 449 :: nat_lit 450 :: nat_lit 456 :: nat_lit 457 :: nat_lit 458 :: nat_lit 464 :: nat_lit 465 :: nat_lit 471 :: nat_lit 472 :: nat_lit 478 :: nat_lit 479 :: nat_lit 485 :: nat_lit 486 :: nat_lit 499 :: nat_lit 500 :: nat_lit 501 :: nat_lit 507 :: nat_lit 508 :: nat_lit 528 :: nat_lit 529 :: nat_lit 535 :: nat_lit 536 :: nat_lit 542 :: nat_lit 543 :: nat_lit 549 :: nat_lit 550 :: nat_lit 556 :: nat_lit 557 :: nat_lit 563 :: nat_lit 564 :: nat_lit 570 :: nat_lit 571 :: nat_lit 577 :: nat_lit 578 :: nat_lit 579 :: nat_lit 585 :: nat_lit 586 :: nat_lit 587 :: nat_lit 593 :: nat_lit 594 :: nat_lit 600 :: nat_lit 601 :: nat_lit 607 :: nat_lit 608 :: nat_lit 610 :: nat_lit 611 :: nat_lit 616 :: nat_lit 630 :: nat_lit 631 :: nat_lit 632 :: nat_lit 638 :: nat_lit 639 :: nat_lit 652 :: nat_lit 653 :: nat_lit 659 :: nat_lit 660 :: nat_lit 661 :: nat_lit 667 :: nat_lit 668 :: nat_lit 703 :: nat_lit 704 :: nat_lit 706 :: nat_lit 707 :: nat_lit 717 :: nat_lit 718 :: nat_lit 724 :: nat_lit 725 :: nat_lit 731 :: nat_lit 732 :: nat_lit 738 :: nat_lit 739 :: nat_lit 745 :: nat_lit 746 :: nat_lit 750 :: nat_lit 751 :: nat_lit 757 :: nat_lit 758 :: nat_lit 764 :: nat_lit 765 :: nat_lit 771 :: nat_lit 772 :: nat_lit 778 :: nat_lit 779 :: nat_lit 785 :: nat_lit 786 :: nat_lit 792 :: nat_lit 793 :: nat_lit 797 :: nat_lit 798 :: nat_lit 804 :: nat_lit 805 :: nat_lit 811 :: nat_lit 812 :: nat_lit 818 :: nat_lit 819 :: nat_lit 823 :: nat_lit 824 :: nat_lit 830 :: nat_lit 831 :: nat_lit 837 :: nat_lit 838 :: nat_lit 844 :: nat_lit 845 :: nat_lit 851 :: nat_lit 852 :: nat_lit 858 :: nat_lit 859 :: nat_lit 865 :: nat_lit 866 :: nat_lit 872 :: nat_lit 873 :: []
theorem as_ok : ∀ P, as39 = (K39 P).map (·.1) := fun P => by kernel_rfl
noncomputable def qm : Program := view pm [65]
noncomputable def lo : List Str := [Str.ofString "_wall", Str.ofString "PagebaseError", Str.ofString "MisuseError", Str.ofString "row_of", Str.ofString "rows_of", Str.ofString "Node", Str.ofString "Expr", Str.ofString "Literal", Str.ofString "Name", Str.ofString "Variable", Str.ofString "Unary", Str.ofString "Binary", Str.ofString "Between", Str.ofString "InList", Str.ofString "Scalar", Str.ofString "Case", Str.ofString "Cast", Str.ofString "Collate", Str.ofString "IsNull", Str.ofString "NUMERIC_AFFINITIES", Str.ofString "SPACES", Str.ofString "fold_ascii", Str.ofString "affinity_of_type", Str.ofString "comparison_affinities", Str.ofString "fold", Str.ofString "affinity_of", Str.ofString "explicit_collation", Str.ofString "column_collation", Str.ofString "collation_of", Str.ofString "comparison_collation"] ++ [Str.ofString "is_comparison", Str.ofString "opposite", Str.ofString "OperatorCoder", Str.ofString "JUMPS", Str.ofString "Program", Str.ofString "_law_pool", Str.ofString "_law_take", Str.ofString "_law_one", Str.ofString "_law_value", Str.ofString "_law_tree", Str.ofString "_law_node", Str.ofString "_law_number", Str.ofString "_law_true", Str.ofString "_law_class", Str.ofString "_law_compared", Str.ofString "_law_led", Str.ofString "_law_affinity", Str.ofString "_law_pair", Str.ofString "_law_named", Str.ofString "_law_either", Str.ofString "_law_opposite", Str.ofString "_law_found", Str.ofString "_law_joined", Str.ofString "_law_told", Str.ofString "_law_jumps", Str.ofString "_law_run", Str.ofString "_law_coder", Str.ofString "_law_jump_right"]
noncomputable abbrev xm (s : Shared) : Bool := xlAt qm [] s && recOk (RowW.records rr) s
noncomputable abbrev pE : Pos := ⟨666, 0, 675, 97⟩
noncomputable def rowS : String := "special-get-raises"
noncomputable abbrev kh : Hook := kHook K39 as39 as_ok
noncomputable def lk1 (w : World) (t : SharedT) := (t.n, as39.map (fun a => (t.tree.get a).bind alive), (staticsOk (importedModules pm.main.body) (boot_heap w.params) t.abs.heap && namesBound pm t.abs.heap && gensDone t.abs && laidKept (boot_heap w.params) t.abs.heap), openSeen qm lo (importedModules pm.main.body) xm true t.abs)
noncomputable def lk2 (w : World) (r : Flow × SharedT × Code × Pos) := (r.1, r.2.2.1, r.2.2.2, lk1 w r.2.1)
theorem run_f (w : World) (os : OsState) : (PySem.W.Fast.tw10110043849684766642 PySem.W.Fast.tw14364793385576792824 pm (w.withFollow rowS false) 11 an6 1 7700 (sA (w.withFollow rowS false) os) (piecesOf (behindTheImports pm) em cm p0 [topFrame p0])).map (lk2 (w.withFollow rowS false)) = some (.next, cm, pE, 874, (K39 (w.withFollow rowS false).params).map (fun p => some p.2), true, openGood qm lo) := by kernel_rfl
theorem run_t (w : World) (os : OsState) : (PySem.W.Fast.tw10110043849684766642 PySem.W.Fast.tw14364793385576792824 pm (w.withFollow rowS true) 11 an6 1 7700 (sA (w.withFollow rowS true) os) (piecesOf (behindTheImports pm) em cm p0 [topFrame p0])).map (lk2 (w.withFollow rowS true)) = some (.next, cm, pE, 874, (K39 (w.withFollow rowS true).params).map (fun p => some p.2), true, openGood qm lo) := by kernel_rfl
theorem obs_abs {t : BT} {n : Nat} {l : Life} : ∀ {as : List Addr} {os : List Obj}, as.map (fun a => (t.get a).bind alive) = os.map some → (∀ a ∈ as, a < n) → as.map (absHeap t n l).get? = os.map some
 | [], [], _, _ => rfl
 | [], _ :: _, h, _ => by cases h
 | _ :: _, [], h, _ => by cases h
 | a :: as, o :: os, h, k => by
  simp only [List.map_cons, List.cons.injEq] at h ⊢
  refine ⟨?_, obs_abs h.2 fun b hb => k b (by simp [hb])⟩
  cases g : t.get a with
  | none => rw [g] at h; cases h.1
  | some x =>
   rw [g] at h
   rw [abs_get (k a (by simp)) g]
   exact h.1
theorem as_lt : ∀ a ∈ as39, a < 874 := by decide +kernel
theorem end_of {w : World} {os : OsState} (h : (PySem.W.Fast.tw10110043849684766642 PySem.W.Fast.tw14364793385576792824 pm w 11 an6 1 7700 (sA w os) (piecesOf (behindTheImports pm) em cm p0 [topFrame p0])).map (lk2 w) = some (.next, cm, pE, 874, (K39 w.params).map (fun p => some p.2), true, openGood qm lo)) :
  ∃ s₁, topRun treeTable pm w 11 an6 (12 + (1 + (7700 + 2))) ⟨boot_heap w.params, Array.mk [], boot_drawn, boot_toks, os⟩ (topStub pm) = some s₁ ∧
   ((staticsOk (importedModules pm.main.body) (boot_heap w.params) s₁.heap && namesBound pm s₁.heap && gensDone s₁ && laidKept (boot_heap w.params) s₁.heap), openSeen qm lo (importedModules pm.main.body) xm true s₁, kh.obs s₁) = (true, openGood qm lo, kh.val w) := by
 rw [← PySem.W.Fast.te10110043849684766642, ← PySem.W.Fast.te14364793385576792824] at h
 obtain ⟨⟨f, s', c, q⟩, e, l⟩ := Option.map_eq_some_iff.mp h
 simp only [lk2, lk1, Prod.mk.injEq] at l
 obtain ⟨rfl, rfl, rfl, hn, ho, hs, hg⟩ := l
 refine ⟨s'.abs, go_top (pre_pm w os) (piece_block (blk_pm w os) ?_), ?_⟩
 ·have := piece_app (rest := []) (segRun_of e) (piece_nil fin_any)
  rw [List.append_nil] at this
  exact this
 ·refine Prod.ext hs (Prod.ext hg ?_)
  have k := obs_abs (t := s'.tree) (n := s'.n) (l := s'.life) (as := as39) (os := (K39 w.params).map (·.2)) (by rw [ho, List.map_map]; rfl) (by rw [hn]; exact as_lt)
  rw [List.map_map] at k
  exact k
theorem left_pm : LeftO pm qm lo xm kh.obs kh.val 8000 true :=
 left_of (op_pm 8000 rfl) size_pm (fun w => byRow2 rowS (P := fun w => ∀ os, ∃ s₁, topRun treeTable pm w 11 an6 (12 + (1 + (7700 + 2))) ⟨boot_heap w.params, Array.mk [], boot_drawn, boot_toks, os⟩ (topStub pm) = some s₁ ∧
   ((staticsOk (importedModules pm.main.body) (boot_heap w.params) s₁.heap && namesBound pm s₁.heap && gensDone s₁ && laidKept (boot_heap w.params) s₁.heap), openSeen qm lo (importedModules pm.main.body) xm true s₁, kh.obs s₁) = (true, openGood qm lo, kh.val w)) (fun w os => end_of (run_f w os)) (fun w os => end_of (run_t w os)) w) (by decide)
set_option maxHeartbeats 200000
theorem byC {p : Prop} (h : (p → False) → False) : p := Classical.byContradiction h
inductive D where
 | none
 | bool (b : Bool)
 | int (i : Int)
 | str (s : Str)
 | tup (l : List D)
 | lst (l : List D)
 | dics (l : List (Str × D))
 | dici (l : List (Int × D))
 | obj (c : Addr) (fs : List (Str × D))
 | inst (c : Addr) (d : Addr)
 | mlst (a : Addr)
 | mdic (a : Addr)
inductive MObj where
 | attrs (fs : List (Str × D))
 | list (l : List D)
 | dict (e : Nat) (l : List (Int × D))
noncomputable abbrev Fz := Addr → Option Obj
noncomputable def slook : List (Str × D) → Str → Option D
 | [], _ => none
 | f :: r, x => if f.1 = x then some f.2 else slook r x
noncomputable abbrev Sto := Addr → Option MObj
section
variable (prog : Program) (w : World) (B : Fz)
mutual
inductive Rp : Value → D → Prop where
 | none : Rp .none .none
 | bool (b) : Rp (.bool b) (.bool b)
 | int (i t) : Rp (.int i t) (.int i)
 | str {x} (t) : PyData.strOk x = true → Rp (.str x t) (.str x)
 | tup {a o vs n ds} : B a = some o → o.cls = .type "tuple" → o.data = .seq vs n → Rps vs.toList ds → Rp (.ref a) (.tup ds)
 | lst {a o vs n ds} : B a = some o → o.cls = .type "list" → o.data = .seq vs n → Rps vs.toList ds → Rp (.ref a) (.lst ds)
 | dics {a o kvs ds} : B a = some o → o.IsDictOf (strKind prog w) kvs → (a == sysModules) = false → RpK kvs ds → Rp (.ref a) (.dics ds)
 | dici {a o kvs ds} : B a = some o → o.IsDictOf (intKind prog w) kvs → (a == sysModules) = false → RpZ kvs ds → Rp (.ref a) (.dici ds)
 | obj {a c d es n fs} : B a = some (instObj c d) → B d = some (dictOf es n) → RpS es fs → Rp (.ref a) (.obj c fs)
 | inst {a c d} : B a = some (instObj c d) → Rp (.ref a) (.inst c d)
 | mlst (a) : Rp (.ref a) (.mlst a)
 | mdic {a} : (a == sysModules) = false → Rp (.ref a) (.mdic a)
inductive Rps : List Value → List D → Prop where
 | nil : Rps [] []
 | cons {v d vs ds} : Rp v d → Rps vs ds → Rps (v :: vs) (d :: ds)
inductive RpS : List DictEntry → List (Str × D) → Prop where
 | nil : RpS [] []
 | cons {x t h v d es ds} : Rp v d → RpS es ds → RpS (⟨h, .str x t, v⟩ :: es) ((x, d) :: ds)
inductive RpK : List (Str × Value) → List (Str × D) → Prop where
 | nil : RpK [] []
 | cons {x v d es ds} : Rp v d → RpK es ds → RpK ((x, v) :: es) ((x, d) :: ds)
inductive RpZ : List (Int × Value) → List (Int × D) → Prop where
 | nil : RpZ [] []
 | cons {x v d es ds} : Rp v d → RpZ es ds → RpZ ((x, v) :: es) ((x, d) :: ds)
end
end
section
variable {prog : Program} {w : World} {B B' : Fz}
theorem Rp.mono (k : ∀ a o, B a = some o → B' a = some o) {v d} (x : Rp prog w B v d) : Rp prog w B' v d :=
 Rp.rec (motive_1 := fun v d _ => Rp prog w B' v d) (motive_2 := fun v d _ => Rps prog w B' v d) (motive_3 := fun v d _ => RpS prog w B' v d) (motive_4 := fun v d _ => RpK prog w B' v d) (motive_5 := fun v d _ => RpZ prog w B' v d) .none .bool .int .str (fun h c d _ r => .tup (k _ _ h) c d r) (fun h c d _ r => .lst (k _ _ h) c d r) (fun h c d _ r => .dics (k _ _ h) c d r) (fun h c d _ r => .dici (k _ _ h) c d r) (fun h c _ r => .obj (k _ _ h) (k _ _ c) r) (fun h => .inst (k _ _ h)) .mlst .mdic .nil (fun _ _ h r => .cons h r) .nil (fun _ _ h r => .cons h r) .nil (fun _ _ h r => .cons h r) .nil (fun _ _ h r => .cons h r) x
theorem Rps.mono (k : ∀ a o, B a = some o → B' a = some o) {v d} (x : Rps prog w B v d) : Rps prog w B' v d :=
 Rps.rec (motive_1 := fun v d _ => Rp prog w B' v d) (motive_2 := fun v d _ => Rps prog w B' v d) (motive_3 := fun v d _ => RpS prog w B' v d) (motive_4 := fun v d _ => RpK prog w B' v d) (motive_5 := fun v d _ => RpZ prog w B' v d) .none .bool .int .str (fun h c d _ r => .tup (k _ _ h) c d r) (fun h c d _ r => .lst (k _ _ h) c d r) (fun h c d _ r => .dics (k _ _ h) c d r) (fun h c d _ r => .dici (k _ _ h) c d r) (fun h c _ r => .obj (k _ _ h) (k _ _ c) r) (fun h => .inst (k _ _ h)) .mlst .mdic .nil (fun _ _ h r => .cons h r) .nil (fun _ _ h r => .cons h r) .nil (fun _ _ h r => .cons h r) .nil (fun _ _ h r => .cons h r) x
theorem RpS.mono (k : ∀ a o, B a = some o → B' a = some o) {v d} (x : RpS prog w B v d) : RpS prog w B' v d :=
 RpS.rec (motive_1 := fun v d _ => Rp prog w B' v d) (motive_2 := fun v d _ => Rps prog w B' v d) (motive_3 := fun v d _ => RpS prog w B' v d) (motive_4 := fun v d _ => RpK prog w B' v d) (motive_5 := fun v d _ => RpZ prog w B' v d) .none .bool .int .str (fun h c d _ r => .tup (k _ _ h) c d r) (fun h c d _ r => .lst (k _ _ h) c d r) (fun h c d _ r => .dics (k _ _ h) c d r) (fun h c d _ r => .dici (k _ _ h) c d r) (fun h c _ r => .obj (k _ _ h) (k _ _ c) r) (fun h => .inst (k _ _ h)) .mlst .mdic .nil (fun _ _ h r => .cons h r) .nil (fun _ _ h r => .cons h r) .nil (fun _ _ h r => .cons h r) .nil (fun _ _ h r => .cons h r) x
theorem RpK.mono (k : ∀ a o, B a = some o → B' a = some o) {v d} (x : RpK prog w B v d) : RpK prog w B' v d :=
 RpK.rec (motive_1 := fun v d _ => Rp prog w B' v d) (motive_2 := fun v d _ => Rps prog w B' v d) (motive_3 := fun v d _ => RpS prog w B' v d) (motive_4 := fun v d _ => RpK prog w B' v d) (motive_5 := fun v d _ => RpZ prog w B' v d) .none .bool .int .str (fun h c d _ r => .tup (k _ _ h) c d r) (fun h c d _ r => .lst (k _ _ h) c d r) (fun h c d _ r => .dics (k _ _ h) c d r) (fun h c d _ r => .dici (k _ _ h) c d r) (fun h c _ r => .obj (k _ _ h) (k _ _ c) r) (fun h => .inst (k _ _ h)) .mlst .mdic .nil (fun _ _ h r => .cons h r) .nil (fun _ _ h r => .cons h r) .nil (fun _ _ h r => .cons h r) .nil (fun _ _ h r => .cons h r) x
theorem RpZ.mono (k : ∀ a o, B a = some o → B' a = some o) {v d} (x : RpZ prog w B v d) : RpZ prog w B' v d :=
 RpZ.rec (motive_1 := fun v d _ => Rp prog w B' v d) (motive_2 := fun v d _ => Rps prog w B' v d) (motive_3 := fun v d _ => RpS prog w B' v d) (motive_4 := fun v d _ => RpK prog w B' v d) (motive_5 := fun v d _ => RpZ prog w B' v d) .none .bool .int .str (fun h c d _ r => .tup (k _ _ h) c d r) (fun h c d _ r => .lst (k _ _ h) c d r) (fun h c d _ r => .dics (k _ _ h) c d r) (fun h c d _ r => .dici (k _ _ h) c d r) (fun h c _ r => .obj (k _ _ h) (k _ _ c) r) (fun h => .inst (k _ _ h)) .mlst .mdic .nil (fun _ _ h r => .cons h r) .nil (fun _ _ h r => .cons h r) .nil (fun _ _ h r => .cons h r) .nil (fun _ _ h r => .cons h r) x
noncomputable def RpInv (prog : Program) (w : World) (B : Fz) (v : Value) : D → Prop
 | .none => v = .none
 | .bool b => v = .bool b
 | .int i => ∃ t, v = .int i t
 | .str x => ∃ t, v = .str x t ∧ PyData.strOk x = true
 | .tup ds => ∃ a o vs n, v = .ref a ∧ B a = some o ∧ o.cls = .type "tuple" ∧ o.data = .seq vs n ∧ Rps prog w B vs.toList ds
 | .lst ds => ∃ a o vs n, v = .ref a ∧ B a = some o ∧ o.cls = .type "list" ∧ o.data = .seq vs n ∧ Rps prog w B vs.toList ds
 | .dics ds => ∃ a o kvs, v = .ref a ∧ B a = some o ∧ o.IsDictOf (strKind prog w) kvs ∧ (a == sysModules) = false ∧ RpK prog w B kvs ds
 | .dici ds => ∃ a o kvs, v = .ref a ∧ B a = some o ∧ o.IsDictOf (intKind prog w) kvs ∧ (a == sysModules) = false ∧ RpZ prog w B kvs ds
 | .obj c fs => ∃ a d es n, v = .ref a ∧ B a = some (instObj c d) ∧ B d = some (dictOf es n) ∧ RpS prog w B es fs
 | .inst c d => ∃ a, v = .ref a ∧ B a = some (instObj c d)
 | .mlst a => v = .ref a
 | .mdic a => v = .ref a ∧ (a == sysModules) = false
theorem Rp.inv {v d} (h : Rp prog w B v d) : RpInv prog w B v d := by
 cases h with
 | none => rfl
 | bool => rfl
 | int i t => exact ⟨t, rfl⟩
 | str t h => exact ⟨t, rfl, h⟩
 | tup h c d r => exact ⟨_, _, _, _, rfl, h, c, d, r⟩
 | lst h c d r => exact ⟨_, _, _, _, rfl, h, c, d, r⟩
 | dics h c d r => exact ⟨_, _, _, rfl, h, c, d, r⟩
 | dici h c d r => exact ⟨_, _, _, rfl, h, c, d, r⟩
 | obj h c r => exact ⟨_, _, _, _, rfl, h, c, r⟩
 | inst h => exact ⟨_, rfl, h⟩
 | mlst => rfl
 | mdic h => exact ⟨rfl, h⟩
noncomputable def RpsInv (prog : Program) (w : World) (B : Fz) (vs : List Value) : List D → Prop
 | [] => vs = []
 | d :: ds => ∃ v us, vs = v :: us ∧ Rp prog w B v d ∧ Rps prog w B us ds
theorem Rps.inv {vs ds} (h : Rps prog w B vs ds) : RpsInv prog w B vs ds := by
 cases h with
 | nil => rfl
 | cons h r => exact ⟨_, _, rfl, h, r⟩
theorem Rps.one {vs d} (h : Rps prog w B vs [d]) : ∃ v, vs = [v] ∧ Rp prog w B v d :=
 let ⟨v, us, e, h1, r⟩ := h.inv
 ⟨v, by rw [e, show us = [] from r.inv], h1⟩
theorem Rps.two {vs d e} (h : Rps prog w B vs [d, e]) : ∃ v u, vs = [v, u] ∧ Rp prog w B v d ∧ Rp prog w B u e :=
 let ⟨v, us, e, h1, r⟩ := h.inv
 let ⟨u, e2, h2⟩ := r.one
 ⟨v, u, by rw [e, e2], h1, h2⟩
theorem Rps.length {vs ds} (h : Rps prog w B vs ds) : vs.length = ds.length := by
 induction vs generalizing ds with
 | nil => cases h; rfl
 | cons v vs ih => cases h with | cons _ r => simp [ih r]
theorem Rps.get {vs ds} (h : Rps prog w B vs ds) {i : Nat} {d : D} (e : ds[i]? = some d) : ∃ v, vs[i]? = some v ∧ Rp prog w B v d := by
 induction vs generalizing ds i with
 | nil => cases h; simp at e
 | cons v vs ih =>
  cases h with
  | cons h1 r =>
   cases i with
   | zero => simp at e; subst e; exact ⟨v, rfl, h1⟩
   | succ i => simpa using ih r (by simpa using e)
theorem Rps.append {vs ds us es} (h : Rps prog w B vs ds) (g : Rps prog w B us es) : Rps prog w B (vs ++ us) (ds ++ es) := by
 induction vs generalizing ds with
 | nil => cases h; exact g
 | cons v vs ih => cases h with | cons h1 r => exact .cons h1 (ih r)
theorem Rps.drop {vs ds} (h : Rps prog w B vs ds) (n : Nat) : Rps prog w B (vs.drop n) (ds.drop n) := by
 induction n generalizing vs ds with
 | zero => simpa using h
 | succ n ih => cases h with
  | nil => simpa using Rps.nil
  | cons _ r => simpa using ih r
theorem Rps.take {vs ds} (h : Rps prog w B vs ds) (n : Nat) : Rps prog w B (vs.take n) (ds.take n) := by
 induction n generalizing vs ds with
 | zero => simpa using Rps.nil
 | succ n ih => cases h with
  | nil => simpa using Rps.nil
  | cons h1 r => simpa using Rps.cons h1 (ih r)
theorem Rps.set {vs ds} (h : Rps prog w B vs ds) {v d} (hv : Rp prog w B v d) (i : Nat) : Rps prog w B (vs.set i v) (ds.set i d) := by
 induction vs generalizing ds i with
 | nil => cases h; simpa using Rps.nil
 | cons u vs ih =>
  cases h with
  | cons h1 r =>
   cases i with
   | zero => exact .cons hv r
   | succ i => exact .cons h1 (ih r i)
theorem RpS.find? {es fs} (h : RpS prog w B es fs) {x : Str} {d : D} (e : slook fs x = some d) : ∃ en, es.find? (·.key.isStr x) = some en ∧ Rp prog w B en.val d := by
 induction fs generalizing es with
 | nil => cases e
 | cons f fs ih =>
  cases h with
  | @cons y t hh v d' es' _ hv r =>
   rw [slook] at e
   rw [List.find?_cons]
   by_cases q : y = x
   ·subst q
    simp at e; subst e
    exact ⟨⟨hh, .str y t, v⟩, by simp [Value.isStr], hv⟩
   ·have q2 : (Value.str y t).isStr x = false := by simp [Value.isStr, q]
    simp only [q, if_false] at e
    obtain ⟨en, hv', hr⟩ := ih r e
    refine ⟨en, ?_, hr⟩
    simp only [q2]; exact hv'
theorem RpS.find {es fs} (h : RpS prog w B es fs) {x : Str} {d : D} (e : slook fs x = some d) : ∃ v, getL x es = some (some v) ∧ Rp prog w B v d := by
 obtain ⟨en, h1, h2⟩ := h.find? e
 exact ⟨en.val, by unfold getL; rw [h1], h2⟩
theorem RpS.noRef {es fs} (h : RpS prog w B es fs) : es.any (·.refKey) = false := by
 induction es generalizing fs with
 | nil => rfl
 | cons e es ih => cases h with | cons _ r => rw [List.any_cons, ih r]; rfl
theorem RpS.missing {es fs} (h : RpS prog w B es fs) {x : Str} (e : slook fs x = none) : getL x es = some none := by
 have hn := h.noRef
 unfold getL
 have : es.find? (·.key.isStr x) = none := by
  clear hn
  induction fs generalizing es with
  | nil => cases h; rfl
  | cons f fs ih =>
   cases h with
   | @cons y t hh v d' es' _ hv r =>
    rw [slook] at e
    by_cases q : y = x
    ·simp [q] at e
    ·simp only [q, if_false] at e
     rw [List.find?_cons]
     have q2 : (Value.str y t).isStr x = false := by simp [Value.isStr, q]
     simp only [q2]; exact ih r e
 rw [this, hn]; rfl
noncomputable def setF (x : Str) (d : D) : List (Str × D) → List (Str × D)
 | [] => [(x, d)]
 | f :: fs => if x = f.1 then (f.1, d) :: fs else f :: setF x d fs
theorem RpS.put {es fs} (h : RpS prog w B es fs) {x : Str} {v : Value} {d : D} (hv : Rp prog w B v d) (hs : Int) (t : Tok) : RpS prog w B (putL x hs (.str x t) v es) (setF x d fs) := by
 induction fs generalizing es with
 | nil => cases h; exact .cons hv .nil
 | cons f fs ih =>
  cases h with
  | @cons y t' hh v' d' es' _ hv' r =>
   unfold putL setF
   by_cases q : x = y
   ·subst q
    rw [if_pos rfl, if_pos (by simp [Value.isStr])]
    exact .cons hv r
   ·rw [if_neg q, if_neg (by simp [Value.isStr, Ne.symm q])]
    exact .cons hv' (ih r)
end
section
variable (prog : Program) (w : World) (h₀ : Heap)
noncomputable def MR (B : Fz) : MObj → Obj → Prop
 | .attrs fs, o => ∃ es n, o = dictOf es n ∧ RpS prog w B es fs
 | .list l, o => ∃ vs n, o = { cls := .type "list", data := .seq vs n } ∧ Rps prog w B vs.toList l
 | .dict e l, o => ∃ kvs, o.IsDictOf (intKind prog w) kvs ∧ RpZ prog w B kvs l ∧ ∃ es, o.data = .dict es e
structure St (B : Fz) (σ : Sto) (h : Heap) : Prop where
 base : ∀ a o, h₀.get? a = some o → B a = some o
 fz : ∀ a o, B a = some o → h.get? a = some o
 mu : ∀ a m, σ a = some m → ∃ o, h.get? a = some o ∧ MR prog w B m o
 dj : ∀ a m, σ a = some m → B a = none
structure Ext (own : List Addr) (B : Fz) (σ : Sto) (h : Heap) (B' : Fz) (σ' : Sto) (h' : Heap) : Prop where
 le : ∀ a o, B a = some o → B' a = some o
 keep : ∀ a o, h.get? a = some o → σ a = none → a ∉ own → h'.get? a = some o
 grab : ∀ a o, h.get? a = some o → σ a = none → B a = none → σ' a = none ∧ B' a = none
 there : ∀ a o, h.get? a = some o → ∃ o', h'.get? a = some o'
structure Go (own : List Addr) (B : Fz) (σ : Sto) (s : Shared) (B' : Fz) (σ' : Sto) (s' : Shared) : Prop where
 st : St prog w h₀ B' σ' s'.heap
 ext : Ext own B σ s.heap B' σ' s'.heap
 gens : s'.gens = s.gens
 os : s'.os = s.os
end
section
variable {prog : Program} {w : World} {h₀ : Heap} {B B' B'' : Fz} {σ σ' σ'' : Sto} {h h' h'' : Heap} {s s' s'' : Shared} {own : List Addr}
theorem MR.mono (k : ∀ a o, B a = some o → B' a = some o) {m : MObj} {o : Obj} (x : MR prog w B m o) : MR prog w B' m o := by
 cases m with
 | attrs fs => obtain ⟨es, n, e, r⟩ := x; exact ⟨es, n, e, r.mono k⟩
 | list l => obtain ⟨vs, n, e, r⟩ := x; exact ⟨vs, n, e, r.mono k⟩
 | dict e l => obtain ⟨kvs, e, r, q⟩ := x; exact ⟨kvs, e, r.mono k, q⟩
theorem MR.lst {l : List D} {o : Obj} (x : MR prog w B (.list l) o) : o.cls = .type "list" ∧ ∃ vs n, o.data = .seq vs n ∧ Rps prog w B vs.toList l := by
 obtain ⟨vs, n, rfl, r⟩ := x; exact ⟨rfl, vs, n, rfl, r⟩
theorem Ext.refl (own) : Ext own B σ h B σ h := ⟨fun _ _ e => e, fun _ _ e _ _ => e, fun _ _ _ a b => ⟨a, b⟩, fun _ o e => ⟨o, e⟩⟩
theorem Ext.noS (x : Ext own B σ h B' σ' h') (st : St prog w h₀ B' σ' h') {a : Addr} {o : Obj} (ha : h.get? a = some o) (hs : σ a = none) : σ' a = none := by
 cases hb : B a with
 | none => exact (x.grab a o ha hs hb).1
 | some o =>
  cases q : σ' a with
  | none => rfl
  | some m => have := st.dj a m q; rw [x.le a o hb] at this; cases this
theorem Ext.trans (x : Ext own B σ h B' σ' h') (st : St prog w h₀ B' σ' h') (y : Ext own B' σ' h' B'' σ'' h'') : Ext own B σ h B'' σ'' h'' := by
 refine ⟨fun a o e => y.le a o (x.le a o e), fun a o e hs ho => y.keep a o (x.keep a o e hs ho) (x.noS st e hs) ho, fun a o e hs hb => ?_, fun a o e => ?_⟩
 ·obtain ⟨p, q⟩ := x.grab a o e hs hb
  obtain ⟨o', e'⟩ := x.there a o e
  exact y.grab a o' e' p q
 ·obtain ⟨o', e'⟩ := x.there a o e
  exact y.there a o' e'
theorem Ext.to {own' : List Addr} (x : Ext own B σ h B' σ' h') (k : ∀ a ∈ own, a ∈ own' ∨ h.get? a = none) : Ext own' B σ h B' σ' h' :=
 ⟨x.le, fun a o e hs ho => x.keep a o e hs fun hm => (k a hm).elim ho (fun q => by rw [e] at q; cases q), x.grab, x.there⟩
theorem Go.refl (own) (st : St prog w h₀ B σ s.heap) : Go prog w h₀ own B σ s B σ s := ⟨st, .refl _, rfl, rfl⟩
theorem Go.trans (x : Go prog w h₀ own B σ s B' σ' s') (y : Go prog w h₀ own B' σ' s' B'' σ'' s'') : Go prog w h₀ own B σ s B'' σ'' s'' :=
 ⟨y.st, x.ext.trans x.st y.ext, y.gens.trans x.gens, y.os.trans x.os⟩
theorem Go.to {own' : List Addr} (x : Go prog w h₀ own B σ s B' σ' s') (k : ∀ a ∈ own, a ∈ own' ∨ s.heap.get? a = none) : Go prog w h₀ own' B σ s B' σ' s' := ⟨x.st, x.ext.to k, x.gens, x.os⟩
theorem Go.any (x : Go prog w h₀ [] B σ s B' σ' s') : Go prog w h₀ own B σ s B' σ' s' := x.to fun _ h => nomatch h
theorem Go.toks (st : St prog w h₀ B σ s.heap) (t : Nat) : Go prog w h₀ own B σ s B σ { s with toks := t } := ⟨st, .refl _, rfl, rfl⟩
noncomputable def up {α : Type} (f : Addr → Option α) (a : Addr) (x : Option α) : Addr → Option α := fun b => if b = a then x else f b
@[simp] theorem Z2 {α : Type} (f : Addr → Option α) (a : Addr) (x : Option α) : up f a x a = x := if_pos rfl
theorem Z4 {α : Type} (f : Addr → Option α) {a b : Addr} (x : Option α) (h : b ≠ a) : up f a x b = f b := if_neg h
theorem St.lt (st : St prog w h₀ B σ h) {a : Addr} {o : Obj} (e : B a = some o) : a < h.objs.size := Heap.lt_size (st.fz a o e)
theorem St.ltS (st : St prog w h₀ B σ h) {a : Addr} {m : MObj} (e : σ a = some m) : a < h.objs.size := let ⟨_, ho, _⟩ := st.mu a m e; Heap.lt_size ho
theorem St.newB (st : St prog w h₀ B σ h) : B h.objs.size = none := by
 cases q : B h.objs.size with
 | none => rfl
 | some o => exact absurd (st.lt q) (Nat.lt_irrefl _)
theorem St.newS (st : St prog w h₀ B σ h) : σ h.objs.size = none := by
 cases q : σ h.objs.size with
 | none => rfl
 | some o => exact absurd (st.ltS q) (Nat.lt_irrefl _)
theorem St.baseHeap (st : St prog w h₀ B σ h) : ∀ a o, h₀.get? a = some o → h.get? a = some o := fun a o e => st.fz a o (st.base a o e)
theorem St.allocB (st : St prog w h₀ B σ h) (o : Obj) (hf : o.isFreed = false) : St prog w h₀ (up B h.objs.size (some o)) σ (h.push o) ∧ Ext [] B σ h (up B h.objs.size (some o)) σ (h.push o) := by
 have le : ∀ a o', B a = some o' → up B h.objs.size (some o) a = some o' := fun a o' e => (Z4 _ _ (Nat.ne_of_lt (st.lt e))).trans e
 refine ⟨⟨fun a o' e => le a o' (st.base a o' e), fun a o' e => ?_, fun a m e => ?_, fun a m e => ?_⟩, ⟨le, fun a o' e _ _ => Heap.get?_push_of_some _ e, fun a o' e hs hb => ⟨hs, (Z4 _ _ (Nat.ne_of_lt (Heap.lt_size e))).trans hb⟩, fun a o' e => ⟨o', Heap.get?_push_of_some _ e⟩⟩⟩
 ·by_cases q : a = h.objs.size
  ·subst q; rw [Z2] at e; cases e; exact Heap.get?_push_size _ hf
  ·rw [Z4 _ _ q] at e; exact Heap.get?_push_of_some _ (st.fz a o' e)
 ·obtain ⟨o', ho, hm⟩ := st.mu a m e
  exact ⟨o', Heap.get?_push_of_some _ ho, hm.mono le⟩
 ·rw [Z4 _ _ (Nat.ne_of_lt (st.ltS e))]; exact st.dj a m e
theorem St.alloc0 (st : St prog w h₀ B σ h) (o : Obj) : St prog w h₀ B σ (h.push o) ∧ Ext [] B σ h B σ (h.push o) :=
 ⟨⟨st.base, fun a o' e => Heap.get?_push_of_some _ (st.fz a o' e), fun a m e => let ⟨o', ho, hm⟩ := st.mu a m e; ⟨o', Heap.get?_push_of_some _ ho, hm⟩, st.dj⟩,
  ⟨fun _ _ e => e, fun a o' e _ _ => Heap.get?_push_of_some _ e, fun a _ _ hs hb => ⟨hs, hb⟩, fun a o' e => ⟨o', Heap.get?_push_of_some _ e⟩⟩⟩
theorem St.allocS (st : St prog w h₀ B σ h) (o : Obj) (m : MObj) (hm : MR prog w B m o) (hf : o.isFreed = false) : St prog w h₀ B (up σ h.objs.size (some m)) (h.push o) ∧ Ext [] B σ h B (up σ h.objs.size (some m)) (h.push o) := by
 refine ⟨⟨st.base, fun a o' e => Heap.get?_push_of_some _ (st.fz a o' e), fun a m' e => ?_, fun a m' e => ?_⟩,
  ⟨fun _ _ e => e, fun a o' e _ _ => Heap.get?_push_of_some _ e, fun a o' e hs hb => ⟨(Z4 _ _ (Nat.ne_of_lt (Heap.lt_size e))).trans hs, hb⟩, fun a o' e => ⟨o', Heap.get?_push_of_some _ e⟩⟩⟩
 ·by_cases q : a = h.objs.size
  ·subst q; rw [Z2] at e; cases e; exact ⟨o, Heap.get?_push_size _ hf, hm⟩
  ·rw [Z4 _ _ q] at e
   obtain ⟨o', ho, hm'⟩ := st.mu a m' e
   exact ⟨o', Heap.get?_push_of_some _ ho, hm'⟩
 ·by_cases q : a = h.objs.size
  ·subst q; exact st.newB
  ·rw [Z4 _ _ q] at e; exact st.dj a m' e
theorem St.change (st : St prog w h₀ B σ h) {a : Addr} {m₀ m : MObj} {o : Obj} (hs : σ a = some m₀) (sb : Heap.SameBut a h h') (ho : h'.get? a = some o) (hm : MR prog w B m o) :
  St prog w h₀ B (up σ a (some m)) h' ∧ Ext [] B σ h B (up σ a (some m)) h' := by
 have nb := st.dj a m₀ hs
 refine ⟨⟨st.base, fun b o' e => (sb.2 b fun q => by subst q; rw [nb] at e; cases e).trans (st.fz b o' e), fun b m' e => ?_, fun b m' e => ?_⟩,
  ⟨fun _ _ e => e, fun b o' e hb _ => (sb.2 b fun q => by subst q; rw [hs] at hb; cases hb).trans e, fun b _ _ hb hB => ⟨(Z4 _ _ fun q => by subst q; rw [hs] at hb; cases hb).trans hb, hB⟩, fun b o' e => ?_⟩⟩
 ·by_cases q : b = a
  ·subst q; rw [Z2] at e; cases e; exact ⟨o, ho, hm⟩
  ·rw [Z4 _ _ q] at e
   obtain ⟨o', ho', hm'⟩ := st.mu b m' e
   exact ⟨o', (sb.2 b q).trans ho', hm'⟩
 ·by_cases q : b = a
  ·subst q; exact nb
  ·rw [Z4 _ _ q] at e; exact st.dj b m' e
 ·by_cases q : b = a
  ·subst q; exact ⟨o, ho⟩
  ·exact ⟨o', (sb.2 b q).trans e⟩
theorem St.owned (st : St prog w h₀ B σ h) {a : Addr} {o : Obj} (ho : h'.get? a = some o) (hs : σ a = none) (hB : B a = none) (sb : Heap.SameBut a h h') (ha : a ∈ own) :
  St prog w h₀ B σ h' ∧ Ext own B σ h B σ h' := by
 refine ⟨⟨st.base, fun b o' e => (sb.2 b fun q => by subst q; rw [hB] at e; cases e).trans (st.fz b o' e), fun b m' e => ?_, st.dj⟩,
  ⟨fun _ _ e => e, fun b o' e hb hn => (sb.2 b fun q => by subst q; exact hn ha).trans e, fun b _ _ hb hB => ⟨hb, hB⟩, fun b o' e => ?_⟩⟩
 ·obtain ⟨o', ho', hm'⟩ := st.mu b m' e
  exact ⟨o', (sb.2 b fun q => by subst q; rw [hs] at e; cases e).trans ho', hm'⟩
 ·by_cases q : b = a
  ·subst q; exact ⟨o, ho⟩
  ·exact ⟨o', (sb.2 b q).trans e⟩
theorem St.freeze (st : St prog w h₀ B σ h) {a : Addr} {m : MObj} {o : Obj} (hs : σ a = some m) (ho : h.get? a = some o) :
  St prog w h₀ (up B a (some o)) (up σ a none) h ∧ Ext [] B σ h (up B a (some o)) (up σ a none) h := by
 have nb := st.dj a m hs
 have le : ∀ b o', B b = some o' → up B a (some o) b = some o' := fun b o' e => (Z4 _ _ fun q => by subst q; rw [nb] at e; cases e).trans e
 refine ⟨⟨fun b o' e => le b o' (st.base b o' e), fun b o' e => ?_, fun b m' e => ?_, fun b m' e => ?_⟩,
  ⟨le, fun b o' e _ _ => e, fun b _ _ hb hB => ?_, fun b o' e => ⟨o', e⟩⟩⟩
 ·by_cases q : b = a
  ·subst q; rw [Z2] at e; cases e; exact ho
  ·rw [Z4 _ _ q] at e; exact st.fz b o' e
 ·by_cases q : b = a
  ·subst q; rw [Z2] at e; cases e
  ·rw [Z4 _ _ q] at e
   obtain ⟨o', ho', hm'⟩ := st.mu b m' e
   exact ⟨o', ho', hm'.mono le⟩
 ·by_cases q : b = a
  ·subst q; rw [Z2] at e; cases e
  ·rw [Z4 _ _ q] at e; rw [Z4 _ _ q]; exact st.dj b m' e
 ·have q : b ≠ a := fun q => by subst q; rw [hs] at hb; cases hb
  exact ⟨(Z4 _ _ q).trans hb, (Z4 _ _ q).trans hB⟩
end
noncomputable abbrev Loc := List (Option D)
noncomputable abbrev Ora := Addr → List D → Sto → (D → Sto → Prop) → Prop
noncomputable abbrev WE := Ora → Loc → Sto → (D → Sto → Prop) → Prop
noncomputable abbrev WT := Ora → Loc → Sto → (Bool → Sto → Prop) → Prop
noncomputable def nth : Loc → Nat → Option D
 | [], _ => none
 | x :: _, 0 => x
 | _ :: r, n + 1 => nth r n
noncomputable def put : Loc → Nat → D → Loc
 | [], _, _ => []
 | _ :: r, 0, d => some d :: r
 | x :: r, n + 1, d => x :: put r n d
theorem Jn : ∀ (ρ : Loc) (i : Nat) (d : D), (put ρ i d).length = ρ.length
 | [], _, _ => rfl
 | _ :: _, 0, _ => rfl
 | _ :: r, n + 1, d => by simp [put, Jn r n d]
theorem nth_put : ∀ (ρ : Loc) (i j : Nat) (d e : D), nth (put ρ i d) j = some e → (j = i ∧ e = d) ∨ (j ≠ i ∧ nth ρ j = some e)
 | [], _, _, _, _, h => by cases h
 | _ :: r, 0, 0, d, e, h => by cases h; exact .inl ⟨rfl, rfl⟩
 | _ :: r, 0, j + 1, d, e, h => .inr ⟨by simp, h⟩
 | x :: r, n + 1, 0, d, e, h => .inr ⟨by simp, h⟩
 | x :: r, n + 1, j + 1, d, e, h => by
  rcases nth_put r n j d e h with ⟨a, b⟩ | ⟨a, b⟩
  ·exact .inl ⟨by rw [a], b⟩
  ·exact .inr ⟨by simpa using a, b⟩
theorem nth_lt : ∀ {ρ : Loc} {i : Nat} {d : D}, nth ρ i = some d → i < ρ.length
 | [], _, _, h => by cases h
 | _ :: _, 0, _, _ => by simp
 | _ :: r, n + 1, d, h => by have := nth_lt (ρ := r) h; simp; exact this
structure Gd (K : Frag) (h₀ : Heap) : Prop where
 K : K.In h₀
 names : ∃ mg mb, h₀.Ns mainGlobals mg ∧ h₀.Ns builtinsNs mb ∧ ∀ x : Str, x ≠ "__name__" → mb x = bootBuiltins x
 nolimit : h₀.NoLimit
structure Room (n : Nat) (A : Around) : Prop where
 depth : A.depth + 3 * n + 10 ≤ 900
 units : A.units + 60 * n + 200 ≤ 9800
 handled : A.handled = none
 guards : A.guards = some []
structure RoomB (n : Nat) (A : Around) : Prop where
 depth : A.depth + 3 * n + 12 ≤ 900
 units : A.units + 60 * n + 240 ≤ 9800
 handled : A.handled = none
 guards : A.guards = some []
theorem RoomB.of {n : Nat} {A : Around} (r : Room (n + 1) A) (env : Env) : RoomB n (A.deeper env) :=
 ⟨by have := r.depth; simp only [Around.deeper]; lia, by have := r.units; simp only [Around.deeper]; lia, r.handled, r.guards⟩
theorem RoomB.call {n : Nat} {A : Around} (r : RoomB n A) : Room n A := ⟨by have := r.depth; lia, by have := r.units; lia, r.handled, r.guards⟩
theorem cLine9 : cLine = 9900 := rfl
theorem RoomB.un {n : Nat} {A : Around} (r : RoomB n A) {k : Nat} (hk : k ≤ 300) : A.units + k < cLine := by
 have := r.units; rw [cLine9]; lia
section
variable (prog : Program) (w : World) (h₀ : Heap)
noncomputable def Atc (env : Env) (h : Heap) (m : Str → Option Value) (x : Str) (v : Value) : Prop :=
 (env.kindOf x = some .local ∧ m x = some v) ∨
  ∃ c, (env.kindOf x = some .cell ∨ (env.kindOf x = some .free ∧ (x == ("__classdict__" : Str)) = false)) ∧ env.cells.lookup x = some c ∧ h.IsCell c (some v)
structure Fm (env : Env) (ns : List Str) (own : List Addr) (ρ : Loc) (B : Fz) (σ : Sto) (h : Heap) : Prop where
 kind : env.scope.kind = .function
 gl : env.globals = mainGlobals
 bi : env.builtins = builtinsNs
 inOwn : env.locals ∈ own
 vals : ∃ m, h.Ns env.locals m ∧ ∀ i d, nth ρ i = some d → ∃ x v, ns[i]? = some x ∧ Rp prog w B v d ∧ Atc env h m x v
 can : ∀ x ∈ ns, env.kindOf x = some .local ∨ (env.kindOf x = some .cell ∧ ∃ c v, env.cells.lookup x = some c ∧ c ∈ own ∧ h.IsCell c v) ∨ (env.kindOf x = some .free ∨ (env.kindOf (".0" : Str)).isSome = true)
 sep : ∀ x y c, env.cells.lookup x = some c → env.cells.lookup y = some c → x = y
 sepL : ∀ x, env.cells.lookup x ≠ some env.locals
 nd : ns.Nodup
 out : ∀ a, (a ∈ own ∨ ∃ x, env.cells.lookup x = some a) → σ a = none ∧ B a = none ∧ ∃ o, h.get? a = some o
 len : ρ.length = ns.length
 above : h₀.objs.size = h₀.objs.size
 dbg : ∀ x ∈ ns, (x == ("__debug__" : Str)) = false
noncomputable def PostC (B : Fz) (σ : Sto) (s : Shared) (Q : D → Sto → Prop) (r : Result) (s' : Shared) : Prop :=
 ∃ v d σ' B', r = .ok (.ret v) ∧ Q d σ' ∧ Rp prog w B' v d ∧ Go prog w h₀ [] B σ s B' σ' s'
noncomputable def OraOk (n : Nat) (C : Ora) : Prop := ∀ f ds Q A s vs B σ, Room n A → St prog w h₀ B σ s.heap → Rps prog w B vs ds → C f ds σ Q →
 codeAny (model prog w) A (.call (.ref f) ⟨vs, []⟩) (PostC prog w h₀ B σ s Q) s
structure Cx (sc : Scope) (ns : List Str) (n : Nat) (C : Ora) (A : Around) (env : Env) (own : List Addr) (ρ : Loc) (B : Fz) (σ : Sto) (s : Shared) : Prop where
 scope : env.scope = sc
 ora : OraOk prog w h₀ n C
 room : RoomB n A
 st : St prog w h₀ B σ s.heap
 fm : Fm prog w h₀ env ns own ρ B σ s.heap
noncomputable def PostE (ns : List Str) (env : Env) (own : List Addr) (ρ : Loc) (B : Fz) (σ : Sto) (s : Shared) (Q : D → Sto → Prop) (v : Value) (s' : Shared) : Prop :=
 ∃ d σ' B', Q d σ' ∧ Rp prog w B' v d ∧ Go prog w h₀ own B σ s B' σ' s' ∧ Fm prog w h₀ env ns own ρ B' σ' s'.heap
structure SndE (sc : Scope) (ns : List Str) (e : Expr) (W : WE) : Prop where
 go : ∀ n C A env own ρ B σ s Q E, Cx prog w h₀ sc ns n C A env own ρ B σ s → W C ρ σ Q →
 wpAny (model prog w) A (eval e env) (PostE prog w h₀ ns env own ρ B σ s Q) E s
noncomputable def PostT (ns : List Str) (env : Env) (own : List Addr) (ρ : Loc) (B : Fz) (σ : Sto) (s : Shared) (Q : Bool → Sto → Prop) (b : Bool) (s' : Shared) : Prop :=
 ∃ σ' B', Q b σ' ∧ Go prog w h₀ own B σ s B' σ' s' ∧ Fm prog w h₀ env ns own ρ B' σ' s'.heap
structure SndT (sc : Scope) (ns : List Str) (e : Expr) (W : WT) : Prop where
 go : ∀ n C A env own ρ B σ s Q E, Cx prog w h₀ sc ns n C A env own ρ B σ s → W C ρ σ Q →
 wpAny (model prog w) A (isTrue e env (eval e env)) (PostT prog w h₀ ns env own ρ B σ s Q) E s
end
section
variable {prog : Program} {w : World} {h₀ : Heap} {sc : Scope} {ns : List Str} {n : Nat} {C : Ora} {A : Around} {env : Env} {own : List Addr} {ρ : Loc} {B B' : Fz} {σ σ' : Sto} {s s' : Shared} {E : Value → Shared → Prop}
theorem Atc.move {h h' : Heap} {m : Str → Option Value} {x : Str} {v : Value} (t : Atc env h m x v) (k : ∀ c, env.cells.lookup x = some c → ∀ o, h.get? c = some o → h'.get? c = some o) : Atc env h' m x v := by
 rcases t with t | ⟨c, t1, t2, o, t3, t4⟩
 ·exact .inl t
 ·exact .inr ⟨c, t1, t2, o, k c t2 o t3, t4⟩
theorem Fm.move {h h' : Heap} (F : Fm prog w h₀ env ns own ρ B σ h) (le : ∀ a o, B a = some o → B' a = some o) (k : ∀ a, (a ∈ own ∨ ∃ x, env.cells.lookup x = some a) → ∀ o, h.get? a = some o → h'.get? a = some o)
  (g : ∀ a, (a ∈ own ∨ ∃ x, env.cells.lookup x = some a) → ∀ o, h.get? a = some o → σ a = none → B a = none → σ' a = none ∧ B' a = none) : Fm prog w h₀ env ns own ρ B' σ' h' := by
 refine ⟨F.kind, F.gl, F.bi, F.inOwn, ?_, fun x hx => ?_, F.sep, F.sepL, F.nd, fun a ha => ?_, F.len, rfl, F.dbg⟩
 ·obtain ⟨m, hm, hv⟩ := F.vals
  refine ⟨m, ?_, fun i d e => ?_⟩
  ·obtain ⟨o, es, ep, ho, r⟩ := hm
   exact ⟨o, es, ep, k _ (.inl F.inOwn) o ho, r⟩
  ·obtain ⟨x, v, h1, h2, h3⟩ := hv i d e
   exact ⟨x, v, h1, h2.mono le, h3.move fun c hc o ho => k c (.inr ⟨x, hc⟩) o ho⟩
 ·rcases F.can x hx with q | ⟨q, c, v, h1, h2, o, h3, h4⟩ | q
  ·exact .inl q
  ·exact .inr (.inl ⟨q, c, v, h1, h2, o, k c (.inl h2) o h3, h4⟩)
  ·exact .inr (.inr q)
 ·obtain ⟨h1, h2, o, h3⟩ := F.out a ha
  exact ⟨(g a ha o h3 h1 h2).1, (g a ha o h3 h1 h2).2, o, k a ha o h3⟩
theorem Fm.go (F : Fm prog w h₀ env ns own ρ B σ s.heap) (x : Go prog w h₀ [] B σ s B' σ' s') : Fm prog w h₀ env ns own ρ B' σ' s'.heap :=
 F.move x.ext.le (fun a ha o e => x.ext.keep a o e (F.out a ha).1 (by simp)) fun a _ => x.ext.grab a
theorem Cx.to (c : Cx prog w h₀ sc ns n C A env own ρ B σ s) (x : Go prog w h₀ own B σ s B' σ' s') (F : Fm prog w h₀ env ns own ρ B' σ' s'.heap) : Cx prog w h₀ sc ns n C A env own ρ B' σ' s' :=
 ⟨c.scope, c.ora, c.room, x.st, F⟩
theorem SndE.here {e : Expr} {W : WE} (hs : SndE prog w h₀ sc ns e W) (c : Cx prog w h₀ sc ns n C A env own ρ B σ s) {Q : D → Sto → Prop} {R : Value → Shared → Prop} (h : W C ρ σ Q)
  (k : ∀ v s' d σ' B', Q d σ' → Rp prog w B' v d → Go prog w h₀ own B σ s B' σ' s' → Cx prog w h₀ sc ns n C A env own ρ B' σ' s' → R v s') :
  wpAny (model prog w) A (eval e env) R E s :=
 wpAny_mono (hs.go n C A env own ρ B σ s Q E c h) (fun v s' ⟨d, σ', B', h1, h2, h3, h4⟩ => k v s' d σ' B' h1 h2 h3 (c.to h3 h4)) fun _ _ x => x
theorem SndT.here {e : Expr} {W : WT} (hs : SndT prog w h₀ sc ns e W) (c : Cx prog w h₀ sc ns n C A env own ρ B σ s) {Q : Bool → Sto → Prop} {R : Bool → Shared → Prop} (h : W C ρ σ Q)
  (k : ∀ b s' σ' B', Q b σ' → Go prog w h₀ own B σ s B' σ' s' → Cx prog w h₀ sc ns n C A env own ρ B' σ' s' → R b s') :
  wpAny (model prog w) A (isTrue e env (eval e env)) R E s :=
 wpAny_mono (hs.go n C A env own ρ B σ s Q E c h) (fun v s' ⟨σ', B', h1, h3, h4⟩ => k v s' σ' B' h1 h3 (c.to h3 h4)) fun _ _ x => x
theorem Cx.fin {B₀ : Fz} {σ₀ : Sto} {s₀ : Shared} {Q : D → Sto → Prop} {v : Value} {d : D} (c : Cx prog w h₀ sc ns n C A env own ρ B σ s) (g : Go prog w h₀ own B₀ σ₀ s₀ B σ s) (hq : Q d σ) (hv : Rp prog w B v d) :
  PostE prog w h₀ ns env own ρ B₀ σ₀ s₀ Q v s := ⟨d, σ, B, hq, hv, g, c.fm⟩
theorem Cx.finT {B₀ : Fz} {σ₀ : Sto} {s₀ : Shared} {Q : D → Sto → Prop} {v : Value} {d : D} (t : Nat) (c : Cx prog w h₀ sc ns n C A env own ρ B σ s) (g : Go prog w h₀ own B₀ σ₀ s₀ B σ s) (hq : Q d σ) (hv : Rp prog w B v d) :
  PostE prog w h₀ ns env own ρ B₀ σ₀ s₀ Q v { s with toks := t } := ⟨d, σ, B, hq, hv, g.trans (Go.toks c.st t), c.fm⟩
theorem Cx.refl (c : Cx prog w h₀ sc ns n C A env own ρ B σ s) : Go prog w h₀ own B σ s B σ s := Go.refl own c.st
theorem Cx.toks (c : Cx prog w h₀ sc ns n C A env own ρ B σ s) (t : Nat) : Cx prog w h₀ sc ns n C A env own ρ B σ { s with toks := t } := ⟨c.scope, c.ora, c.room, c.st, c.fm⟩
noncomputable def wNone : WE := fun _ _ σ Q => Q .none σ
noncomputable def wB (b : Bool) : WE := fun _ _ σ Q => Q (.bool b) σ
noncomputable def wI (i : Int) : WE := fun _ _ σ Q => Q (.int i) σ
noncomputable def wS (x : Str) : WE := fun _ _ σ Q => Q (.str x) σ
noncomputable def wV (i : Nat) : WE := fun _ ρ σ Q => match nth ρ i with
 | some d => Q d σ
 | none => False
theorem Zw {k pos} : SndE prog w h₀ sc ns (.Constant .none k pos) wNone := ⟨fun n C A env own ρ B σ s Q E c h => wpAny_pure (c.fin c.refl h .none)⟩
theorem Ud {b k pos} : SndE prog w h₀ sc ns (.Constant (.bool b) k pos) (wB b) := ⟨fun n C A env own ρ B σ s Q E c h => wpAny_pure (c.fin c.refl h (.bool b))⟩
theorem Zf {i k pos} : SndE prog w h₀ sc ns (.Constant (.int i) k pos) (wI i) := ⟨fun n C A env own ρ B σ s Q E c h => wpAny_mkInt (c.finT _ c.refl h (.int i _))⟩
theorem Zd (s : String) : PyData.strOk (Str.ofString s) = true := by
 rw [Str.ofString_eq_toList]
 unfold PyData.strOk
 simp only [Array.all_eq_true', List.mem_toArray, List.mem_map, decide_eq_true_eq]
 rintro _ ⟨c, _, rfl⟩
 have := c.valid
 unfold Char.toNat
 rcases this with h | h <;> lia
theorem Zg {x : Str} {k pos} (hx : PyData.strOk x = true) : SndE prog w h₀ sc ns (.Constant (.str x) k pos) (wS x) := ⟨fun n C A env own ρ B σ s Q E c h => wpAny_mkText (c.finT _ c.refl h (.str _ hx))⟩
theorem Za {i : Nat} {x : Str} {pos : Pos} (hi : ns[i]? = some x) : SndE prog w h₀ sc ns (.Name x pos) (wV i) := ⟨fun n C A env own ρ B σ s Q E c h => by
 unfold wV at h
 split at h
 ·rename_i d hd'
  obtain ⟨m, hm, hv⟩ := c.fm.vals
  obtain ⟨y, v, h1, h2, h3⟩ := hv i d hd'
  rw [hi] at h1; cases h1
  refine wpAny_Name ?_ (c.fm.dbg x (List.mem_of_getElem? hi))
  rcases h3 with ⟨a, b⟩ | ⟨cc, a | ⟨a, a'⟩, b, e⟩
  ·exact wpAny_loadName_local c.fm.kind a hm b (c.fin c.refl h h2)
  ·exact wpAny_loadName_cell c.fm.kind a b e (c.fin c.refl h h2)
  ·exact wpAny_loadName_free c.fm.kind a b e (c.fin c.refl h h2) a'
 ·exact h.elim⟩
end
mutual
noncomputable def toPy : D → Option PyData
 | .none => some .none
 | .bool b => some (.bool b)
 | .int i => some (.int i)
 | .str x => some (.str x)
 | .tup l => (toPys l).map .tuple
 | .lst l => (toPys l).map .list
 | _ => none
noncomputable def toPys : List D → Option (List PyData)
 | [] => some []
 | d :: r => (toPy d).bind fun p => (toPys r).map fun q => p :: q
end
section
variable {prog : Program} {w : World} {B : Fz} {h : Heap}
noncomputable def RdP (h : Heap) (v : Value) (d : D) : Prop := ∀ p, toPy d = some p → (∃ as, Reads h v p as) ∧ p.canLay0 = true
noncomputable def RdPs (h : Heap) (vs : List Value) (ds : List D) : Prop := ∀ ps, toPys ds = some ps → (∃ as, ReadsAll h vs ps as) ∧ PyData.canLayAll0 ps = true
theorem Zby {v : Value} {d : D} (e : toPy d = none) : RdP h v d := fun p e1 => by rw [e] at e1; cases e1
theorem Zfm {v : Value} {d : D} {p : PyData} {as : List Addr} (e : toPy d = some p) (r : Reads h v p as) (c : p.canLay0 = true) : RdP h v d := fun p' e1 => by
 rw [e] at e1; cases e1; exact ⟨⟨_, r⟩, c⟩
theorem rd_cons {v d vs ds} (h1 : RdP h v d) (h2 : RdPs h vs ds) : RdPs h (v :: vs) (d :: ds) := fun ps e => by
 simp only [toPys, Option.bind_eq_some_iff, Option.map_eq_some_iff] at e
 obtain ⟨p, e1, q, e2, rfl⟩ := e
 obtain ⟨⟨as, r1⟩, r2⟩ := h1 _ e1
 obtain ⟨⟨bs, r3⟩, r4⟩ := h2 _ e2
 exact ⟨⟨_, .cons r1 r3⟩, by simp [PyData.canLayAll0, r2, r4]⟩
theorem rd_tup {a : Addr} {o : Obj} {vs n ds} (ha : h.get? a = some o) (c : o.cls = .type "tuple") (d : o.data = .seq vs n) (r : RdPs h vs.toList ds) : RdP h (.ref a) (.tup ds) := fun p e => by
 obtain ⟨q, e', rfl⟩ := Option.map_eq_some_iff.mp e
 obtain ⟨⟨as, r1⟩, r2⟩ := r _ e'
 exact ⟨⟨_, .tuple ha c d r1⟩, by simpa [PyData.canLay0] using r2⟩
theorem rd_lst {a : Addr} {o : Obj} {vs n ds} (ha : h.get? a = some o) (c : o.cls = .type "list") (d : o.data = .seq vs n) (r : RdPs h vs.toList ds) : RdP h (.ref a) (.lst ds) := fun p e => by
 obtain ⟨q, e', rfl⟩ := Option.map_eq_some_iff.mp e
 obtain ⟨⟨as, r1⟩, r2⟩ := r _ e'
 exact ⟨⟨_, .list ha c d r1⟩, by simpa [PyData.canLay0] using r2⟩
theorem rd_nil : RdPs h [] [] := fun _ e => by cases e; exact ⟨⟨_, .nil⟩, rfl⟩
theorem Rp.reads (k : ∀ a o, B a = some o → h.get? a = some o) {v d} (x : Rp prog w B v d) {p} (e : toPy d = some p) : (∃ as, Reads h v p as) ∧ p.canLay0 = true :=
 Rp.rec (motive_1 := fun v d _ => RdP h v d) (motive_2 := fun v d _ => RdPs h v d) (motive_3 := fun _ _ _ => True) (motive_4 := fun _ _ _ => True) (motive_5 := fun _ _ _ => True) (Zfm rfl .none rfl) (fun b => Zfm rfl (.bool b) rfl) (fun i t => Zfm rfl (.int i t) rfl) (fun t hx => Zfm rfl (.str _ t) (by simpa [PyData.canLay0] using hx)) (fun h c d _ r => rd_tup (k _ _ h) c d r) (fun h c d _ r => rd_lst (k _ _ h) c d r) (fun _ _ _ _ _ => Zby rfl) (fun _ _ _ _ _ => Zby rfl) (fun _ _ _ _ => Zby rfl) (fun _ => Zby rfl) (fun _ => Zby rfl) (fun _ => Zby rfl) rd_nil (fun _ _ h r => rd_cons h r) trivial (fun _ _ _ _ => trivial) trivial (fun _ _ _ _ => trivial) trivial (fun _ _ _ _ => trivial) x p e
theorem Rps.reads (k : ∀ a o, B a = some o → h.get? a = some o) {vs ds} (x : Rps prog w B vs ds) {p} (e : toPys ds = some p) : (∃ as, ReadsAll h vs p as) ∧ PyData.canLayAll0 p = true :=
 Rps.rec (motive_1 := fun v d _ => RdP h v d) (motive_2 := fun v d _ => RdPs h v d) (motive_3 := fun _ _ _ => True) (motive_4 := fun _ _ _ => True) (motive_5 := fun _ _ _ => True) (Zfm rfl .none rfl) (fun b => Zfm rfl (.bool b) rfl) (fun i t => Zfm rfl (.int i t) rfl) (fun t hx => Zfm rfl (.str _ t) (by simpa [PyData.canLay0] using hx)) (fun h c d _ r => rd_tup (k _ _ h) c d r) (fun h c d _ r => rd_lst (k _ _ h) c d r) (fun _ _ _ _ _ => Zby rfl) (fun _ _ _ _ _ => Zby rfl) (fun _ _ _ _ => Zby rfl) (fun _ => Zby rfl) (fun _ => Zby rfl) (fun _ => Zby rfl) rd_nil (fun _ _ h r => rd_cons h r) trivial (fun _ _ _ _ => trivial) trivial (fun _ _ _ _ => trivial) trivial (fun _ _ _ _ => trivial) x p e
end
section
variable (prog : Program) (w : World) (h₀ : Heap)
noncomputable def Op2Ok (t : Value → Value → Sem Value) (op : D → D → Sto → (D → Prop) → Prop) : Prop := ∀ n A B σ s x y vx vy q R E, RoomB n A → St prog w h₀ B σ s.heap → Rp prog w B vx x → Rp prog w B vy y → op x y σ q →
 (∀ v t' d, q d → Rp prog w B v d → R v { s with toks := t' }) → wpAny (model prog w) A (t vx vy) R E s
noncomputable def Cmp2Ok (cop : CmpOp) (op : D → D → Sto → (Bool → Prop) → Prop) : Prop := ∀ n A B σ s x y vx vy q R E, RoomB n A → St prog w h₀ B σ s.heap → Rp prog w B vx x → Rp prog w B vy y → op x y σ q →
 (∀ b t', q b → R (.bool b) { s with toks := t' }) → wpAny (model prog w) A (compareOp cop vx vy) R E s
noncomputable def Tr1Ok (op : D → Sto → (Bool → Prop) → Prop) : Prop := ∀ n A B σ s x vx q R E, RoomB n A → St prog w h₀ B σ s.heap → Rp prog w B vx x → op x σ q →
 (∀ b t', q b → R b { s with toks := t' }) → wpAny (model prog w) A (truthy vx) R E s
end
noncomputable def w2 (op : D → D → Sto → (D → Prop) → Prop) (a b : WE) : WE := fun C ρ σ Q => a C ρ σ fun x σ1 => b C ρ σ1 fun y σ2 => op x y σ2 fun d => Q d σ2
noncomputable def wCmp (op : D → D → Sto → (Bool → Prop) → Prop) (a b : WE) : WE := fun C ρ σ Q => a C ρ σ fun x σ1 => b C ρ σ1 fun y σ2 => op x y σ2 fun d => Q (.bool d) σ2
noncomputable def tCmp (op : D → D → Sto → (Bool → Prop) → Prop) (a b : WE) : WT := fun C ρ σ Q => a C ρ σ fun x σ1 => b C ρ σ1 fun y σ2 => op x y σ2 fun d => Q d σ2
noncomputable def wIf (t : WT) (a b : WE) : WE := fun C ρ σ Q => t C ρ σ fun c σ1 => if c then a C ρ σ1 Q else b C ρ σ1 Q
noncomputable def tIf (t a b : WT) : WT := fun C ρ σ Q => t C ρ σ fun c σ1 => if c then a C ρ σ1 Q else b C ρ σ1 Q
noncomputable def tNot (t : WT) : WT := fun C ρ σ Q => t C ρ σ fun c σ1 => Q (!c) σ1
noncomputable def tAnd (t a : WT) : WT := fun C ρ σ Q => t C ρ σ fun c σ1 => if c then a C ρ σ1 Q else Q false σ1
noncomputable def tOr (t a : WT) : WT := fun C ρ σ Q => t C ρ σ fun c σ1 => if c then Q true σ1 else a C ρ σ1 Q
noncomputable def tOf (op : D → Sto → (Bool → Prop) → Prop) (a : WE) : WT := fun C ρ σ Q => a C ρ σ fun x σ1 => op x σ1 fun b => Q b σ1
noncomputable def wNot (op : D → Sto → (Bool → Prop) → Prop) (a : WE) : WE := fun C ρ σ Q => a C ρ σ fun x σ1 => op x σ1 fun b => Q (.bool !b) σ1
noncomputable def wOr (op : D → Sto → (Bool → Prop) → Prop) (a b : WE) : WE := fun C ρ σ Q => a C ρ σ fun x σ1 => op x σ1 fun t => if t then Q x σ1 else b C ρ σ1 Q
noncomputable def wAnd (op : D → Sto → (Bool → Prop) → Prop) (a b : WE) : WE := fun C ρ σ Q => a C ρ σ fun x σ1 => op x σ1 fun t => if t then b C ρ σ1 Q else Q x σ1
noncomputable def wNeg (a : WE) : WE := fun C ρ σ Q => a C ρ σ fun x σ1 => match x with
 | .int i => Q (.int (-i)) σ1
 | _ => False
section
variable {prog : Program} {w : World} {h₀ : Heap} {sc : Scope} {ns : List Str}
theorem Z8 {op : Operator} {f} {l r : Expr} {pos : Pos} {a b : WE} (hop : Op2Ok prog w h₀ (binaryOp op) f) (hl : SndE prog w h₀ sc ns l a) (hr : SndE prog w h₀ sc ns r b) :
  SndE prog w h₀ sc ns (.BinOp l op r pos) (w2 f a b) := ⟨fun n C A env own ρ B σ s Q E c h =>
 wpAny_BinOp (hl.here c h fun v1 s1 d1 σ1 B1 q1 r1 g1 c1 => hr.here c1 q1 fun v2 s2 d2 σ2 B2 q2 r2 g2 c2 =>
  hop n A B2 σ2 s2 d1 d2 v1 v2 _ _ E c.room c2.st (r1.mono g2.ext.le) r2 q2 fun v t d q rv => c2.finT t (g1.trans g2) q rv)⟩
theorem Xb {op : CmpOp} {f} {l r : Expr} {pos : Pos} {a b : WE} (hop : Cmp2Ok prog w h₀ op f) (hl : SndE prog w h₀ sc ns l a) (hr : SndE prog w h₀ sc ns r b) (hm : behindInMarks op r = false) :
  SndE prog w h₀ sc ns (.Compare l [op] [r] pos) (wCmp f a b) := ⟨fun n C A env own ρ B σ s Q E c h =>
 wpAny_Compare1 (hl.here c h fun v1 s1 d1 σ1 B1 q1 r1 g1 c1 => hr.here c1 q1 fun v2 s2 d2 σ2 B2 q2 r2 g2 c2 =>
  hop n A B2 σ2 s2 d1 d2 v1 v2 _ _ E c.room c2.st (r1.mono g2.ext.le) r2 q2 fun d t q => c2.finT t (g1.trans g2) q (.bool d)) hm⟩
theorem PostT.mk {env : Env} {own : List Addr} {ρ : Loc} {B B' : Fz} {σ σ' : Sto} {s s' : Shared} {n C A} {Q : Bool → Sto → Prop} {b : Bool} (t : Nat) (c : Cx prog w h₀ sc ns n C A env own ρ B' σ' s') (g : Go prog w h₀ own B σ s B' σ' s') (q : Q b σ') :
  PostT prog w h₀ ns env own ρ B σ s Q b { s' with toks := t } := ⟨σ', B', q, g.trans (Go.toks c.st t), c.fm⟩
theorem Zq {op : CmpOp} {f} {l r : Expr} {pos : Pos} {a b : WE} (hop : Cmp2Ok prog w h₀ op f) (hl : SndE prog w h₀ sc ns l a) (hr : SndE prog w h₀ sc ns r b) (hm : behindInMarks op r = false) :
  SndT prog w h₀ sc ns (.Compare l [op] [r] pos) (tCmp f a b) := ⟨fun n C A env own ρ B σ s Q E c h =>
 wpAny_isTrue_Compare1 (hl.here c h fun v1 s1 d1 σ1 B1 q1 r1 g1 c1 => hr.here c1 q1 fun v2 s2 d2 σ2 B2 q2 r2 g2 c2 =>
  hop n A B2 σ2 s2 d1 d2 v1 v2 _ _ E c.room c2.st (r1.mono g2.ext.le) r2 q2 fun d t q => wpAny_truthy_bool (PostT.mk t c2 (g1.trans g2) q)) hm⟩
theorem Y9 {t x y : Expr} {pos : Pos} {p : WT} {a b : WE} (ht : SndT prog w h₀ sc ns t p) (hx : SndE prog w h₀ sc ns x a) (hy : SndE prog w h₀ sc ns y b) : SndE prog w h₀ sc ns (.IfExp t x y pos) (wIf p a b) :=
 ⟨fun n C A env own ρ B σ s Q E c h => by
  show wpAny _ _ (do if ← isTrue t env (eval t env) then eval x env else eval y env) _ _ _
  refine wpAny_bind (ht.here c h fun v1 s1 σ1 B1 q1 g1 c1 => ?_)
  cases v1
  ·exact hy.here c1 q1 fun v s' d σ' B' q r g c' => c'.fin (g1.trans g) q r
  ·exact hx.here c1 q1 fun v s' d σ' B' q r g c' => c'.fin (g1.trans g) q r⟩
theorem PostT.fin {env : Env} {own : List Addr} {ρ : Loc} {B B' : Fz} {σ σ' : Sto} {s s' : Shared} {n C A} {Q : Bool → Sto → Prop} {b : Bool} (c : Cx prog w h₀ sc ns n C A env own ρ B' σ' s') (g : Go prog w h₀ own B σ s B' σ' s') (q : Q b σ') :
  PostT prog w h₀ ns env own ρ B σ s Q b s' := ⟨σ', B', q, g, c.fm⟩
theorem snt_if {t x y : Expr} {pos : Pos} {p a b : WT} (ht : SndT prog w h₀ sc ns t p) (hx : SndT prog w h₀ sc ns x a) (hy : SndT prog w h₀ sc ns y b) : SndT prog w h₀ sc ns (.IfExp t x y pos) (tIf p a b) :=
 ⟨fun n C A env own ρ B σ s Q E c h => isTrue_IfExp (ht.here c h fun v1 s1 σ1 B1 q1 g1 c1 => by
  cases v1
  ·exact hy.here c1 q1 fun b s' σ' B' q g c' => PostT.fin c' (g1.trans g) q
  ·exact hx.here c1 q1 fun b s' σ' B' q g c' => PostT.fin c' (g1.trans g) q)⟩
theorem snt_not {x : Expr} {pos : Pos} {p : WT} (hx : SndT prog w h₀ sc ns x p) : SndT prog w h₀ sc ns (.UnaryOp .Not x pos) (tNot p) :=
 ⟨fun n C A env own ρ B σ s Q E c h => isTrue_not (hx.here c h fun v1 s1 σ1 B1 q1 g1 c1 => PostT.fin c1 g1 q1)⟩
structure SndTs (prog : Program) (w : World) (h₀ : Heap) (sc : Scope) (ns : List Str) (op : BoolOp) (es : List Expr) (W : WT) : Prop where
 go : ∀ n C A env own ρ B σ s Q E, Cx prog w h₀ sc ns n C A env own ρ B σ s → W C ρ σ Q →
 wpAny (model prog w) A (allTrue op es env) (PostT prog w h₀ ns env own ρ B σ s Q) E s
theorem Yc {op : BoolOp} {es : List Expr} {pos : Pos} {p : WT} (h : SndTs prog w h₀ sc ns op es p) : SndT prog w h₀ sc ns (.BoolOp op es pos) p := ⟨fun n C A env own ρ B σ s Q E c hq => h.go n C A env own ρ B σ s Q E c hq⟩
noncomputable def tEnd (b : Bool) : WT := fun _ _ σ Q => Q b σ
theorem Yd {op : BoolOp} : SndTs prog w h₀ sc ns op [] (tEnd (op == .And)) := ⟨fun n C A env own ρ B σ s Q E c h => wpAny_pure (PostT.fin c c.refl h)⟩
theorem Z5 {x : Expr} {es : List Expr} {p q : WT} (hx : SndT prog w h₀ sc ns x p) (hr : SndTs prog w h₀ sc ns .And es q) : SndTs prog w h₀ sc ns .And (x :: es) (tAnd p q) :=
 ⟨fun n C A env own ρ B σ s Q E c h => by
  show wpAny _ _ (do match BoolOp.And, ← isTrue x env (eval x env) with | .And, false => pure false | .Or, true => pure true | _, _ => allTrue .And es env) _ _ _
  refine wpAny_bind (hx.here c h fun v1 s1 σ1 B1 q1 g1 c1 => ?_)
  cases v1
  ·exact wpAny_pure (PostT.fin c1 g1 q1)
  ·exact wpAny_mono (hr.go n C A env own ρ B1 σ1 s1 Q E c1 q1) (fun b s' ⟨σ', B', a1, a2, a3⟩ => ⟨σ', B', a1, g1.trans a2, a3⟩) fun _ _ x => x⟩
theorem Xr {x : Expr} {es : List Expr} {p q : WT} (hx : SndT prog w h₀ sc ns x p) (hr : SndTs prog w h₀ sc ns .Or es q) : SndTs prog w h₀ sc ns .Or (x :: es) (tOr p q) :=
 ⟨fun n C A env own ρ B σ s Q E c h => by
  show wpAny _ _ (do match BoolOp.Or, ← isTrue x env (eval x env) with | .And, false => pure false | .Or, true => pure true | _, _ => allTrue .Or es env) _ _ _
  refine wpAny_bind (hx.here c h fun v1 s1 σ1 B1 q1 g1 c1 => ?_)
  cases v1
  ·exact wpAny_mono (hr.go n C A env own ρ B1 σ1 s1 Q E c1 q1) (fun b s' ⟨σ', B', a1, a2, a3⟩ => ⟨σ', B', a1, g1.trans a2, a3⟩) fun _ _ x => x
  ·exact wpAny_pure (PostT.fin c1 g1 q1)⟩
noncomputable def plainT : Expr → Bool
 | .UnaryOp .Not _ _ => false
 | .BoolOp .. => false
 | .IfExp .. => false
 | .Compare .. => false
 | _ => true
theorem Zd5 {e : Expr} {env : Env} {whole : Sem Value} (h : plainT e = true) : isTrue e env whole = (do let v ← whole; standAt e.pos; holding [v] (truthy v)) := by
 cases e with
 | UnaryOp op => cases op <;> first | rfl | cases h
 | BoolOp => cases h
 | IfExp => cases h
 | Compare => cases h
 | _ => rfl
theorem Yl {e : Expr} {f} {a : WE} (he : SndE prog w h₀ sc ns e a) (hf : Tr1Ok prog w h₀ f) (hp : plainT e = true) : SndT prog w h₀ sc ns e (tOf f a) :=
 ⟨fun n C A env own ρ B σ s Q E c h => isTrue_plain (he.here c h fun v1 s1 d1 σ1 B1 q1 r1 g1 c1 => hf n A B1 σ1 s1 d1 v1 _ _ E c.room c1.st r1 q1 fun b t q => PostT.mk t c1 g1 q) (Zd5 hp)⟩
theorem snd_not {e : Expr} {f} {a : WE} {pos : Pos} (he : SndE prog w h₀ sc ns e a) (hf : Tr1Ok prog w h₀ f) : SndE prog w h₀ sc ns (.UnaryOp .Not e pos) (wNot f a) :=
 ⟨fun n C A env own ρ B σ s Q E c h => by
  show wpAny _ _ (do let v ← eval e env; standAt pos; holding [v] (unaryOp .Not v)) _ _ _
  refine wpAny_bind (he.here c h fun v1 s1 d1 σ1 B1 q1 r1 g1 c1 => wpAny_bind (wpAny_standAt (wpAny_holding (not_of ?_))))
  exact hf n A B1 σ1 s1 d1 v1 _ _ E c.room c1.st r1 q1 fun b t q => c1.finT t g1 q (.bool _)⟩
theorem Jr {e : Expr} {a : WE} {pos : Pos} (he : SndE prog w h₀ sc ns e a) : SndE prog w h₀ sc ns (.UnaryOp .USub e pos) (wNeg a) :=
 ⟨fun n C A env own ρ B σ s Q E c h => by
  show wpAny _ _ (do let v ← eval e env; standAt pos; holding [v] (unaryOp .USub v)) _ _ _
  refine wpAny_bind (he.here c h fun v1 s1 d1 σ1 B1 q1 r1 g1 c1 => wpAny_bind (wpAny_standAt (wpAny_holding ?_)))
  cases d1 <;> first | exact q1.elim | skip
  cases r1
  exact neg_int (c1.finT _ g1 q1 (.int _ _))⟩
structure SndEs (prog : Program) (w : World) (h₀ : Heap) (sc : Scope) (ns : List Str) (pos : Pos) (op : BoolOp) (es : List Expr) (W : WE) : Prop where
 go : ∀ n C A env own ρ B σ s Q E, Cx prog w h₀ sc ns n C A env own ρ B σ s → W C ρ σ Q →
 wpAny (model prog w) A (boolOp pos op (evalEach es env)) (PostE prog w h₀ ns env own ρ B σ s Q) E s
theorem Km {op : BoolOp} {es : List Expr} {pos : Pos} {p : WE} (h : SndEs prog w h₀ sc ns pos op es p) : SndE prog w h₀ sc ns (.BoolOp op es pos) p := ⟨fun n C A env own ρ B σ s Q E c hq => h.go n C A env own ρ B σ s Q E c hq⟩
theorem Zcd {op : BoolOp} {e : Expr} {pos : Pos} {p : WE} (h : SndE prog w h₀ sc ns e p) : SndEs prog w h₀ sc ns pos op [e] p := ⟨fun n C A env own ρ B σ s Q E c hq => h.go n C A env own ρ B σ s Q E c hq⟩
theorem Zee {e e' : Expr} {es : List Expr} {pos : Pos} {f} {a b : WE} (he : SndE prog w h₀ sc ns e a) (hf : Tr1Ok prog w h₀ f) (hr : SndEs prog w h₀ sc ns pos .Or (e' :: es) b) : SndEs prog w h₀ sc ns pos .Or (e :: e' :: es) (wOr f a b) :=
 ⟨fun n C A env own ρ B σ s Q E c h => by
  show wpAny _ _ (do let v ← eval e env; standAt pos; let t ← holding [v] (truthy v); match BoolOp.Or, t with | .And, false | .Or, true => pure v | _, _ => boolOp pos .Or (evalEach (e' :: es) env)) _ _ _
  refine wpAny_bind (he.here c h fun v1 s1 d1 σ1 B1 q1 r1 g1 c1 => wpAny_bind (wpAny_standAt (wpAny_bind (wpAny_holding ?_))))
  refine hf n A B1 σ1 s1 d1 v1 _ _ E c.room c1.st r1 q1 fun b t q => ?_
  cases b
  ·exact wpAny_mono (hr.go n C A env own ρ B1 σ1 _ Q E (c1.toks t) q) (fun v s' ⟨d, σ', B', a1, a2, a3, a4⟩ => ⟨d, σ', B', a1, a2, (g1.trans (Go.toks c1.st t)).trans a3, a4⟩) fun _ _ x => x
  ·exact wpAny_pure (c1.finT t g1 q r1)⟩
theorem snes_and {e e' : Expr} {es : List Expr} {pos : Pos} {f} {a b : WE} (he : SndE prog w h₀ sc ns e a) (hf : Tr1Ok prog w h₀ f) (hr : SndEs prog w h₀ sc ns pos .And (e' :: es) b) : SndEs prog w h₀ sc ns pos .And (e :: e' :: es) (wAnd f a b) :=
 ⟨fun n C A env own ρ B σ s Q E c h => by
  show wpAny _ _ (do let v ← eval e env; standAt pos; let t ← holding [v] (truthy v); match BoolOp.And, t with | .And, false | .Or, true => pure v | _, _ => boolOp pos .And (evalEach (e' :: es) env)) _ _ _
  refine wpAny_bind (he.here c h fun v1 s1 d1 σ1 B1 q1 r1 g1 c1 => wpAny_bind (wpAny_standAt (wpAny_bind (wpAny_holding ?_))))
  refine hf n A B1 σ1 s1 d1 v1 _ _ E c.room c1.st r1 q1 fun b t q => ?_
  cases b
  ·exact wpAny_pure (c1.finT t g1 q r1)
  ·exact wpAny_mono (hr.go n C A env own ρ B1 σ1 _ Q E (c1.toks t) q) (fun v s' ⟨d, σ', B', a1, a2, a3, a4⟩ => ⟨d, σ', B', a1, a2, (g1.trans (Go.toks c1.st t)).trans a3, a4⟩) fun _ _ x => x⟩
end
noncomputable def oAdd (x y : D) (_ : Sto) (q : D → Prop) : Prop := match x, y with | .int i, .int j => q (.int (i + j)) | _, _ => False
noncomputable def oSub (x y : D) (_ : Sto) (q : D → Prop) : Prop := match x, y with | .int i, .int j => q (.int (i - j)) | _, _ => False
noncomputable def oMul (x y : D) (_ : Sto) (q : D → Prop) : Prop := match x, y with | .int i, .int j => ((-(2 ^ 64) < i ∧ i < 2 ^ 64) ∨ (-(2 ^ 64) < j ∧ j < 2 ^ 64)) ∧ q (.int (i * j)) | _, _ => False
noncomputable def oMod (x y : D) (_ : Sto) (q : D → Prop) : Prop := match x, y with | .int i, .int j => j ≠ 0 ∧ q (.int (Int.fmod i j)) | _, _ => False
noncomputable def oPow (x y : D) (_ : Sto) (q : D → Prop) : Prop := match x, y with | .int i, .int j => (0 ≤ j ∧ j ≤ 1000000 ∧ i.natAbs < 2 ^ 64) ∧ q (.int (i ^ j.toNat)) | _, _ => False
noncomputable def oEq (x y : D) (_ : Sto) (q : Bool → Prop) : Prop := match toPy x, toPy y with | some a, some b => a.depth ≤ 64 ∧ b.depth ≤ 64 ∧ q (PyData.eqv a b) | _, _ => False
noncomputable def oNe (x y : D) (_ : Sto) (q : Bool → Prop) : Prop := match toPy x, toPy y with | some a, some b => a.depth ≤ 64 ∧ b.depth ≤ 64 ∧ q (!PyData.eqv a b) | _, _ => False
noncomputable def oLt (x y : D) (_ : Sto) (q : Bool → Prop) : Prop := match x, y with | .int i, .int j => q (decide (i < j)) | _, _ => False
noncomputable def oGt (x y : D) (_ : Sto) (q : Bool → Prop) : Prop := match x, y with | .int i, .int j => q (decide (j < i)) | _, _ => False
noncomputable def oLe (x y : D) (_ : Sto) (q : Bool → Prop) : Prop := match x, y with | .int i, .int j => q (decide (i ≤ j)) | _, _ => False
noncomputable def oGe (x y : D) (_ : Sto) (q : Bool → Prop) : Prop := match x, y with | .int i, .int j => q (decide (j ≤ i)) | _, _ => False
noncomputable def isNoneD : D → Bool | .none => true | _ => false
noncomputable def oIsN (x y : D) (_ : Sto) (q : Bool → Prop) : Prop := isNoneD y = true ∧ q (isNoneD x)
noncomputable def oNotN (x y : D) (_ : Sto) (q : Bool → Prop) : Prop := isNoneD y = true ∧ q (!isNoneD x)
noncomputable def oTr (x : D) (_ : Sto) (q : Bool → Prop) : Prop := match x with | .none => q false | .bool b => q b | .int i => q (i != 0) | .str x => (x.length : Int) < 9223372036854775808 ∧ q ((x.length : Int) != 0) | _ => False
section
variable {prog : Program} {w : World} {h₀ : Heap}
noncomputable def twoI (P : Int → Int → Prop) (x y : D) : Prop := match x, y with | .int i, .int j => P i j | _, _ => False
theorem twoI_of {P : Int → Int → Prop} {x y : D} (h : twoI P x y) : ∃ i j, x = .int i ∧ y = .int j ∧ P i j := by
 cases x <;> first | exact h.elim | skip
 cases y <;> first | exact h.elim | exact ⟨_, _, rfl, rfl, h⟩
theorem Rp.the_int {B : Fz} {v : Value} {i : Int} (h : Rp prog w B v (.int i)) : ∃ t, v = .int i t := h.inv
theorem Rp.the_str {B : Fz} {v : Value} {x : Str} (h : Rp prog w B v (.str x)) : ∃ t, v = .str x t := let ⟨t, e, _⟩ := h.inv; ⟨t, e⟩
theorem Zbf {t : Value → Value → Sem Value} {op : D → D → Sto → (D → Prop) → Prop} {P : (D → Prop) → Int → Int → Prop} (e : ∀ x y σ q, op x y σ q = twoI (P q) x y)
  (m : ∀ A s i j t1 t2 (q : D → Prop) R E, P q i j → (∀ k t' t3, q (.int k) → R (.int k t3) { s with toks := t' }) → wpAny (model prog w) A (t (.int i t1) (.int j t2)) R E s) : Op2Ok prog w h₀ t op := fun n A B σ s x y vx vy q R E r st hx hy h k => by
 rw [e] at h
 obtain ⟨i, j, rfl, rfl, h⟩ := twoI_of h
 obtain ⟨t1, rfl⟩ := hx.the_int
 obtain ⟨t2, rfl⟩ := hy.the_int
 exact m A s i j t1 t2 q R E h fun a t' t3 hq => k _ _ _ hq (.int _ _)
theorem Zb7 {cop : CmpOp} {op : D → D → Sto → (Bool → Prop) → Prop} {f : Int → Int → Bool} (e : ∀ x y σ q, op x y σ q = twoI (fun i j => q (f i j)) x y)
  (m : ∀ A s i j t1 t2 R E, R (.bool (f i j)) s → wpAny (model prog w) A (compareOp cop (.int i t1) (.int j t2)) R E s) : Cmp2Ok prog w h₀ cop op := fun n A B σ s x y vx vy q R E r st hx hy h k => by
 rw [e] at h
 obtain ⟨i, j, rfl, rfl, h⟩ := twoI_of h
 obtain ⟨t1, rfl⟩ := hx.the_int
 obtain ⟨t2, rfl⟩ := hy.the_int
 exact m A s i j t1 t2 R E (k _ s.toks h)
theorem Ug : Op2Ok prog w h₀ (binaryOp .Add) oAdd := Zbf (P := fun q i j => q (.int (i + j))) (fun _ _ _ _ => rfl) fun A s i j t1 t2 q R E h k => add_int (k _ _ _ h)
theorem Ja : Op2Ok prog w h₀ (binaryOp .Sub) oSub := Zbf (P := fun q i j => q (.int (i - j))) (fun _ _ _ _ => rfl) fun A s i j t1 t2 q R E h k => sub_int (k _ _ _ h)
theorem Zbr : Op2Ok prog w h₀ (binaryOp .Mult) oMul := Zbf (P := fun q i j => ((-(2 ^ 64) < i ∧ i < 2 ^ 64) ∨ (-(2 ^ 64) < j ∧ j < 2 ^ 64)) ∧ q (.int (i * j))) (fun _ _ _ _ => rfl) fun A s i j t1 t2 q R E h k =>
 mul_int (k _ _ _ h.2) (h.1.elim (fun g => IntMulOk.of_left (intBits_le_64 g.1 g.2)) fun g => IntMulOk.of_right (intBits_le_64 g.1 g.2))
theorem Zdh : Op2Ok prog w h₀ (binaryOp .Mod) oMod := Zbf (P := fun q i j => j ≠ 0 ∧ q (.int (Int.fmod i j))) (fun _ _ _ _ => rfl) fun A s i j t1 t2 q R E h k => mod_int' h.1 (k _ _ _ h.2)
theorem ok_pow : Op2Ok prog w h₀ (binaryOp .Pow) oPow := Zbf (P := fun q i j => (0 ≤ j ∧ j ≤ 1000000 ∧ i.natAbs < 2 ^ 64) ∧ q (.int (i ^ j.toNat))) (fun _ _ _ _ => rfl) fun A s i j t1 t2 q R E h k => pow_int_small h.1.1 h.1.2.1 h.1.2.2 (k _ _ _ h.2)
theorem Zaq {p : PyData} (h1 : p.canLay0 = true) (h2 : p.depth ≤ 64) : SeqAt.shaped p = true := by unfold SeqAt.shaped; simp [h1, h2]
theorem Yh : Cmp2Ok prog w h₀ .Eq oEq := fun n A B σ s x y vx vy q R E r st hx hy h k => by
 unfold oEq at h
 split at h
 ·rename_i a b ea eb
  obtain ⟨⟨_, ra⟩, ca⟩ := hx.reads st.fz ea
  obtain ⟨⟨_, rb⟩, cb⟩ := hy.reads st.fz eb
  exact eq_dataH ra rb (Zaq ca h.1) (Zaq cb h.2.1) (r.un (by decide)) (k _ s.toks h.2.2)
 ·exact h.elim
theorem ok_ne : Cmp2Ok prog w h₀ .NotEq oNe := fun n A B σ s x y vx vy q R E r st hx hy h k => by
 unfold oNe at h
 split at h
 ·rename_i a b ea eb
  obtain ⟨⟨_, ra⟩, ca⟩ := hx.reads st.fz ea
  obtain ⟨⟨_, rb⟩, cb⟩ := hy.reads st.fz eb
  exact ne_dataH ra rb (Zaq ca h.1) (Zaq cb h.2.1) (r.un (by decide)) (k _ s.toks h.2.2)
 ·exact h.elim
theorem ok_lt : Cmp2Ok prog w h₀ .Lt oLt := Zb7 (f := fun i j => decide (i < j)) (fun _ _ _ _ => rfl) fun A s i j t1 t2 R E h => lt_int h
theorem ok_gt : Cmp2Ok prog w h₀ .Gt oGt := Zb7 (f := fun i j => decide (j < i)) (fun _ _ _ _ => rfl) fun A s i j t1 t2 R E h => gt_int h
theorem ok_le : Cmp2Ok prog w h₀ .LtE oLe := Zb7 (f := fun i j => decide (i ≤ j)) (fun _ _ _ _ => rfl) fun A s i j t1 t2 R E h => le_int h
theorem ok_ge : Cmp2Ok prog w h₀ .GtE oGe := Zb7 (f := fun i j => decide (j ≤ i)) (fun _ _ _ _ => rfl) fun A s i j t1 t2 R E h => ge_int h
theorem Rp.non {B : Fz} {v : Value} {d : D} (h : Rp prog w B v d) : plainIs v .none = true ∧ ((isNoneD d = true ∧ v = .none) ∨ (isNoneD d = false ∧ v ≠ .none)) := by
 cases h <;> first | exact ⟨rfl, .inl ⟨rfl, rfl⟩⟩ | exact ⟨rfl, .inr ⟨rfl, fun e => nomatch e⟩⟩
theorem noneD {y : D} (h : isNoneD y = true) : y = .none := by cases y <;> first | rfl | cases h
theorem Xu : Cmp2Ok prog w h₀ .Is oIsN := fun n A B σ s x y vx vy q R E r st hx hy h k => by
 refine byC fun nT => ?_
 obtain ⟨h0, h⟩ := h
 rw [noneD h0] at hy
 rw [show vy = .none from hy.inv] at nT
 obtain ⟨hp, ⟨e1, e2⟩ | ⟨e1, e2⟩⟩ := hx.non
 ·rw [e1] at h
  rw [e2] at nT
  exact nT (wpAny_is_self rfl (k _ s.toks h))
 ·rw [e1] at h
  exact nT (wpAny_is_other hp e2 (k _ s.toks h))
theorem Zd1 : Cmp2Ok prog w h₀ .IsNot oNotN := fun n A B σ s x y vx vy q R E r st hx hy h k => by
 refine byC fun nT => ?_
 obtain ⟨h0, h⟩ := h
 rw [noneD h0] at hy
 rw [show vy = .none from hy.inv] at nT
 obtain ⟨hp, ⟨e1, e2⟩ | ⟨e1, e2⟩⟩ := hx.non
 ·rw [e1] at h
  rw [e2] at nT
  exact nT (wpAny_isNot_self rfl (k _ s.toks h))
 ·rw [e1] at h
  exact nT (wpAny_isNot_other hp e2 (k _ s.toks h))
theorem Y5 : Tr1Ok prog w h₀ oTr := fun n A B σ s x vx q R E r st hx h k => by
 cases hx <;> first | exact h.elim | exact truthy_none (k _ s.toks h) | exact wpAny_truthy_bool (k _ s.toks h) | exact truthy_int (k _ s.toks h) | exact SBL.truthy h.1 (k _ _ h.2)
end
noncomputable def isStar : Expr → Bool
 | .Starred .. => true
 | _ => false
noncomputable def wL : List WE → Ora → Loc → Sto → (List D → Sto → Prop) → Prop
 | [], _, _, σ, Q => Q [] σ
 | a :: r, C, ρ, σ, Q => a C ρ σ fun d σ1 => wL r C ρ σ1 fun ds σ2 => Q (d :: ds) σ2
section
variable (prog : Program) (w : World) (h₀ : Heap) (sc : Scope) (ns : List Str)
inductive SndL : List Expr → List WE → Prop where
 | nil : SndL [] []
 | cons {e es a as} : isStar e = false → SndE prog w h₀ sc ns e a → SndL es as → SndL (e :: es) (a :: as)
end
section
variable {prog : Program} {w : World} {h₀ : Heap} {sc : Scope} {ns : List Str} {n : Nat} {C : Ora} {A : Around} {env : Env} {own : List Addr} {ρ : Loc} {B B' : Fz} {σ σ' : Sto} {s s' : Shared} {E : Value → Shared → Prop}
theorem Zh {e es a as} (h : isStar e = false) (h1 : SndE prog w h₀ sc ns e a) (h2 : SndL prog w h₀ sc ns es as) : SndL prog w h₀ sc ns (e :: es) (a :: as) := .cons h h1 h2
theorem Zs : SndL prog w h₀ sc ns [] [] := .nil
theorem Vl {e : Expr} {es : List Expr} (h : isStar e = false) : starEach (e :: es) env = (false, eval e env) :: starEach es env := by
 cases e <;> first | rfl | cases h
theorem SndL.here {es : List Expr} {as : List WE} (hs : SndL prog w h₀ sc ns es as) : ∀ {pos : Pos} {B : Fz} {σ : Sto} {s : Shared} (c : Cx prog w h₀ sc ns n C A env own ρ B σ s) {Q : List D → Sto → Prop} {R : List Value → Shared → Prop} (h : wL as C ρ σ Q)
  (k : ∀ vs s' ds σ' B', Q ds σ' → Rps prog w B' vs ds → ds.length = as.length → Go prog w h₀ own B σ s B' σ' s' → Cx prog w h₀ sc ns n C A env own ρ B' σ' s' → R vs s'),
  wpAny (model prog w) A (spliced (backTo pos (starEach es env))) R E s := by
 induction hs with
 | nil => intro pos B σ s c Q R h k; exact wpAny_pure (k _ _ _ _ _ h .nil rfl c.refl c)
 | @cons e es a as hst he hr ih =>
  intro pos B σ s c Q R h k
  rw [Vl hst]
  show wpAny _ _ (do let v ← eval e env; let here ← pure [v]; return here ++ (← holding here (spliced (backTo pos (starEach es env))))) _ _ _
  refine wpAny_bind (he.here c h fun v1 s1 d1 σ1 B1 q1 r1 g1 c1 => ?_)
  refine wpAny_bind (wpAny_pure (wpAny_bind (wpAny_holding (ih c1 q1 fun vs s2 ds σ2 B2 q2 r2 l2 g2 c2 => ?_))))
  exact wpAny_pure (k (v1 :: vs) s2 (d1 :: ds) σ2 B2 q2 (.cons (r1.mono g2.ext.le) r2) (by simp [l2]) (g1.trans g2) c2)
theorem SndL.len {es : List Expr} {as : List WE} (hs : SndL prog w h₀ sc ns es as) : es.length = as.length := by
 induction hs with
 | nil => rfl
 | cons _ _ _ ih => simp [ih]
theorem Cx.newB (c : Cx prog w h₀ sc ns n C A env own ρ B σ s) (o : Obj) (hf : o.isFreed = false) :
  Go prog w h₀ own B σ s (up B s.heap.objs.size (some o)) σ { s with heap := s.heap.push o } ∧ Cx prog w h₀ sc ns n C A env own ρ (up B s.heap.objs.size (some o)) σ { s with heap := s.heap.push o } := by
 obtain ⟨a, b⟩ := c.st.allocB o hf
 have g : Go prog w h₀ [] B σ s (up B s.heap.objs.size (some o)) σ { s with heap := s.heap.push o } := ⟨a, b, rfl, rfl⟩
 exact ⟨g.any, c.to g.any (c.fm.go g)⟩
theorem Cx.newS (c : Cx prog w h₀ sc ns n C A env own ρ B σ s) (o : Obj) (m : MObj) (hm : MR prog w B m o) (hf : o.isFreed = false) :
  Go prog w h₀ own B σ s B (up σ s.heap.objs.size (some m)) { s with heap := s.heap.push o } ∧ Cx prog w h₀ sc ns n C A env own ρ B (up σ s.heap.objs.size (some m)) { s with heap := s.heap.push o } := by
 obtain ⟨a, b⟩ := c.st.allocS o m hm hf
 have g : Go prog w h₀ [] B σ s B (up σ s.heap.objs.size (some m)) { s with heap := s.heap.push o } := ⟨a, b, rfl, rfl⟩
 exact ⟨g.any, c.to g.any (c.fm.go g)⟩
theorem Cx.new0 (c : Cx prog w h₀ sc ns n C A env own ρ B σ s) (o : Obj) :
  Go prog w h₀ own B σ s B σ { s with heap := s.heap.push o } ∧ Cx prog w h₀ sc ns n C A env own ρ B σ { s with heap := s.heap.push o } := by
 obtain ⟨a, b⟩ := c.st.alloc0 o
 have g : Go prog w h₀ [] B σ s B σ { s with heap := s.heap.push o } := ⟨a, b, rfl, rfl⟩
 exact ⟨g.any, c.to g.any (c.fm.go g)⟩
noncomputable def wTup (as : List WE) : WE := fun C ρ σ Q => wL as C ρ σ fun ds σ' => Q (.tup ds) σ'
noncomputable def wLst (as : List WE) : WE := fun C ρ σ Q => wL as C ρ σ fun ds σ' => Q (.lst ds) σ'
noncomputable def wLstM (as : List WE) : WE := fun C ρ σ Q => wL as C ρ σ fun ds σ' => ∀ a, σ' a = none → Q (.mlst a) (up σ' a (some (.list ds)))
theorem small (es : List Expr) (h : es.length ≤ 1000) : es.length ≤ sizeLine := Nat.le_trans h (by rw [sizeLine_eq]; decide)
theorem sz_of {vs : List Value} {ds : List D} {B : Fz} (r : Rps prog w B vs ds) {as : List WE} (l : ds.length = as.length) (hl : as.length ≤ 1000) : vs.length ≤ sizeLine := by
 rw [r.length, l]; exact Nat.le_trans hl (by rw [sizeLine_eq]; decide)
theorem Z6 {es : List Expr} {as : List WE} {k : Nat} {pos : Pos} (hs : SndL prog w h₀ sc ns es as) (hl : as.length ≤ 1000) : SndE prog w h₀ sc ns (.Tuple es k pos) (wTup as) :=
 ⟨fun n C A env own ρ B σ s Q E c h => by
  rw [arm_eval_Tuple]
  refine wpAny_bind (wpAny_standAt (wpAny_bind (hs.here c h fun vs s1 ds σ1 B1 q1 r1 l1 g1 c1 => ?_)))
  obtain ⟨g2, c2⟩ := c1.newB { cls := .type "tuple", data := .seq vs.toArray } rfl
  exact wpAny_newTuple (c2.fin (g1.trans g2) q1 (.tup (Z2 ..) rfl rfl (r1.mono g2.ext.le))) (sz_of r1 l1 hl)⟩
theorem Yt {es : List Expr} {as : List WE} {pos : Pos} (hs : SndL prog w h₀ sc ns es as) (hl : as.length ≤ 1000) : SndE prog w h₀ sc ns (.List es pos) (wLst as) :=
 ⟨fun n C A env own ρ B σ s Q E c h => by
  rw [arm_eval_List]
  refine wpAny_bind (wpAny_standAt (wpAny_bind (hs.here c h fun vs s1 ds σ1 B1 q1 r1 l1 g1 c1 => ?_)))
  obtain ⟨g2, c2⟩ := c1.newB { cls := .type "list", data := .seq vs.toArray } rfl
  exact wpAny_newList (c2.fin (g1.trans g2) q1 (.lst (Z2 ..) rfl rfl (r1.mono g2.ext.le))) (sz_of r1 l1 hl)⟩
theorem Zb4 {es : List Expr} {as : List WE} {pos : Pos} (hs : SndL prog w h₀ sc ns es as) (hl : as.length ≤ 1000) : SndE prog w h₀ sc ns (.List es pos) (wLstM as) :=
 ⟨fun n C A env own ρ B σ s Q E c h => by
  rw [arm_eval_List]
  refine wpAny_bind (wpAny_standAt (wpAny_bind (hs.here c h fun vs s1 ds σ1 B1 q1 r1 l1 g1 c1 => ?_)))
  obtain ⟨g2, c2⟩ := c1.newS { cls := .type "list", data := .seq vs.toArray } (.list ds) ⟨_, _, rfl, r1⟩ rfl
  exact wpAny_newList (c2.fin (g1.trans g2) (q1 _ c1.st.newS) (.mlst _)) (sz_of r1 l1 hl)⟩
noncomputable def idx (l : List D) (i : Int) : Option D := if 0 ≤ i then l[i.toNat]? else if -(l.length : Int) ≤ i then l[(i + l.length).toNat]? else none
theorem Zgg {l : List D} {i : Int} {d : D} (h : idx l i = some d) : ∃ j, seqIndex? i l.length = some j ∧ l[j]? = some d := by
 unfold idx at h
 unfold seqIndex?
 split at h
 ·rename_i h0
  have hl := (List.getElem?_eq_some_iff.mp h).1
  refine ⟨i.toNat, ?_, h⟩
  have : ¬ (i < 0) := by lia
  simp [this]
  lia
 ·split at h
  ·rename_i h0 h1
   refine ⟨(i + l.length).toNat, ?_, h⟩
   have hl := (List.getElem?_eq_some_iff.mp h).1
   have : i < 0 := by lia
   simp [this]
   lia
  ·cases h
noncomputable def zlook : List (Int × D) → Int → Option D
 | [], _ => none
 | f :: r, x => if f.1 = x then some f.2 else zlook r x
noncomputable def zput (l : List (Int × D)) (k : Int) (d : D) : List (Int × D) := if l.any (fun kv => kv.1 = k) then l.map (fun kv => if kv.1 = k then (kv.1, d) else kv) else l ++ [(k, d)]
theorem RpK.at {kvs ds} (h : RpK prog w B kvs ds) (x : Str) : (slook ds x = none ∧ valueAt kvs x = none) ∨ ∃ v d, slook ds x = some d ∧ valueAt kvs x = some v ∧ Rp prog w B v d := by
 induction kvs generalizing ds with
 | nil => cases h; exact .inl ⟨rfl, rfl⟩
 | cons kv kvs ih =>
  cases h with
  | @cons y v d _ ds' hv r =>
   unfold slook valueAt
   by_cases q : y = x
   ·exact .inr ⟨v, d, by simp [q], by simp [q], hv⟩
   ·rcases ih r with ⟨a, b⟩ | ⟨v', d', a, b, c⟩
    ·exact .inl ⟨by simp [q, a], by unfold valueAt at b; simp [q, List.find?_cons] ; simpa using b⟩
    ·exact .inr ⟨v', d', by simp [q, a], by unfold valueAt at b; simp only [List.find?_cons, q, decide_false]; exact b, c⟩
theorem RpZ.at {kvs ds} (h : RpZ prog w B kvs ds) (x : Int) : (zlook ds x = none ∧ valueAt kvs x = none) ∨ ∃ v d, zlook ds x = some d ∧ valueAt kvs x = some v ∧ Rp prog w B v d := by
 induction kvs generalizing ds with
 | nil => cases h; exact .inl ⟨rfl, rfl⟩
 | cons kv kvs ih =>
  cases h with
  | @cons y v d _ ds' hv r =>
   unfold zlook valueAt
   by_cases q : y = x
   ·exact .inr ⟨v, d, by simp [q], by simp [q], hv⟩
   ·rcases ih r with ⟨a, b⟩ | ⟨v', d', a, b, c⟩
    ·exact .inl ⟨by simp [q, a], by unfold valueAt at b; simp only [List.find?_cons, q, decide_false]; exact b⟩
    ·exact .inr ⟨v', d', by simp [q, a], by unfold valueAt at b; simp only [List.find?_cons, q, decide_false]; exact b, c⟩
theorem RpZ.any {kvs ds} (h : RpZ prog w B kvs ds) (k : Int) : (kvs.any fun kv => kv.1 = k) = ds.any fun kv => kv.1 = k := by
 induction kvs generalizing ds with
 | nil => cases h; rfl
 | cons kv kvs ih => cases h with | cons _ r => simp [ih r]
theorem RpZ.append {kvs ds us es} (h : RpZ prog w B kvs ds) (g : RpZ prog w B us es) : RpZ prog w B (kvs ++ us) (ds ++ es) := by
 induction kvs generalizing ds with
 | nil => cases h; exact g
 | cons kv kvs ih => cases h with | cons h1 r => exact .cons h1 (ih r)
theorem RpZ.put {kvs ds} (h : RpZ prog w B kvs ds) {k : Int} {v : Value} {d : D} (hv : Rp prog w B v d) : RpZ prog w B (stored kvs k v) (zput ds k d) := by
 unfold stored zput
 rw [h.any k]
 split
 ·rename_i hq; clear hq
  induction kvs generalizing ds with
  | nil => cases h; exact .nil
  | cons kv kvs ih =>
   cases h with
   | @cons y v' d' _ ds' hv' r =>
    simp only [List.map_cons]
    by_cases q : y = k
    ·simp only [q, if_true]; exact .cons hv (ih r)
    ·simp only [q, if_false]; exact .cons hv' (ih r)
 ·exact h.append (.cons hv .nil)
theorem Zhc (l : List (Int × D)) (k j : Int) (d : D) : zlook (l.map (fun kv => if kv.1 = k then (kv.1, d) else kv)) j = if j = k then (if l.any (fun kv => kv.1 = k) then some d else none) else zlook l j := by
 induction l with
 | nil => simp [zlook]
 | cons f r ih =>
  simp only [List.map_cons, zlook, List.any_cons]
  by_cases q : f.1 = k
  ·simp only [q, if_true, decide_true, Bool.true_or]
   by_cases z : j = k
   ·simp [z]
   ·have z' : ¬ k = j := fun e => z e.symm
    simp only [z', if_false, ih, z]
  ·simp only [q, if_false, decide_false, Bool.false_or, ih]
   by_cases z : j = k
   ·subst z; simp only [q, if_false, if_true]
   ·simp only [z, if_false]
theorem Zez (l m : List (Int × D)) (j : Int) : zlook (l ++ m) j = (zlook l j).or (zlook m j) := by
 induction l with
 | nil => rfl
 | cons f r ih =>
  simp only [List.cons_append, zlook]
  by_cases z : f.1 = j
  ·simp [z]
  ·simp only [z, if_false, ih]
theorem Zgc {l : List (Int × D)} {k : Int} (h : l.any (fun kv => kv.1 = k) = false) : zlook l k = none := by
 induction l with
 | nil => rfl
 | cons f r ih =>
  simp only [List.any_cons, Bool.or_eq_false_iff, decide_eq_false_iff_not] at h
  simp only [zlook, h.1, if_false]; exact ih h.2
theorem Zho (l : List (Int × D)) (k j : Int) (d : D) : zlook (zput l k d) j = if j = k then some d else zlook l j := by
 unfold zput
 cases h : l.any (fun kv => kv.1 = k) with
 | true => rw [if_pos rfl, Zhc, h]; simp
 | false =>
  rw [if_neg Bool.false_ne_true, Zez]
  by_cases z : j = k
  ·subst z; simp [Zgc h, zlook]
  ·have z' : ¬ k = j := fun e => z e.symm
   simp [zlook, z, z']
noncomputable def gItem (x y : D) (σ : Sto) (q : D → Prop) : Prop := match x, y with
 | .tup l, .int i => (-(2 ^ 63) ≤ i ∧ i < 2 ^ 63) ∧ match idx l i with | some d => q d | none => False
 | .lst l, .int i => (-(2 ^ 63) ≤ i ∧ i < 2 ^ 63) ∧ match idx l i with | some d => q d | none => False
 | .dics l, .str x => match slook l x with | some d => q d | none => False
 | .dici l, .int i => match zlook l i with | some d => q d | none => False
 | .mlst a, .int i => (-(2 ^ 63) ≤ i ∧ i < 2 ^ 63) ∧ match σ a with | some (.list l) => (match idx l i with | some d => q d | none => False) | _ => False
 | .mdic a, .int i => match σ a with | some (.dict _ l) => (match zlook l i with | some d => q d | none => False) | _ => False
 | _, _ => False
noncomputable def isSlice : Expr → Bool
 | .Slice .. => true
 | _ => false
theorem Xg {slice : Expr} (h : isSlice slice = false) (o i : Value) : subscripted slice false o i = operate [o, i] (getItem o i) := by
 cases slice <;> first | rfl | cases h
theorem Ze0 {l : Addr} {vs : Array Value} {ds : List D} {i : Int} {t : Tok} {d : D} {R : Value → Shared → Prop} (hl : s.heap.IsList l vs) (hr : Rps prog w B vs.toList ds) (hlo : -(2 ^ 63) ≤ i) (hhi : i < 2 ^ 63) (hi : idx ds i = some d)
  (k : ∀ v, Rp prog w B v d → R v s) : wpAny (model prog w) A (getItem (.ref l) (.int i t)) R E s := by
 have hlen : vs.size = ds.length := by have := hr.length; simpa using this
 unfold idx at hi
 split at hi
 ·rename_i h0
  obtain ⟨v, hv, hp⟩ := hr.get hi
  exact wpAny_getItem_list hl h0 hhi (by rw [← Array.getElem?_toList]; exact hv) (k v hp)
 ·split at hi
  ·rename_i h0 h1
   obtain ⟨v, hv, hp⟩ := hr.get hi
   exact wpAny_getItem_list_neg hl (by lia) (by rw [hlen]; exact h1) hlo (by rw [← Array.getElem?_toList, hlen]; exact hv) (k v hp)
  ·cases hi
theorem ok_item {value slice : Expr} (hs : isSlice slice = false) : Op2Ok prog w h₀ (subscriptTail value slice) gItem := fun n A B σ s x y vx vy q R E r st hx hy h k => by
 cases hx with
 | tup hb hc hd hr =>
  cases y <;> first | exact h.elim | skip
  rename_i x
  obtain ⟨t, rfl⟩ := hy.the_int
  obtain ⟨⟨h1, h2⟩, h3⟩ := h
  split at h3
  ·rename_i d hd'
   obtain ⟨j, a1, a2⟩ := Zgg hd'
   obtain ⟨v, hv, hp⟩ := hr.get a2
   have ht : IsTup s.heap _ _ := ⟨_, st.fz _ _ hb, hc, _, hd⟩
   exact tail_any (T := "tuple") ⟨_, st.fz _ _ hb, hc⟩ slot_tuple_getitem.lookup (getItem_tuple ht h1 h2 (by rw [← Array.length_toList, hr.length]; exact a1) (by rw [← Array.getElem?_toList]; exact hv) (k v s.toks d h3 hp)) (Xg hs _ _)
  ·exact h3.elim
 | lst hb hc hd hr =>
  cases y <;> first | exact h.elim | skip
  rename_i x
  obtain ⟨t, rfl⟩ := hy.the_int
  obtain ⟨⟨h1, h2⟩, h3⟩ := h
  split at h3
  ·rename_i d hd'
   have hl : s.heap.IsList _ _ := ⟨_, st.fz _ _ hb, hc, _, hd⟩
   exact tail_any (T := "list") hl.typeIs slot_list_getitem.lookup (Ze0 hl hr h1 h2 hd' fun v hp => k v s.toks d h3 hp) (Xg hs _ _)
  ·exact h3.elim
 | dics hb hd hns hr =>
  cases y <;> first | exact h.elim | skip
  rename_i x
  obtain ⟨t, rfl⟩ := hy.the_str
  dsimp only [gItem] at h
  rcases hr.at x with ⟨a, b⟩ | ⟨v, d, a, b, c⟩
  ·rw [a] at h; exact h.elim
  ·rw [a] at h
   have hm := Heap.DictOf.mapOf (Heap.dictOf_iff.mpr ⟨_, st.fz _ _ hb, hd⟩)
   exact tail_any (T := "dict") hm.typeIs slot_dict_getitem.lookup (wpAny_getItem_of (strKind_is prog w x t) hm b (k v _ d h c)) (Xg hs _ _)
 | dici hb hd hns hr =>
  cases y <;> first | exact h.elim | skip
  rename_i x
  obtain ⟨t, rfl⟩ := hy.the_int
  dsimp only [gItem] at h
  rcases hr.at x with ⟨a, b⟩ | ⟨v, d, a, b, c⟩
  ·rw [a] at h; exact h.elim
  ·rw [a] at h
   have hm := Heap.DictOf.mapOf (Heap.dictOf_iff.mpr ⟨_, st.fz _ _ hb, hd⟩)
   exact tail_any (T := "dict") hm.typeIs slot_dict_getitem.lookup (wpAny_getItem_of (intKind_is prog w x t) hm b (k v _ d h c)) (Xg hs _ _)
 | mlst a =>
  cases y <;> first | exact h.elim | skip
  rename_i x
  obtain ⟨t, rfl⟩ := hy.the_int
  obtain ⟨⟨h1, h2⟩, h3⟩ := h
  split at h3
  ·rename_i l hσ
   split at h3
   ·rename_i d hd'
    obtain ⟨o, ho, hmr⟩ := st.mu _ _ hσ
    obtain ⟨hc, vs, m, hd, hr⟩ := hmr.lst
    have hl : s.heap.IsList _ _ := ⟨_, ho, hc, _, hd⟩
    exact tail_any (T := "list") hl.typeIs slot_list_getitem.lookup (Ze0 hl hr h1 h2 hd' fun v hp => k v s.toks d h3 hp) (Xg hs _ _)
   ·exact h3.elim
  ·exact h3.elim
 | mdic hns =>
  cases y <;> first | exact h.elim | skip
  rename_i x
  obtain ⟨t, rfl⟩ := hy.the_int
  dsimp only [gItem] at h
  split at h
  ·rename_i l hσ
   obtain ⟨o, ho, kvs, hd, hr, -⟩ := st.mu _ _ hσ
   rcases hr.at x with ⟨a, b⟩ | ⟨v, d, a, b, c⟩
   ·rw [a] at h; exact h.elim
   ·rw [a] at h
    have hm := Heap.DictOf.mapOf (Heap.dictOf_iff.mpr ⟨_, ho, hd⟩)
    exact tail_any (T := "dict") hm.typeIs slot_dict_getitem.lookup (wpAny_getItem_of (intKind_is prog w x t) hm b (k v _ d h c)) (Xg hs _ _)
  ·exact h.elim
 | _ => exact h.elim
theorem Zr {value slice : Expr} {pos : Pos} {a b : WE} (ha : SndE prog w h₀ sc ns value a) (hb : SndE prog w h₀ sc ns slice b) (hs : isSlice slice = false) : SndE prog w h₀ sc ns (.Subscript value slice pos) (w2 gItem a b) :=
 ⟨fun n C A env own ρ B σ s Q E c h => Subscript_ (ha.here c h fun v1 s1 d1 σ1 B1 q1 r1 g1 c1 => hb.here c1 q1 fun v2 s2 d2 σ2 B2 q2 r2 g2 c2 =>
  ok_item hs n A B2 σ2 s2 d1 d2 v1 v2 _ _ E c.room c2.st (r1.mono g2.ext.le) r2 q2 fun v t d q rv => c2.finT t (g1.trans g2) q rv)⟩
noncomputable def anyEq (y : PyData) : List PyData → Bool
 | [] => false
 | x :: r => PyData.eqv x y || anyEq y r
theorem Zen (y : PyData) : ∀ l : List PyData, anyEq y l = l.any fun x => PyData.eqv x y
 | [] => rfl
 | x :: r => by rw [anyEq, List.any_cons, Zen y r]
noncomputable def gIn (x y : D) (σ : Sto) (q : Bool → Prop) : Prop := match y with
 | .tup l => match toPy x, toPys l with | some a, some b => a.depth ≤ 64 ∧ q (anyEq a b) | _, _ => False
 | .lst l => match toPy x, toPys l with | some a, some b => a.depth ≤ 64 ∧ q (anyEq a b) | _, _ => False
 | .dics l => match x with | .str x => q (slook l x).isSome | _ => False
 | .dici l => match x with | .int x => q (zlook l x).isSome | _ => False
 | .mdic a => match x with | .int x => (match σ a with | some (.dict _ l) => q (zlook l x).isSome | _ => False) | _ => False
 | _ => False
theorem Zdz {A : Around} {n : Nat} (r : RoomB n A) {xs : List PyData} {d : PyData} (h : d.depth ≤ 64) : A.units + 1 + min (PyData.depthAll xs) d.depth < cLine := by
 have h2 : min (PyData.depthAll xs) d.depth ≤ d.depth := Nat.min_le_right _ _
 have := r.un (k := 65) (by decide)
 lia
theorem in_any {n : Nat} {A : Around} {x y : D} {vx vy : Value} {q : Bool → Prop} {R : Value → Shared → Prop} {E : Value → Shared → Prop} {B : Fz} {σ : Sto} {s : Shared} (neg : Bool) (r : RoomB n A) (st : St prog w h₀ B σ s.heap)
  (hx : Rp prog w B vx x) (hy : Rp prog w B vy y) (h : gIn x y σ q) (k : ∀ b t', q b → R (.bool (if neg then !b else b)) { s with toks := t' }) :
  wpAny (model prog w) A (compareOp (if neg then .NotIn else .In) vx vy) R E s := by
 unfold gIn at h
 cases hy with
 | tup hb hc hd hr =>
  dsimp only at h
  split at h
  ·rename_i a b ea eb
   obtain ⟨⟨_, ra⟩, ca⟩ := hx.reads st.fz ea
   obtain ⟨⟨_, rb⟩, cb⟩ := hr.reads st.fz eb
   have rt := Reads.tuple (st.fz _ _ hb) hc hd rb
   rw [Zen] at h
   cases neg
   ·exact SeqAt.in_tuple_reads rt ra (by simpa [PyData.canLay0] using cb) ca (Zdz r h.1) (k _ s.toks h.2)
   ·exact SeqAt.notIn_tuple_reads rt ra (by simpa [PyData.canLay0] using cb) ca (Zdz r h.1) (k _ s.toks h.2)
  ·exact h.elim
 | lst hb hc hd hr =>
  dsimp only at h
  split at h
  ·rename_i a b ea eb
   obtain ⟨⟨_, ra⟩, ca⟩ := hx.reads st.fz ea
   obtain ⟨⟨_, rb⟩, cb⟩ := hr.reads st.fz eb
   have rt := Reads.list (st.fz _ _ hb) hc hd rb
   rw [Zen] at h
   cases neg
   ·exact SeqAt.in_list_reads rt ra (by simpa [PyData.canLay0] using cb) ca (Zdz r h.1) (k _ s.toks h.2)
   ·exact SeqAt.notIn_list_reads rt ra (by simpa [PyData.canLay0] using cb) ca (Zdz r h.1) (k _ s.toks h.2)
  ·exact h.elim
 | @dics a o kvs ds hb hd hns hr =>
  cases x <;> first | exact h.elim | skip
  rename_i x
  obtain ⟨t, rfl⟩ := hx.the_str
  have hm := Heap.DictOf.mapOf (Heap.dictOf_iff.mpr ⟨_, st.fz _ _ hb, hd⟩)
  have e : (valueAt kvs x).isSome = (slook ds x).isSome := by rcases hr.at x with ⟨a, b⟩ | ⟨v, d, a, b, c⟩ <;> rw [a, b] <;> rfl
  dsimp only at h; rw [← e] at h
  cases neg
  ·exact wpAny_in_of (strKind_is prog w x t) hns hm (k _ _ h)
  ·exact wpAny_notIn_of (strKind_is prog w x t) hns hm (k _ _ h)
 | @dici a o kvs ds hb hd hns hr =>
  cases x <;> first | exact h.elim | skip
  rename_i x
  obtain ⟨t, rfl⟩ := hx.the_int
  have hm := Heap.DictOf.mapOf (Heap.dictOf_iff.mpr ⟨_, st.fz _ _ hb, hd⟩)
  have e : (valueAt kvs x).isSome = (zlook ds x).isSome := by rcases hr.at x with ⟨a, b⟩ | ⟨v, d, a, b, c⟩ <;> rw [a, b] <;> rfl
  dsimp only at h; rw [← e] at h
  cases neg
  ·exact wpAny_in_of (intKind_is prog w x t) hns hm (k _ _ h)
  ·exact wpAny_notIn_of (intKind_is prog w x t) hns hm (k _ _ h)
 | mdic hns =>
  cases x <;> first | exact h.elim | skip
  rename_i x
  obtain ⟨t, rfl⟩ := hx.the_int
  dsimp only at h
  split at h
  ·rename_i l hσ
   obtain ⟨o, ho, kvs, hd, hr, -⟩ := st.mu _ _ hσ
   have hm := Heap.DictOf.mapOf (Heap.dictOf_iff.mpr ⟨_, ho, hd⟩)
   have e : (valueAt kvs x).isSome = (zlook l x).isSome := by rcases hr.at x with ⟨a, b⟩ | ⟨v, d, a, b, c⟩ <;> rw [a, b] <;> rfl
   rw [← e] at h
   cases neg
   ·exact wpAny_in_of (intKind_is prog w x t) hns hm (k _ _ h)
   ·exact wpAny_notIn_of (intKind_is prog w x t) hns hm (k _ _ h)
  ·exact h.elim
 | _ => exact h.elim
noncomputable def gNotIn (x y : D) (σ : Sto) (q : Bool → Prop) : Prop := gIn x y σ fun b => q (!b)
theorem Kr : Cmp2Ok prog w h₀ .In gIn := fun n A B σ s x y vx vy q R E r st hx hy h k => in_any false r st hx hy h k
theorem Kl : Cmp2Ok prog w h₀ .NotIn gNotIn := fun n A B σ s x y vx vy q R E r st hx hy h k => in_any (q := fun b => q (!b)) true r st hx hy h fun b t q => k _ t q
end
structure AttrR (K : Frag) (c : Addr) (name : Str) : Prop where
 g : plainGet K c name = true
 d : hasDictIn K c = true
 f : findIn K (.ref c) name = some none
structure AttrW (K : Frag) (c : Addr) (name : Str) : Prop where
 s : findIn K (.ref c) "__setattr__" = some (some (.builtin "object.__setattr__"))
 p : plainOver K c = true
 t : takerIn K c name = some none
 d : hasDictIn K c = true
structure MethR (K : Frag) (c : Addr) (name : Str) (f : Addr) : Prop where
 g : plainGet K c name = true
 m : findIn K (.ref c) name = some (some (.ref f))
 t : typeIn K (.ref f) = some (.type "function")
 k : keepIn K (.ref f) = true
structure MakeR (K : Frag) (c f : Addr) : Prop where
 m : makesIn K c = true
 i : findIn K (.ref c) "__init__" = some (some (.ref f))
 t : typeIn K (.ref f) = some (.type "function")
 k : keepIn K (.ref c) = true
section
variable {prog : Program} {w : World} {h₀ : Heap} {K : Frag} {sc : Scope} {ns : List Str} {n : Nat} {C : Ora} {A : Around} {env : Env} {own : List Addr} {ρ : Loc} {B B' : Fz} {σ σ' : Sto} {s s' : Shared} {E : Value → Shared → Prop}
theorem Gd.inK (G : Gd K h₀) {h : Heap} (st : St prog w h₀ B σ h) : K.In h := fun a o e => st.baseHeap a o (G.K a o e)
theorem handed {v : Value} {d : D} (r : Rp prog w B v d) : handedIn v = true := by cases r <;> rfl
theorem inst_of (st : St prog w h₀ B σ s.heap) {a c d : Addr} {fs} (hb : B a = some (instObj c d)) (hs : σ d = some (.attrs fs)) :
  ∃ es m, W.InstAt s.heap a (instObj c d) c (some (dictOf es m)) ∧ RpS prog w B es fs ∧ s.heap.get? d = some (dictOf es m) := by
 obtain ⟨o, ho, es, m, rfl, hr⟩ := st.mu _ _ hs
 exact ⟨es, m, ⟨st.fz _ _ hb, rfl, rfl, ho⟩, hr, ho⟩
noncomputable def gAttr (cs : List Addr) (name : Str) (x : D) (σ : Sto) (q : D → Prop) : Prop := match x with
 | .obj c fs => c ∈ cs ∧ match slook fs name with | some d => q d | none => False
 | .inst c d => c ∈ cs ∧ match σ d with | some (.attrs fs) => (match slook fs name with | some d => q d | none => False) | _ => False
 | _ => False
noncomputable def wAttr (cs : List Addr) (name : Str) (a : WE) : WE := fun C ρ σ Q => a C ρ σ fun x σ1 => gAttr cs name x σ1 fun d => Q d σ1
theorem get_attr (G : Gd K h₀) {cs : List Addr} {name : Str} (ha : ∀ c ∈ cs, AttrR K c name) {x : D} {vx : Value} {q : D → Prop} {R : Value → Shared → Prop} {b : Bool} (st : St prog w h₀ B σ s.heap) (hx : Rp prog w B vx x) (h : gAttr cs name x σ q)
  (k : ∀ v t d, q d → Rp prog w B v d → R v { s with toks := t }) : wpAny (model prog w) A (getAttr vx name b) R E s := by
 have X := G.inK st
 unfold gAttr at h
 cases hx with
 | obj h1 h2 hr =>
  obtain ⟨hc, h⟩ := h
  have F := ha _ hc
  split at h
  ·rename_i d hd
   obtain ⟨v, hv, hp⟩ := hr.find hd
   exact get_value X ⟨st.fz _ _ h1, rfl, rfl, st.fz _ _ h2⟩ (plainGet_of F.g).1 (findObj_own F.d F.f rfl (by rw [lookIn_dict]; exact hv)) (handed hp) (k v _ d h hp)
  ·exact h.elim
 | inst h1 =>
  obtain ⟨hc, h⟩ := h
  have F := ha _ hc
  split at h
  ·rename_i fs hs
   split at h
   ·rename_i d hd
    obtain ⟨es, m, I, hr, -⟩ := inst_of st h1 hs
    obtain ⟨v, hv, hp⟩ := hr.find hd
    exact get_value X I (plainGet_of F.g).1 (findObj_own F.d F.f rfl (by rw [lookIn_dict]; exact hv)) (handed hp) (k v _ d h hp)
   ·exact h.elim
  ·exact h.elim
 | _ => exact h.elim
theorem Zi (G : Gd K h₀) {cs : List Addr} {name : Str} (ha : ∀ c ∈ cs, AttrR K c name) {value : Expr} {pos : Pos} {a : WE} (hv : SndE prog w h₀ sc ns value a)
  (he : ∀ env, eval (.Attribute value name pos) env = (do let o ← eval value env; standAt pos.atName; let r ← holding [o] (getAttr o name true); letTemporaryGo value o r; pure r)) :
  SndE prog w h₀ sc ns (.Attribute value name pos) (wAttr cs name a) :=
 ⟨fun n C A env own ρ B σ s Q E c h => Attribute_any_ (hv.here c h fun v1 s1 d1 σ1 B1 q1 r1 g1 c1 => get_attr G ha c1.st r1 q1 fun v t d q rv => c1.finT t g1 q rv) (he env)⟩
theorem RpS.length {es fs} (h : RpS prog w B es fs) : es.length = fs.length := by
 induction es generalizing fs with
 | nil => cases h; rfl
 | cons e es ih => cases h with | cons _ r => simp [ih r]
theorem set_attr (G : Gd K h₀) {c d : Addr} {name : Str} (F : AttrW K c name) {x : Addr} {fs} {v : Value} {dv : D} {R : Unit → Shared → Prop} (st : St prog w h₀ B σ s.heap) (hx : B x = some (instObj c d)) (hs : σ d = some (.attrs fs)) (hl : fs.length ≤ 900)
  (hv : Rp prog w B v dv) (k : ∀ s', Go prog w h₀ [] B σ s B (up σ d (some (.attrs (setF name dv fs)))) s' → R () s') : wpAny (model prog w) A (setAttr (.ref x) name v) R E s := by
 have X := G.inK st
 obtain ⟨es, m, I, hr, hd⟩ := inst_of st hx hs
 have hfl : es.length = fs.length := hr.length
 have hpl : (putL name (PyData.keyHash w.params name) (.str name (s.toks + 1)) v es).length ≤ es.length + 1 := by
  clear hr hfl hd I
  induction es with
  | nil => simp [putL]
  | cons e es ih => unfold putL; split <;> simp <;> lia
 refine set_plain X I F.s (osa_open X I F.p F.t fun b => ?_)
 obtain ⟨cd, hc, hd'⟩ := any_some F.d
 have hcls := looks_clsIn (M := model prog w) X hc
 refine wpAny_bind (wpAny_pure (wpAny_bind (wpAny_bind (wpAny_loadPart (st.fz _ _ hx) (wpAny_bind (hcls _ _ _ _ (fun _ _ e => e) ?_))))))
 rw [hd']
 refine wpAny_pure (a := some d) (wpAny_bind (wpAny_pure (wpAny_bind ?_)))
 unfold nsSet
 refine wpAny_bind (wpAny_bind (wpAny_askSetting (wpAny_pure (wpAny_bind (wpAny_mkText (wpAny_bind (wpAny_loadPart hd ?_)))))))
 dsimp only
 have hnr := hr.noRef
 rw [aRefKeyMayBeTheName_at]
 have e1 : (!(es.toArray.any (·.key.isStr name)) && es.toArray.any (·.refKey)) = false := by rw [List.any_toArray, List.any_toArray, hnr, Bool.and_false]
 rw [e1]
 have eo : Obj.putName name (PyData.keyHash w.params name) (.str name (s.toks + 1)) v (dictOf es m) = dictOf (putL name (PyData.keyHash w.params name) (.str name (s.toks + 1)) v es) (putN name es m) := putName_dict ..
 have hg : (s.heap.update d (Obj.putName name (PyData.keyHash w.params name) (.str name (s.toks + 1)) v)).get? d = some (dictOf (putL name (PyData.keyHash w.params name) (.str name (s.toks + 1)) v es) (putN name es m)) := by
  rw [← eo]; exact Heap.get?_update_self _ hd (by rw [eo]; rfl)
 refine wpAny_updatePart hd ?_
 refine wpAny_bind (wpAny_lookBehind hg (pastItsLine_dict (by rw [List.size_toArray, sizeLine_eq]; lia)) ?_)
 refine wpAny_pure (k _ ?_)
 obtain ⟨a1, a2⟩ := st.change (m := .attrs (setF name dv fs)) hs (Heap.SameBut.update ..) hg ⟨_, _, rfl, hr.put hv _ _⟩
 exact ⟨a1, a2, rfl, rfl⟩
theorem SndL.plain {es : List Expr} {as : List WE} (hs : SndL prog w h₀ sc ns es as) {pos : Pos} : (backTo pos (starEach es env)).any (·.1) = false := by
 induction hs with
 | nil => rfl
 | @cons e es a as hst _ _ ih => rw [Vl hst]; exact ih
theorem Zem {es : List Expr} {as : List WE} (hs : SndL prog w h₀ sc ns es as) {pos : Pos} {f : Value} (c : Cx prog w h₀ sc ns n C A env own ρ B σ s) {Q : List D → Sto → Prop} {R : Args → Shared → Prop} (h : wL as C ρ σ Q)
  (k : ∀ vs s' ds σ' B', Q ds σ' → Rps prog w B' vs ds → ds.length = as.length → Go prog w h₀ own B σ s B' σ' s' → Cx prog w h₀ sc ns n C A env own ρ B' σ' s' → R ⟨vs, []⟩ s') :
  wpAny (model prog w) A (evalArgs f true (backTo pos (starEach es env)) []) R E s := by
 cases hs with
 | nil => exact evalArgs_nil3 (k _ _ _ _ _ h .nil rfl c.refl c)
 | @cons e es a as hst he hr =>
  have q := SndL.here (SndL.cons hst he hr) (pos := pos) c (R := fun vs s' => R ⟨vs, []⟩ s') (E := E) h k
  rw [Vl hst] at q ⊢
  exact evalArgs_plain q
theorem Vg {es : List Expr} {as : List WE} (hs : SndL prog w h₀ sc ns es as) {pos cpos : Pos} {f : Value} {first : List Value} (c : Cx prog w h₀ sc ns n C A env own ρ B σ s) {Q : List D → Sto → Prop} {R : Value → Shared → Prop} {P : Heap → Prop}
  (hk : ∀ h, P h → ∃ k, (k = Keeper.frame ∨ k = Keeper.machine ∨ k = Keeper.boundFrame) ∧ Looks (model prog w) h (keeperOf f) k) (h : wL as C ρ σ Q)
  (k : ∀ vs s' ds σ' B', Q ds σ' → Rps prog w B' vs ds → ds.length = as.length → Go prog w h₀ own B σ s B' σ' s' → Cx prog w h₀ sc ns n C A env own ρ B' σ' s' → P s'.heap ∧ wpAny (model prog w) A (call f (first ++ vs) []) R E s') :
  wpAny (model prog w) A (callWith cpos f first (backTo pos (starEach es env)) []) R E s :=
 callWith_of (by rw [hs.plain]; rfl) hk (Zem hs c h fun vs s' ds σ' B' q r l g c' => k vs s' ds σ' B' q r l g c')
theorem Jp (id : String) (h : Heap) (_ : True) : ∃ k, (k = Keeper.frame ∨ k = Keeper.machine ∨ k = Keeper.boundFrame) ∧ Looks (model prog w) h (keeperOf (.builtin id)) k := ⟨.machine, .inr (.inl rfl), Looks.of_pure rfl⟩
theorem Zdc (id : String) (h : Heap) (_ : True) : ∃ k, (k = Keeper.frame ∨ k = Keeper.machine ∨ k = Keeper.boundFrame) ∧ Looks (model prog w) h (keeperOf (.type id)) k := ⟨.machine, .inr (.inl rfl), Looks.of_pure rfl⟩
theorem Zaj (G : Gd K h₀) {x : Str} {v : Value} {pos : Pos} {R : Value → Shared → Prop} (c : Cx prog w h₀ sc ns n C A env own ρ B σ s) (e : nsIn K mainGlobals x = some (some v)) (hx : (sc.names.lookup x) = some .globalImplicit) (hd : (x == ("__debug__" : Str)) = false)
  (h : R v s) : wpAny (model prog w) A (eval (.Name x pos) env) R E s := by
 obtain ⟨mg, mb, g1, g2, g3⟩ := G.names
 have hk : env.kindOf x = some .globalImplicit := by unfold Env.kindOf; rw [c.scope]; exact hx
 refine Name_function_global c.fm.kind hk (loadGlobal_global (mg := mg) ?_ (mg_of G.K g1 e) h) hd
 rw [c.fm.gl]
 exact g1.keeps c.st.baseHeap
theorem Uf (G : Gd K h₀) {x : Str} {v : Value} {pos : Pos} {R : Value → Shared → Prop} (c : Cx prog w h₀ sc ns n C A env own ρ B σ s) (e : nsIn K mainGlobals x = some none) (hv : bootBuiltins x = some v) (hn : x ≠ "__name__") (hx : (sc.names.lookup x) = some .globalImplicit) (hd : (x == ("__debug__" : Str)) = false)
  (h : R v s) : wpAny (model prog w) A (eval (.Name x pos) env) R E s := by
 obtain ⟨mg, mb, g1, g2, g3⟩ := G.names
 have hk : env.kindOf x = some .globalImplicit := by unfold Env.kindOf; rw [c.scope]; exact hx
 refine Name_function_global c.fm.kind hk (loadGlobal_builtin (mg := mg) (mb := mb) ?_ (mg_none_of G.K g1 e) ?_ ((g3 x hn).trans hv) h) hd
 ·rw [c.fm.gl]; exact g1.keeps c.st.baseHeap
 ·rw [c.fm.bi]; exact g2.keeps c.st.baseHeap
theorem Vn (x : Str) (p pos : Pos) (args : List Expr) (env : Env) : eval (.Call (.Name x p) args [] pos) env = (do callWith pos (← eval (.Name x p) env) [] (backTo pos (starEach args env)) (backToKw pos (keywordEach [] env))) := rfl
noncomputable def wCall (f : Addr) (as : List WE) : WE := fun C ρ σ Q => wL as C ρ σ fun ds σ1 => C f ds σ1 Q
theorem callC (c : Cx prog w h₀ sc ns n C A env own ρ B σ s) {B₀ : Fz} {σ₀ : Sto} {s₀ : Shared} (g : Go prog w h₀ own B₀ σ₀ s₀ B σ s) {f : Addr} {vs : List Value} {ds : List D} {Q : D → Sto → Prop} (hq : C f ds σ Q) (r : Rps prog w B vs ds) :
  wpAny (model prog w) A (call (.ref f) vs []) (PostE prog w h₀ ns env own ρ B₀ σ₀ s₀ Q) E s := by
 refine wpAny_call (codeAny_mono (c.ora f ds Q A s vs B σ c.room.call c.st r hq) fun r s' hr => ?_)
 obtain ⟨v, d, σ', B', rfl, h1, h2, h3⟩ := hr
 exact ⟨d, σ', B', h1, h2, g.trans h3.any, c.fm.go h3⟩
theorem Zj (G : Gd K h₀) {x : Str} {f : Addr} {p pos : Pos} {es : List Expr} {as : List WE} (hs : SndL prog w h₀ sc ns es as) (e : nsIn K mainGlobals x = some (some (.ref f))) (hk : keepIn K (.ref f) = true) (hx : (sc.names.lookup x) = some .globalImplicit) (hd : (x == ("__debug__" : Str)) = false) :
  SndE prog w h₀ sc ns (.Call (.Name x p) es [] pos) (wCall f as) := ⟨fun n C A env own ρ B σ s Q E c h => by
 rw [Vn]
 refine wpAny_bind (Zaj G c e hx hd ?_)
 refine Vg hs c (P := fun h => K.In h) (keeps_K hk) h fun vs s' ds σ' B' q r l g c' => ⟨G.inK c'.st, ?_⟩
 exact callC c' g q r⟩
noncomputable def wMeth (c f : Addr) (name : Str) (a : WE) (as : List WE) : WE := fun C ρ σ Q => a C ρ σ fun x σ1 => match x with
 | .inst c' d => c' = c ∧ match σ1 d with
  | some (.attrs fs) => slook fs name = none ∧ wL as C ρ σ1 fun ds σ2 => C f (.inst c' d :: ds) σ2 Q
  | _ => False
 | _ => False
theorem Zm (G : Gd K h₀) {c₀ f : Addr} {name : Str} (F : MethR K c₀ name f) {o : Expr} {apos pos : Pos} {es : List Expr} {a : WE} {as : List WE} {pl : Env → Sem Bool} (ho : SndE prog w h₀ sc ns o a) (hs : SndL prog w h₀ sc ns es as)
  (he : ∀ env, eval (.Call (.Attribute o name apos) es [] pos) env = (do
   let ov ← eval o env
   standAt apos.atName
   let (f, first) ← holding [ov] (getMethod ov name (pl env))
   callWith pos f first (backTo pos (starEach es env)) (backToKw pos (keywordEach [] env)))) :
  SndE prog w h₀ sc ns (.Call (.Attribute o name apos) es [] pos) (wMeth c₀ f name a as) := ⟨fun n C A env own ρ B σ s Q E c h => by
 refine methodCall_KW (ho.here c h fun v1 s1 d1 σ1 B1 q1 r1 g1 c1 => ?_) (he env)
 cases r1 with
 | @inst x c' d hb =>
  obtain ⟨rfl, q1⟩ := q1
  split at q1
  ·rename_i fs hσ
   obtain ⟨es', m, I, hr, -⟩ := inst_of c1.st hb hσ
   refine method_fn (G.inK c1.st) I (plainGet_of F.g).1 (plainGet_of F.g).2 F.m F.t (by show (lookIn name (dictOf es' m)).map _ = _; rw [lookIn_dict, hr.missing q1.1]; rfl) ?_
   refine Vg hs c1 (P := fun h => K.In h) (keeps_K F.k) q1.2 fun vs s' ds σ' B' q r l g c' => ⟨G.inK c'.st, ?_⟩
   exact callC c' (g1.trans g) q (.cons (.inst (g.ext.le _ _ hb)) r)
  ·exact q1.elim
 | _ => exact q1.elim⟩
noncomputable def wNew (c fI : Addr) (as : List WE) : WE := fun C ρ σ Q => wL as C ρ σ fun ds σ1 => ∀ d, σ1 d = none →
 C fI (.inst c d :: ds) (up σ1 d (some (.attrs []))) fun r σ2 => match r with | .none => Q (.inst c d) σ2 | _ => False
theorem Zc8 (A : Around) (a : Args) : (A.under (.builtin "type.__call__" a)).depth ≤ A.depth + 1 ∧ (A.under (.builtin "type.__call__" a)).units ≤ A.units + 1 ∧ (A.under (.builtin "type.__call__" a)).handled = A.handled ∧ (A.under (.builtin "type.__call__" a)).guards = A.guards := by
 have hg : (Code.builtin "type.__call__" a).isGuard = false := by show guardIds.contains "type.__call__" = false; decide +kernel
 have hf : (Code.builtin "type.__call__" a).frames = 0 := by rfl
 refine ⟨?_, ?_, rfl, ?_⟩
 ·show A.depth + (Code.builtin "type.__call__" a).weight ≤ A.depth + 1
  unfold Code.weight
  rw [hg, hf]
  have : (Code.builtin "type.__call__" a).isCaller = false := by rfl
  rw [this]
  split <;> simp
 ·show A.units + (Code.builtin "type.__call__" a).cUnits ≤ A.units + 1
  unfold Code.cUnits
  simp [hf]
 ·show pushGuards (Code.builtin "type.__call__" a).guards A.guards = A.guards
  unfold Code.guards
  rw [hg]; rfl
theorem Je (G : Gd K h₀) {x : Str} {c₀ fI : Addr} (F : MakeR K c₀ fI) {p pos : Pos} {es : List Expr} {as : List WE} (hs : SndL prog w h₀ sc ns es as) (e : nsIn K mainGlobals x = some (some (.ref c₀))) (hx : (sc.names.lookup x) = some .globalImplicit) (hd : (x == ("__debug__" : Str)) = false) :
  SndE prog w h₀ sc ns (.Call (.Name x p) es [] pos) (wNew c₀ fI as) := ⟨fun n C A env own ρ B σ s Q E c h => by
 rw [Vn]
 refine wpAny_bind (Zaj G c e hx hd ?_)
 refine Vg hs c (P := fun h => K.In h) (keeps_K F.k) h fun vs s' ds σ' B' q r l g c' => ⟨G.inK c'.st, ?_⟩
 have X := G.inK c'.st
 obtain ⟨hh, gg, dd, tt, os⟩ := s'
 obtain ⟨g2, c2⟩ := c'.newS emptyDict (.attrs []) ⟨[], 0, rfl, .nil⟩ rfl
 obtain ⟨g3, c3⟩ := c2.newB (instObj c₀ hh.objs.size) rfl
 refine wpAny_call (make_core (makes_of X F.m) (looks_findIn X F.i) (fun self => bind_fn X self F.t) (.inl rfl) ?_)
 obtain ⟨u1, u2, u3, u4⟩ := Zc8 A ⟨.ref c₀ :: vs, []⟩
 have rm : Room n (A.under (.builtin "type.__call__" ⟨.ref c₀ :: vs, []⟩)) := ⟨by have := c.room.depth; lia, by have := c.room.units; lia, u3.trans c.room.handled, u4.trans c.room.guards⟩
 have hsz : (hh.push emptyDict).objs.size = hh.objs.size + 1 := Heap.size_push ..
 have q' := q hh.objs.size c'.st.newS
 have rI : Rp prog w (up B' (hh.push emptyDict).objs.size (some (instObj c₀ hh.objs.size))) (.ref (hh.objs.size + 1)) (.inst c₀ hh.objs.size) := .inst (by rw [hsz]; exact Z2 ..)
 refine codeAny_mono (c.ora fI _ _ _ _ _ _ _ rm c3.st (.cons rI (r.mono fun a o e => g3.ext.le a o e)) q') fun r s'' hr => ?_
 obtain ⟨v, d, σ', B'', rfl, h1, h2, h3⟩ := hr
 cases h2 <;> first | exact h1.elim | skip
 refine ⟨rfl, ?_⟩
 exact ⟨_, σ', B'', h1, rI.mono h3.ext.le, ((g.trans g2).trans g3).trans h3.any, c3.fm.go h3⟩⟩
noncomputable def wFrz (a : WE) : WE := fun C ρ σ Q => a C ρ σ fun x σ1 => match x with
 | .inst c d => (match σ1 d with | some (.attrs fs) => Q (.obj c fs) (up σ1 d none) | _ => False)
 | _ => False
theorem Cx.freeze (c : Cx prog w h₀ sc ns n C A env own ρ B σ s) {a : Addr} {m : MObj} {o : Obj} (hs : σ a = some m) (ho : s.heap.get? a = some o) :
  Go prog w h₀ own B σ s (up B a (some o)) (up σ a none) s ∧ Cx prog w h₀ sc ns n C A env own ρ (up B a (some o)) (up σ a none) s := by
 obtain ⟨h1, h2⟩ := c.st.freeze hs ho
 have g : Go prog w h₀ [] B σ s (up B a (some o)) (up σ a none) s := ⟨h1, h2, rfl, rfl⟩
 exact ⟨g.any, c.to g.any (c.fm.go g)⟩
theorem J9 {e : Expr} {a : WE} (he : SndE prog w h₀ sc ns e a) : SndE prog w h₀ sc ns e (wFrz a) := ⟨fun n C A env own ρ B σ s Q E c h =>
 he.here c h fun v1 s1 d1 σ1 B1 q1 r1 g1 c1 => by
  cases r1 with
  | @inst x c' d hb =>
   dsimp only at q1
   split at q1
   ·rename_i fs hσ
    obtain ⟨o, ho, es, m, rfl, hr⟩ := c1.st.mu _ _ hσ
    obtain ⟨g2, c2⟩ := c1.freeze hσ ho
    exact c2.fin (g1.trans g2) q1 (.obj (g2.ext.le _ _ hb) (Z2 ..) (hr.mono g2.ext.le))
   ·exact q1.elim
  | _ => exact q1.elim⟩
end
noncomputable def tPick {α : Type} (l : List α) (lo hi : Option Int) : List α :=
 (List.range (Builtin.Slice.slicePlaces (Builtin.Slice.sliceAdjust lo hi 1 l.length).1 (Builtin.Slice.sliceAdjust lo hi 1 l.length).2 1)).filterMap fun (k : Nat) => l[((Builtin.Slice.sliceAdjust lo hi 1 l.length).1 + (k : Int) * 1).toNat]?
noncomputable def lPick {α : Type} (l : List α) (lo hi : Option Int) : List α :=
 (sliceRange (sliceBounds lo hi none l.length).1 (sliceBounds lo hi none l.length).2.1 (sliceBounds lo hi none l.length).2.2).filterMap (l[·]?)
noncomputable def partOf : D → Option (Option Int)
 | .none => some none
 | .int i => some (some i)
 | _ => none
noncomputable def gSlice (x lo hi : D) (q : D → Prop) : Prop := match partOf lo, partOf hi with
 | some a, some b => (match x with
  | .tup l => l.length ≤ 1000 ∧ q (.tup (tPick l a b))
  | .lst l => l.length ≤ 1000 ∧ q (.lst (lPick l a b))
  | _ => False)
 | _, _ => False
noncomputable def wOpt : Option WE → WE
 | none => wNone
 | some a => a
noncomputable def wSlice (x lo hi : WE) : WE := fun C ρ σ Q => x C ρ σ fun dx σ1 => lo C ρ σ1 fun dl σ2 => hi C ρ σ2 fun dh σ3 => gSlice dx dl dh fun d => Q d σ3
section
variable {prog : Program} {w : World} {h₀ : Heap} {K : Frag} {sc : Scope} {ns : List Str} {n : Nat} {C : Ora} {A : Around} {env : Env} {own : List Addr} {ρ : Loc} {B B' : Fz} {σ σ' : Sto} {s s' : Shared} {E : Value → Shared → Prop}
theorem Rps.picks {vs ds} (h : Rps prog w B vs ds) (f : Nat → Nat) : ∀ ks : List Nat, Rps prog w B (ks.filterMap fun k => vs[f k]?) (ks.filterMap fun k => ds[f k]?)
 | [] => .nil
 | k :: ks => by
  rw [List.filterMap_cons, List.filterMap_cons]
  cases e : ds[f k]? with
  | none =>
   have : vs[f k]? = none := by rw [List.getElem?_eq_none_iff] at e ⊢; rw [h.length]; exact e
   rw [this]; exact h.picks f ks
  | some d =>
   obtain ⟨v, hv, hp⟩ := h.get e
   rw [hv]; exact .cons hp (h.picks f ks)
theorem part_of {v : Value} {d : D} {x : Option Int} (r : Rp prog w B v d) (e : partOf d = some x) : IsPart v x := by
 cases r <;> first | (cases e; constructor; done) | (simp [partOf] at e; done) | (simp [partOf] at e; subst e; constructor)
theorem Zbq {v : Value} {x : Option Int} {Q : Option Int → Shared → Prop} (p : IsPart v x) (h : Q x s) : wpAny (model prog w) A (Builtin.Slice.slicePartIndex v) Q E s := by
 cases p
 ·exact slicePart_none h
 ·exact slicePart_int h
theorem Zce {sl : Addr} {vl vu : Value} {lo hi : Option Int} {k : Nat} {Q : Int × Int × Nat → Shared → Prop} (hs : s.heap.IsSliceOf sl vl vu .none) (pl : IsPart vl lo) (pu : IsPart vu hi)
  (h : Q ((Builtin.Slice.sliceAdjust lo hi 1 (k : Int)).1, 1, Builtin.Slice.slicePlaces (Builtin.Slice.sliceAdjust lo hi 1 (k : Int)).1 (Builtin.Slice.sliceAdjust lo hi 1 (k : Int)).2 1) s) :
  wpAny (model prog w) A (Builtin.Slice.sliceApplied (.ref sl) (pure (k : Int))) Q E s := by
 obtain ⟨os, hos, hcs, hds⟩ := id hs
 unfold Builtin.Slice.sliceApplied Builtin.Slice.sliceFields
 refine wpAny_bind (wpAny_bind (wpAny_field hos hds (x := vl) rfl (wpAny_bind (wpAny_field hos hds (x := vu) rfl (wpAny_bind (wpAny_field hos hds (x := .none) rfl (wpAny_pure ?_)))))))
 refine wpAny_bind (slicePart_none ?_)
 show wpAny _ _ (if ((1 : Int) == 0) = true then _ else _) _ _ s
 rw [if_neg (by decide)]
 exact wpAny_bind (Zbq pl (wpAny_bind (Zbq pu (wpAny_bind (wpAny_pure (wpAny_pure h))))))
theorem adj_lo (lo hi : Option Int) (n : Nat) : 0 ≤ (Builtin.Slice.sliceAdjust lo hi 1 (n : Int)).1 := by
 cases lo with
 | none => exact Int.le_refl 0
 | some v =>
  show 0 ≤ (if v < 0 then max (v + n) 0 else min v n)
  split <;> lia
theorem adj_hi (lo hi : Option Int) (n : Nat) : (Builtin.Slice.sliceAdjust lo hi 1 (n : Int)).2 ≤ n := by
 cases hi with
 | none => exact Int.le_refl _
 | some v =>
  show (if v < 0 then max (v + n) 0 else min v n) ≤ (n : Int)
  split <;> lia
theorem Zg1 {a b : Int} {n : Nat} (ha : 0 ≤ a) (hb : b ≤ n) : Builtin.Slice.slicePlaces a b 1 ≤ n := by
 unfold Builtin.Slice.slicePlaces
 rw [if_pos (by decide)]
 split
 ·rw [Int.ediv_one]; lia
 ·exact Nat.zero_le _
theorem Zf8 {t sl : Addr} {items : Array Value} {vl vu : Value} {lo hi : Option Int} {Q : Value → Shared → Prop} (ht : IsTup s.heap t items) (hs : s.heap.IsSliceOf sl vl vu .none) (pl : IsPart vl lo) (pu : IsPart vu hi)
  (hsz : items.size ≤ 1000)
  (h : Q (.ref s.heap.objs.size) { s with heap := s.heap.push { cls := .type "tuple", data := .seq (tPick items.toList lo hi).toArray } })
  (hw : tPick items.toList lo hi = items.toList → Q (.ref t) s) :
  wpAny (model prog w) A (getItem (.ref t) (.ref sl)) Q E s := by
 obtain ⟨os, hos, hcs, hds⟩ := id hs
 have hTs : s.TypeIs (.ref sl) "slice" := ⟨os, hos, hcs⟩
 unfold getItem
 refine wpAny_holding ?_
 refine wpAny_bind (wpAny_sequenceKey ht.typeIs (by decide) ?_)
 refine wpAny_bind (wpAny_callSpecial?_slot (name := Str.ofString "__getitem__") ht.typeIs slot_tuple_getitem
  (wpAny_call_entry slot_tuple_getitem ht.typeIs entry_tuple_getitem ?_ (args_tuple_getitem _ _)))
 show wpAny _ _ (Builtin.Tuple.tupleItemsOf (.ref t) >>= _) _ _ s
 refine wpAny_bind (tupleItemsOf_ ht ?_)
 refine wpAny_bind (wpAny_typeOf hTs ?_)
 rw [if_pos (by decide)]
 refine wpAny_bind (Zce (k := items.size) hs pl pu ?_)
 have ep : ((List.range (Builtin.Slice.slicePlaces (Builtin.Slice.sliceAdjust lo hi 1 (items.size : Int)).1 (Builtin.Slice.sliceAdjust lo hi 1 (items.size : Int)).2 1)).filterMap fun (k : Nat) => items[((Builtin.Slice.sliceAdjust lo hi 1 (items.size : Int)).1 + (k : Int) * 1).toNat]?) = tPick items.toList lo hi := by
  unfold tPick; simp only [Array.length_toList, Array.getElem?_toList]
 have hlen : (tPick items.toList lo hi).length ≤ sizeLine := by
  rw [← ep]
  refine Nat.le_trans (List.length_filterMap_le _ _) ?_
  rw [List.length_range, sizeLine_eq]
  exact Nat.le_trans (Zg1 (adj_lo lo hi _) (adj_hi lo hi _)) (Nat.le_trans hsz (Nat.le_of_ble_eq_true rfl))
 show wpAny _ _ (if ((Builtin.Slice.sliceAdjust lo hi 1 (items.size : Int)).1 == 0 && (1 : Int) == 1 && Builtin.Slice.slicePlaces (Builtin.Slice.sliceAdjust lo hi 1 (items.size : Int)).1 (Builtin.Slice.sliceAdjust lo hi 1 (items.size : Int)).2 1 == items.size) = true then _ else _) _ _ s
 split
 ·rename_i hc
  simp only [Bool.and_eq_true, beq_iff_eq] at hc
  refine wpAny_bind (m := Builtin.Tuple.tupleIsExact (.ref t)) ?_
  unfold Builtin.Tuple.tupleIsExact
  refine wpAny_bind (wpAny_typeOf ht.typeIs (wpAny_pure ?_))
  rw [if_pos (by decide)]
  refine wpAny_bind (wpAny_rule (wpAny_bind (wpAny_pure (wpAny_pure ⟨_, rfl, wpAny_pure (hw ?_)⟩))))
  rw [← ep, hc.2, hc.1.1]
  have e2 : (fun (k : Nat) => items[((0 : Int) + (k : Int) * 1).toNat]?) = fun k => items.toList[k]? := by
   funext k
   have : ((0 : Int) + (k : Int) * 1).toNat = k := by lia
   rw [this, Array.getElem?_toList]
  rw [e2, ← Array.length_toList]
  generalize items.toList = l
  induction l with
  | nil => rfl
  | cons a l ih => rw [List.length_cons, List.range_succ_eq_map, List.filterMap_cons, List.filterMap_map]; exact congrArg (a :: ·) ih
 ·rw [ep]
  exact wpAny_bind (m := Builtin.Tuple.tupleExact _) (wpAny_newObj_type (wpAny_bind (wpAny_pure (wpAny_pure ⟨_, rfl, wpAny_pure h⟩))) (by show _ ≤ sizeLine; rw [List.size_toArray]; exact hlen))
theorem Vi {value : Expr} {lower upper : Option Expr} {p pos : Pos} {x lo hi : WE} (hx : SndE prog w h₀ sc ns value x)
  (hlo : ∀ n C A env own ρ B σ s Q E, Cx prog w h₀ sc ns n C A env own ρ B σ s → lo C ρ σ Q → wpAny (model prog w) A (evalPart lower env) (PostE prog w h₀ ns env own ρ B σ s Q) E s)
  (hhi : ∀ n C A env own ρ B σ s Q E, Cx prog w h₀ sc ns n C A env own ρ B σ s → hi C ρ σ Q → wpAny (model prog w) A (evalPart upper env) (PostE prog w h₀ ns env own ρ B σ s Q) E s) :
  SndE prog w h₀ sc ns (.Subscript value (.Slice lower upper none p) pos) (wSlice x lo hi) := ⟨fun n C A env own ρ B σ s Q E c h => by
 refine Subscript_ (hx.here c h fun v1 s1 d1 σ1 B1 q1 r1 g1 c1 => wpAny_Slice ?_)
 refine wpAny_mono (hlo n C A env own ρ B1 σ1 s1 _ E c1 q1) (fun v2 s2 h2 => ?_) fun _ _ x => x
 obtain ⟨d2, σ2, B2, q2, r2, g2, f2⟩ := h2
 have c2 := c1.to g2 f2
 refine wpAny_mono (hhi n C A env own ρ B2 σ2 s2 _ E c2 q2) (fun v3 s3 h3 => ?_) fun _ _ x => x
 obtain ⟨d3, σ3, B3, q3, r3, g3, f3⟩ := h3
 have c3 := c2.to g3 f3
 rw [evalPart_none]
 refine wpAny_pure ?_
 obtain ⟨g4, c4⟩ := c3.new0 { cls := .type "slice", data := .fields #[v2, v3, .none] }
 have hsl : (s3.heap.push { cls := .type "slice", data := .fields #[v2, v3, .none] }).IsSliceOf s3.heap.objs.size v2 v3 .none := ⟨_, Heap.get?_push_size _ rfl, rfl, rfl⟩
 have gg := ((g1.trans g2).trans g3).trans g4
 have r1' := r1.mono ((g2.trans g3).trans g4).ext.le
 unfold gSlice at q3
 split at q3
 ·rename_i a b ea eb
  have pl := part_of r2 ea
  have pu := part_of r3 eb
  cases r1' with
  | @tup a' o vs m ds hb hc hd hr =>
   have ht : IsTup (s3.heap.push { cls := .type "slice", data := .fields #[v2, v3, .none] }) a' vs := ⟨_, c4.st.fz _ _ hb, hc, _, hd⟩
   have hl : vs.size = ds.length := by have := hr.length; simpa using this
   have hp : Rps prog w B3 (tPick vs.toList a b) (tPick ds a b) := by
    unfold tPick; rw [hr.length]; exact hr.picks _ _
   refine tail_any (T := "tuple") ht.typeIs slot_tuple_getitem.lookup (Zf8 ht hsl pl pu (by rw [hl]; exact q3.1) ?_ fun e => ?_) rfl
   ·obtain ⟨g5, c5⟩ := c4.newB { cls := .type "tuple", data := .seq (tPick vs.toList a b).toArray } rfl
    exact c5.fin (gg.trans g5) q3.2 (.tup (Z2 ..) rfl rfl (hp.mono g5.ext.le))
   ·exact c4.fin gg q3.2 (.tup hb hc hd (by rw [← e]; exact hp))
  | @lst a' o vs m ds hb hc hd hr =>
   have ht : (s3.heap.push { cls := .type "slice", data := .fields #[v2, v3, .none] }).IsList a' vs := ⟨_, c4.st.fz _ _ hb, hc, _, hd⟩
   have hl : vs.size = ds.length := by have := hr.length; simpa using this
   have hp : Rps prog w B3 (slicePick vs a b none).toList (lPick ds a b) := by
    unfold slicePick lPick; rw [hl]
    have := hr.picks id (sliceRange (sliceBounds a b none ds.length).1 (sliceBounds a b none ds.length).2.1 (sliceBounds a b none ds.length).2.2)
    simpa only [id, Array.getElem?_toList] using this
   refine tail_any (T := "list") ht.typeIs slot_list_getitem.lookup (wpAny_getItem_list_slice ht hsl pl pu .none (by intro e; cases e) ?_ (by rw [hl, sizeLine_eq]; have := q3.1; lia)) rfl
   obtain ⟨g5, c5⟩ := c4.newB { cls := .type "list", data := .seq (slicePick vs a b none) } rfl
   exact c5.fin (gg.trans g5) q3.2 (.lst (Z2 ..) rfl rfl (hp.mono g5.ext.le))
  | _ => exact q3.elim
 ·exact q3.elim⟩
theorem Jf {e : Expr} {a : WE} (h : SndE prog w h₀ sc ns e a) : ∀ n C A env own ρ B σ s Q E, Cx prog w h₀ sc ns n C A env own ρ B σ s → a C ρ σ Q → wpAny (model prog w) A (evalPart (some e) env) (PostE prog w h₀ ns env own ρ B σ s Q) E s := h.go
theorem Zak : ∀ n C A env own ρ B σ s Q E, Cx prog w h₀ sc ns n C A env own ρ B σ s → wNone C ρ σ Q → wpAny (model prog w) A (evalPart none env) (PostE prog w h₀ ns env own ρ B σ s Q) E s :=
 fun n C A env own ρ B σ s Q E c h => wpAny_pure (c.fin c.refl h .none)
noncomputable def BOk (prog : Program) (w : World) (h₀ : Heap) (f : Value) (op : List D → Sto → (D → Prop) → Prop) : Prop := ∀ n A B σ s vs ds q R E, RoomB n A → St prog w h₀ B σ s.heap → Rps prog w B vs ds → op ds σ q →
 (∀ v s' d, q d → Rp prog w B v d → St prog w h₀ B σ s'.heap → Go prog w h₀ [] B σ s B σ s' → R v s') → wpAny (model prog w) A (call f vs []) R E s
noncomputable def wBi (op : List D → Sto → (D → Prop) → Prop) (as : List WE) : WE := fun C ρ σ Q => wL as C ρ σ fun ds σ1 => op ds σ1 fun d => Q d σ1
theorem Z0 (G : Gd K h₀) {x : Str} {f : Value} {op} {p pos : Pos} {es : List Expr} {as : List WE} (ok : BOk prog w h₀ f op) (hs : SndL prog w h₀ sc ns es as) (e : nsIn K mainGlobals x = some none) (hv : bootBuiltins x = some f) (hn : x ≠ "__name__") (hx : (sc.names.lookup x) = some .globalImplicit)
  (hd : (x == ("__debug__" : Str)) = false) (hf : (∃ i, f = .builtin i) ∨ ∃ i, f = .type i) :
  SndE prog w h₀ sc ns (.Call (.Name x p) es [] pos) (wBi op as) := ⟨fun n C A env own ρ B σ s Q E c h => by
 rw [Vn]
 refine wpAny_bind (Uf G c e hv hn hx hd ?_)
 refine Vg hs c (P := fun _ => True) (by rcases hf with ⟨i, rfl⟩ | ⟨i, rfl⟩; exact Jp i; exact Zdc i) h fun vs s' ds σ' B' q r l g c' => ⟨trivial, ?_⟩
 exact ok n A B' σ' s' vs ds _ _ E c'.room c'.st r q fun v s'' d qd rv st' g' => ⟨d, σ', B', qd, rv, g.trans g'.any, c'.fm.go g'⟩⟩
theorem St.keepAll (st : St prog w h₀ B σ s.heap) {h' : Heap} {t : Nat} (k : ∀ a o, s.heap.get? a = some o → h'.get? a = some o) : Go prog w h₀ [] B σ s B σ { s with heap := h', toks := t } :=
 ⟨⟨st.base, fun a o e => k a o (st.fz a o e), fun a m e => let ⟨o, ho, hm⟩ := st.mu a m e; ⟨o, k a o ho, hm⟩, st.dj⟩, ⟨fun _ _ e => e, fun a o e _ _ => k a o e, fun _ _ _ a b => ⟨a, b⟩, fun a o e => ⟨o, k a o e⟩⟩, rfl, rfl⟩
noncomputable def bLen (ds : List D) (σ : Sto) (q : D → Prop) : Prop := match ds with
 | [.tup l] => l.length ≤ 100000 ∧ q (.int l.length)
 | [.lst l] => l.length ≤ 100000 ∧ q (.int l.length)
 | [.mlst a] => (match σ a with | some (.list l) => l.length ≤ 100000 ∧ q (.int l.length) | _ => False)
 | _ => False
theorem bLen_inv {ds : List D} {σ : Sto} {q : D → Prop} (h : bLen ds σ q) : (∃ l, ds = [.tup l] ∧ l.length ≤ 100000 ∧ q (.int l.length)) ∨ (∃ l, ds = [.lst l] ∧ l.length ≤ 100000 ∧ q (.int l.length)) ∨ ∃ a l, ds = [.mlst a] ∧ σ a = some (.list l) ∧ l.length ≤ 100000 ∧ q (.int l.length) := by
 cases ds with
 | nil => exact h.elim
 | cons d ds => cases ds with
  | cons => cases d <;> exact h.elim
  | nil => cases d with
   | tup l => exact .inl ⟨l, rfl, h⟩
   | lst l => exact .inr (.inl ⟨l, rfl, h⟩)
   | mlst a =>
    cases e : σ a with
    | none => simp only [bLen, e] at h
    | some m =>
     simp only [bLen, e] at h
     cases m with
     | list l => exact .inr (.inr ⟨a, l, rfl, e, h⟩)
     | _ => exact h.elim
   | _ => exact h.elim
theorem len_of {vs : List Value} {ds : List D} (h : Rps prog w B vs ds) (hl : ds.length ≤ 100000) : (vs.length : Int) < 2 ^ 63 ∧ (vs.length : Int) = ds.length := ⟨Int.lt_of_le_of_lt (Int.ofNat_le.mpr (h.length ▸ hl : vs.length ≤ 100000)) (by decide), by rw [h.length]⟩
theorem Zdj : BOk prog w h₀ (.builtin "len") bLen := fun n A B σ s vs ds q R E r st hr h k => by
 refine byC fun nT => ?_
 rcases bLen_inv h with ⟨l, rfl, hl, hq⟩ | ⟨l, rfl, hl, hq⟩ | ⟨a, l, rfl, hσ, hl, hq⟩
 ·obtain ⟨v, rfl, h1⟩ := hr.one
  obtain ⟨a, o, us, m, rfl, hb, hc, hd, hr⟩ := h1.inv
  have := len_of hr hl
  rw [Array.length_toList] at this
  rw [← this.2] at hq
  exact nT (len_tuple (items := us) ⟨_, st.fz _ _ hb, hc, _, hd⟩ this.1 (k _ _ _ hq (.int _ _) st (Go.toks st _)))
 ·obtain ⟨v, rfl, h1⟩ := hr.one
  obtain ⟨a, o, us, m, rfl, hb, hc, hd, hr⟩ := h1.inv
  have := len_of hr hl
  rw [Array.length_toList] at this
  rw [← this.2] at hq
  exact nT (len_list (items := us) ⟨_, st.fz _ _ hb, hc, _, hd⟩ this.1 (k _ _ _ hq (.int _ _) st (Go.toks st _)))
 ·obtain ⟨v, rfl, h1⟩ := hr.one
  have e : v = .ref a := h1.inv
  rw [e] at nT
  obtain ⟨o, ho, hmr⟩ := st.mu _ _ hσ
  obtain ⟨hc, us, m, hd, hr⟩ := hmr.lst
  have := len_of hr hl
  rw [Array.length_toList] at this
  rw [← this.2] at hq
  exact nT (len_list (items := us) ⟨_, ho, hc, _, hd⟩ this.1 (k _ _ _ hq (.int _ _) st (Go.toks st _)))
noncomputable def bInt (ds : List D) (σ : Sto) (q : D → Prop) : Prop := match ds with
 | [.int i] => q (.int i)
 | [.bool b] => q (.int (if b then 1 else 0))
 | [.str x] => x.length ≤ 640 ∧ match PySem.intText? x with | some i => q (.int i) | none => False
 | _ => False
theorem bInt_inv {ds : List D} {σ : Sto} {q : D → Prop} (h : bInt ds σ q) : (∃ i, ds = [.int i] ∧ q (.int i)) ∨ (∃ b, ds = [.bool b] ∧ q (.int (if b then 1 else 0))) ∨ ∃ x i, ds = [.str x] ∧ x.length ≤ 640 ∧ PySem.intText? x = some i ∧ q (.int i) := by
 cases ds with
 | nil => exact h.elim
 | cons d ds => cases ds with
  | cons => cases d <;> exact h.elim
  | nil => cases d with
   | int i => exact .inl ⟨i, rfl, h⟩
   | bool i => exact .inr (.inl ⟨i, rfl, h⟩)
   | str x =>
    have h2 := h.2
    cases e : PySem.intText? x with
    | none => rw [e] at h2; exact h2.elim
    | some i => rw [e] at h2; exact .inr (.inr ⟨x, i, rfl, h.1, e, h2⟩)
   | _ => exact h.elim
theorem Vw : BOk prog w h₀ (.type "int") bInt := fun n A B σ s vs ds q R E r st hr h k => by
 refine byC fun nT => ?_
 rcases bInt_inv h with ⟨i, rfl, h⟩ | ⟨b, rfl, h⟩ | ⟨x, i, rfl, hl, hi, h⟩
 ·obtain ⟨v, rfl, h1⟩ := hr.one
  obtain ⟨t, rfl⟩ := h1.inv
  exact nT (call_int_int (k _ _ _ h (.int _ _) st (Go.refl _ st)))
 ·obtain ⟨v, rfl, h1⟩ := hr.one
  have e : v = .bool b := h1.inv
  rw [e] at nT
  exact nT (call_int_bool (k _ _ _ h (.int _ _) st (Go.toks st _)))
 ·obtain ⟨v, rfl, h1⟩ := hr.one
  obtain ⟨t, rfl, _⟩ := h1.inv
  exact nT (KIN.call_text hi hl (k _ _ _ h (.int _ _) st (Go.toks st _)))
noncomputable def bBool (ds : List D) (σ : Sto) (q : D → Prop) : Prop := match ds with
 | [.int i] => q (.bool (i != 0))
 | [.bool b] => q (.bool b)
 | _ => False
theorem ok_bool : BOk prog w h₀ (.type "bool") bBool := fun n A B σ s vs ds q R E r st hr h k => by
 refine byC fun nT => ?_
 cases ds with
 | nil => exact h.elim
 | cons d ds => cases ds with
  | cons => cases d <;> exact h.elim
  | nil =>
   obtain ⟨v, rfl, h1⟩ := hr.one
   cases d with
   | int i =>
    obtain ⟨t, rfl⟩ := h1.inv
    exact nT (call_bool_int (k _ _ _ h (.bool _) st (Go.refl _ st)))
   | bool b =>
    have e : v = .bool b := h1.inv
    rw [e] at nT
    exact nT (call_bool_bool (k _ _ _ h (.bool _) st (Go.refl _ st)))
   | _ => exact h.elim
noncomputable def bMax (ds : List D) (σ : Sto) (q : D → Prop) : Prop := ∃ i j : Int, ds = [.int i, .int j] ∧ q (.int (if j > i then j else i))
theorem ok_max : BOk prog w h₀ (.builtin "max") bMax := fun n A B σ s vs ds q R E r st hr h k => by
 refine byC fun nT => ?_
 obtain ⟨i, j, rfl, h⟩ := h
 obtain ⟨v, u, rfl, h1, h2⟩ := hr.two
 obtain ⟨t, rfl⟩ := h1.inv
 obtain ⟨t', rfl⟩ := h2.inv
 refine nT (max_two_ints r.handled fun h' tk kk => ?_)
 have g := st.keepAll (t := tk) kk
 split
 ·rename_i hc; rw [if_pos hc] at h; exact k _ _ _ h (.int _ _) g.st g
 ·rename_i hc; rw [if_neg hc] at h; exact k _ _ _ h (.int _ _) g.st g
noncomputable def bRepr (ds : List D) (σ : Sto) (q : D → Prop) : Prop := match ds with
 | [.none] => q (.str "None")
 | [.int i] => i.natAbs.log2 < 1920 ∧ q (.str (toString i))
 | [.str x] => ((reprText x).length ≤ 1000 ∧ PyData.strOk (reprText x) = true) ∧ q (.str (reprText x))
 | _ => False
theorem ok_repr : BOk prog w h₀ (.builtin "repr") bRepr := fun n A B σ s vs ds q R E r st hr h k => by
 refine byC fun nT => ?_
 cases ds with
 | nil => exact h.elim
 | cons d ds => cases ds with
  | cons => cases d <;> exact h.elim
  | nil =>
   obtain ⟨v, rfl, h1⟩ := hr.one
   cases d with
   | none =>
    have e : v = .none := h1.inv
    rw [e] at nT
    exact nT (P.repr_of_none (k _ _ _ h (.str _ (Zd _)) st (Go.toks st _)))
   | int i =>
    obtain ⟨t, rfl⟩ := h1.inv
    exact nT (P.repr_of_int h.1 (k _ _ _ h.2 (.str _ (Zd _)) st (Go.toks st _)))
   | str x =>
    obtain ⟨t, rfl, _⟩ := h1.inv
    exact nT (P.repr_of_str (k _ _ _ h.2 (.str _ h.1.2) st (Go.toks st _)) (Nat.le_trans h.1.1 (by rw [sizeLine_eq]; decide)))
   | _ => exact h.elim
noncomputable def bStr (ds : List D) (σ : Sto) (q : D → Prop) : Prop := ∃ i : Int, ds = [.int i] ∧ i.natAbs.log2 < 1920 ∧ q (.str (toString i))
theorem ok_str : BOk prog w h₀ (.type "str") bStr := fun n A B σ s vs ds q R E r st hr h k => by
 refine byC fun nT => ?_
 obtain ⟨i, rfl, h⟩ := h
 obtain ⟨v, rfl, h1⟩ := hr.one
 obtain ⟨t, rfl⟩ := h1.inv
 exact nT (P.str_of_int h.1 (k _ _ _ h.2 (.str _ (Zd _)) st (Go.toks st _)))
end
structure IsiR (K : Frag) (C : Addr) (yes no : List Addr) : Prop where
 y : ∀ c ∈ yes, isIn K (.ref c) C = true
 n : ∀ c ∈ no, kin_not K c C = true
structure ClsR (K : Frag) (D : Addr) : Prop where
 g : plainGet K D "__class__" = true
 d : hasDictIn K D = true
 a : findIn K (.ref D) "__class__" = some (some (.builtin "object.__class__"))
 n : specialIn K (.builtin "object.__class__") "__get__" = some (some (.builtin "getset_descriptor.__get__"))
 t : takesIn K (.builtin "object.__class__") = some true
 m : mroIn K D (.type "object") = some true
noncomputable def gIsi (yes no : List Addr) (x : D) (q : Bool → Prop) : Prop := match x with
 | .obj c _ => (c ∈ yes ∧ q true) ∨ (c ∈ no ∧ q false)
 | _ => False
noncomputable def gIsiInt (x : D) (q : Bool → Prop) : Prop := match x with
 | .none => q false
 | .int _ => q true
 | .str _ => q false
 | _ => False
noncomputable def gIsiStr (x : D) (q : Bool → Prop) : Prop := match x with
 | .none => q false
 | .int _ => q false
 | .str _ => q true
 | _ => False
noncomputable def wIsi (g : D → (Bool → Prop) → Prop) (a : WE) : WE := fun C ρ σ Q => a C ρ σ fun x σ1 => g x fun b => Q (.bool b) σ1
section
variable {prog : Program} {w : World} {h₀ : Heap} {K : Frag} {sc : Scope} {ns : List Str} {n : Nat} {C : Ora} {A : Around} {env : Env} {own : List Addr} {ρ : Loc} {B B' : Fz} {σ σ' : Sto} {s s' : Shared} {E : Value → Shared → Prop}
theorem Zdu (G : Gd K h₀) {e : Expr} {y : Str} {py p pos : Pos} {a : WE} {g : D → (Bool → Prop) → Prop} {T : Value} (he : SndE prog w h₀ sc ns e a) (hst : isStar e = false)
  (hT : ∀ {n C A env own ρ B σ s} {E : Value → Shared → Prop} {R : Value → Shared → Prop}, Cx prog w h₀ sc ns n C A env own ρ B σ s → R T s → wpAny (model prog w) A (eval (.Name y py) env) R E s)
  (hg : ∀ {A : Around} {B : Fz} {σ : Sto} {s : Shared} {v : Value} {x : D} {q : Bool → Prop} {E R : Value → Shared → Prop}, St prog w h₀ B σ s.heap → Rp prog w B v x → g x q → (∀ b t, q b → R (.bool b) { s with toks := t }) → wpAny (model prog w) A (call (.builtin "isinstance") [v, T]) R E s)
  (e1 : nsIn K mainGlobals "isinstance" = some none) (hx : (sc.names.lookup ("isinstance" : Str)) = some .globalImplicit) :
  SndE prog w h₀ sc ns (.Call (.Name "isinstance" p) [e, .Name y py] [] pos) (wIsi g a) := ⟨fun n C A env own ρ B σ s Q E c h => by
 rw [Vn]
 refine wpAny_bind (Uf G (x := "isinstance") (v := .builtin "isinstance") c e1 rfl (by decide) hx (by decide) ?_)
 refine callWith_of (P := fun _ => True) (args := backTo pos (starEach [e, .Name y py] env)) (by rw [Vl hst]; rfl) (Jp "isinstance") ?_
 rw [Vl hst]
 refine evalArgs_plain ?_
 show wpAny _ _ (do let v ← eval e env; let here ← pure [v]; return here ++ (← holding here (spliced (backTo pos (starEach [.Name y py] env))))) _ _ _
 refine wpAny_bind (he.here c h fun v1 s1 d1 σ1 B1 q1 r1 g1 c1 => ?_)
 refine wpAny_bind (wpAny_pure (wpAny_bind (wpAny_holding ?_)))
 show wpAny _ _ (do let v ← eval (.Name y py) env; let here ← pure [v]; return here ++ (← holding here (spliced (backTo pos (starEach [] env))))) _ _ _
 refine wpAny_bind (hT c1 (wpAny_bind (wpAny_pure (wpAny_bind (wpAny_holding (wpAny_pure (wpAny_pure (wpAny_pure ⟨trivial, ?_⟩))))))))
 exact hg c1.st r1 q1 fun b t qb => c1.finT t g1 qb (.bool b)⟩
theorem Yu (G : Gd K h₀) {C₀ : Addr} {yes no : List Addr} (F : IsiR K C₀ yes no) (hD : ∀ c ∈ no, ClsR K c) {e : Expr} {y : Str} {py p pos : Pos} {a : WE} (he : SndE prog w h₀ sc ns e a) (hst : isStar e = false)
  (ey : nsIn K mainGlobals y = some (some (.ref C₀))) (hy : (sc.names.lookup y) = some .globalImplicit) (hd : (y == ("__debug__" : Str)) = false)
  (e1 : nsIn K mainGlobals "isinstance" = some none) (hx : (sc.names.lookup ("isinstance" : Str)) = some .globalImplicit) :
  SndE prog w h₀ sc ns (.Call (.Name "isinstance" p) [e, .Name y py] [] pos) (wIsi (gIsi yes no) a) :=
 Zdu G he hst (fun c h => Zaj G c ey hy hd h) (fun {A B σ s v x q E R} st hv h k => by
  have X := G.inK st
  cases hv <;> first | exact h.elim | skip
  rename_i a c d es m fs h3 h2 h1
  have I : W.InstAt s.heap a (instObj c d) c (some (dictOf es m)) := ⟨st.fz _ _ h3, rfl, rfl, st.fz _ _ h2⟩
  rcases h with ⟨hc, hq⟩ | ⟨hc, hq⟩
  ·exact isi_call X (fun M => I.type) (F.y _ hc) (by intro q; cases q) (k true s.toks hq)
  ·have D := hD _ hc
   exact kin_callC X I (F.n _ hc) D.g D.d D.a D.n D.t D.m (k false _ hq)) e1 hx
theorem Za0 (G : Gd K h₀) {e : Expr} {py p pos : Pos} {a : WE} (he : SndE prog w h₀ sc ns e a) (hst : isStar e = false)
  (ey : nsIn K mainGlobals "int" = some none) (hy : (sc.names.lookup ("int" : Str)) = some .globalImplicit)
  (e1 : nsIn K mainGlobals "isinstance" = some none) (hx : (sc.names.lookup ("isinstance" : Str)) = some .globalImplicit) :
  SndE prog w h₀ sc ns (.Call (.Name "isinstance" p) [e, .Name "int" py] [] pos) (wIsi gIsiInt a) :=
 Zdu G (T := .type "int") he hst (fun c h => Uf G (x := "int") (v := .type "int") c ey rfl (by decide) hy (by decide) h) (fun st hv h k => by
  cases hv <;> first | exact h.elim | exact IsiPair.NoneType_int (k _ _ h) | exact IsiPair.int_int (k _ _ h) | exact IsiPair.str_int (k _ _ h)) e1 hx
theorem Zhn (G : Gd K h₀) {e : Expr} {py p pos : Pos} {a : WE} (he : SndE prog w h₀ sc ns e a) (hst : isStar e = false)
  (ey : nsIn K mainGlobals "str" = some none) (hy : (sc.names.lookup ("str" : Str)) = some .globalImplicit)
  (e1 : nsIn K mainGlobals "isinstance" = some none) (hx : (sc.names.lookup ("isinstance" : Str)) = some .globalImplicit) :
  SndE prog w h₀ sc ns (.Call (.Name "isinstance" p) [e, .Name "str" py] [] pos) (wIsi gIsiStr a) :=
 Zdu G (T := .type "str") he hst (fun c h => Uf G (x := "str") (v := .type "str") c ey rfl (by decide) hy (by decide) h) (fun st hv h k => by
  cases hv <;> first | exact h.elim | exact IsiPair.NoneType_str (k _ _ h) | exact IsiPair.int_str (k _ _ h) | exact IsiPair.str_str (k _ _ h)) e1 hx
end
noncomputable def wPs : List (WE × WE) → Ora → Loc → Sto → (List (D × D) → Sto → Prop) → Prop
 | [], _, _, σ, Q => Q [] σ
 | a :: r, C, ρ, σ, Q => a.1 C ρ σ fun d σ1 => a.2 C ρ σ1 fun e σ2 => wPs r C ρ σ2 fun ds σ3 => Q ((d, e) :: ds) σ3
noncomputable def toZ : List (D × D) → Option (List (Int × D))
 | [] => some []
 | (.int i, d) :: r => (toZ r).map fun z => (i, d) :: z
 | _ => none
noncomputable def toS : List (D × D) → Option (List (Str × D))
 | [] => some []
 | (.str i, d) :: r => (toS r).map fun z => (i, d) :: z
 | _ => none
noncomputable def wDicZ (ps : List (WE × WE)) : WE := fun C ρ σ Q => wPs ps C ρ σ fun ds σ1 => match toZ ds with | some zs => (zs.map (·.1)).Nodup ∧ Q (.dici zs) σ1 | none => False
noncomputable def wDicS (ps : List (WE × WE)) : WE := fun C ρ σ Q => wPs ps C ρ σ fun ds σ1 => match toS ds with | some zs => (zs.map (·.1)).Nodup ∧ Q (.dics zs) σ1 | none => False
noncomputable def wDicM (ps : List (WE × WE)) : WE := fun C ρ σ Q => wPs ps C ρ σ fun ds σ1 => match toZ ds with | some zs => (zs.map (·.1)).Nodup ∧ ∀ a e, σ1 a = none → Q (.mdic a) (up σ1 a (some (.dict e zs))) | none => False
noncomputable def wDic0 : WE := fun C ρ σ Q => ∀ a e, σ a = none → Q (.mdic a) (up σ a (some (.dict e [])))
section
variable {prog : Program} {w : World} {h₀ : Heap} {K : Frag} {sc : Scope} {ns : List Str} {n : Nat} {C : Ora} {A : Around} {env : Env} {own : List Addr} {ρ : Loc} {B B' B1 : Fz} {σ σ' σ1 : Sto} {s s' s1 : Shared} {E : Value → Shared → Prop}
theorem Gd.big (G : Gd K h₀) : sysModules < h₀.objs.size := by
 obtain ⟨mg, mb, g1, g2, g3⟩ := G.names
 obtain ⟨o, _, _, ho, _⟩ := g1
 exact Nat.lt_of_le_of_lt (by decide) (Heap.lt_size ho)
theorem St.notModules (G : Gd K h₀) (st : St prog w h₀ B σ s.heap) : (s.heap.objs.size == sysModules) = false := by
 have h1 := G.big
 obtain ⟨mg, mb, g1, g2, g3⟩ := G.names
 obtain ⟨o, _, _, ho, _⟩ := g1
 have h3 : mainGlobals < s.heap.objs.size := Heap.lt_size (st.baseHeap _ _ ho)
 have h2 : sysModules ≤ mainGlobals := by decide
 rw [beq_eq_false_iff_ne]; exact Nat.ne_of_gt (Nat.lt_of_le_of_lt h2 h3)
theorem Cx.ne_own (c : Cx prog w h₀ sc ns n C A env own ρ B σ s) {d : Addr} (hd : s.heap.get? d = none) : ∀ a, (a ∈ own ∨ ∃ x, env.cells.lookup x = some a) → a ≠ d := fun a ha e => by
 obtain ⟨_, _, o, ho⟩ := c.fm.out a ha
 rw [e, hd] at ho; cases ho
theorem Ze9 {own' : List Addr} (x : Ext own' B σ s.heap B1 σ1 s1.heap) {d : Addr} {h' : Heap} {B2 : Fz} {σ2 : Sto} (hd : s.heap.get? d = none) (hB : B1 d = none) (sb : Heap.SameBut d s1.heap h')
  (eB : ∀ a, a ≠ d → B2 a = B1 a) (eS : ∀ a, a ≠ d → σ2 a = σ1 a) : Ext own' B σ s.heap B2 σ2 h' := by
 have ne : ∀ a o, s.heap.get? a = some o → a ≠ d := fun a o e q => by rw [q, hd] at e; cases e
 refine ⟨fun a o e => ?_, fun a o e hs ho => (sb.2 a (ne a o e)).trans (x.keep a o e hs ho), fun a o e hs hb => ?_, fun a o e => ?_⟩
 ·have h1 := x.le a o e
  have : a ≠ d := fun q => by rw [q, hB] at h1; cases h1
  rw [eB a this]; exact h1
 ·rw [eB a (ne a o e), eS a (ne a o e)]; exact x.grab a o e hs hb
 ·obtain ⟨o', e'⟩ := x.there a o e
  exact ⟨o', (sb.2 a (ne a o e)).trans e'⟩
theorem Cx.adoptB (c : Cx prog w h₀ sc ns n C A env own ρ B σ s) {d : Addr} {h' : Heap} {o' : Obj} (t : Nat) (hd : s.heap.get? d = none) (g : Go prog w h₀ own B σ s B1 σ1 s1) (c1 : Cx prog w h₀ sc ns n C A env own ρ B1 σ1 s1)
  (hB : B1 d = none) (hσ : σ1 d = none) (sb : Heap.SameBut d s1.heap h') (ho : h'.get? d = some o') :
  Go prog w h₀ own B σ s (up B1 d (some o')) σ1 { s1 with heap := h', toks := t } ∧ Cx prog w h₀ sc ns n C A env own ρ (up B1 d (some o')) σ1 { s1 with heap := h', toks := t } := by
 have le : ∀ a o, B1 a = some o → up B1 d (some o') a = some o := fun a o e => (Z4 _ _ fun q => by rw [q, hB] at e; cases e).trans e
 have st : St prog w h₀ (up B1 d (some o')) σ1 h' := by
  refine ⟨fun a o e => le a o (g.st.base a o e), fun a o e => ?_, fun a m e => ?_, fun a m e => ?_⟩
  ·by_cases q : a = d
   ·subst q; rw [Z2] at e; cases e; exact ho
   ·rw [Z4 _ _ q] at e; exact (sb.2 a q).trans (g.st.fz a o e)
  ·obtain ⟨o, h1, h2⟩ := g.st.mu a m e
   exact ⟨o, (sb.2 a fun q => by rw [q, hσ] at e; cases e).trans h1, h2.mono le⟩
  ·rw [Z4 _ _ fun q => by rw [q, hσ] at e; cases e]; exact g.st.dj a m e
 have nd := c.ne_own hd
 refine ⟨⟨st, Ze9 g.ext hd hB sb (fun a q => Z4 _ _ q) (fun _ _ => rfl), g.gens, g.os⟩, c.scope, c.ora, c.room, st, ?_⟩
 exact c1.fm.move le (fun a ha o e => (sb.2 a (nd a ha)).trans e) fun a ha o e hs hb => ⟨hs, (Z4 _ _ (nd a ha)).trans hb⟩
theorem Cx.adoptS (c : Cx prog w h₀ sc ns n C A env own ρ B σ s) {d : Addr} {h' : Heap} {o' : Obj} {m : MObj} (t : Nat) (hd : s.heap.get? d = none) (g : Go prog w h₀ own B σ s B1 σ1 s1) (c1 : Cx prog w h₀ sc ns n C A env own ρ B1 σ1 s1)
  (hB : B1 d = none) (hσ : σ1 d = none) (sb : Heap.SameBut d s1.heap h') (ho : h'.get? d = some o') (hm : MR prog w B1 m o') :
  Go prog w h₀ own B σ s B1 (up σ1 d (some m)) { s1 with heap := h', toks := t } ∧ Cx prog w h₀ sc ns n C A env own ρ B1 (up σ1 d (some m)) { s1 with heap := h', toks := t } := by
 have st : St prog w h₀ B1 (up σ1 d (some m)) h' := by
  refine ⟨g.st.base, fun a o e => (sb.2 a fun q => by rw [q, hB] at e; cases e).trans (g.st.fz a o e), fun a m' e => ?_, fun a m' e => ?_⟩
  ·by_cases q : a = d
   ·subst q; rw [Z2] at e; cases e; exact ⟨o', ho, hm⟩
   ·rw [Z4 _ _ q] at e
    obtain ⟨o, h1, h2⟩ := g.st.mu a m' e
    exact ⟨o, (sb.2 a q).trans h1, h2⟩
  ·by_cases q : a = d
   ·subst q; exact hB
   ·rw [Z4 _ _ q] at e; exact g.st.dj a m' e
 have nd := c.ne_own hd
 refine ⟨⟨st, Ze9 g.ext hd hB sb (fun _ _ => rfl) (fun a q => Z4 _ _ q), g.gens, g.os⟩, c.scope, c.ora, c.room, st, ?_⟩
 exact c1.fm.move (fun _ _ e => e) (fun a ha o e => (sb.2 a (nd a ha)).trans e) fun a ha o e hs hb => ⟨(Z4 _ _ (nd a ha)).trans hs, hb⟩
theorem Cx.stays (c : Cx prog w h₀ sc ns n C A env own ρ B σ s) (o : Obj) (hf : o.isFreed = false) (g : Go prog w h₀ own B σ { s with heap := s.heap.push o } B1 σ1 s1) :
  B1 s.heap.objs.size = none ∧ σ1 s.heap.objs.size = none ∧ s1.heap.get? s.heap.objs.size = some o ∧ s.heap.get? s.heap.objs.size = none := by
 have hn : s.heap.get? s.heap.objs.size = none := by
  cases e : s.heap.get? s.heap.objs.size with
  | none => rfl
  | some o => exact absurd (Heap.lt_size e) (Nat.lt_irrefl _)
 have hp : (s.heap.push o).get? s.heap.objs.size = some o := Heap.get?_push_size _ hf
 obtain ⟨h1, h2⟩ := g.ext.grab _ o hp c.st.newS c.st.newB
 exact ⟨h2, h1, g.ext.keep _ o hp c.st.newS (fun hm => c.ne_own hn _ (.inl hm) rfl), hn⟩
variable (prog w h₀ sc ns) in
inductive SndP : List (Option Expr) → List Expr → List (WE × WE) → Prop where
 | nil : SndP [] [] []
 | cons {k v a b ks vs r} : SndE prog w h₀ sc ns k a → SndE prog w h₀ sc ns v b → SndP ks vs r → SndP (some k :: ks) (v :: vs) ((a, b) :: r)
theorem SndP.shape {ks vs r} (h : SndP prog w h₀ sc ns ks vs r) : ks.all (·.isSome) = true ∧ ks.length = vs.length ∧ ks.length = r.length := by
 induction h with
 | nil => exact ⟨rfl, rfl, rfl⟩
 | cons _ _ _ ih => exact ⟨by simpa using ih.1, by simp [ih.2.1], by simp [ih.2.2]⟩
inductive Rpp (prog : Program) (w : World) (B : Fz) : List (Value × Value) → List (D × D) → Prop where
 | nil : Rpp prog w B [] []
 | cons {k v a b vs ds} : Rp prog w B k a → Rp prog w B v b → Rpp prog w B vs ds → Rpp prog w B ((k, v) :: vs) ((a, b) :: ds)
theorem SndP.here {ks vs r} {pos : Pos} (h : SndP prog w h₀ sc ns ks vs r) : ∀ {B : Fz} {σ : Sto} {s : Shared} (c : Cx prog w h₀ sc ns n C A env own ρ B σ s) {Q : List (D × D) → Sto → Prop} {R : List (Value × Value) → Shared → Prop} (hq : wPs r C ρ σ Q)
  (k : ∀ vs s' ds σ' B', Q ds σ' → Rpp prog w B' vs ds → Go prog w h₀ own B σ s B' σ' s' → Cx prog w h₀ sc ns n C A env own ρ B' σ' s' → R vs s'),
  wpAny (model prog w) A (evalPairs (pairTrees ks vs env pos)) R E s := by
 induction h with
 | nil => intro B σ s c Q R hq k; exact pairTrees_nil_walk (k _ _ _ _ _ hq .nil c.refl c)
 | cons h1 h2 h3 ih =>
  intro B σ s c Q R hq k
  refine pairTrees_cons_walk (h1.here c hq fun v1 s1 d1 σ1 B1 q1 r1 g1 c1 => h2.here c1 q1 fun v2 s2 d2 σ2 B2 q2 r2 g2 c2 => ?_)
  exact ih c2 q2 fun vs s3 ds σ3 B3 q3 r3 g3 c3 => k _ _ _ _ _ q3 (.cons (r1.mono (g2.trans g3).ext.le) (r2.mono g3.ext.le) r3) ((g1.trans g2).trans g3) c3
theorem Rpp.toZ {vs ds} (h : Rpp prog w B vs ds) : ∀ {zs}, toZ ds = some zs → allIntKeys vs = true ∧ RpZ prog w B (intKeyPairs vs) zs ∧ (intKeyPairs vs).map (·.1) = zs.map (·.1) := by
 induction h with
 | nil => intro zs e; cases e; exact ⟨rfl, .nil, rfl⟩
 | cons h1 h2 _ ih =>
  intro zs e
  cases h1 <;> first | (simp [Mine.toZ] at e; done) | skip
  simp only [Mine.toZ, Option.map_eq_some_iff] at e
  obtain ⟨z, e1, rfl⟩ := e
  obtain ⟨a, b, c⟩ := ih e1
  exact ⟨a, .cons h2 b, by simp [intKeyPairs, c]⟩
theorem Rpp.toS {vs ds} (h : Rpp prog w B vs ds) : ∀ {zs}, toS ds = some zs → allStrKeys vs = true ∧ RpK prog w B (strPairs vs) zs ∧ (strPairs vs).map (·.1) = zs.map (·.1) := by
 induction h with
 | nil => intro zs e; cases e; exact ⟨rfl, .nil, rfl⟩
 | cons h1 h2 _ ih =>
  intro zs e
  cases h1 <;> first | (simp [Mine.toS] at e; done) | skip
  simp only [Mine.toS, Option.map_eq_some_iff] at e
  obtain ⟨z, e1, rfl⟩ := e
  obtain ⟨a, b, c⟩ := ih e1
  exact ⟨a, .cons h2 b, by simp [strPairs, c]⟩
theorem RpK.mono' {k : ∀ a o, B a = some o → B' a = some o} {kvs ds} (h : RpK prog w B kvs ds) : RpK prog w B' kvs ds := RpK.mono k h
noncomputable def emptyD : Obj := { cls := .type "dict", data := .dict #[] }
theorem snd_dicZ (G : Gd K h₀) {ks vs r} {pos : Pos} (h : SndP prog w h₀ sc ns ks vs r) (h0 : ks ≠ []) (hl : ks.length ≤ 15) : SndE prog w h₀ sc ns (.Dict ks vs pos) (wDicZ r) := ⟨fun n C A env own ρ B σ s Q E c hq => by
 obtain ⟨e1, e2, e3⟩ := h.shape
 obtain ⟨g0, c0⟩ := c.new0 emptyD
 refine wpAny_Dict_walk (knd := intKind prog w) e1 e2 h0 hl (h.here c0 hq fun vs s1 ds σ1 B1 q1 r1 g1 c1 => ?_)
 split at q1
 ·rename_i zs hz
  obtain ⟨a1, a2, a3⟩ := r1.toZ hz
  obtain ⟨b1, b2, b3, b4⟩ := c.stays emptyD rfl g1
  refine display_done_int a1 (by rw [a3]; exact q1.1) ⟨emptyD, #[], 0, b3, ⟨rfl, rfl, rfl⟩, rfl, (fun _ he => by simp at he), .nil, List.nodup_nil⟩ fun h' hm hs => ?_
  obtain ⟨o, ho, hd⟩ := Heap.dictOf_iff.mp hm
  obtain ⟨g2, c2⟩ := c.adoptB (s1.toks + vs.length) b4 (g0.trans g1) c1 b1 b2 hs ho
  exact c2.fin g2 q1.2 (.dici (Z2 ..) hd (c.st.notModules G) (a2.mono fun a o e => (Z4 _ _ fun q => by rw [q, b1] at e; cases e).trans e))
 ·exact q1.elim⟩
theorem snd_dicS (G : Gd K h₀) {ks vs r} {pos : Pos} (h : SndP prog w h₀ sc ns ks vs r) (h0 : ks ≠ []) (hl : ks.length ≤ 15) : SndE prog w h₀ sc ns (.Dict ks vs pos) (wDicS r) := ⟨fun n C A env own ρ B σ s Q E c hq => by
 obtain ⟨e1, e2, e3⟩ := h.shape
 obtain ⟨g0, c0⟩ := c.new0 emptyD
 refine wpAny_Dict_walk (knd := strKind prog w) e1 e2 h0 hl (h.here c0 hq fun vs s1 ds σ1 B1 q1 r1 g1 c1 => ?_)
 split at q1
 ·rename_i zs hz
  obtain ⟨a1, a2, a3⟩ := r1.toS hz
  obtain ⟨b1, b2, b3, b4⟩ := c.stays emptyD rfl g1
  refine display_done_str a1 (by rw [a3]; exact q1.1) ⟨emptyD, #[], 0, b3, ⟨rfl, rfl, rfl⟩, rfl, (fun _ he => by simp at he), .nil, List.nodup_nil⟩ fun h' hm hs => ?_
  obtain ⟨o, ho, hd⟩ := Heap.dictOf_iff.mp hm
  obtain ⟨g2, c2⟩ := c.adoptB (s1.toks + vs.length) b4 (g0.trans g1) c1 b1 b2 hs ho
  exact c2.fin g2 q1.2 (.dics (Z2 ..) hd (c.st.notModules G) (a2.mono fun a o e => (Z4 _ _ fun q => by rw [q, b1] at e; cases e).trans e))
 ·exact q1.elim⟩
theorem snd_dicM (G : Gd K h₀) {ks vs r} {pos : Pos} (h : SndP prog w h₀ sc ns ks vs r) (h0 : ks ≠ []) (hl : ks.length ≤ 15) : SndE prog w h₀ sc ns (.Dict ks vs pos) (wDicM r) := ⟨fun n C A env own ρ B σ s Q E c hq => by
 obtain ⟨e1, e2, e3⟩ := h.shape
 obtain ⟨g0, c0⟩ := c.new0 emptyD
 refine wpAny_Dict_walk (knd := intKind prog w) e1 e2 h0 hl (h.here c0 hq fun vs s1 ds σ1 B1 q1 r1 g1 c1 => ?_)
 split at q1
 ·rename_i zs hz
  obtain ⟨a1, a2, a3⟩ := r1.toZ hz
  obtain ⟨b1, b2, b3, b4⟩ := c.stays emptyD rfl g1
  refine display_done_int a1 (by rw [a3]; exact q1.1) ⟨emptyD, #[], 0, b3, ⟨rfl, rfl, rfl⟩, rfl, (fun _ he => by simp at he), .nil, List.nodup_nil⟩ fun h' hm hs => ?_
  obtain ⟨o, ho, hd⟩ := Heap.dictOf_iff.mp hm
  obtain ⟨es, ep, hd'⟩ := id hd
  obtain ⟨g2, c2⟩ := c.adoptS (m := .dict ep zs) (s1.toks + vs.length) b4 (g0.trans g1) c1 b1 b2 hs ho ⟨_, hd, a2, es, hd'.2.1⟩
  exact c2.fin g2 (q1.2 _ _ b2) (.mdic (c.st.notModules G))
 ·exact q1.elim⟩
theorem snd_dic0 (G : Gd K h₀) {pos : Pos} : SndE prog w h₀ sc ns (.Dict [] [] pos) wDic0 := ⟨fun n C A env own ρ B σ s Q E c hq => by
 obtain ⟨g2, c2⟩ := c.newS emptyD (.dict 0 []) ⟨[], ⟨#[], 0, ⟨rfl, rfl, rfl⟩, rfl, (fun _ he => by simp at he), .nil, List.nodup_nil⟩, .nil, _, rfl⟩ rfl
 exact wpAny_Dict_empty (c2.fin g2 (hq _ _ c.st.newS) (.mdic (c.st.notModules G)))⟩
noncomputable def wBM (rcv : D → Sto → Prop) (op : D → List D → Sto → (D → Sto → Prop) → Prop) (a : WE) (as : List WE) : WE := fun C ρ σ Q => a C ρ σ fun x σ1 => rcv x σ1 ∧ wL as C ρ σ1 fun ds σ2 => op x ds σ2 Q
structure BMOk (prog : Program) (w : World) (h₀ : Heap) (name : Str) (id : String) (rcv : D → Sto → Prop) (op : D → List D → Sto → (D → Sto → Prop) → Prop) : Prop where
 get : ∀ {A B σ s v x pl} {Q : Value × List Value → Shared → Prop} {E}, St prog w h₀ B σ s.heap → Rp prog w B v x → rcv x σ → Q (.builtin id, [v]) s → wpAny (model prog w) A (getMethod v name pl) Q E s
 run : ∀ {n A B σ s v x vs ds} {q : D → Sto → Prop} {R : Value → Shared → Prop} {E}, RoomB n A → St prog w h₀ B σ s.heap → Rp prog w B v x → Rps prog w B vs ds → op x ds σ q →
  (∀ u s' d σ', q d σ' → Rp prog w B u d → Go prog w h₀ [] B σ s B σ' s' → R u s') → wpAny (model prog w) A (call (.builtin id) (v :: vs) []) R E s
theorem Vm {name : Str} {id : String} {rcv op} (ok : BMOk prog w h₀ name id rcv op) {o : Expr} {apos pos : Pos} {es : List Expr} {a : WE} {as : List WE} {pl : Env → Sem Bool} (ho : SndE prog w h₀ sc ns o a) (hs : SndL prog w h₀ sc ns es as)
  (he : ∀ env, eval (.Call (.Attribute o name apos) es [] pos) env = (do
   let ov ← eval o env
   standAt apos.atName
   let (f, first) ← holding [ov] (getMethod ov name (pl env))
   callWith pos f first (backTo pos (starEach es env)) (backToKw pos (keywordEach [] env)))) :
  SndE prog w h₀ sc ns (.Call (.Attribute o name apos) es [] pos) (wBM rcv op a as) := ⟨fun n C A env own ρ B σ s Q E c h => by
 refine methodCall_KW (ho.here c h fun v1 s1 d1 σ1 B1 q1 r1 g1 c1 => ok.get c1.st r1 q1.1 ?_) (he env)
 refine Vg hs c1 (P := fun _ => True) (Jp id) q1.2 fun vs s' ds σ' B' q r l g c' => ⟨trivial, ?_⟩
 exact ok.run c'.room c'.st (r1.mono g.ext.le) r q fun u s'' d σ'' qd rv g' => ⟨d, σ'', B', qd, rv, (g1.trans g).trans g'.any, c'.fm.go g'⟩⟩
noncomputable def rList (x : D) (σ : Sto) : Prop := ∃ a l, x = .mlst a ∧ σ a = some (.list l)
noncomputable def mAppend (x : D) (ds : List D) (σ : Sto) (q : D → Sto → Prop) : Prop := ∃ a y l, x = .mlst a ∧ ds = [y] ∧ σ a = some (.list l) ∧ l.length ≤ 100000 ∧ q .none (up σ a (some (.list (l ++ [y]))))
theorem Zg3 : BMOk prog w h₀ "append" "list.append" rList mAppend := by
 constructor
 ·intro A B σ s v x pl Q E st hv hr h
  obtain ⟨a, l, e, hσ⟩ := hr
  rw [e] at hv
  rw [show v = .ref a from hv.inv] at h ⊢
  obtain ⟨o, ho, vs, m, e2, hl⟩ := st.mu _ _ hσ
  rw [e2] at ho
  exact getMethod_builtin (T := "list") ⟨_, ho, rfl⟩ F.plainAttrs_list slot_list_append F.type_list_append (fun a e => by cases e; exact ⟨_, ho, rfl⟩) h
 ·intro n A B σ s v x vs ds q R E r st hv hvs h k
  refine byC fun nT => ?_
  obtain ⟨a, y, l, e, e3, hσ, hlen, h⟩ := h
  rw [e] at hv
  rw [e3] at hvs
  obtain ⟨u, e4, h1⟩ := hvs.one
  rw [show v = .ref a from hv.inv, e4] at nT
  obtain ⟨o, ho, us, m, e2, hl⟩ := st.mu _ _ hσ
  rw [e2] at ho
  have hl2 := hl.length
  rw [Array.length_toList] at hl2
  refine nT (wpAny_list_append_plain ⟨m, ho⟩ (fun h' hp sb => ?_) (by rw [hl2, sizeLine_eq]; lia))
  obtain ⟨m', ho'⟩ := hp
  obtain ⟨a1, a2⟩ := st.change (m := .list (l ++ [y])) hσ sb ho' ⟨_, _, rfl, by rw [Array.toList_push]; exact hl.append (.cons h1 .nil)⟩
  exact k _ _ _ _ h .none ⟨a1, a2, rfl, rfl⟩
noncomputable def rDict (x : D) (σ : Sto) : Prop := ∃ a e l, x = .mdic a ∧ σ a = some (.dict e l)
noncomputable def mGet (x : D) (ds : List D) (σ : Sto) (q : D → Sto → Prop) : Prop := ∃ a i e l, x = .mdic a ∧ ds = [.int i] ∧ σ a = some (.dict e l) ∧ q ((zlook l i).getD .none) σ
theorem Zbs : BMOk prog w h₀ "get" "dict.get" rDict mGet := by
 constructor
 ·intro A B σ s v x pl Q E st hv hr h
  obtain ⟨a, e0, l, e, hσ⟩ := hr
  rw [e] at hv
  rw [show v = .ref a from hv.inv.1] at h ⊢
  obtain ⟨o, ho, kvs, hd, hl, _⟩ := st.mu _ _ hσ
  have hm := Heap.dictOf_iff.mpr ⟨_, ho, hd⟩
  exact getMethod_builtin hm.typeIs F.plainAttrs_dict F.slot_dict_get F.type_dict_get hm.mapOf.noDict h
 ·intro n A B σ s v x vs ds q R E r st hv hvs h k
  refine byC fun nT => ?_
  obtain ⟨a, i, e0, l, e, e3, hσ, h⟩ := h
  rw [e] at hv
  rw [e3] at hvs
  obtain ⟨u, e4, h1⟩ := hvs.one
  obtain ⟨t, e5⟩ := h1.inv
  have hns := hv.inv.2
  rw [show v = .ref a from hv.inv.1, e4, e5] at nT
  obtain ⟨o, ho, kvs, hd, hl, _⟩ := st.mu _ _ hσ
  have hm := Heap.dictOf_iff.mpr ⟨_, ho, hd⟩
  refine nT (call_meetsIn F.slot_dict_get hm.typeIs F.entry_dict_get (F.args_dict_get_2 _ _) (meets_dict_get (intKind prog w) a (intKind_is prog w i _) hns) ⟨_, hm.mapOf, ?_⟩)
  rcases hl.at i with ⟨e1, e2⟩ | ⟨v', d', e1, e2, e3⟩
  ·rw [e2]; rw [e1] at h; exact k _ _ _ _ h .none (Go.toks st _)
  ·rw [e2]; rw [e1] at h; exact k _ _ _ _ h e3 (Go.toks st _)
noncomputable def rStr (x : D) (σ : Sto) : Prop := ∃ y, x = .str y
noncomputable def mLower (x : D) (ds : List D) (σ : Sto) (q : D → Sto → Prop) : Prop := ∃ y, x = .str y ∧ ds = [] ∧ (y.length ≤ 1000 ∧ PyData.strOk (Txt.lower y) = true) ∧ q (.str (Txt.lower y)) σ
theorem ok_lower : BMOk prog w h₀ "lower" "str.lower" rStr mLower := by
 constructor
 ·intro A B σ s v x pl Q E st hv hr h
  obtain ⟨y, e⟩ := hr
  rw [e] at hv
  obtain ⟨t, e2, _⟩ := hv.inv
  rw [e2] at h ⊢
  exact GM.lower h
 ·intro n A B σ s v x vs ds q R E r st hv hvs h k
  obtain ⟨y, e, e3, h1, h2⟩ := h
  rw [e] at hv
  rw [e3] at hvs
  obtain ⟨t, e2, _⟩ := hv.inv
  rw [e2, show vs = [] from hvs.inv]
  exact SCL.lower (by have := h1.1; lia) fun _ => k _ _ _ _ h2 (.str _ h1.2) (Go.toks st _)
end
noncomputable def ord3 (gt : Bool) (i1 i2 : Int) (c : Str) (j1 j2 : Int) (c' : Str) : Bool :=
 if i1 = j1 then (if i2 = j2 then (if c = c' then false else if gt then decide (c'.cps.toList < c.cps.toList) else decide (c.cps.toList < c'.cps.toList)) else if gt then decide (j2 < i2) else decide (i2 < j2)) else if gt then decide (j1 < i1) else decide (i1 < j1)
theorem Zhk (l b : Addr) (x y : Array Value) (n n2 : Nat) (dd dd2 : Option Addr) (sl sl2 : Array (Option Value)) (i1 i2 j1 j2 : Int) (t1 t2 u1 u2 t3 u3 : Tok) (c c' : Str) (hx : x = #[.int i1 t1, .int i2 t2, .str c t3]) (hy : y = #[.int j1 u1, .int j2 u2, .str c' u3]) :
  Meets (Builtin.«tuple.__lt__» ⟨[.ref l, .ref b], []⟩)
   (fun A R s => s.heap.get? l = some { cls := .type "tuple", dict := dd, data := .seq x n, slots := sl } ∧ s.heap.get? b = some { cls := .type "tuple", dict := dd2, data := .seq y n2, slots := sl2 } ∧
    R (.ok (.ret (.bool (ord3 false i1 i2 c j1 j2 c')))) s) :=
 .of_wp fun prog w A R s h => by
  obtain ⟨hp, g, d, tk, os⟩ := s; obtain ⟨hl, hb, h⟩ := h
  have f2 := AutoSeq1.sub_tuple_tuple
  wp_walk using wpAny_loadPart' hl, wpAny_loadPart' hb
  subst hx hy
  unfold ord3 at h
  refine wpAny_bind (wpAny_bind (SeqAt.EqAt.int_int i1 t1 j1 u1 prog w _ _ ?_))
  by_cases e1 : i1 = j1
  ·subst e1
   rw [if_pos rfl] at h
   simp only [beq_self_eq_true, Bool.not_true, Bool.false_eq_true, if_false]
   refine wpAny_pure (wpAny_bind (wpAny_bind (SeqAt.EqAt.int_int i2 t2 j2 u2 prog w _ _ ?_)))
   by_cases e2 : i2 = j2
   ·subst e2
    rw [if_pos rfl] at h
    simp only [beq_self_eq_true, Bool.not_true, Bool.false_eq_true, if_false]
    refine wpAny_pure (wpAny_bind (wpAny_bind (SeqAt.EqAt.str_str c t3 c' u3 prog w _ _ ?_)))
    by_cases e3 : c = c'
    ·subst e3
     rw [if_pos rfl] at h
     simp only [beq_self_eq_true, Bool.not_true, Bool.false_eq_true, if_false]
     exact wpAny_pure (wpAny_pure (wpAny_pure ⟨_, rfl, h⟩))
    ·rw [if_neg e3] at h
     have e4 : (c == c') = false := beq_eq_false_iff_ne.mpr e3
     simp only [e4, Bool.not_false, if_true]
     exact wpAny_bind (wpAny_rule (wpAny_bind (lt_str (wpAny_bind (wpAny_pure (wpAny_pure (wpAny_pure (wpAny_pure ⟨_, rfl, h⟩))))))))
   ·rw [if_neg e2] at h
    have e4 : (i2 == j2) = false := beq_eq_false_iff_ne.mpr e2
    simp only [e4, Bool.not_false, if_true]
    exact wpAny_bind (wpAny_rule (wpAny_bind (lt_int (wpAny_bind (wpAny_pure (wpAny_pure (wpAny_pure (wpAny_pure ⟨_, rfl, h⟩))))))))
  ·rw [if_neg e1] at h
   have e4 : (i1 == j1) = false := beq_eq_false_iff_ne.mpr e1
   simp only [e4, Bool.not_false, if_true]
   exact wpAny_bind (wpAny_rule (wpAny_bind (lt_int (wpAny_bind (wpAny_pure (wpAny_pure (wpAny_pure (wpAny_pure ⟨_, rfl, h⟩))))))))
theorem Zhh (l b : Addr) (x y : Array Value) (n n2 : Nat) (dd dd2 : Option Addr) (sl sl2 : Array (Option Value)) (i1 i2 j1 j2 : Int) (t1 t2 u1 u2 t3 u3 : Tok) (c c' : Str) (hx : x = #[.int i1 t1, .int i2 t2, .str c t3]) (hy : y = #[.int j1 u1, .int j2 u2, .str c' u3]) :
  Meets (Builtin.«tuple.__gt__» ⟨[.ref l, .ref b], []⟩)
   (fun A R s => s.heap.get? l = some { cls := .type "tuple", dict := dd, data := .seq x n, slots := sl } ∧ s.heap.get? b = some { cls := .type "tuple", dict := dd2, data := .seq y n2, slots := sl2 } ∧
    R (.ok (.ret (.bool (ord3 true i1 i2 c j1 j2 c')))) s) :=
 .of_wp fun prog w A R s h => by
  obtain ⟨hp, g, d, tk, os⟩ := s; obtain ⟨hl, hb, h⟩ := h
  have f2 := AutoSeq1.sub_tuple_tuple
  wp_walk using wpAny_loadPart' hl, wpAny_loadPart' hb
  subst hx hy
  unfold ord3 at h
  refine wpAny_bind (wpAny_bind (SeqAt.EqAt.int_int i1 t1 j1 u1 prog w _ _ ?_))
  by_cases e1 : i1 = j1
  ·subst e1
   rw [if_pos rfl] at h
   simp only [beq_self_eq_true, Bool.not_true, Bool.false_eq_true, if_false]
   refine wpAny_pure (wpAny_bind (wpAny_bind (SeqAt.EqAt.int_int i2 t2 j2 u2 prog w _ _ ?_)))
   by_cases e2 : i2 = j2
   ·subst e2
    rw [if_pos rfl] at h
    simp only [beq_self_eq_true, Bool.not_true, Bool.false_eq_true, if_false]
    refine wpAny_pure (wpAny_bind (wpAny_bind (SeqAt.EqAt.str_str c t3 c' u3 prog w _ _ ?_)))
    by_cases e3 : c = c'
    ·subst e3
     rw [if_pos rfl] at h
     simp only [beq_self_eq_true, Bool.not_true, Bool.false_eq_true, if_false]
     exact wpAny_pure (wpAny_pure (wpAny_pure ⟨_, rfl, h⟩))
    ·rw [if_neg e3] at h
     have e4 : (c == c') = false := beq_eq_false_iff_ne.mpr e3
     simp only [e4, Bool.not_false, if_true]
     exact wpAny_bind (wpAny_rule (wpAny_bind (P.gt_str (wpAny_bind (wpAny_pure (wpAny_pure (wpAny_pure (wpAny_pure ⟨_, rfl, h⟩))))))))
   ·rw [if_neg e2] at h
    have e4 : (i2 == j2) = false := beq_eq_false_iff_ne.mpr e2
    simp only [e4, Bool.not_false, if_true]
    exact wpAny_bind (wpAny_rule (wpAny_bind (gt_int (wpAny_bind (wpAny_pure (wpAny_pure (wpAny_pure (wpAny_pure ⟨_, rfl, h⟩))))))))
  ·rw [if_neg e1] at h
   have e4 : (i1 == j1) = false := beq_eq_false_iff_ne.mpr e1
   simp only [e4, Bool.not_false, if_true]
   exact wpAny_bind (wpAny_rule (wpAny_bind (gt_int (wpAny_bind (wpAny_pure (wpAny_pure (wpAny_pure (wpAny_pure ⟨_, rfl, h⟩))))))))
noncomputable def oLt3 (x y : D) (_ : Sto) (q : Bool → Prop) : Prop := ∃ i1 i2 c j1 j2 c', x = .tup [.int i1, .int i2, .str c] ∧ y = .tup [.int j1, .int j2, .str c'] ∧ q (ord3 false i1 i2 c j1 j2 c')
noncomputable def oGt3 (x y : D) (_ : Sto) (q : Bool → Prop) : Prop := ∃ i1 i2 c j1 j2 c', x = .tup [.int i1, .int i2, .str c] ∧ y = .tup [.int j1, .int j2, .str c'] ∧ q (ord3 true i1 i2 c j1 j2 c')
noncomputable def oFloor (x y : D) (_ : Sto) (q : D → Prop) : Prop := match x, y with | .int i, .int j => (j ≠ 0 ∧ j.natAbs < 1073741824) ∧ q (.int (Int.fdiv i j)) | _, _ => False
noncomputable def oTrL (x : D) (σ : Sto) (q : Bool → Prop) : Prop := match x with | .mlst a => (match σ a with | some (.list l) => l.length ≤ 100000 ∧ q (!l.isEmpty) | _ => False) | _ => False
section
variable {prog : Program} {w : World} {h₀ : Heap} {B : Fz}
theorem three {vs : Array Value} {a b : Int} {c : Str} (h : Rps prog w B vs.toList [.int a, .int b, .str c]) : ∃ t u v, vs = #[.int a t, .int b u, .str c v] := by
 obtain ⟨x, us, e, h1, h⟩ := h.inv
 obtain ⟨y, z, e2, h2, h3⟩ := h.two
 obtain ⟨t, e3⟩ := h1.inv
 obtain ⟨u, e4⟩ := h2.inv
 obtain ⟨v, e5, _⟩ := h3.inv
 exact ⟨t, u, v, Array.toList_inj.mp (by rw [e, e2, e3, e4, e5])⟩
theorem ok_lt3 : Cmp2Ok prog w h₀ .Lt oLt3 := fun n A B σ s x y vx vy q R E r st hx hy h k => by
 refine byC fun nT => ?_
 obtain ⟨i1, i2, c, j1, j2, c', rfl, rfl, h⟩ := h
 obtain ⟨a, o, vs, m, rfl, hb, hc, hd, hr⟩ := hx.inv
 obtain ⟨a', o', vs', m', rfl, hb', hc', hd', hr'⟩ := hy.inv
 obtain ⟨t1, t2, t3, e⟩ := three hr
 obtain ⟨u1, u2, u3, e'⟩ := three hr'
 have h1 := st.fz _ _ hb
 have h2 := st.fz _ _ hb'
 have e1 : o = { cls := .type "tuple", dict := o.dict, data := .seq vs m, slots := o.slots } := by rw [← hc, ← hd]
 have e2 : o' = { cls := .type "tuple", dict := o'.dict, data := .seq vs' m', slots := o'.slots } := by rw [← hc', ← hd']
 rw [e1] at h1
 rw [e2] at h2
 exact nT (richCompare_meets_room (op := .Lt) ⟨_, h1, rfl⟩ ⟨_, h2, rfl⟩ F.slot_tuple_lt F.entry_tuple_lt (F.args_tuple_lt_2 _ _) (Zhk a a' vs vs' m m' o.dict o'.dict o.slots o'.slots _ _ _ _ _ _ _ _ _ _ _ _ e e')
  ⟨h1, h2, show Value.bool _ ≠ Value.notImplemented ∧ _ from ⟨(fun x => nomatch x), k _ s.toks h⟩⟩ (r.un (k := 0) (by decide)))
theorem ok_gt3 : Cmp2Ok prog w h₀ .Gt oGt3 := fun n A B σ s x y vx vy q R E r st hx hy h k => by
 refine byC fun nT => ?_
 obtain ⟨i1, i2, c, j1, j2, c', rfl, rfl, h⟩ := h
 obtain ⟨a, o, vs, m, rfl, hb, hc, hd, hr⟩ := hx.inv
 obtain ⟨a', o', vs', m', rfl, hb', hc', hd', hr'⟩ := hy.inv
 obtain ⟨t1, t2, t3, e⟩ := three hr
 obtain ⟨u1, u2, u3, e'⟩ := three hr'
 have h1 := st.fz _ _ hb
 have h2 := st.fz _ _ hb'
 have e1 : o = { cls := .type "tuple", dict := o.dict, data := .seq vs m, slots := o.slots } := by rw [← hc, ← hd]
 have e2 : o' = { cls := .type "tuple", dict := o'.dict, data := .seq vs' m', slots := o'.slots } := by rw [← hc', ← hd']
 rw [e1] at h1
 rw [e2] at h2
 exact nT (richCompare_meets_room (op := .Gt) ⟨_, h1, rfl⟩ ⟨_, h2, rfl⟩ F.slot_tuple_gt F.entry_tuple_gt (F.args_tuple_gt_2 _ _) (Zhh a a' vs vs' m m' o.dict o'.dict o.slots o'.slots _ _ _ _ _ _ _ _ _ _ _ _ e e')
  ⟨h1, h2, show Value.bool _ ≠ Value.notImplemented ∧ _ from ⟨(fun x => nomatch x), k _ s.toks h⟩⟩ (r.un (k := 0) (by decide)))
theorem ok_floor : Op2Ok prog w h₀ (binaryOp .FloorDiv) oFloor := Zbf (P := fun q i j => (j ≠ 0 ∧ j.natAbs < 1073741824) ∧ q (.int (Int.fdiv i j))) (fun _ _ _ _ => rfl) fun A s i j t1 t2 q R E h k =>
 floordiv_int h.1.1 (k _ _ _ h.2) (.inl (PyProof.noPylong_small h.1.2))
theorem ok_trL : Tr1Ok prog w h₀ oTrL := fun n A B σ s x vx q R E r st hx h k => by
 cases hx <;> first | exact h.elim | skip
 unfold oTrL at h
 dsimp only at h
 split at h
 ·rename_i l hσ
  obtain ⟨o, ho, hmr⟩ := st.mu _ _ hσ
  obtain ⟨hc, us, m, hd, hr⟩ := hmr.lst
  have hlen := hr.length
  rw [Array.length_toList] at hlen
  have he : us.isEmpty = l.isEmpty := by rw [← Array.isEmpty_toList]; cases l with
   | nil => rw [show us.toList = [] from hr.inv]; rfl
   | cons d l => obtain ⟨v, vs, e, _⟩ := hr.inv; rw [e]; rfl
  refine wpAny_truthy_list (items := us) ⟨o, ho, hc, m, hd⟩ (by have := h.1; lia) ?_
  rw [he]; exact k _ _ h.2
 ·exact h.elim
end
noncomputable abbrev WA := Ora → Loc → Sto → D → (Loc → Sto → Prop) → Prop
noncomputable abbrev WS := Ora → Loc → Sto → (Loc → Sto → Prop) → (D → Sto → Prop) → (Loc → Sto → Prop) → Prop
section
variable (prog : Program) (w : World) (h₀ : Heap)
noncomputable def PostL (ns : List Str) (env : Env) (own : List Addr) (B : Fz) (σ : Sto) (s : Shared) (Q : Loc → Sto → Prop) (s' : Shared) : Prop :=
 ∃ ρ' σ' B', Q ρ' σ' ∧ Go prog w h₀ own B σ s B' σ' s' ∧ Fm prog w h₀ env ns own ρ' B' σ' s'.heap
noncomputable def PostS (ns : List Str) (env : Env) (own : List Addr) (B : Fz) (σ : Sto) (s : Shared) (N : Loc → Sto → Prop) (R : D → Sto → Prop) (K : Loc → Sto → Prop) (f : Flow) (s' : Shared) : Prop :=
 match f with
 | .next => PostL prog w h₀ ns env own B σ s N s'
 | .brk => PostL prog w h₀ ns env own B σ s K s'
 | .ret v => ∃ d σ' B', R d σ' ∧ Rp prog w B' v d ∧ Go prog w h₀ own B σ s B' σ' s'
 | .cont => False
structure SndA (sc : Scope) (ns : List Str) (t : Expr) (W : WA) : Prop where
 go : ∀ n C A env own ρ B σ s v d Q E, Cx prog w h₀ sc ns n C A env own ρ B σ s → Rp prog w B v d → W C ρ σ d Q →
 wpAny (model prog w) A (assign t env v) (fun _ s' => PostL prog w h₀ ns env own B σ s Q s') E s
structure SndS (sc : Scope) (ns : List Str) (st : Stmt) (W : WS) : Prop where
 go : ∀ n C A env own ρ B σ s N R K E, Cx prog w h₀ sc ns n C A env own ρ B σ s → W C ρ σ N R K →
 wpAny (model prog w) A (exec st env) (PostS prog w h₀ ns env own B σ s N R K) E s
structure SndB (sc : Scope) (ns : List Str) (sts : List Stmt) (W : WS) : Prop where
 go : ∀ n C A env own ρ B σ s N R K E, Cx prog w h₀ sc ns n C A env own ρ B σ s → W C ρ σ N R K →
 wpAny (model prog w) A (execs sts env) (PostS prog w h₀ ns env own B σ s N R K) E s
end
noncomputable def sNil : WS := fun _ ρ σ N _ _ => N ρ σ
noncomputable def sSeq (a b : WS) : WS := fun C ρ σ N R K => a C ρ σ (fun ρ1 σ1 => b C ρ1 σ1 N R K) R K
noncomputable def sRet (a : WE) : WS := fun C ρ σ _ R _ => a C ρ σ R
noncomputable def sRetN : WS := fun _ _ σ _ R _ => R .none σ
noncomputable def sExpr (a : WE) : WS := fun C ρ σ N _ _ => a C ρ σ fun _ σ1 => N ρ σ1
noncomputable def sIf (t : WT) (a b : WS) : WS := fun C ρ σ N R K => t C ρ σ fun c σ1 => if c then a C ρ σ1 N R K else b C ρ σ1 N R K
noncomputable def sBrk : WS := fun _ ρ σ _ _ K => K ρ σ
noncomputable def sNo : WS := fun _ _ _ _ _ _ => False
noncomputable def sAsg (a : WE) (t : WA) : WS := fun C ρ σ N _ _ => a C ρ σ fun d σ1 => t C ρ σ1 d N
noncomputable def aName (i : Nat) : WA := fun _ ρ σ d N => N (put ρ i d) σ
noncomputable def aAttr (c : Addr) (name : Str) (o : WE) : WA := fun C ρ σ d N => o C ρ σ fun x σ1 => match x with
 | .inst c' a => c' = c ∧ (match σ1 a with | some (.attrs fs) => fs.length ≤ 900 ∧ N ρ (up σ1 a (some (.attrs (setF name d fs)))) | _ => False)
 | _ => False
noncomputable def aSub (o i : WE) : WA := fun C ρ σ d N => o C ρ σ fun x σ1 => i C ρ σ1 fun y σ2 => match x, y with
 | .mlst a, .int k => (match σ2 a with | some (.list l) => (0 ≤ k ∧ k < l.length ∧ l.length ≤ 100000) ∧ N ρ (up σ2 a (some (.list (l.set k.toNat d)))) | _ => False)
 | .mdic a, .int k => (match σ2 a with | some (.dict _ l) => l.length ≤ 100000 ∧ ∀ e, N ρ (up σ2 a (some (.dict e (zput l k d)))) | _ => False)
 | _, _ => False
noncomputable def aMany : List WA → Ora → Loc → Sto → List D → (Loc → Sto → Prop) → Prop
 | [], _, ρ, σ, [], N => N ρ σ
 | t :: ts, C, ρ, σ, d :: ds, N => t C ρ σ d fun ρ1 σ1 => aMany ts C ρ1 σ1 ds N
 | _, _, _, _, _, _ => False
noncomputable def itemsD : D → Option (List D)
 | .tup l => some l
 | .lst l => some l
 | _ => none
noncomputable def itemsS (d : D) (σ : Sto) : Option (List D) := match d with
 | .tup l => some l
 | .lst l => some l
 | .mlst a => match σ a with | some (.list l) => some l | _ => none
 | _ => none
noncomputable def aTup (ts : List WA) : WA := fun C ρ σ d N => match itemsS d σ with
 | some ds => ds.length = ts.length ∧ aMany ts C ρ σ ds N
 | none => False
noncomputable def sSwap (a : WE) (is : List Nat) : WS := fun C ρ σ N _ _ => a C ρ σ fun d σ1 => match itemsD d with
 | some ds => ds.length = is.length ∧ aMany (is.reverse.map aName) C ρ σ1 ds.reverse N
 | none => False
section
variable {prog : Program} {w : World} {h₀ : Heap} {K : Frag} {sc : Scope} {ns : List Str} {n : Nat} {C : Ora} {A : Around} {env : Env} {own : List Addr} {ρ ρ' : Loc} {B B' B1 : Fz} {σ σ' σ1 : Sto} {s s' s1 : Shared} {E : Value → Shared → Prop}
theorem Cx.toL (c : Cx prog w h₀ sc ns n C A env own ρ B σ s) (x : Go prog w h₀ own B σ s B' σ' s') (F : Fm prog w h₀ env ns own ρ' B' σ' s'.heap) : Cx prog w h₀ sc ns n C A env own ρ' B' σ' s' :=
 ⟨c.scope, c.ora, c.room, x.st, F⟩
theorem SndA.here {t : Expr} {W : WA} (hs : SndA prog w h₀ sc ns t W) (c : Cx prog w h₀ sc ns n C A env own ρ B σ s) {v : Value} {d : D} (rv : Rp prog w B v d) {Q : Loc → Sto → Prop} {R : Unit → Shared → Prop} (h : W C ρ σ d Q)
  (k : ∀ s' ρ' σ' B', Q ρ' σ' → Go prog w h₀ own B σ s B' σ' s' → Cx prog w h₀ sc ns n C A env own ρ' B' σ' s' → R () s') :
  wpAny (model prog w) A (assign t env v) R E s :=
 wpAny_mono (hs.go n C A env own ρ B σ s v d Q E c rv h) (fun _ s' ⟨ρ', σ', B', h1, h2, h3⟩ => k s' ρ' σ' B' h1 h2 (c.toL h2 h3)) fun _ _ x => x
theorem PostL.after (g : Go prog w h₀ own B σ s B' σ' s') {Q : Loc → Sto → Prop} {s'' : Shared} (h : PostL prog w h₀ ns env own B' σ' s' Q s'') : PostL prog w h₀ ns env own B σ s Q s'' :=
 let ⟨ρ1, σ1, B1, a, b, c⟩ := h; ⟨ρ1, σ1, B1, a, g.trans b, c⟩
theorem PostS.after (g : Go prog w h₀ own B σ s B' σ' s') {N R Kk} {f : Flow} {s'' : Shared} (h : PostS prog w h₀ ns env own B' σ' s' N R Kk f s'') : PostS prog w h₀ ns env own B σ s N R Kk f s'' := by
 cases f with
 | next => exact PostL.after g h
 | brk => exact PostL.after g h
 | ret v => obtain ⟨d, σ1, B1, a, b, c⟩ := h; exact ⟨d, σ1, B1, a, b, g.trans c⟩
 | cont => exact h
theorem PostL.mk (c : Cx prog w h₀ sc ns n C A env own ρ' B' σ' s') (g : Go prog w h₀ own B σ s B' σ' s') {Q : Loc → Sto → Prop} (h : Q ρ' σ') : PostL prog w h₀ ns env own B σ s Q s' := ⟨ρ', σ', B', h, g, c.fm⟩
noncomputable def StOk (sc : Scope) (ns : List Str) : Prop := ∀ x ∈ ns, sc.names.lookup x ≠ some .free ∧ sc.names.lookup (".0" : Str) = none
theorem store (c : Cx prog w h₀ sc ns n C A env own ρ B σ s) {i : Nat} {x : Str} {v : Value} {d : D} (hi : ns[i]? = some x) (hk : sc.names.lookup x ≠ some .free ∧ sc.names.lookup (".0" : Str) = none) (rv : Rp prog w B v d) {R : Unit → Shared → Prop}
  (k : ∀ s', Go prog w h₀ own B σ s B σ s' → Cx prog w h₀ sc ns n C A env own (put ρ i d) B σ s' → R () s') : wpAny (model prog w) A (storeName env x v) R E s := by
 have hx : x ∈ ns := List.mem_of_getElem? hi
 have nd := c.fm.nd
 have other : ∀ {j y}, ns[j]? = some y → j ≠ i → y ≠ x := fun {j y} hj hji e => by
  subst e
  obtain ⟨h1, e1⟩ := List.getElem?_eq_some_iff.mp hi
  obtain ⟨h2, e2⟩ := List.getElem?_eq_some_iff.mp hj
  exact hji ((List.getElem_inj nd).mp (e2.trans e1.symm))
 refine byC fun nT => ?_
 obtain ⟨m, hm, hv⟩ := c.fm.vals
 rcases c.fm.can x hx with q | ⟨q, a, v₀, h1, h2, h3⟩ | q
 ·refine nT (wpAny_storeName_local q hm (fun h' hn hs => ?_) (by rw [c.fm.kind]; rfl))
  refine byC fun nT => ?_
  obtain ⟨hσ, hB, _⟩ := c.fm.out _ (.inl c.fm.inOwn)
  have hg : ∃ o, h'.get? env.locals = some o := by obtain ⟨o, _, _, ho, _⟩ := hn; exact ⟨o, ho⟩
  obtain ⟨o, ho⟩ := hg
  obtain ⟨a1, a2⟩ := c.st.owned ho hσ hB hs c.fm.inOwn
  have g : Go prog w h₀ own B σ s B σ { s with heap := h', toks := s.toks + 1 } := ⟨a1, a2, rfl, rfl⟩
  have cell : ∀ y a, env.cells.lookup y = some a → a ≠ env.locals := fun y a e q => c.fm.sepL y (q ▸ e)
  refine nT (k _ g ⟨c.scope, c.ora, c.room, a1, ⟨c.fm.kind, c.fm.gl, c.fm.bi, c.fm.inOwn, ⟨_, hn, fun j e hj => ?_⟩, fun y hy => ?_, c.fm.sep, c.fm.sepL, c.fm.nd, fun a ha => ?_, (Jn ..).trans c.fm.len, rfl, c.fm.dbg⟩⟩)
  ·rcases nth_put ρ i j d e hj with ⟨rfl, rfl⟩ | ⟨hji, hj'⟩
   ·exact ⟨x, v, hi, rv, .inl ⟨q, if_pos rfl⟩⟩
   ·obtain ⟨y, u, b1, b2, b3⟩ := hv j e hj'
    refine ⟨y, u, b1, b2, ?_⟩
    rcases b3 with ⟨p1, p2⟩ | ⟨cc, p1, p2, p3⟩
    ·exact .inl ⟨p1, (if_neg (other b1 hji)).trans p2⟩
    ·exact .inr ⟨cc, p1, p2, p3.sameBut hs (cell _ _ p2)⟩
  ·rcases c.fm.can y hy with z | ⟨z, a, u, z1, z2, z3⟩ | z
   ·exact .inl z
   ·exact .inr (.inl ⟨z, a, u, z1, z2, z3.sameBut hs (cell _ _ z1)⟩)
   ·exact .inr (.inr z)
  ·obtain ⟨p1, p2, o', p3⟩ := c.fm.out a ha
   refine ⟨p1, p2, ?_⟩
   by_cases e : a = env.locals
   ·exact ⟨o, e ▸ ho⟩
   ·exact ⟨o', (hs.2 a e).trans p3⟩
 ·refine nT (wpAny_storeName_cell c.fm.kind q h1 h3 fun h' hn hs => ?_)
  refine byC fun nT => ?_
  obtain ⟨hσ, hB, _⟩ := c.fm.out a (.inl h2)
  have hg : ∃ o, h'.get? a = some o := by obtain ⟨o, ho, _⟩ := hn; exact ⟨o, ho⟩
  obtain ⟨o, ho⟩ := hg
  obtain ⟨a1, a2⟩ := c.st.owned ho hσ hB hs h2
  have g : Go prog w h₀ own B σ s B σ { s with heap := h' } := ⟨a1, a2, rfl, rfl⟩
  have la : env.locals ≠ a := fun e => c.fm.sepL x (e ▸ h1)
  refine nT (k _ g ⟨c.scope, c.ora, c.room, a1, ⟨c.fm.kind, c.fm.gl, c.fm.bi, c.fm.inOwn, ⟨m, hm.sameBut hs la, fun j e hj => ?_⟩, fun y hy => ?_, c.fm.sep, c.fm.sepL, c.fm.nd, fun b hb => ?_, (Jn ..).trans c.fm.len, rfl, c.fm.dbg⟩⟩)
  ·rcases nth_put ρ i j d e hj with ⟨rfl, rfl⟩ | ⟨hji, hj'⟩
   ·exact ⟨x, v, hi, rv, .inr ⟨a, .inl q, h1, hn⟩⟩
   ·obtain ⟨y, u, b1, b2, b3⟩ := hv j e hj'
    refine ⟨y, u, b1, b2, ?_⟩
    rcases b3 with p | ⟨cc, p1, p2, p3⟩
    ·exact .inl p
    ·exact .inr ⟨cc, p1, p2, p3.sameBut hs fun e => other b1 hji (c.fm.sep _ _ _ p2 (e ▸ h1))⟩
  ·rcases c.fm.can y hy with z | ⟨z, b, u, z1, z2, z3⟩ | z
   ·exact .inl z
   ·by_cases e : b = a
    ·subst e; exact .inr (.inl ⟨z, b, _, z1, z2, hn⟩)
    ·exact .inr (.inl ⟨z, b, u, z1, z2, z3.sameBut hs e⟩)
   ·exact .inr (.inr z)
  ·obtain ⟨p1, p2, o', p3⟩ := c.fm.out b hb
   refine ⟨p1, p2, ?_⟩
   by_cases e : b = a
   ·exact ⟨o, e ▸ ho⟩
   ·exact ⟨o', (hs.2 b e).trans p3⟩
 ·unfold Env.kindOf at q; rw [c.scope] at q
  rcases q with q | q
  ·exact absurd q hk.1
  ·rw [hk.2] at q; cases q
theorem Zk {i : Nat} {x : Str} {pos : Pos} (hi : ns[i]? = some x) (hk : StOk sc ns) : SndA prog w h₀ sc ns (.Name x pos) (aName i) := ⟨fun n C A env own ρ B σ s v d Q E c rv h =>
 PyProof.Rows.assign_Name (store c hi (hk x (List.mem_of_getElem? hi)) rv fun s' g c' => PostL.mk c' g h)⟩
theorem K0 {o : Expr} {attr : Str} {pos : Pos} {v : Value} : assign (.Attribute o attr pos) env v = (do
  let ov ← holding [v] (eval o env)
  standAt pos.atName
  holding [v, ov] (setAttr ov attr v)
  release [v, ov] []) := rfl
theorem K5 {o i : Expr} {pos : Pos} {v : Value} : assign (.Subscript o i pos) env v = (do
  let ov ← holding [v] (eval o env)
  let iv ← holding [v, ov] (eval i env)
  standAt pos
  holding [v, ov, iv] (setItem ov iv v)
  release (match i with | .Slice _ _ none _ => [iv, v, ov] | _ => [v, ov, iv]) []) := rfl
theorem Z7 (G : Gd K h₀) {c₀ : Addr} {name : Str} (F : AttrW K c₀ name) {o : Expr} {pos : Pos} {a : WE} (ho : SndE prog w h₀ sc ns o a) : SndA prog w h₀ sc ns (.Attribute o name pos) (aAttr c₀ name a) := ⟨fun n C A env own ρ B σ s v d Q E c rv h => by
 rw [K0]
 refine wpAny_bind (wpAny_holding (ho.here c h fun v1 s1 d1 σ1 B1 q1 r1 g1 c1 => wpAny_bind (wpAny_standAt ?_)))
 cases r1 with
 | @inst x c' dd hb =>
  obtain ⟨rfl, q1⟩ := q1
  split at q1
  ·rename_i fs hσ
   refine wpAny_bind (wpAny_holding (set_attr G F c1.st hb hσ q1.1 (rv.mono g1.ext.le) fun s' g => wpAny_release ?_))
   exact ⟨ρ, _, _, q1.2, g1.trans g.any, c1.fm.go g⟩
  ·exact q1.elim
 | _ => exact q1.elim⟩
theorem RpZ.length {kvs : List (Int × Value)} {ds : List (Int × D)} (h : RpZ prog w B kvs ds) : kvs.length = ds.length := by
 induction kvs generalizing ds with
 | nil => cases h; rfl
 | cons kv kvs ih => cases h with | cons _ r => simp [ih r]
theorem Jw (its : Array Value) (n : Nat) (j : Nat) (x : Value) :
  Obj.mapSeq (·.setIfInBounds j x) { cls := .type "list", data := .seq its n } = { cls := .type "list", data := .seq (its.setIfInBounds j x) n } := by
 simp [Obj.mapSeq]
theorem set_item {l : Addr} {items : Array Value} {m : Nat} {k : Int} {t : Tok} {v : Value} {R : Unit → Shared → Prop} (ho : s.heap.get? l = some { cls := .type "list", data := .seq items m })
  (h0 : 0 ≤ k) (hfit : k < 2 ^ 63) (hn : k < items.size)
  (hQ : ∀ h', h'.get? l = some { cls := .type "list", data := .seq (items.setIfInBounds k.toNat v) m } → Heap.SameBut l s.heap h' → R () { s with heap := h' }) :
  wpAny (model prog w) A (setItem (.ref l) (.int k t) v) R E s := by
 have hl : s.heap.IsList l items := ⟨_, ho, rfl, m, rfl⟩
 unfold setItem
 refine wpAny_holding ?_
 refine wpAny_bind (wpAny_sequenceKey hl.typeIs (by decide) ?_)
 refine wpAny_bind (wpAny_callSpecial?_slot (name := Str.ofString "__setitem__") hl.typeIs slot_list_setitem
  (wpAny_call_entry slot_list_setitem hl.typeIs entry_list_setitem ?_ (args_list_setitem _ _ _)))
 show wpAny _ _ (Builtin.List.listSubscript? (.int k t) >>= _) _ _ s
 refine wpAny_bind (wpAny_listSubscript_int (fitsIndex_of h0 hfit) ?_)
 clear hfit
 obtain ⟨j, rfl⟩ := Int.eq_ofNat_of_zero_le h0
 have hj : j < items.size := by lia
 have hx' : items[j]? = some items[j] := Array.getElem?_eq_getElem hj
 show wpAny _ _ ((seqItemAt l j >>= fun r => pure (r.map (j, ·))) >>= _) _ _ s
 refine wpAny_bind (wpAny_bind (wpAny_seqItemAt ho rfl (wpAny_pure ?_)))
 rw [hx']
 show wpAny _ _ (setSeqItemAt l j v >>= _) _ _ s
 refine wpAny_bind (wpAny_setSeqItemAt ho rfl ?_)
 have fin : R () { s with heap := s.heap.update l (Obj.mapSeq (·.setIfInBounds j v)) } := hQ _ (by rw [Heap.get?_update_self _ ho (by rw [Jw]; rfl), Jw]; rfl) (Heap.SameBut.update ..)
 first
  | exact wpAny_bind (wpAny_pure (wpAny_pure ⟨.none, rfl, wpAny_pure fin⟩))
  | exact wpAny_pure ⟨.none, rfl, wpAny_pure fin⟩
theorem Um {o i : Expr} {pos : Pos} {a b : WE} (ho : SndE prog w h₀ sc ns o a) (hi : SndE prog w h₀ sc ns i b) : SndA prog w h₀ sc ns (.Subscript o i pos) (aSub a b) := ⟨fun n C A env own ρ B σ s v d Q E c rv h => by
 rw [K5]
 refine wpAny_bind (wpAny_holding (ho.here c h fun v1 s1 d1 σ1 B1 q1 r1 g1 c1 => wpAny_bind (wpAny_holding (hi.here c1 q1 fun v2 s2 d2 σ2 B2 q2 r2 g2 c2 => wpAny_bind (wpAny_standAt ?_)))))
 have rv' := rv.mono (g1.trans g2).ext.le
 have r1' := r1.mono g2.ext.le
 cases r1' with
 | mlst a =>
  cases d2 <;> first | exact q2.elim | skip
  obtain ⟨t2, rfl⟩ := r2.the_int
  dsimp only at q2
  split at q2
  ·rename_i l hσ
   obtain ⟨o', ho', vs, m, rfl, hr⟩ := c2.st.mu _ _ hσ
   have hlen := hr.length
   rw [Array.length_toList] at hlen
   obtain ⟨⟨h0, h1, h2⟩, q3⟩ := q2
   refine wpAny_bind (wpAny_holding (set_item ho' h0 (by lia) (by lia) fun h' hg sb => wpAny_release ?_))
   obtain ⟨a1, a2⟩ := c2.st.change (m := .list (l.set _ d)) hσ sb hg ⟨_, _, rfl, by rw [Array.toList_setIfInBounds]; exact hr.set rv' _⟩
   have g3 : Go prog w h₀ [] B2 σ2 s2 _ _ { s2 with heap := h' } := ⟨a1, a2, rfl, rfl⟩
   exact ⟨ρ, _, _, q3, (g1.trans g2).trans g3.any, c2.fm.go g3⟩
  ·exact q2.elim
 | mdic hns =>
  cases d2 <;> first | exact q2.elim | skip
  obtain ⟨t2, rfl⟩ := r2.the_int
  dsimp only at q2
  split at q2
  ·rename_i l hσ
   obtain ⟨o', ho', kvs, hd, hr, -⟩ := c2.st.mu _ _ hσ
   have hlen : kvs.length = l.length := hr.length
   refine wpAny_bind (wpAny_holding (wpAny_setItem_pairs (intKind_is prog w _ _) (Heap.dictOf_iff.mpr ⟨_, ho', hd⟩) (fun h' hm sb => wpAny_release ?_) (by rw [hlen, sizeLine_eq]; have := q2.1; lia)))
   obtain ⟨o'', ho'', hd''⟩ := Heap.dictOf_iff.mp hm
   obtain ⟨es, ep, hd3⟩ := id hd''
   obtain ⟨a1, a2⟩ := c2.st.change (m := .dict ep (zput l _ d)) hσ sb ho'' ⟨_, hd'', hr.put rv', es, hd3.2.1⟩
   have g3 : Go prog w h₀ [] B2 σ2 s2 _ _ { s2 with heap := h', toks := s2.toks + 1 } := ⟨a1, a2, rfl, rfl⟩
   exact ⟨ρ, _, _, q2.2 _, (g1.trans g2).trans g3.any, c2.fm.go g3⟩
  ·exact q2.elim
 | _ => exact q2.elim⟩
end
section
variable {prog : Program} {w : World} {h₀ : Heap} {K : Frag} {sc : Scope} {ns : List Str} {n : Nat} {C : Ora} {A : Around} {env : Env} {own : List Addr} {ρ ρ' : Loc} {B B' B1 : Fz} {σ σ' σ1 : Sto} {s s' s1 : Shared} {E : Value → Shared → Prop}
inductive Sq (h : Heap) (l : Addr) (vs : Array Value) : Prop where
 | tup : IsTup h l vs → Sq h l vs
 | lst : h.IsList l vs → Sq h l vs
noncomputable def SqIt (h : Heap) (it l : Addr) (i : Nat) : Prop := (IsTupIter h it l i ∧ (∃ vs, IsTup h l vs)) ∨ (h.IsListIter it l i ∧ (∃ vs, h.IsList l vs))
theorem items_sq (st : St prog w h₀ B σ s.heap) {v : Value} {d : D} {ds : List D} (hv : Rp prog w B v d) (h : itemsD d = some ds) : ∃ l vs, v = .ref l ∧ Sq s.heap l vs ∧ Rps prog w B vs.toList ds := by
 cases hv with
 | @tup a o vs m ds' hb hc hd hr => cases h; exact ⟨a, vs, rfl, .tup ⟨_, st.fz _ _ hb, hc, _, hd⟩, hr⟩
 | @lst a o vs m ds' hb hc hd hr => cases h; exact ⟨a, vs, rfl, .lst ⟨_, st.fz _ _ hb, hc, _, hd⟩, hr⟩
 | _ => cases h
theorem Zhf (st : St prog w h₀ B σ s.heap) {v : Value} {d : D} {ds : List D} (hv : Rp prog w B v d) (h : itemsS d σ = some ds) : ∃ l vs, v = .ref l ∧ Sq s.heap l vs ∧ Rps prog w B vs.toList ds := by
 cases hv with
 | @tup a o vs m ds' hb hc hd hr => cases h; exact ⟨a, vs, rfl, .tup ⟨_, st.fz _ _ hb, hc, _, hd⟩, hr⟩
 | @lst a o vs m ds' hb hc hd hr => cases h; exact ⟨a, vs, rfl, .lst ⟨_, st.fz _ _ hb, hc, _, hd⟩, hr⟩
 | mlst a =>
  unfold itemsS at h
  dsimp only at h
  split at h
  ·rename_i l hσ
   cases h
   obtain ⟨o, ho, hmr⟩ := st.mu a _ hσ
   obtain ⟨hc, us, m, hd, hr⟩ := hmr.lst
   exact ⟨a, us, rfl, .lst ⟨o, ho, hc, m, hd⟩, hr⟩
  ·cases h
 | _ => cases h
theorem Sq.keeps {h h' : Heap} {l : Addr} {vs} (x : Sq h l vs) (hk : ∀ o, h.get? l = some o → h'.get? l = some o) : Sq h' l vs := by
 cases x with
 | tup x => obtain ⟨o, ho, r⟩ := x; exact .tup ⟨o, hk o ho, r⟩
 | lst x => obtain ⟨o, ho, r⟩ := x; exact .lst ⟨o, hk o ho, r⟩
theorem Sq.there {h : Heap} {l : Addr} {vs} (x : Sq h l vs) : ∃ o, h.get? l = some o := by
 cases x with
 | tup x => obtain ⟨o, ho, r⟩ := x; exact ⟨o, ho⟩
 | lst x => obtain ⟨o, ho, r⟩ := x; exact ⟨o, ho⟩
noncomputable def itObj (cls : String) (l : Addr) : Obj := { cls := .type cls, data := .fields #[.ref l, .int 0 0] }
inductive At (h : Heap) (it l : Addr) (vs : Array Value) (i : Nat) : Prop where
 | tup : IsTup h l vs → IsTupIter h it l i → At h it l vs i
 | lst : h.IsList l vs → h.IsListIter it l i → At h it l vs i
theorem iter_sq {l : Addr} {vs : Array Value} {R : Value → Shared → Prop} (x : Sq s.heap l vs) (k : ∀ o, o.isFreed = false → At (s.heap.push o) s.heap.objs.size l vs 0 → R (.ref s.heap.objs.size) { s with heap := s.heap.push o }) : wpAny (model prog w) A (pyIter (.ref l)) R E s := by
 cases x with
 | tup x => exact iter_tuple x (k (itObj "tuple_iterator" l) rfl (.tup (x.keeps fun b o e => Heap.get?_push_of_some _ e) ⟨_, Heap.get?_push_size _ rfl, rfl, rfl⟩))
 | lst x => exact wpAny_pyIter_list x (k (itObj "list_iterator" l) rfl (.lst (by obtain ⟨o, ho, r⟩ := x; exact ⟨o, Heap.get?_push_of_some _ ho, r⟩) ⟨_, Heap.get?_push_size _ rfl, rfl, rfl⟩))
theorem next_sq {it l : Addr} {vs : Array Value} {i : Nat} {x : Value} {R : Option Value → Shared → Prop} (a : At s.heap it l vs i) (hl : l ≠ it) (hx : vs[i]? = some x)
  (k : ∀ h', At h' it l vs (i + 1) → Heap.SameBut it s.heap h' → R (some x) { s with heap := h' }) : wpAny (model prog w) A (pyNext (.ref it)) R E s := by
 cases a with
 | tup a b => exact next_tuple_item b a hx fun h' c sb => k h' (.tup (a.extBut sb.extBut hl) c) sb
 | lst a b => exact wpAny_pyNext_list_item b a hx fun h' c sb => k h' (.lst (a.extBut sb.extBut hl) c) sb
theorem end_sq {it l : Addr} {vs : Array Value} {i : Nat} {R : Option Value → Shared → Prop} (hh : A.handled = none) (a : At s.heap it l vs i) (hx : vs[i]? = none)
  (k : ∀ h', Heap.ExtBut it s.heap h' → R none { s with heap := h' }) : wpAny (model prog w) A (pyNext (.ref it)) R E s := by
 cases a with
 | tup a b => exact next_tuple_end hh b a hx k
 | lst a b => exact wpAny_pyNext_list_end hh b a hx k
theorem At.keeps {h h' : Heap} {it l : Addr} {vs i} (x : At h it l vs i) (hk : ∀ o, h.get? l = some o → h'.get? l = some o) (hi : ∀ o, h.get? it = some o → h'.get? it = some o) : At h' it l vs i := by
 cases x with
 | tup a b => obtain ⟨o, ho, r⟩ := a; obtain ⟨o', ho', r'⟩ := b; exact .tup ⟨o, hk _ ho, r⟩ ⟨o', hi _ ho', r'⟩
 | lst a b => obtain ⟨o, ho, r⟩ := a; obtain ⟨o', ho', r'⟩ := b; exact .lst ⟨o, hk _ ho, r⟩ ⟨o', hi _ ho', r'⟩
theorem draw_sq {it l : Addr} {vs : Array Value} (hne : l ≠ it) : ∀ (n i : Nat) (s : Shared) (Q : List Value → Shared → Prop), At s.heap it l vs i → i + n ≤ vs.size →
  (∀ h', At h' it l vs (i + n) → Heap.SameBut it s.heap h' → Q ((vs.toList.drop i).take n) { s with heap := h' }) → wpAny (model prog w) A (draw (.ref it) n) Q E s
 | 0, i, s, Q, a, _, hQ => by
  show wpAny _ _ (pure []) Q E s
  exact wpAny_pure (by simpa using hQ s.heap a (Heap.SameBut.refl ..))
 | n + 1, i, s, Q, a, hle, hQ => by
  have hlt : i < vs.size := by lia
  show wpAny _ _ (pyNext (.ref it) >>= _) Q E s
  refine wpAny_bind (next_sq a hne (x := vs[i]) (by simp [hlt]) fun h₁ a₁ hs₁ => ?_)
  refine wpAny_bind (wpAny_holding (draw_sq hne n (i + 1) _ _ a₁ (by lia) fun h₂ a₂ hs₂ => wpAny_pure ?_))
  have hd : vs.toList.drop i = vs[i] :: vs.toList.drop (i + 1) := by simp [List.drop_eq_getElem_cons, hlt]
  have := hQ h₂ (by rw [show i + (n + 1) = i + 1 + n by lia]; exact a₂) (hs₁.trans hs₂)
  rw [hd, List.take_succ_cons] at this
  exact this
theorem Zgw {l : Addr} {vs : Array Value} {R : Bool → Shared → Prop} (x : Sq s.heap l vs) (k : R false s) : wpAny (model prog w) A (notIterableAtAll (.ref l)) R E s := by
 unfold notIterableAtAll
 cases x with
 | tup x => exact wpAny_bind (wpAny_specialOf x.typeIs slot_tuple_iter.lookup (wpAny_pure k))
 | lst x => exact wpAny_bind (wpAny_specialOf x.typeIs slot_list_iter.lookup (wpAny_pure k))
theorem Ze4 {l : Addr} {vs : Array Value} {R : List Value → Shared → Prop} (hh : A.handled = none) (x : Sq s.heap l vs)
  (hQ : ∀ h', (∀ a o, s.heap.get? a = some o → h'.get? a = some o) → R vs.toList { s with heap := h' }) : wpAny (model prog w) A (unpackItems (.ref l) vs.size none) R E s := by
 have hlt : l ≠ s.heap.objs.size := by obtain ⟨o, ho⟩ := x.there; exact Nat.ne_of_lt (Heap.lt_size ho)
 unfold unpackItems
 refine wpAny_bind (Zgw x ?_)
 simp only [Bool.false_eq_true, if_false]
 refine wpAny_bind (wpAny_holding (iter_sq x fun o hf a0 => ?_))
 refine wpAny_bind (wpAny_holding (draw_sq hlt vs.size 0 _ _ a0 (by lia) fun h₁ a₁ hs₁ => ?_))
 have hall : List.take vs.size (List.drop 0 vs.toList) = vs.toList := by
  rw [List.drop_zero]; exact List.take_of_length_le (by simp)
 rw [hall]
 rw [if_neg (by simp)]
 refine wpAny_bind (wpAny_holding (end_sq hh a₁ (by simp) fun h₂ he₂ => ?_))
 simp only [Option.isSome_none, Bool.false_eq_true, if_false]
 refine wpAny_pure (hQ h₂ fun b o e => ?_)
 have hb : b ≠ s.heap.objs.size := Nat.ne_of_lt (Heap.lt_size e)
 exact he₂ b o hb (hs₁.extBut b o hb (Heap.get?_push_of_some _ e))
variable (prog w h₀ sc ns) in
inductive SndAs : List Expr → List WA → Prop where
 | nil : SndAs [] []
 | cons {t ts W Ws} : isStar t = false → SndA prog w h₀ sc ns t W → SndAs ts Ws → SndAs (t :: ts) (W :: Ws)
theorem Uj {t : Expr} {ts : List Expr} (h : isStar t = false) : assignEach (t :: ts) env = (false, assign t env) :: assignEach ts env := by
 cases t <;> first | rfl | cases h
theorem SndAs.shape {ts Ws} (h : SndAs prog w h₀ sc ns ts Ws) : (assignEach ts env).length = Ws.length ∧ (assignEach ts env).findIdx? (·.1) = none := by
 induction h with
 | nil => exact ⟨rfl, rfl⟩
 | cons h1 h2 h3 ih => rw [Uj h1]; exact ⟨by simp [ih.1], by simp [List.findIdx?_cons, ih.2]⟩
theorem SndAs.here {ts Ws} (h : SndAs prog w h₀ sc ns ts Ws) : ∀ {ρ : Loc} {B : Fz} {σ : Sto} {s : Shared} {vs : List Value} {ds : List D} (c : Cx prog w h₀ sc ns n C A env own ρ B σ s) {Q : Loc → Sto → Prop} {R : Unit → Shared → Prop} (rv : Rps prog w B vs ds) (hq : aMany Ws C ρ σ ds Q)
  (k : ∀ s' ρ' σ' B', Q ρ' σ' → Go prog w h₀ own B σ s B' σ' s' → Cx prog w h₀ sc ns n C A env own ρ' B' σ' s' → R () s'),
  wpAny (model prog w) A (assignInOrder ((assignEach ts env).map (·.2)) vs) R E s := by
 induction h with
 | nil =>
  intro ρ B σ s vs ds c Q R rv hq k
  cases rv with
  | nil => exact wpAny_pure (k _ _ _ _ hq c.refl c)
  | cons _ _ => exact hq.elim
 | cons h1 h2 h3 ih =>
  intro ρ B σ s vs ds c Q R rv hq k
  rw [Uj h1]
  cases rv with
  | nil => exact hq.elim
  | cons r1 r2 =>
   show wpAny _ _ (do holding _ (assign _ env _); assignInOrder _ _) _ _ _
   refine wpAny_bind (wpAny_holding (h2.here c r1 hq fun s1 ρ1 σ1 B1 q1 g1 c1 => ?_))
   exact ih c1 (r2.mono g1.ext.le) q1 fun s2 ρ2 σ2 B2 q2 g2 c2 => k _ _ _ _ q2 (g1.trans g2) c2
theorem Cx.grown (c : Cx prog w h₀ sc ns n C A env own ρ B σ s) {h' : Heap} {t : Nat} (k : ∀ a o, s.heap.get? a = some o → h'.get? a = some o) :
  Go prog w h₀ own B σ s B σ { s with heap := h', toks := t } ∧ Cx prog w h₀ sc ns n C A env own ρ B σ { s with heap := h', toks := t } := by
 have g := c.st.keepAll (t := t) k
 exact ⟨g.any, c.to g.any (c.fm.go g)⟩
theorem Jc {ts Ws} {k : Nat} {pos : Pos} (h : SndAs prog w h₀ sc ns ts Ws) : SndA prog w h₀ sc ns (.Tuple ts k pos) (aTup Ws) := ⟨fun n C A env own ρ B σ s v d Q E c rv hq => by
 rw [assign_Tuple]
 refine wpAny_bind (wpAny_standAt ?_)
 unfold aTup at hq
 split at hq
 ·rename_i ds hd
  obtain ⟨l, vs, rfl, sq, hr⟩ := Zhf c.st rv hd
  obtain ⟨e1, e2⟩ := h.shape (env := env)
  unfold unpack
  rw [e1, e2, ← hq.1, ← hr.length, Array.length_toList]
  refine wpAny_bind (wpAny_holding (Ze4 c.room.handled sq fun h' kk => ?_))
  obtain ⟨g1, c1⟩ := c.grown (t := s.toks) kk
  exact h.here c1 hr hq.2 fun s' ρ' σ' B' q g c' => PostL.mk c' (g1.trans g) q
 ·exact hq.elim⟩
theorem Zfc {t value : Expr} {pos : Pos} {R : Flow → Shared → Prop} (hst : isStar t = false) (hs : swapsWith value (some t) pos.line env = pure false) (hw : swappedStores [t] value env = pure none)
  (h : wpAny (model prog w) A (eval value env) (fun v s₁ => wpAny (model prog w) A (assign t env v) (fun _ => R .next) E s₁) E s) : wpAny (model prog w) A (exec (.Assign [t] value pos) env) R E s := by
 rw [exec_Assign]
 refine wpAny_bind (wpAny_standAt ?_)
 show wpAny _ _ ((do let b ← swapsWith value (some t) pos.line env; if b then _ else _)) _ _ _
 rw [hs]
 refine wpAny_bind (wpAny_pure ?_)
 rw [if_neg (by decide)]
 refine wpAny_bind (wpAny_mono h (fun v s₁ h₁ => ?_) fun _ _ x => x)
 rw [hw]
 refine wpAny_bind (wpAny_pure ?_)
 rw [Uj hst]
 show wpAny (model prog w) A (do assignAll v [assign t env]; pure Flow.next) R E s₁
 exact wpAny_bind (wpAny_mono h₁ (fun _ _ x => wpAny_pure x) fun _ _ x => x)
theorem Zl {t value : Expr} {pos : Pos} {a : WE} {W : WA} (hst : isStar t = false) (ha : SndE prog w h₀ sc ns value a) (ht : SndA prog w h₀ sc ns t W) (hs : ∀ env, swapsWith value (some t) pos.line env = pure false)
  (hw : ∀ env, env.scope = sc → swappedStores [t] value env = pure none) : SndS prog w h₀ sc ns (.Assign [t] value pos) (sAsg a W) := ⟨fun n C A env own ρ B σ s N R Kk E c h =>
 Zfc hst (hs env) (hw env c.scope) (ha.here c h fun v1 s1 d1 σ1 B1 q1 r1 g1 c1 => ht.here c1 r1 q1 fun s2 ρ2 σ2 B2 q2 g2 c2 => PostL.mk c2 (g1.trans g2) q2)⟩
theorem Kh {elts : List Expr} {k : Nat} {tpos pos : Pos} {value : Expr} {a : WE} {is : List Nat} {names : List Str} (ha : SndE prog w h₀ sc ns value a) (hi : is.map (fun i => ns[i]?) = names.map some) (hk0 : StOk sc ns)
  (hs : ∀ env, swapsWithSole [.Tuple elts k tpos] value pos.line env = pure false)
  (hw : ∀ env, env.scope = sc → swappedStores [.Tuple elts k tpos] value env = pure (some names)) : SndS prog w h₀ sc ns (.Assign [.Tuple elts k tpos] value pos) (sSwap a is) := ⟨fun n C A env own ρ B σ s N R Kk E c h =>
 Assign_Tuple_swapped (hs := hs env) (hw := hw env c.scope) (ha.here c h fun v1 s1 d1 σ1 B1 q1 r1 g1 c1 => by
  split at q1
  ·rename_i ds hd
   obtain ⟨l, vs, rfl, sq, hr⟩ := items_sq c1.st r1 hd
   have hk : ∀ x ∈ names, sc.names.lookup x ≠ some .free ∧ sc.names.lookup (".0" : Str) = none := fun x hx => by
    obtain ⟨j, hj⟩ := List.getElem?_of_mem hx
    have e := congrArg (fun l => l[j]?) hi
    simp only [List.getElem?_map, hj, Option.map_some] at e
    cases q : is[j]? with
    | none => rw [q] at e; cases e
    | some i =>
     rw [q] at e
     simp only [Option.map_some, Option.some.injEq] at e
     exact hk0 x (List.mem_of_getElem? e)
   have hln : is.length = names.length := by have := congrArg List.length hi; simpa using this
   have e : names.length = vs.size := by rw [← Array.length_toList, hr.length, q1.1, hln]
   rw [e]
   refine Ze4 c1.room.handled sq fun h' kk => ?_
   obtain ⟨g2, c2⟩ := c1.grown (t := s1.toks) kk
   have hr' : Rps prog w B1 vs.toList.reverse ds.reverse := by
    clear q1 sq e hd r1
    generalize vs.toList = us at hr
    induction us generalizing ds with
    | nil => cases hr; exact .nil
    | cons u us ih => cases hr with | cons h1 h2 => rw [List.reverse_cons, List.reverse_cons]; exact (ih _ h2).append (.cons h1 .nil)
   have q2 := q1.2
   have main : ∀ (is : List Nat) (names : List Str) (vs : List Value) (ds : List D) (ρ : Loc) (s : Shared) (c : Cx prog w h₀ sc ns n C A env own ρ B1 σ1 s) (hr : Rps prog w B1 vs ds) (hi : is.map (fun i => ns[i]?) = names.map some) (hk : ∀ x ∈ names, sc.names.lookup x ≠ some .free ∧ sc.names.lookup (".0" : Str) = none) (R : Unit → Shared → Prop)
     (q : aMany (is.map aName) C ρ σ1 ds N) (k : ∀ s' ρ', N ρ' σ1 → Go prog w h₀ own B1 σ1 s B1 σ1 s' → Cx prog w h₀ sc ns n C A env own ρ' B1 σ1 s' → R () s'),
     wpAny (model prog w) A (assignInOrder (names.map fun n => bindName env n) vs) R E s := by
    intro is
    induction is with
    | nil =>
     intro names vs ds ρ s c hr hi hk R q k
     cases names with
     | cons _ _ => simp at hi
     | nil =>
      cases hr with
      | nil => exact wpAny_pure (k _ _ q c.refl c)
      | cons _ _ => exact q.elim
    | cons i is ih =>
     intro names vs ds ρ s c hr hi hk R q k
     cases names with
     | nil => simp at hi
     | cons x names =>
      cases hr with
      | nil => exact q.elim
      | @cons v d vs ds h1 h2 =>
       simp only [List.map_cons, List.cons.injEq] at hi
       show wpAny _ _ (do holding _ (bindName env x v); assignInOrder _ _) _ _ _
       refine wpAny_bind (wpAny_holding (wpAny_bindName (store c hi.1 (hk x (by simp)) h1 fun s' g c' => ?_)))
       exact ih names vs ds _ s' c' h2 hi.2 (fun y hy => hk y (by simp [hy])) R q fun s'' ρ'' hq g' c'' => k _ _ hq (g.trans g') c''
   refine main is.reverse names.reverse _ _ ρ _ c2 hr' (by rw [List.map_reverse, List.map_reverse, hi]) (fun x hx => hk x (by simpa using hx)) _ q2 fun s' ρ' hq g c' => ?_
   exact PostL.mk c' ((g1.trans g2).trans g) hq
  ·exact q1.elim)⟩
theorem Zu {e : Expr} {pos : Pos} {a : WE} (he : SndE prog w h₀ sc ns e a) : SndS prog w h₀ sc ns (.Return (some e) pos) (sRet a) := ⟨fun n C A env own ρ B σ s N R Kk E c h =>
 wpAny_Return_some (he.here c h fun v1 s1 d1 σ1 B1 q1 r1 g1 c1 => ⟨d1, σ1, B1, q1, r1, g1⟩)⟩
theorem Zt {e : Expr} {pos : Pos} {a : WE} (he : SndE prog w h₀ sc ns e a) (hk : sc.kind = .function) (hs : ∀ env, swapsWith e none pos.line env = pure false) : SndS prog w h₀ sc ns (.Expr e pos) (sExpr a) := ⟨fun n C A env own ρ B σ s N R Kk E c h =>
 wpAny_Expr_any (he.here c h fun v1 s1 d1 σ1 B1 q1 r1 g1 c1 => PostL.mk c1 g1 q1) (by unfold interactive; rw [c.scope, hk]; rfl) (hs env)⟩
theorem Zz {t : Expr} {b1 b2 : List Stmt} {pos : Pos} {p : WT} {x y : WS} (ht : SndT prog w h₀ sc ns t p) (h1 : SndB prog w h₀ sc ns b1 x) (h2 : SndB prog w h₀ sc ns b2 y) : SndS prog w h₀ sc ns (.If t b1 b2 pos) (sIf p x y) := ⟨fun n C A env own ρ B σ s N R Kk E c h =>
 wpAny_If (ht.here c h fun b s1 σ1 B1 q1 g1 c1 => by
  cases b
  ·exact wpAny_mono (h2.go n C A env own ρ B1 σ1 s1 N R Kk E c1 q1) (fun f s' hf => hf.after g1) fun _ _ x => x
  ·exact wpAny_mono (h1.go n C A env own ρ B1 σ1 s1 N R Kk E c1 q1) (fun f s' hf => hf.after g1) fun _ _ x => x)⟩
theorem sns_brk {pos : Pos} : SndS prog w h₀ sc ns (.Break pos) sBrk := ⟨fun n C A env own ρ B σ s N R Kk E c h => wpAny_Break (PostL.mk c c.refl h)⟩
theorem Zau {st : Stmt} : SndS prog w h₀ sc ns st sNo := ⟨fun n C A env own ρ B σ s N R Kk E c h => h.elim⟩
theorem Ze : SndB prog w h₀ sc ns [] sNil := ⟨fun n C A env own ρ B σ s N R Kk E c h => wpAny_execs_nil (PostL.mk c c.refl h)⟩
theorem Zb {st : Stmt} {rest : List Stmt} {x y : WS} (h1 : SndS prog w h₀ sc ns st x) (h2 : SndB prog w h₀ sc ns rest y) : SndB prog w h₀ sc ns (st :: rest) (sSeq x y) := ⟨fun n C A env own ρ B σ s N R Kk E c h =>
 wpAny_execs_cons (wpAny_mono (h1.go n C A env own ρ B σ s _ R Kk E c h) (fun f s' hf => by
  cases f with
  | next =>
   obtain ⟨ρ1, σ1, B1, q1, g1, f1⟩ := hf
   exact wpAny_mono (h2.go n C A env own ρ1 B1 σ1 s' N R Kk E (c.toL g1 f1) q1) (fun f s'' hf => hf.after g1) fun _ _ x => x
  | brk => exact hf
  | ret v => exact hf
  | cont => exact hf) fun _ _ x => x)⟩
end
noncomputable def srcOf (x : D) (σ : Sto) : Option (List D) := match x with
 | .tup l => some l
 | .lst l => some l
 | .mlst a => match σ a with | some (.list l) => some l | _ => none
 | .mdic a => match σ a with | some (.dict _ l) => some (l.map fun p => .int p.1) | _ => none
 | _ => none
noncomputable def srcInv (x : D) (σ σ' : Sto) : Prop := match x with
 | .mlst a => σ' a = σ a
 | .mdic a => σ' a = σ a
 | _ => True
noncomputable def sLoop (t : WA) (body : WS) (inv : Sto → Prop) (C : Ora) (N : Loc → Sto → Prop) (R : D → Sto → Prop) : List D → Loc → Sto → Prop
 | [], ρ, σ => inv σ ∧ N ρ σ
 | d :: ds, ρ, σ => inv σ ∧ t C ρ σ d fun ρ1 σ1 => body C ρ1 σ1 (fun ρ2 σ2 => sLoop t body inv C N R ds ρ2 σ2) R N
noncomputable def sFor (a : WE) (t : WA) (body : WS) : WS := fun C ρ σ N R _ => a C ρ σ fun x σ1 => match srcOf x σ1 with
 | some ds => sLoop t body (srcInv x σ1) C N R ds ρ σ1
 | none => False
noncomputable def sRange (k : Nat) (t : WA) (body : WS) : WS := fun C ρ σ N R _ => sLoop t body (fun _ => True) C N R ((List.range k).map fun i => .int (Int.ofNat i)) ρ σ
section
variable (prog : Program) (w : World) (h₀ : Heap)
structure Src (B1 : Fz) (inv : Sto → Prop) (I : Addr) (ds : List D) where
 it : Nat → Heap → Prop
 ex : ∀ {i h}, it i h → ∃ o, h.get? I = some o
 keep : ∀ {i h h'}, it i h → (∀ o, h.get? I = some o → h'.get? I = some o) → it i h'
 next : ∀ {A B σ s i d} {R : Option Value → Shared → Prop} {E}, A.handled = none → St prog w h₀ B σ s.heap → (∀ a o, B1 a = some o → B a = some o) → σ I = none → B I = none → inv σ → it i s.heap → ds[i]? = some d →
  (∀ v h' t, Rp prog w B v d → it (i + 1) h' → Heap.ExtBut I s.heap h' → R (some v) { s with heap := h', toks := t }) → wpAny (model prog w) A (pyNext (.ref I)) R E s
 fin : ∀ {A B σ s i} {R : Option Value → Shared → Prop} {E}, A.handled = none → St prog w h₀ B σ s.heap → (∀ a o, B1 a = some o → B a = some o) → σ I = none → B I = none → inv σ → it i s.heap → ds[i]? = none →
  (∀ h' t, Heap.ExtBut I s.heap h' → R none { s with heap := h', toks := t }) → wpAny (model prog w) A (pyNext (.ref I)) R E s
 own : ∀ {A s i} {R : Unit → Shared → Prop} {E} (t : Expr) (v : Value), it i s.heap → R () s → wpAny (model prog w) A (letOwnedTupleGo t (.ref I) v) R E s
end
section
variable {prog : Program} {w : World} {h₀ : Heap} {K : Frag} {sc : Scope} {ns : List Str} {n : Nat} {C : Ora} {A : Around} {env : Env} {own : List Addr} {ρ ρ' : Loc} {B B' B1 : Fz} {σ σ' σ1 : Sto} {s s' s1 : Shared} {E : Value → Shared → Prop}
theorem U0 {I : Addr} {T : String} {o : Obj} {t : Expr} {v : Value} {R : Unit → Shared → Prop} (ho : s.heap.get? I = some o) (hc : o.cls = .type T)
  (hT : ["enumerate", "zip", "dict_itemiterator", "dict_reverseitemiterator", "odict_iterator", "itertools.zip_longest", "itertools.pairwise"].contains T = false) (h : R () s) :
  wpAny (model prog w) A (letOwnedTupleGo t (.ref I) v) R E s := by
 have pat : wpAny (model prog w) A (letOwnedTupleGo (.Tuple [] 0 ⟨0, 0, 0, 0⟩) (.ref I) v) R E s := by
  unfold letOwnedTupleGo
  cases v <;> first | exact wpAny_pure h | skip
  refine wpAny_bind (wpAny_load ho ?_)
  rw [hc]
  cases hd : o.data <;> first | exact wpAny_pure h | skip
  dsimp only
  rw [hT]
  exact wpAny_pure h
 cases t <;> first | exact wpAny_pure h | exact pat
theorem Cx.side (c₀ : Cx prog w h₀ sc ns n C A env own ρ B σ s) {I : Addr} {h' : Heap} (t : Nat) (hI : s.heap.get? I = none) (g : Go prog w h₀ own B σ s B1 σ1 s1) (c1 : Cx prog w h₀ sc ns n C A env own ρ' B1 σ1 s1)
  (hB : B1 I = none) (hσ : σ1 I = none) (eb : Heap.ExtBut I s1.heap h') :
  Go prog w h₀ own B σ s B1 σ1 { s1 with heap := h', toks := t } ∧ Cx prog w h₀ sc ns n C A env own ρ' B1 σ1 { s1 with heap := h', toks := t } := by
 have ne : ∀ a o, s.heap.get? a = some o → a ≠ I := fun a o e q => by rw [q, hI] at e; cases e
 have st : St prog w h₀ B1 σ1 h' := ⟨g.st.base, fun a o e => eb a o (fun q => by rw [q, hB] at e; cases e) (g.st.fz a o e), fun a m e =>
  let ⟨o, h1, h2⟩ := g.st.mu a m e; ⟨o, eb a o (fun q => by rw [q, hσ] at e; cases e) h1, h2⟩, g.st.dj⟩
 refine ⟨⟨st, ⟨g.ext.le, fun a o e hs ho => eb a o (ne a o e) (g.ext.keep a o e hs ho), g.ext.grab, fun a o e => let ⟨o', e'⟩ := g.ext.there a o e; ⟨o', eb a o' (ne a o e) e'⟩⟩, g.gens, g.os⟩, c1.scope, c1.ora, c1.room, st, ?_⟩
 exact c1.fm.move (fun _ _ e => e) (fun a ha o e => eb a o (c₀.ne_own hI a ha) e) fun a _ o _ hs hb => ⟨hs, hb⟩
noncomputable def srcSeq {B1 : Fz} {a : Addr} {o : Obj} {vs : Array Value} {m : Nat} {ds : List D} (hb : B1 a = some o) (hc : o.cls = .type "list" ∨ o.cls = .type "tuple") (hd : o.data = .seq vs m) (hr : Rps prog w B1 vs.toList ds) {I : Addr} (ne : a ≠ I) :
  Src prog w h₀ B1 (fun _ => True) I ds where
 it := fun i h => (o.cls = .type "list" ∧ h.IsListIter I a i) ∨ (o.cls = .type "tuple" ∧ IsTupIter h I a i)
 ex := fun x => by
  rcases x with ⟨c, o', ho, r⟩ | ⟨c, o', ho, r⟩
  ·exact ⟨_, ho⟩
  ·exact ⟨_, ho⟩
 keep := fun x k => by
  rcases x with ⟨c, o', ho, r⟩ | ⟨c, o', ho, r⟩
  ·exact .inl ⟨c, o', k _ ho, r⟩
  ·exact .inr ⟨c, o', k _ ho, r⟩
 next := fun hh st le _ _ _ x e k => by
  obtain ⟨v, hv, hp⟩ := hr.get e
  rw [Array.getElem?_toList] at hv
  rcases x with ⟨c, x⟩ | ⟨c, x⟩
  ·exact wpAny_pyNext_list_item x ⟨o, st.fz _ _ (le _ _ hb), c, m, hd⟩ hv fun h' y sb => k v h' _ (hp.mono le) (.inl ⟨c, y⟩) sb.extBut
  ·exact next_tuple_item x ⟨o, st.fz _ _ (le _ _ hb), c, m, hd⟩ hv fun h' y sb => k v h' _ (hp.mono le) (.inr ⟨c, y⟩) sb.extBut
 fin := fun {A B σ s i R E} hh st le _ _ _ x e k => by
  have hv : vs[i]? = none := by rw [← Array.getElem?_toList, List.getElem?_eq_none_iff, hr.length]; exact List.getElem?_eq_none_iff.mp e
  rcases x with ⟨c, x⟩ | ⟨c, x⟩
  ·exact wpAny_pyNext_list_end hh x ⟨o, st.fz _ _ (le _ _ hb), c, m, hd⟩ hv fun h' eb => k h' _ eb
  ·exact next_tuple_end hh x ⟨o, st.fz _ _ (le _ _ hb), c, m, hd⟩ hv fun h' eb => k h' _ eb
 own := fun t v x h => by
  rcases x with ⟨c, o', ho, r, _⟩ | ⟨c, o', ho, r, _⟩
  ·exact U0 ho r (by decide) h
  ·exact U0 ho r (by decide) h
noncomputable def srcList {B1 : Fz} {σ0 : Sto} {a : Addr} {ds : List D} (hσ : σ0 a = some (.list ds)) {I : Addr} :
  Src prog w h₀ B1 (fun σ' => σ' a = σ0 a) I ds where
 it := fun i h => h.IsListIter I a i
 ex := fun ⟨o', ho, r⟩ => ⟨_, ho⟩
 keep := fun ⟨o', ho, r⟩ k => ⟨o', k _ ho, r⟩
 next := fun hh st le _ _ iv x e k => by
  obtain ⟨o, ho, hmr⟩ := st.mu a _ (iv.trans hσ)
  obtain ⟨hc, us, m, hd, hr⟩ := hmr.lst
  obtain ⟨v, hv, hp⟩ := hr.get e
  rw [Array.getElem?_toList] at hv
  exact wpAny_pyNext_list_item x ⟨o, ho, hc, m, hd⟩ hv fun h' y sb => k v h' _ hp y sb.extBut
 fin := fun {A B σ s i R E} hh st le _ _ iv x e k => by
  obtain ⟨o, ho, hmr⟩ := st.mu a _ (iv.trans hσ)
  obtain ⟨hc, us, m, hd, hr⟩ := hmr.lst
  have hv : us[i]? = none := by rw [← Array.getElem?_toList, List.getElem?_eq_none_iff, hr.length]; exact List.getElem?_eq_none_iff.mp e
  exact wpAny_pyNext_list_end hh x ⟨o, ho, hc, m, hd⟩ hv fun h' eb => k h' _ eb
 own := fun t v x h => by
  obtain ⟨o', ho, r, _⟩ := x
  exact U0 ho r (by decide) h
theorem RpZ.key {kvs : List (Int × Value)} {l : List (Int × D)} (h : RpZ prog w B kvs l) {i : Nat} {d : D} (e : (l.map fun p => D.int p.1)[i]? = some d) : ∃ k v, kvs[i]? = some (k, v) ∧ d = .int k := by
 induction kvs generalizing l i with
 | nil => cases h; simp at e
 | cons kv kvs ih =>
  cases h with
  | cons h1 h2 =>
   cases i with
   | zero => simp at e; exact ⟨_, _, rfl, e.symm⟩
   | succ i => simpa using ih h2 (by simpa using e)
noncomputable def srcDict {B1 : Fz} {σ0 : Sto} {a : Addr} {ep : Nat} {l : List (Int × D)} (hσ : σ0 a = some (.dict ep l)) {I : Addr} :
  Src prog w h₀ B1 (fun σ' => σ' a = σ0 a) I (l.map fun p => .int p.1) where
 it := fun i h => h.IsKeyIter I a i l.length ep
 ex := fun ⟨o', ho, r⟩ => ⟨_, ho⟩
 keep := fun ⟨o', ho, r⟩ k => ⟨o', k _ ho, r⟩
 next := fun hh st le _ _ iv x e k => by
  obtain ⟨o, ho, kvs, ⟨es, ep', h1, h2, h3, h4, h5⟩, hr, es', he⟩ := st.mu a _ (iv.trans hσ)
  rw [he] at h2; cases h2
  obtain ⟨key, v, e1, rfl⟩ := hr.key e
  rw [← hr.length] at x
  refine wpAny_pyNext_dict_item (knd := intKind prog w) x ⟨o, es, ho, h1, he, h3, h4, h5⟩ e1 fun kv h' hk y sb => ?_
  obtain ⟨t, rfl⟩ := Value.isInt_shape hk
  exact k _ h' _ (.int _ _) (by rw [← hr.length]; exact y) sb.extBut
 fin := fun {A B σ s i R E} hh st le _ _ iv x e k => by
  obtain ⟨o, ho, kvs, ⟨es, ep', h1, h2, h3, h4, h5⟩, hr, es', he⟩ := st.mu a _ (iv.trans hσ)
  rw [he] at h2; cases h2
  rw [← hr.length] at x
  have hv : kvs[i]? = none := by
   rw [List.getElem?_eq_none_iff, hr.length]; have := List.getElem?_eq_none_iff.mp e; simpa using this
  exact wpAny_pyNext_dict_end (knd := intKind prog w) hh x ⟨o, es, ho, h1, he, h3, h4, h5⟩ hv fun h' eb => k h' _ eb
 own := fun t v x h => by
  obtain ⟨o', ho, r, _⟩ := x
  exact U0 ho r (by decide) h
theorem iter_src (c : Cx prog w h₀ sc ns n C A env own ρ B σ s) {v : Value} {x : D} {ds : List D} (hv : Rp prog w B v x) (hx : srcOf x σ = some ds) {R : Value → Shared → Prop}
  (k : ∀ (o : Obj) (S : Src prog w h₀ B (srcInv x σ) s.heap.objs.size ds), o.isFreed = false → S.it 0 (s.heap.push o) → R (.ref s.heap.objs.size) { s with heap := s.heap.push o }) : wpAny (model prog w) A (pyIter v) R E s := by
 cases hv with
 | @tup a o vs m ds' hb hc hd hr =>
  cases hx
  exact iter_tuple ⟨o, c.st.fz _ _ hb, hc, m, hd⟩ (k (itObj "tuple_iterator" a) (srcSeq hb (.inr hc) hd hr (Nat.ne_of_lt (c.st.lt hb))) rfl (.inr ⟨hc, _, Heap.get?_push_size _ rfl, rfl, rfl⟩))
 | @lst a o vs m ds' hb hc hd hr =>
  cases hx
  exact wpAny_pyIter_list ⟨o, c.st.fz _ _ hb, hc, m, hd⟩ (k (itObj "list_iterator" a) (srcSeq hb (.inl hc) hd hr (Nat.ne_of_lt (c.st.lt hb))) rfl (.inl ⟨hc, _, Heap.get?_push_size _ rfl, rfl, rfl⟩))
 | mlst a =>
  unfold srcOf at hx
  dsimp only at hx
  split at hx
  ·rename_i l hσ
   cases hx
   obtain ⟨o, ho, hmr⟩ := c.st.mu a _ hσ
   obtain ⟨hc, us, m, hd, hr⟩ := hmr.lst
   exact wpAny_pyIter_list ⟨o, ho, hc, m, hd⟩ (k (itObj "list_iterator" a) (srcList hσ) rfl ⟨_, Heap.get?_push_size _ rfl, rfl, rfl⟩)
  ·cases hx
 | @mdic a hns =>
  unfold srcOf at hx
  dsimp only at hx
  split at hx
  ·rename_i ep l hσ
   cases hx
   obtain ⟨o, ho, kvs, ⟨es, ep', h1, h2, h3, h4, h5⟩, hr, es', he⟩ := c.st.mu a _ hσ
   rw [he] at h2; cases h2
   refine wpAny_pyIter_dict (knd := intKind prog w) (ep := ep) (kvs := kvs) hns ⟨o, es, ho, h1, he, h3, h4, h5⟩ ?_
   rw [hr.length]
   exact k _ (srcDict hσ) rfl ⟨_, Heap.get?_push_size _ rfl, rfl, rfl⟩
  ·cases hx
 | _ => cases hx
theorem Zf6 {R : Result → Shared → Prop} {target it body orelse env} (I : Nat → Shared → Prop)
  (turn : ∀ n s, I n s → wpAny (model prog w) A (pyNext it) (fun r s₁ => match r with
   | none => wpAny (model prog w) A (execs orelse env) (fun f s₃ => R (.ok f) s₃) (notedBy (model prog w) A env fun e s' => R (.error e) s') s₁
   | some v => wpAny (model prog w) A (letOwnedTupleGo target it v) (fun _ s₁ => wpAny (model prog w) A (assign target env v) (fun _ s₂ => wpAny (model prog w) A (execs body env) (fun f s₃ => match f with
     | .next | .cont => ∃ m, m < n ∧ I m s₃
     | .brk => R (.ok .next) s₃
     | .ret v => R (.ok (.ret v)) s₃) (notedBy (model prog w) A env fun e s' => R (.error e) s') s₂) (notedBy (model prog w) A env fun e s' => R (.error e) s') s₁) (notedBy (model prog w) A env fun e s' => R (.error e) s') s₁) (notedBy (model prog w) A env fun e s' => R (.error e) s') s)
  (n : Nat) (h : I n s) : codeAny (model prog w) A (.forLoop target it body orelse env) R s := by
 refine codeAny_loop' rfl I (fun n s hI => ?_) n h
 show wpAny _ _ ((forTurn target it body orelse env).onRaise (fun x => do noteFrame x env; theTreesLotGoes x)) _ _ s
 refine wpAny_noted ?_
 simp only [forTurn]
 refine wpAny_bind (wpAny_standAt (wpAny_bind (wpAny_onRaise (wpAny_mono (turn n s hI) (fun r s₁ h₁ => ?_) fun _ _ h' => wpAny_standAt h'))))
 cases r with
 | none => exact wpAny_pure (.inr ⟨rfl, codeAny_block h₁⟩)
 | some v =>
  refine wpAny_bind (wpAny_mono h₁ (fun _ s₁ h₁ => ?_) fun _ _ h' => h')
  refine wpAny_bind (wpAny_mono h₁ (fun _ s₂ h₂ => wpAny_bind (wpAny_mono h₂ (fun f s₃ h₃ => ?_) fun _ _ h' => h')) fun _ _ h' => h')
  cases f with
  | next => exact wpAny_pure (.inl ⟨rfl, h₃⟩)
  | cont => exact wpAny_pure (.inl ⟨rfl, h₃⟩)
  | brk => exact wpAny_pure h₃
  | ret v => exact wpAny_pure h₃
theorem Zfk (c₀ : Cx prog w h₀ sc ns n C A env own ρ B σ s) {I : Addr} {o : Obj} (hI : I = s.heap.objs.size) (hf : o.isFreed = false) {ds : List D} {inv : Sto → Prop} (S : Src prog w h₀ B inv I ds) (h0 : S.it 0 (s.heap.push o)) {target : Expr} {body : List Stmt} {t : WA} {b : WS}
  (ht : SndA prog w h₀ sc ns target t) (hb : SndB prog w h₀ sc ns body b) {N : Loc → Sto → Prop} {R : D → Sto → Prop} {Kk : Loc → Sto → Prop} (h : sLoop t b inv C N R ds ρ σ) :
  codeAny (model prog w) A (.forLoop target (.ref I) body [] env) (fun r s' => match r with | .ok f => PostS prog w h₀ ns env own B σ s N R Kk f s' | .error e => cameBackBy (model prog w) A env E e s') { s with heap := s.heap.push o } := by
 subst hI
 have hn : s.heap.get? s.heap.objs.size = none := by
  cases e : s.heap.get? s.heap.objs.size with
  | none => rfl
  | some o => exact absurd (Heap.lt_size e) (Nat.lt_irrefl _)
 obtain ⟨g0, c0⟩ := c₀.new0 o
 refine Zf6 (fun m s' => ∃ i ρ' σ' B', i + m = ds.length ∧ sLoop t b inv C N R (ds.drop i) ρ' σ' ∧ Go prog w h₀ own B σ s B' σ' s' ∧ Cx prog w h₀ sc ns n C A env own ρ' B' σ' s' ∧ S.it i s'.heap ∧ σ' s.heap.objs.size = none ∧ B' s.heap.objs.size = none) ?_ ds.length
  ⟨0, ρ, σ, B, by lia, by simpa using h, g0, c0, h0, c₀.st.newS, c₀.st.newB⟩
 intro m s' hk
 refine byC fun nT => ?_
 obtain ⟨i, ρ', σ', B', hm, hl, g, c, hit, hS, hB⟩ := hk
 cases e : ds[i]? with
 | none =>
  refine nT ?_
  have hd : ds.drop i = [] := List.drop_eq_nil_iff.mpr (List.getElem?_eq_none_iff.mp e)
  rw [hd] at hl
  refine S.fin c.room.handled c.st g.ext.le hS hB hl.1 hit e fun h' tk eb => ?_
  obtain ⟨g1, c1⟩ := c₀.side tk hn g c hB hS eb
  exact wpAny_execs_nil (PostL.mk c1 g1 hl.2)
 | some d =>
  have hlt := (List.getElem?_eq_some_iff.mp e).1
  have hd : ds.drop i = d :: ds.drop (i + 1) := by
   rw [List.drop_eq_getElem_cons hlt]
   rw [(List.getElem?_eq_some_iff.mp e).2]
  rw [hd] at hl
  refine nT (S.next c.room.handled c.st g.ext.le hS hB hl.1 hit e fun v h' tk rv hit' eb => ?_)
  dsimp only
  refine S.own target v hit' ?_
  refine byC fun nT => ?_
  obtain ⟨g1, c1⟩ := c₀.side tk hn g c hB hS eb
  have nI : s.heap.objs.size ∉ own := fun hm => c₀.ne_own hn _ (.inl hm) rfl
  obtain ⟨oI, eI⟩ := S.ex hit'
  refine nT (ht.here c1 rv hl.2 fun s2 ρ2 σ2 B2 q2 g2 c2 => ?_)
  obtain ⟨hS2, hB2⟩ := g2.ext.grab _ oI eI hS hB
  have eI2 := g2.ext.keep _ oI eI hS nI
  have hit2 := S.keep (h' := s2.heap) hit' fun o' e' => by rw [eI] at e'; cases e'; exact eI2
  refine wpAny_mono (hb.go n C A env own ρ2 B2 σ2 s2 _ R _ _ c2 q2) (fun f s3 hf => ?_) fun _ _ x => x
  cases f with
  | next =>
   refine byC fun nT => ?_
   obtain ⟨ρ3, σ3, B3, q3, g3, f3⟩ := hf
   obtain ⟨hS3, hB3⟩ := g3.ext.grab _ oI eI2 hS2 hB2
   have eI3 := g3.ext.keep _ oI eI2 hS2 nI
   have hit3 := S.keep (h' := s3.heap) hit2 fun o' e' => by rw [eI2] at e'; cases e'; exact eI3
   exact nT ⟨m - 1, by lia, i + 1, ρ3, σ3, B3, by lia, q3, (g1.trans g2).trans g3, c2.toL g3 f3, hit3, hS3, hB3⟩
  | brk => exact PostL.after (g1.trans g2) hf
  | ret v => exact PostS.after (env := env) (ns := ns) (N := N) (Kk := N) (f := .ret v) (g1.trans g2) hf
  | cont => exact hf.elim
theorem Zc2 {target iter : Expr} {body : List Stmt} {pos : Pos} {a : WE} {t : WA} {b : WS} (ha : SndE prog w h₀ sc ns iter a) (ht : SndA prog w h₀ sc ns target t) (hb : SndB prog w h₀ sc ns body b) (hs : ∀ env x, foldedSetIterable iter env x = pure x) :
  SndS prog w h₀ sc ns (.For target iter body [] pos) (sFor a t b) := ⟨fun n C A env own ρ B σ s N R Kk E c h =>
 wpAny_For (hs := hs env) (ha.here c h fun v1 s1 d1 σ1 B1 q1 r1 g1 c1 => by
  split at q1
  ·rename_i ds hx
   refine iter_src c1 r1 hx fun o S hf h0 => ?_
   refine codeAny_mono (Zfk (E := E) (Kk := Kk) c1 rfl hf S h0 ht hb q1) fun r s' hr => ?_
   cases r with
   | ok f => exact PostS.after g1 hr
   | error e => exact hr
  ·exact q1.elim)⟩
noncomputable def rangeObj (k : Nat) (t u v : Tok) : Obj := { cls := .type "range", data := .fields #[.int 0 t, .int (Int.ofNat k) u, .int 1 v] }
noncomputable def srcRange {B1 : Fz} {k : Nat} {I : Addr} : Src prog w h₀ B1 (fun _ => True) I ((List.range k).map fun i => .int (Int.ofNat i)) where
 it := fun i h => i ≤ k ∧ IsRangeIter h I (Int.ofNat i) (Int.ofNat k - Int.ofNat i) 1
 ex := fun ⟨_, ho⟩ => ⟨_, ho⟩
 keep := fun ⟨a, ho⟩ kk => ⟨a, kk _ ho⟩
 next := fun {A B σ s i d R E} hh st le _ _ iv x e kk => by
  have hi : i < k := by have := (List.getElem?_eq_some_iff.mp e).1; simpa using this
  have hd : d = .int (Int.ofNat i) := by rw [List.getElem?_map, List.getElem?_range hi] at e; simpa using e.symm
  subst hd
  refine wpAny_pyNext_range_item x.2 (by have := x.1; simp only [Int.ofNat_eq_natCast]; lia) fun h' y sb => ?_
  refine kk _ h' _ (.int _ _) ⟨by lia, ?_⟩ sb.extBut
  have e1 : Int.ofNat (i + 1) = Int.ofNat i + 1 := rfl
  have e2 : Int.ofNat k - Int.ofNat (i + 1) = Int.ofNat k - Int.ofNat i - 1 := by rw [e1]; lia
  rw [e2, e1]; exact y
 fin := fun {A B σ s i R E} hh st le _ _ iv x e kk => by
  have hi : k ≤ i := by have := List.getElem?_eq_none_iff.mp e; simpa using this
  exact wpAny_pyNext_range_end hh x.2 (by simp only [Int.ofNat_eq_natCast]; lia) fun h' eb => kk h' _ eb
 own := fun t v x h => U0 x.2 rfl (by decide) h
theorem Zhj (G : Gd K h₀) {target : Expr} {body : List Stmt} {k : Nat} {p rpos pos kp : Pos} {kk : Nat} {t : WA} {b : WS} (ht : SndA prog w h₀ sc ns target t) (hb : SndB prog w h₀ sc ns body b) (hk : k ≤ 1000000)
  (e1 : nsIn K mainGlobals ("range" : Str) = some none) (hx : (sc.names.lookup ("range" : Str)) = some .globalImplicit) (hs : ∀ env x, foldedSetIterable (.Call (.Name "range" p) [.Constant (.int (Int.ofNat k)) kk kp] [] rpos) env x = pure x) :
  SndS prog w h₀ sc ns (.For target (.Call (.Name "range" p) [.Constant (.int (Int.ofNat k)) kk kp] [] rpos) body [] pos) (sRange k t b) := ⟨fun n C A env own ρ B σ s N R Kk E c h => by
 refine wpAny_For (hs := hs env) ?_
 rw [Vn]
 refine wpAny_bind (Uf G (x := "range") (v := .type "range") c e1 rfl (by decide) hx (by decide) ?_)
 refine Vg (SndL.cons (a := wI (Int.ofNat k)) rfl Zf .nil) c (P := fun _ => True) (Zdc "range") (Q := fun ds σ' => ds = [.int (Int.ofNat k)] ∧ σ' = σ) ⟨rfl, rfl⟩ fun vs s1 ds σ1 B1 q r l g1 c1 => ⟨trivial, ?_⟩
 obtain ⟨rfl, rfl⟩ := q
 cases r with | cons r1 r2 =>
 cases r2; cases r1
 refine call_range_1 ?_
 obtain ⟨g2, c2⟩ := c1.new0 { cls := .type "range", data := .fields #[.int 0 s1.toks, .int (Int.ofNat k) _, .int 1 (s1.toks + 1)] }
 have c3 := c2.toks (s1.toks + 1 + 1)
 have g3 := g2.trans (Go.toks (own := own) c2.st (s1.toks + 1 + 1))
 have hsz : Builtin.Range.rangeSize 0 (Int.ofNat k) 1 = Int.ofNat k := by
  rw [rangeSize_one]
  split
  ·lia
  ·rename_i hh; simp only [Int.ofNat_eq_natCast] at *; lia
 refine wpAny_pyIter_range (IsRange.new _ _ _ _ _ _ _) ?_ ?_
 ·unfold Builtin.Range.small
  rw [hsz]
  have e : ∀ j : Int, 0 ≤ j → j ≤ 1000000 → Builtin.Range.rangeFitsLong j = true := fun j h0 h1 => by
   unfold Builtin.Range.rangeFitsLong
   simp only [Bool.and_eq_true, decide_eq_true_eq]
   lia
  have k0 : (0 : Int) ≤ Int.ofNat k := Int.natCast_nonneg k
  have k1 : Int.ofNat k ≤ 1000000 := by simp only [Int.ofNat_eq_natCast]; lia
  rw [e 0 (by decide) (by decide), e _ k0 k1, e 1 (by decide) (by decide)]
  have : Int.ofNat k + (1 - 1) = Int.ofNat k := by lia
  simp
  right
  exact e _ k0 k1
 ·rw [hsz]
  have h' : sLoop t b (fun _ => True) C N R ((List.range k).map fun i => .int (Int.ofNat i)) ρ _ := h
  refine codeAny_mono (Zfk (E := E) (Kk := Kk) c3 rfl rfl srcRange ⟨Nat.zero_le _, ?_⟩ ht hb h') fun r s' hr => ?_
  ·have e : Int.ofNat k - Int.ofNat 0 = Int.ofNat k := by simp
   rw [e]; exact Heap.get?_push_size _ rfl
  ·cases r with
   | ok f => exact PostS.after (g1.trans g3) hr
   | error e => exact hr⟩
end
noncomputable def relabelS (scope sc : Scope) : Scope :=
 { scope with names := scope.names.map fun (n, k) => if (k == .free && sc.kind == .function && sc.names.lookup n == some .cell) then (n, .cell) else (n, k) }
noncomputable def cEach (t : WT) (e : WE) (C : Ora) (fs : Loc) (inv : Sto → Prop) (Q : List D → Sto → Prop) : List D → List D → Sto → Prop
 | [], acc, σ => inv σ ∧ Q acc σ
 | d :: ds, acc, σ => inv σ ∧ t C (some d :: fs) σ fun b σ1 => if b then e C (some d :: fs) σ1 fun y σ2 => cEach t e C fs inv Q ds (acc ++ [y]) σ2 else cEach t e C fs inv Q ds acc σ1
noncomputable def known (ρ : Loc) (fr : List Nat) : Prop := ∀ i ∈ fr, nth ρ i ≠ none
noncomputable def wComp (a : WE) (fr : List Nat) (t : WT) (e : WE) : WE := fun C ρ σ Q => known ρ fr ∧ a C ρ σ fun x σ1 => match itemsD x with
 | some ds => ds.length ≤ 1000 ∧ cEach t e C (fr.map (nth ρ)) (fun _ => True) (fun acc σ2 => Q (.lst acc) σ2) ds [] σ1
 | none => False
noncomputable def sComp (a : WE) (fr : List Nat) (t : WT) (e : WE) (i : Nat) : WS := fun C ρ σ N _ _ => known ρ fr ∧ a C ρ σ fun x σ1 => match itemsD x with
 | some ds => ds.length ≤ 1000 ∧ cEach t e C (fr.map (nth ρ)) (fun _ => True) (fun acc σ2 => N (put ρ i (.lst acc)) σ2) ds [] σ1
 | none => False
section
variable {prog : Program} {w : World} {h₀ : Heap} {K : Frag} {sc : Scope} {ns : List Str} {n : Nat} {C : Ora} {A : Around} {env : Env} {own : List Addr} {ρ ρ' : Loc} {B B' B1 : Fz} {σ σ' σ1 : Sto} {s s' s1 : Shared} {E : Value → Shared → Prop}
structure CompR (sc scope : Scope) (ns : List Str) (x : Str) (ys : List Str) (fr : List Nat) : Prop where
 kind : scope.kind = .function
 cell : ∀ y ∈ scope.names, y.2 ≠ .cell
 loc : ∀ y ∈ scope.names, y.2 = .local → scope.names.lookup y.1 = some .local
 hx : scope.names.lookup x = some .local
 dot : scope.names.lookup (".0" : Str) = some .local
 hfr : ys.map some = fr.map (fun i => ns[i]?)
 free : ∀ p ∈ scope.names, p.2 = .free → p.1 ∈ ys
 hys : ∀ y ∈ ys, scope.names.lookup y = some .free ∧ sc.names.lookup y = some .cell
 nd : (x :: ys).Nodup
 dbg : ∀ z ∈ x :: ys, (z == ("__debug__" : Str)) = false
theorem Zdq {scope : Scope} (h : env.scope = sc) : relabel scope env = relabelS scope sc := by
 unfold relabel relabelS Env.kindOf; rw [h]
theorem J4 {sc : Scope} : ∀ {names : List (Str × NameKind)} {x : Str}, names.lookup x = some .local →
  (names.map fun (n, k) => if (k == NameKind.free && sc.kind == .function && sc.names.lookup n == some .cell) then (n, NameKind.cell) else (n, k)).lookup x = some .local
 | [], _, h => by simp at h
 | (n, k) :: r, x, h => by
  have ih := @J4 sc r x
  simp only [List.map_cons]
  cases hx : x == n with
  | true =>
   simp only [List.lookup_cons, hx] at h
   cases h
   simp [List.lookup_cons, hx]
  | false =>
   simp only [List.lookup_cons, hx] at h
   split <;> (simp only [List.lookup_cons, hx]; exact ih h)
theorem Up {sc : Scope} (hs : sc.kind = .function) : ∀ {names : List (Str × NameKind)} {x : Str}, names.lookup x = some .free → sc.names.lookup x = some .cell →
  (names.map fun (n, k) => if (k == NameKind.free && sc.kind == .function && sc.names.lookup n == some .cell) then (n, NameKind.cell) else (n, k)).lookup x = some .cell
 | [], _, h, _ => by simp at h
 | (n, k) :: r, x, h, hc => by
  have ih := @Up sc hs r x
  simp only [List.map_cons]
  cases hx : x == n with
  | true =>
   have e : x = n := beq_iff_eq.mp hx
   simp only [List.lookup_cons, hx] at h
   cases h
   subst e
   rw [hc, hs]
   simp
  | false =>
   simp only [List.lookup_cons, hx] at h
   split <;> (simp only [List.lookup_cons, hx]; exact ih h hc)
theorem Za7 (env : Env) : ∀ (names : List (Str × NameKind)) (cs : List (Str × Addr)), (∀ p ∈ names, p.2 = .free → ∃ c, env.cells.lookup p.1 = some c) →
  ∃ cl, (forIn names cs fun (x : Str × NameKind) (cs : List (Str × Addr)) => (match x with | (name, kind) => if kind == .free then do let c ← cellOf env name; pure (ForInStep.yield ((name, c) :: cs)) else pure (ForInStep.yield cs) : Sem (ForInStep (List (Str × Addr))))) = pure cl ∧
   (∀ y c, cl.lookup y = some c → env.cells.lookup y = some c ∨ cs.lookup y = some c) ∧ (∀ p ∈ names, p.2 = .free → ∃ c, cl.lookup p.1 = some c) ∧ (∀ y c, cs.lookup y = some c → ∃ c', cl.lookup y = some c')
 | [], cs, _ => ⟨cs, by simp, fun _ _ e => .inr e, fun _ hp => by simp at hp, fun _ c e => ⟨c, e⟩⟩
 | (nm, k) :: r, cs, h => by
  by_cases hk : k = .free
  ·obtain ⟨c, hc⟩ := h (nm, k) (by simp) hk
   obtain ⟨cl, e, h1, h2, h3⟩ := Za7 env r ((nm, c) :: cs) fun p hp => h p (by simp [hp])
   have hcell : cellOf env nm = pure c := by unfold cellOf; rw [hc]
   refine ⟨cl, ?_, fun y c' hy => ?_, fun p hp hf => ?_, fun y c' hy => ?_⟩
   ·rw [List.forIn_cons]; subst hk; simp only [beq_self_eq_true, if_true, hcell, pure_bind]; exact e
   ·rcases h1 y c' hy with q | q
    ·exact .inl q
    ·rw [List.lookup_cons] at q
     split at q
     ·rename_i hb
      have : y = nm := beq_iff_eq.mp hb
      subst this; cases q; exact .inl hc
     ·exact .inr q
   ·rcases List.mem_cons.mp hp with rfl | hp
    ·exact h3 nm c (by simp [List.lookup_cons])
    ·exact h2 p hp hf
   ·by_cases hb : y = nm
    ·exact h3 y c (by subst hb; simp [List.lookup_cons])
    ·exact h3 y c' (by rw [List.lookup_cons]; have : (y == nm) = false := beq_eq_false_iff_ne.mpr hb; rw [this]; exact hy)
  ·obtain ⟨cl, e, h1, h2, h3⟩ := Za7 env r cs fun p hp => h p (by simp [hp])
   have hkb : (k == NameKind.free) = false := beq_eq_false_iff_ne.mpr hk
   refine ⟨cl, ?_, h1, fun p hp hf => ?_, h3⟩
   ·rw [List.forIn_cons]; simp only [hkb, Bool.false_eq_true, if_false, pure_bind]; exact e
   ·rcases List.mem_cons.mp hp with rfl | hp
    ·exact absurd hf hk
    ·exact h2 p hp hf
theorem free_at (c : Cx prog w h₀ sc ns n C A env own ρ B σ s) {scope : Scope} {x : Str} {ys : List Str} {fr : List Nat} (F : CompR sc scope ns x ys fr) (hk : known ρ fr) {i : Nat} {y : Str} (hy : ys[i]? = some y) :
  ∃ d v a, (fr.map (nth ρ))[i]? = some (some d) ∧ Rp prog w B v d ∧ env.cells.lookup y = some a ∧ s.heap.IsCell a (some v) := by
 have e1 := congrArg (fun l => l[i]?) F.hfr
 simp only [List.getElem?_map, hy, Option.map_some] at e1
 cases hf : fr[i]? with
 | none => rw [hf] at e1; cases e1
 | some j =>
  rw [hf] at e1
  simp only [Option.map_some, Option.some.injEq] at e1
  cases hd : nth ρ j with
  | none => exact absurd hd (hk j (List.mem_of_getElem? hf))
  | some d =>
   obtain ⟨m, hm, hv⟩ := c.fm.vals
   obtain ⟨z, v, h1, h2, h3⟩ := hv j d hd
   rw [← e1] at h1; cases h1
   have hkind : env.kindOf y = some .cell := by unfold Env.kindOf; rw [c.scope]; exact (F.hys y (List.mem_of_getElem? hy)).2
   refine ⟨d, v, ?_⟩
   rcases h3 with ⟨q, _⟩ | ⟨a, q, h4, h5⟩
   ·rw [hkind] at q; cases q
   ·exact ⟨a, by rw [List.getElem?_map, hf]; simp [hd], h2, h4, h5⟩
theorem Zdr (c : Cx prog w h₀ sc ns n C A env own ρ B σ s) {scope : Scope} {x : Str} {ys : List Str} {fr : List Nat} (F : CompR sc scope ns x ys fr) (hk : known ρ fr) :
  ∃ cl, closureFor scope env = pure cl ∧ (∀ y c, cl.lookup y = some c → env.cells.lookup y = some c) ∧ ∀ y ∈ ys, ∃ c, cl.lookup y = some c := by
 have pre : ∀ p ∈ scope.names, p.2 = .free → ∃ c, env.cells.lookup p.1 = some c := fun p hp hf => by
  obtain ⟨i, hi⟩ := List.getElem?_of_mem (F.free p hp hf)
  obtain ⟨_, _, a, _, _, h, _⟩ := free_at c F hk hi
  exact ⟨a, h⟩
 obtain ⟨cl, e, h1, h2, h3⟩ := Za7 env scope.names [] pre
 refine ⟨cl, ?_, fun y a hy => (h1 y a hy).elim id (fun q => by cases q), fun y hy => ?_⟩
 ·have e' : closureFor scope env = (forIn scope.names [] fun (x : Str × NameKind) (cs : List (Str × Addr)) => (match x with | (name, kind) => if kind == .free then do let c ← cellOf env name; pure (ForInStep.yield ((name, c) :: cs)) else pure (ForInStep.yield cs) : Sem (ForInStep (List (Str × Addr))))) >>= pure := rfl
  rw [e', e]; rfl
 ·have hl := (F.hys y hy).1
  have : (y, NameKind.free) ∈ scope.names := by
   clear e h1 h2 h3 pre
   revert hl
   generalize scope.names = l
   intro hl
   induction l with
   | nil => cases hl
   | cons p l ih =>
    obtain ⟨a, b⟩ := p
    rw [List.lookup_cons] at hl
    split at hl
    ·rename_i hb; cases hl; rw [beq_iff_eq.mp hb]; simp
    ·exact List.mem_cons_of_mem _ (ih hl)
  exact h2 _ this rfl
theorem inner_fm (c : Cx prog w h₀ sc ns n C A env own ρ B σ s) {scope : Scope} {x : Str} {ys : List Str} {fr : List Nat} (F : CompR sc scope ns x ys fr) (hk : known ρ fr) {cl : List (Str × Addr)}
  (h1 : ∀ y a, cl.lookup y = some a → env.cells.lookup y = some a) (h2 : ∀ y ∈ ys, ∃ a, cl.lookup y = some a) {L : Addr} {m : Str → Option Value} {v : Value} {d : D} (hn : s.heap.Ns L m) (hm : m x = some v) (rv : Rp prog w B v d)
  (hB : B L = none) (hσ : σ L = none) (hL : ∀ y a, env.cells.lookup y = some a → a ≠ L) :
  Fm prog w h₀ (compEnvC scope cl L env) (x :: ys) [L] (some d :: fr.map (nth ρ)) B σ s.heap := by
 have hk' : ∀ y, scope.names.lookup y = some .local → (compEnvC scope cl L env).kindOf y = some .local := fun y hy => lookup_relabel_local (env := env) hy
 refine ⟨F.kind, c.fm.gl, c.fm.bi, by show L ∈ [L]; simp, ⟨m, hn, fun i e he => ?_⟩, fun y hy => .inr (.inr (.inr ?_)), fun y z a p q => c.fm.sep y z a (h1 _ _ p) (h1 _ _ q), fun y q => hL y _ (h1 y _ q) rfl, F.nd, fun a q => ?_, ?_, rfl, F.dbg⟩
 ·cases i with
  | zero => cases he; exact ⟨x, v, rfl, rv, .inl ⟨hk' x F.hx, hm⟩⟩
  | succ i =>
   have he' : nth (fr.map (nth ρ)) i = some e := he
   have hi : i < ys.length := by
    have := nth_lt he'
    have e2 := congrArg List.length F.hfr
    simp at e2 this; lia
   obtain ⟨d', u, a, e1, e2, e3, e4⟩ := free_at c F hk (List.getElem?_eq_getElem hi)
   have : d' = e := by
    clear e2 he
    generalize fr.map (nth ρ) = l at e1 he'
    clear hi e3 e4
    induction l generalizing i with
    | nil => cases e1
    | cons z l ih =>
     cases i with
     | zero => simp at e1; subst e1; cases he'; rfl
     | succ i => exact ih _ (by simpa using e1) he'
   subst this
   obtain ⟨a', ha'⟩ := h2 _ (List.getElem_mem hi)
   have : a' = a := by have := h1 _ _ ha'; rw [e3] at this; cases this; rfl
   subst this
   refine ⟨ys[i], u, by simp [hi], e2, .inr ⟨a', .inl ?_, ha', e4⟩⟩
   show (relabel scope env).names.lookup _ = _
   rw [Zdq c.scope]
   have := (F.hys _ (List.getElem_mem hi))
   exact Up (by rw [← c.scope]; exact c.fm.kind) this.1 this.2
 ·rw [hk' _ F.dot]; rfl
 ·rcases q with q | ⟨y, q⟩
  ·have : a = L := by simpa using q
   subst this
   obtain ⟨o, _, _, ho, _⟩ := hn
   exact ⟨hσ, hB, o, ho⟩
  ·exact c.fm.out a (.inr ⟨y, h1 y a q⟩)
 ·have := congrArg List.length F.hfr; simp at this; simp [this]
inductive SndF (prog : Program) (w : World) (h₀ : Heap) (sc : Scope) (ns : List Str) : List Expr → WT → Prop where
 | nil : SndF prog w h₀ sc ns [] (tEnd true)
 | one {c t} : SndT prog w h₀ sc ns c t → SndF prog w h₀ sc ns [c] t
theorem SndF.here {ifs : List Expr} {t : WT} (h : SndF prog w h₀ sc ns ifs t) (c : Cx prog w h₀ sc ns n C A env own ρ B σ s) {Q : Bool → Sto → Prop} {R : Bool → Shared → Prop} (hq : t C ρ σ Q)
  (k : ∀ b s' σ' B', Q b σ' → Go prog w h₀ own B σ s B' σ' s' → Cx prog w h₀ sc ns n C A env own ρ B' σ' s' → R b s') :
  wpAny (model prog w) A (forIn ifs true fun c r => if r = true then do let ok ← isTrue c env (eval c env); pure (ForInStep.yield ok) else pure (ForInStep.yield r)) R E s := by
 cases h with
 | nil => exact wpAny_tests_nil (k _ _ _ _ hq c.refl c)
 | one h => exact wpAny_tests_one (h.here c hq k)
theorem Zfr (c₀ : Cx prog w h₀ sc ns n C A env own ρ B σ s) {scope : Scope} {x : Str} {px : Pos} {ys : List Str} {fr : List Nat} (F : CompR sc scope ns x ys fr) (hk : known ρ fr) {cl : List (Str × Addr)}
  (h1 : ∀ y a, cl.lookup y = some a → env.cells.lookup y = some a) (h2 : ∀ y ∈ ys, ∃ a, cl.lookup y = some a) {elt iter : Expr} {ifs : List Expr} {pos : Pos} {t : WT} {e : WE}
  (helt : SndE prog w h₀ (relabelS scope sc) (x :: ys) elt e) (hts : SndF prog w h₀ (relabelS scope sc) (x :: ys) ifs t)
  {o : Obj} (hf : o.isFreed = false) {ds : List D} (S : Src prog w h₀ B (fun _ => True) s.heap.objs.size ds) (h0 : S.it 0 (s.heap.push o))
  (self : ∀ {A : Around} {s' : Shared} {R : Value → Shared → Prop} {E}, S.it 0 s'.heap → R (.ref s.heap.objs.size) s' → wpAny (model prog w) A (pyIter (.ref s.heap.objs.size)) R E s')
  (hlen : ds.length ≤ 1000) {Q : List D → Sto → Prop} (h : cEach t e C (fr.map (nth ρ)) (fun _ => True) Q ds [] σ) {RR : Value → Addr → Result → Shared → Prop}
  (hRR : ∀ D L acc σ' B' s' m, Q acc σ' → s.heap.get? D = none → s.heap.get? L = none → D ≠ L → Go prog w h₀ own B σ s B' σ' s' → Cx prog w h₀ sc ns n C A env own ρ B' σ' s' → B' D = none → σ' D = none → B' L = none → σ' L = none →
   (∃ items k, s'.heap.get? D = some { cls := .type "list", data := .seq items k } ∧ Rps prog w B' items.toList acc) → s'.heap.Ns L m → RR (.ref D) L (.ok .next) s') :
  wpAny (model prog w) A (newList []) (fun acc s₃ => wpAny (model prog w) A (newFunctionEnv scope env.globals cl [] env.qual none .none (some env)) (fun cenv s₄ =>
   codeAny (model prog w) A (.compStart (.ListComp elt [⟨.Name x px, iter, ifs, 0⟩] scope pos) 0 (.ref s.heap.objs.size) acc { cenv with scope := relabel scope env }) (RR acc cenv.locals) s₄) E s₃) E { s with heap := s.heap.push o } := by
 have fresh : ∀ a, s.heap.objs.size ≤ a → s.heap.get? a = none := fun a ha => by
  cases e : s.heap.get? a with
  | none => rfl
  | some o' => exact absurd (Heap.lt_size e) (Nat.not_lt.mpr ha)
 obtain ⟨g1, c1⟩ := c₀.new0 o
 obtain ⟨g2, c2⟩ := c1.new0 { cls := .type "list", data := .seq #[] }
 refine wpAny_newObj_type (wpAny_newFunctionEnv F.cell (by intro y hy; simp at hy) (fun h₁ hns₁ hsb₁ => ?_) F.kind)
 dsimp only at hns₁ hsb₁ ⊢
 obtain ⟨g3, c3⟩ := c2.new0 { cls := .type "dict", data := .dict #[] }
 have e1 : (s.heap.push o).objs.size = s.heap.objs.size + 1 := Heap.size_push ..
 have e2 : ((s.heap.push o).push { cls := .type "list", data := .seq #[] }).objs.size = s.heap.objs.size + 2 := by rw [Heap.size_push, e1]
 have hI : (s.heap.push o).get? s.heap.objs.size = some o := Heap.get?_push_size _ hf
 have hL : s.heap.get? ((s.heap.push o).push { cls := .type "list", data := .seq #[] }).objs.size = none := fresh _ (by rw [e2]; lia)
 have hD : s.heap.get? (s.heap.push o).objs.size = none := fresh _ (by rw [e1]; lia)
 have gg := (g1.trans g2).trans g3
 have bL : B ((s.heap.push o).push { cls := .type "list", data := .seq #[] }).objs.size = none := c2.st.newB
 have sL : σ ((s.heap.push o).push { cls := .type "list", data := .seq #[] }).objs.size = none := c2.st.newS
 have bD : B (s.heap.push o).objs.size = none := c1.st.newB
 have sD : σ (s.heap.push o).objs.size = none := c1.st.newS
 have hDL : (s.heap.push o).objs.size ≠ ((s.heap.push o).push { cls := .type "list", data := .seq #[] }).objs.size := by rw [e1, e2]; lia
 have hIL : s.heap.objs.size ≠ ((s.heap.push o).push { cls := .type "list", data := .seq #[] }).objs.size := by rw [e2]; lia
 have hID : s.heap.objs.size ≠ (s.heap.push o).objs.size := by rw [e1]; lia
 have hgD : h₁.get? (s.heap.push o).objs.size = some { cls := .type "list", data := .seq #[] } :=
  hsb₁.extBut _ _ hDL (Heap.get?_push_of_some _ (Heap.get?_push_size _ rfl))
 have hgI : h₁.get? s.heap.objs.size = some o := hsb₁.extBut _ _ hIL (Heap.get?_push_of_some _ (Heap.get?_push_of_some _ hI))
 have hcells : ∀ y a, env.cells.lookup y = some a → a ≠ ((s.heap.push o).push { cls := .type "list", data := .seq #[] }).objs.size := fun y a hy => c₀.ne_own hL a (.inr ⟨y, hy⟩)
 generalize hl : ((s.heap.push o).push { cls := .type "list", data := .seq #[] }).objs.size = L at *
 generalize hd : (s.heap.push o).objs.size = D at *
 obtain ⟨g4, c4⟩ := c₀.side (I := L) (h' := h₁) (s.toks + ([] : List (Str × Value)).length) hL gg c3 bL sL hsb₁.extBut
 have it0 : S.it 0 h₁ := S.keep h0 fun o' ho' => by rw [hI] at ho'; cases ho'; exact hgI
 have henv : ({ newEnv scope L env.globals cl env.qual none .none (some env) builtinsNs with scope := relabel scope env } : Env) = compEnvC scope cl L env := rfl
 have nO : ∀ a, s.heap.get? a = none → a ∉ own := fun a ha hm => c₀.ne_own ha a (.inl hm) rfl
 have loop : codeAny (model prog w) A (.compLoop (.ListComp elt [⟨.Name x px, iter, ifs, 0⟩] scope pos) 0 (.ref s.heap.objs.size) (.ref D) (compEnvC scope cl L env)) (RR (.ref D) L) { s with heap := h₁, toks := s.toks + ([] : List (Str × Value)).length } := by
  refine codeAny_compLoop_tests (fun k s' => ∃ i acc σ' B' m items z, i + k = ds.length ∧ cEach t e C (fr.map (nth ρ)) (fun _ => True) Q (ds.drop i) acc σ' ∧ Go prog w h₀ own B σ s B' σ' s' ∧ Cx prog w h₀ sc ns n C A env own ρ B' σ' s' ∧ S.it i s'.heap ∧
   (B' s.heap.objs.size = none ∧ σ' s.heap.objs.size = none) ∧ (B' D = none ∧ σ' D = none) ∧ (B' L = none ∧ σ' L = none) ∧ s'.heap.Ns L m ∧ (s'.heap.get? D = some { cls := .type "list", data := .seq items z } ∧ Rps prog w B' items.toList acc) ∧ acc.length ≤ i) ?_ ds.length
   ⟨0, [], σ, B, _, #[], 0, by lia, by simpa using h, g4, c4, it0, ⟨c₀.st.newB, c₀.st.newS⟩, ⟨bD, sD⟩, ⟨bL, sL⟩, hns₁, ⟨hgD, .nil⟩, Nat.le_refl _⟩
  intro k s' hk
  refine byC fun nT => ?_
  obtain ⟨i, acc, σ', B', m, items, z, hm, hq, g, c, hit, ⟨bI, sI⟩, ⟨bD', sD'⟩, ⟨bL', sL'⟩, hn, ⟨hgd, hrs⟩, hai⟩ := hk
  cases he : ds[i]? with
  | none =>
   refine nT ?_
   have hdr : ds.drop i = [] := List.drop_eq_nil_iff.mpr (List.getElem?_eq_none_iff.mp he)
   rw [hdr] at hq
   refine S.fin c.room.handled c.st g.ext.le sI bI trivial hit he fun h' tk eb => ?_
   obtain ⟨g5, c5⟩ := c₀.side tk (fresh _ (Nat.le_refl _)) g c bI sI eb
   exact hRR D L acc σ' B' _ m hq.2 hD hL hDL g5 c5 bD' sD' bL' sL' ⟨items, z, eb _ _ (Ne.symm hID) hgd, hrs⟩ (hn.extBut eb (Ne.symm hIL))
  | some d =>
   have hlt := (List.getElem?_eq_some_iff.mp he).1
   have hdr : ds.drop i = d :: ds.drop (i + 1) := by
    rw [List.drop_eq_getElem_cons hlt, (List.getElem?_eq_some_iff.mp he).2]
   rw [hdr] at hq
   refine nT (S.next c.room.handled c.st g.ext.le sI bI trivial hit he fun v h' tk rv hit' eb => ?_)
   dsimp only
   refine byC fun nT => ?_
   obtain ⟨g5, c5⟩ := c₀.side tk (fresh _ (Nat.le_refl _)) g c bI sI eb
   have hn5 : h'.Ns L m := hn.extBut eb (Ne.symm hIL)
   have hgd5 := eb _ _ (Ne.symm hID) hgd
   obtain ⟨oI, eI⟩ := S.ex hit'
   refine nT (wpAny_assign_Name (wpAny_storeName_local (env := compEnvC scope cl L env) (lookup_relabel_local (env := env) F.hx) hn5 (fun h6 hn6 hs6 => ?_) (by show ((scope.kind == .class) || ((scope.kind == .module) && _)) = false; rw [F.kind]; rfl)))
   refine byC fun nT => ?_
   obtain ⟨g6, c6⟩ := c₀.side (tk + 1) hL g5 c5 bL' sL' hs6.extBut
   have it6 : S.it (i + 1) h6 := S.keep hit' fun o' ho' => hs6.extBut _ _ hIL ho'
   have eI6 := hs6.extBut _ _ hIL eI
   have hgd6 := hs6.extBut _ _ hDL hgd5
   have Fi := inner_fm c6 F hk h1 h2 hn6 (by simp) rv bL' sL' hcells
   have ci : Cx prog w h₀ (relabelS scope sc) (x :: ys) n C A (compEnvC scope cl L env) [L] (some d :: fr.map (nth ρ)) B' σ' { s' with heap := h6, toks := tk + 1 } := ⟨Zdq c6.scope, c6.ora, c6.room, c6.st, Fi⟩
   have outer : ∀ {B7 σ7 s7}, Go prog w h₀ [L] B' σ' { s' with heap := h6, toks := tk + 1 } B7 σ7 s7 → Fm prog w h₀ (compEnvC scope cl L env) (x :: ys) [L] (some d :: fr.map (nth ρ)) B7 σ7 s7.heap →
     Go prog w h₀ own B σ s B7 σ7 s7 ∧ Cx prog w h₀ sc ns n C A env own ρ B7 σ7 s7 ∧ S.it (i + 1) s7.heap ∧ (B7 s.heap.objs.size = none ∧ σ7 s.heap.objs.size = none) ∧ (B7 D = none ∧ σ7 D = none) ∧ (B7 L = none ∧ σ7 L = none) ∧ (∃ m7, s7.heap.Ns L m7) ∧
     s7.heap.get? D = some { cls := .type "list", data := .seq items z } := by
    intro B7 σ7 s7 g7 f7
    refine byC fun nT => ?_
    have kI := g7.ext.keep _ _ eI6 sI (by simpa using hIL)
    have kD := g7.ext.keep _ _ hgd6 sD' (by simpa using hDL)
    obtain ⟨aI, bI7⟩ := g7.ext.grab _ _ eI6 sI bI
    obtain ⟨aD, bD7⟩ := g7.ext.grab _ _ hgd6 sD' bD'
    obtain ⟨aL, bL7, _⟩ := f7.out L (.inl (by simp))
    have go : Go prog w h₀ own B σ s B7 σ7 s7 := by
     have p := (g6.to (own' := L :: own) fun a ha => .inl (List.mem_cons_of_mem _ ha)).trans (g7.to (own' := L :: own) fun a ha => .inl (List.mem_cons.mpr (.inl (List.mem_singleton.mp ha))))
     exact p.to fun a ha => by
      rcases List.mem_cons.mp ha with rfl | ha
      ·exact .inr hL
      ·exact .inl ha
    obtain ⟨m7, hm7, _⟩ := f7.vals
    refine nT ⟨go, ⟨c6.scope, c6.ora, c6.room, g7.st, c6.fm.move g7.ext.le (fun a ha o' ho' => g7.ext.keep a o' ho' (c6.fm.out a ha).1 (by simpa using c₀.ne_own hL a ha)) fun a _ => g7.ext.grab a⟩, S.keep it6 fun o' ho' => by rw [eI6] at ho'; cases ho'; exact kI, ⟨bI7, aI⟩, ⟨bD7, aD⟩, ⟨bL7, aL⟩, ⟨m7, hm7⟩, kD⟩
   refine nT (hts.here ci hq.2 fun b s7 σ7 B7 q7 g7 ci7 => ?_)
   refine byC fun nT => ?_
   obtain ⟨g8, c8, it8, n8, d8, l8, ⟨m8, hn8⟩, hg8⟩ := outer g7 ci7.fm
   cases b with
   | false =>
    exact nT ⟨k - 1, by lia, i + 1, acc, σ7, B7, m8, items, z, by lia, q7, g8, c8, it8, n8, d8, l8, hn8, ⟨hg8, hrs.mono g7.ext.le⟩, by lia⟩
   | true =>
    refine nT (helt.here ci7 q7 fun v9 s9 d9 σ9 B9 q9 r9 g9 ci9 => ?_)
    refine byC fun nT => ?_
    obtain ⟨g10, c10, it10, n10, d10, l10, ⟨m10, hn10⟩, hg10⟩ := outer (g7.trans g9) ci9.fm
    have hsz : items.size ≤ sizeLine := by
     have := hrs.length
     rw [Array.length_toList] at this
     rw [this, sizeLine_eq]; lia
    refine nT (wpAny_list_append_plain (hsz := hsz) ⟨z, hg10⟩ fun h' hp sb => ?_)
    refine byC fun nT => ?_
    obtain ⟨z', hp'⟩ := hp
    obtain ⟨g11, c11⟩ := c₀.side s9.toks hD g10 c10 d10.1 d10.2 sb.extBut
    refine nT ⟨k - 1, by lia, i + 1, acc ++ [d9], σ9, B9, m10, items.push v9, z', by lia, q9, g11, c11, S.keep it10 (fun o' ho' => sb.extBut _ _ hID ho'), n10, d10, l10, hn10.sameBut sb (Ne.symm hDL), ⟨hp', ?_⟩, by rw [List.length_append]; exact Nat.succ_le_succ hai⟩
    rw [Array.toList_push]
    exact (hrs.mono (g7.trans g9).ext.le).append (.cons r9 .nil)
 exact codeAny_compStart_list loop (self it0 loop)
theorem iter_frz (c : Cx prog w h₀ sc ns n C A env own ρ B σ s) {v : Value} {x : D} {ds : List D} (hv : Rp prog w B v x) (hx : itemsD x = some ds) {R : Value → Shared → Prop}
  (k : ∀ (o : Obj) (S : Src prog w h₀ B (fun _ => True) s.heap.objs.size ds), o.isFreed = false → S.it 0 (s.heap.push o) →
   (∀ {A : Around} {s' : Shared} {R : Value → Shared → Prop} {E}, S.it 0 s'.heap → R (.ref s.heap.objs.size) s' → wpAny (model prog w) A (pyIter (.ref s.heap.objs.size)) R E s') → R (.ref s.heap.objs.size) { s with heap := s.heap.push o }) : wpAny (model prog w) A (pyIter v) R E s := by
 cases hv with
 | @tup a o vs m ds' hb hc hd hr =>
  cases hx
  refine iter_tuple ⟨o, c.st.fz _ _ hb, hc, m, hd⟩ (k (itObj "tuple_iterator" a) (srcSeq hb (.inr hc) hd hr (Nat.ne_of_lt (c.st.lt hb))) rfl (.inr ⟨hc, _, Heap.get?_push_size _ rfl, rfl, rfl⟩) fun x h => ?_)
  rcases x with ⟨_, x⟩ | ⟨_, x⟩
  ·exact wpAny_pyIter_listiter x h
  ·exact wpAny_pyIter_tupleiter x h
 | @lst a o vs m ds' hb hc hd hr =>
  cases hx
  refine wpAny_pyIter_list ⟨o, c.st.fz _ _ hb, hc, m, hd⟩ (k (itObj "list_iterator" a) (srcSeq hb (.inl hc) hd hr (Nat.ne_of_lt (c.st.lt hb))) rfl (.inl ⟨hc, _, Heap.get?_push_size _ rfl, rfl, rfl⟩) fun x h => ?_)
  rcases x with ⟨_, x⟩ | ⟨_, x⟩
  ·exact wpAny_pyIter_listiter x h
  ·exact wpAny_pyIter_tupleiter x h
 | _ => cases hx
theorem snd_comp {scope : Scope} {x : Str} {px : Pos} {ys : List Str} {fr : List Nat} (F : CompR sc scope ns x ys fr) {elt iter : Expr} {ifs : List Expr} {pos : Pos} {a : WE} {t : WT} {e : WE}
  (ha : SndE prog w h₀ sc ns iter a) (helt : SndE prog w h₀ (relabelS scope sc) (x :: ys) elt e) (hts : SndF prog w h₀ (relabelS scope sc) (x :: ys) ifs t) (hs : ∀ env x, foldedSetIterable iter env x = pure x) :
  SndE prog w h₀ sc ns (.ListComp elt [⟨.Name x px, iter, ifs, 0⟩] scope pos) (wComp a fr t e) := ⟨fun n C A env own ρ B σ s Q E c h => by
 rw [eval_ListComp]
 obtain ⟨hk, h⟩ := h
 ·obtain ⟨cl, e0, h1, h2⟩ := Zdr c F hk
  refine wpAny_comprehension_free (use := none) rfl (hs env) e0 F.kind F.loc (ha.here c h fun v1 s1 d1 σ1 B1 q1 r1 g1 c1 => ?_)
  split at q1
  ·rename_i ds hx
   refine iter_frz c1 r1 hx fun o S hf h0 self => ?_
   refine Zfr c1 F hk h1 h2 helt hts hf S h0 self q1.1 q1.2 (RR := fun acc L => compPost (model prog w) A E none (PostE prog w h₀ ns env own ρ B σ s Q) acc L) ?_
   intro D L acc σ' B' s' m hq hD hL hDL g c' bD sD bL sL ⟨items, k, hg, hr⟩ hn
   refine ⟨m, hn, fun h' sb => ?_⟩
   obtain ⟨g2, c2⟩ := c1.side s'.toks hL g c' bL sL sb.extBut
   obtain ⟨g3, c3⟩ := c1.adoptB s'.toks hD g2 c2 bD sD (Heap.SameBut.refl ..) (sb.extBut _ _ hDL hg)
   exact c3.fin (g1.trans g3) hq (.lst (Z2 ..) rfl rfl (hr.mono fun a o' e' => (Z4 _ _ fun q => by rw [q, bD] at e'; cases e').trans e'))
  ·exact q1.elim⟩
theorem Zgk {elt iter : Expr} {x y : Str} {px py : Pos} {ifs : List Expr} {scope : Scope} {pos : Pos} {line : Nat} (hs : env.scope = sc) (hk : sc.kind = .function) (hy : sc.names.lookup y = some .local) (hl : (py.line == pos.line) = true)
  (hn : (scope.names.any fun (n, k) => n == y && (k == .local || k == .cell)) = false) : swapsWith (.ListComp elt [⟨.Name x px, iter, ifs, 0⟩] scope pos) (some (.Name y py)) line env = pure true := by
 unfold swapsWith
 have e1 : env.blockKind = .function := by unfold Env.blockKind; rw [hs, hk]; rfl
 have e2 : env.kindOf y = some .local := by unfold Env.kindOf; rw [hs]; exact hy
 show (pure _ : Sem Bool) = _
 rw [e1, e2, hn]
 have e3 : ((.ListComp elt [⟨.Name x px, iter, ifs, 0⟩] scope pos : Expr).pos.line) = pos.line := rfl
 rw [e3, hl]
 rfl
theorem Zb8 {scope : Scope} {x y : Str} {px py : Pos} {ys : List Str} {fr : List Nat} {i : Nat} (F : CompR sc scope ns x ys fr) {elt iter : Expr} {ifs : List Expr} {pos spos : Pos} {a : WE} {t : WT} {e : WE}
  (ha : SndE prog w h₀ sc ns iter a) (helt : SndE prog w h₀ (relabelS scope sc) (x :: ys) elt e) (hts : SndF prog w h₀ (relabelS scope sc) (x :: ys) ifs t) (hs : ∀ env x, foldedSetIterable iter env x = pure x)
  (hk0 : sc.kind = .function) (hi : ns[i]? = some y) (hy : sc.names.lookup y = some .local) (hdot : sc.names.lookup (".0" : Str) = none) (hl : (py.line == pos.line) = true) (hn : (scope.names.any fun (n, k) => n == y && (k == .local || k == .cell)) = false) :
  SndS prog w h₀ sc ns (.Assign [.Name y py] (.ListComp elt [⟨.Name x px, iter, ifs, 0⟩] scope pos) spos) (sComp a fr t e i) := ⟨fun n C A env own ρ B σ s N R Kk E c h => by
 rw [exec_Assign_Name_used _ _ _ _ (Zgk c.scope hk0 hy hl hn)]
 refine wpAny_bind (wpAny_standAt (wpAny_bind ?_))
 show wpAny _ A (do let _ ← comprehension (.ListComp elt [⟨.Name x px, iter, ifs, 0⟩] scope pos) scope env _ (newList []) false (eval iter env) (some (assign (.Name y py) env))) _ _ s
 obtain ⟨hk, h⟩ := h
 obtain ⟨cl, e0, h1, h2⟩ := Zdr c F hk
 refine wpAny_bind (wpAny_mono (wpAny_comprehension_free (use := some (assign (.Name y py) env)) (Q := fun _ s' => PostS prog w h₀ ns env own B σ s N R Kk .next s') rfl (hs env) e0 F.kind F.loc
  (ha.here c h fun v1 s1 d1 σ1 B1 q1 r1 g1 c1 => ?_)) (fun _ s' hq => wpAny_pure (wpAny_pure hq)) fun _ _ e => e)
 split at q1
 ·rename_i ds hx
  refine iter_frz c1 r1 hx fun o S hf h0 self => ?_
  refine Zfr c1 F hk h1 h2 helt hts hf S h0 self q1.1 q1.2 (RR := fun acc L => compPost (model prog w) A E (some (assign (.Name y py) env)) (fun _ s' => PostS prog w h₀ ns env own B σ s N R Kk .next s') acc L) ?_
  intro D L acc σ' B' s' m hq hD hL hDL g c' bD sD bL sL ⟨items, k, hg, hr⟩ hn
  obtain ⟨g3, c3⟩ := c1.adoptB s'.toks hD g c' bD sD (Heap.SameBut.refl ..) hg
  have rv : Rp prog w (up B' D (some { cls := .type "list", data := .seq items k })) (.ref D) (.lst acc) := .lst (Z2 ..) rfl rfl (hr.mono fun a o' e' => (Z4 _ _ fun q => by rw [q, bD] at e'; cases e').trans e')
  show wpAny _ A (assign (.Name y py) env (.ref D)) _ _ _
  refine PyProof.Rows.assign_Name (store c3 hi ⟨(by rw [hy]; intro q; cases q), hdot⟩ rv fun s4 g4 c4 => ?_)
  have hL' : L ∉ own := fun hm => c1.ne_own hL L (.inl hm) rfl
  obtain ⟨oL, esL, epL, hgL, rL⟩ := hn
  have kL := g4.ext.keep L oL hgL sL hL'
  refine ⟨m, ⟨oL, esL, epL, kL, rL⟩, fun h' sb => ?_⟩
  have bL4 : up B' D (some { cls := .type "list", data := .seq items k }) L = none := (Z4 _ _ (Ne.symm hDL)).trans bL
  obtain ⟨g5, c5⟩ := c1.side s4.toks hL (g3.trans g4) c4 bL4 sL sb.extBut
  exact PostL.mk c5 (g1.trans g5) hq
 ·exact q1.elim⟩
end
structure ScOk (scope : Scope) (p : Nat) (ns : List Str) : Prop where
 kind : scope.kind = .function
 co : scope.isCoroutine = false
 gen : scope.isGenerator = false
 can : ∀ x ∈ ns, scope.names.lookup x = some .local ∨ scope.names.lookup x = some .cell
 nd : ns.Nodup
 dbg : ∀ x ∈ ns, (x == ("__debug__" : Str)) = false
 le : p ≤ ns.length
 dot : scope.names.lookup (".0" : Str) = none
noncomputable def FnOk (w : World) (K : Frag) (f : Addr) (p : Nat) (df : List D) (ns : List Str) (W : WS) : Prop :=
 ∃ name qual params body scope dV kV doc pm an cdv ct oc od osl,
  List.lookup f K = some ⟨oc, od, .func (fnOf name qual params body scope dV kV doc pm an cdv ct), osl⟩ ∧ codeIn K cdv qual = true ∧ ScOk scope p ns ∧ df.length ≤ p ∧
  (∀ (s : Shared) (vs : List Value), K.In s.heap → p - df.length ≤ vs.length → vs.length ≤ p → ∃ dvs, (∀ prog w B, Rps prog w B dvs (df.drop (vs.length - (p - df.length)))) ∧
   BindsTo s (fnOf name qual params body scope dV kV doc pm an cdv ct) ⟨vs, []⟩ ((ns.take p).zip (vs ++ dvs))) ∧
  (∀ prog h₀, Gd K h₀ → StOk scope ns → SndB prog w h₀ scope ns body W)
theorem Yv {w : World} {K : Frag} {f : Addr} {p : Nat} {df : List D} {ns : List Str} {W : WS} {name qual : Str} {params : Arguments} {body : List Stmt} {scope : Scope} {dV kV doc pm : Value} {an : Option Addr} {cdv ct oc : Value} {od : Option Addr} {osl : Array (Option Value)}
  (h1 : List.lookup f K = some ⟨oc, od, .func (fnOf name qual params body scope dV kV doc pm an cdv ct), osl⟩) (h2 : codeIn K cdv qual = true) (h3 : ScOk scope p ns) (h4 : df.length ≤ p)
  (h5 : ∀ (s : Shared) (vs : List Value), K.In s.heap → p - df.length ≤ vs.length → vs.length ≤ p → ∃ dvs, (∀ prog w B, Rps prog w B dvs (df.drop (vs.length - (p - df.length)))) ∧
   BindsTo s (fnOf name qual params body scope dV kV doc pm an cdv ct) ⟨vs, []⟩ ((ns.take p).zip (vs ++ dvs)))
  (h6 : ∀ prog h₀, Gd K h₀ → StOk scope ns → SndB prog w h₀ scope ns body W) : FnOk w K f p df ns W :=
 ⟨_, _, _, _, _, _, _, _, _, _, _, _, _, _, _, h1, h2, h3, h4, h5, h6⟩
noncomputable def scB (scope : Scope) (p : Nat) (ns : List Str) : Bool := decide ((∀ x ∈ ns, scope.names.lookup x = some .local ∨ scope.names.lookup x = some .cell) ∧ ns.Nodup ∧ (∀ x ∈ ns, (x == ("__debug__" : Str)) = false) ∧ p ≤ ns.length)
theorem ScOk.of {scope : Scope} {p : Nat} {ns : List Str} (h : scB scope p ns = true) (h1 : scope.kind = .function) (h2 : scope.isCoroutine = false) (h3 : scope.isGenerator = false) (h4 : scope.names.lookup (".0" : Str) = none) : ScOk scope p ns :=
 have k := of_decide_eq_true h
 ⟨h1, h2, h3, k.1, k.2.1, k.2.2.1, k.2.2.2, h4⟩
noncomputable def BdOk (K : Frag) (fd : FuncData) (p : Nat) (df : List D) (ns : List Str) : Prop := ∀ (s : Shared) (vs : List Value), K.In s.heap → p - df.length ≤ vs.length → vs.length ≤ p → ∃ dvs, (∀ prog w B, Rps prog w B dvs (df.drop (vs.length - (p - df.length)))) ∧
 BindsTo s fd ⟨vs, []⟩ ((ns.take p).zip (vs ++ dvs))
theorem Zfw {K : Frag} {fd : FuncData} {p : Nat} {ns : List Str} (h : ∀ (vs : List Value), vs.length = p → bindArgs fd ⟨vs, []⟩ = pure ((ns.take p).zip (vs ++ []))) : BdOk K fd p [] ns := fun s vs _ h0 h1 =>
 ⟨[], fun _ _ _ => by rw [List.drop_nil]; exact .nil, .of_eq (h vs (Nat.le_antisymm h1 h0))⟩
theorem Zf9 {P : List Value → Prop} (h : P []) : ∀ vs : List Value, vs.length = 0 → P vs := fun vs e => List.eq_nil_of_length_eq_zero e ▸ h
theorem Jb {P : List Value → Prop} {k : Nat} (h : ∀ v vs, vs.length = k → P (v :: vs)) : ∀ vs : List Value, vs.length = k + 1 → P vs := fun vs e => by
 cases vs with
 | nil => cases e
 | cons v vs => exact h v vs (Nat.succ.inj e)
section
variable {K : Frag} {fd : FuncData} {ns : List Str}
theorem b0 (h : bindArgs fd ⟨[], []⟩ = pure ((ns.take 0).zip ([] ++ []))) : BdOk K fd 0 [] ns := Zfw (Zf9 h)
theorem b1 (h : ∀ v0 : Value, bindArgs fd ⟨[v0], []⟩ = pure ((ns.take 1).zip ([v0] ++ []))) : BdOk K fd 1 [] ns := Zfw (Jb fun v0 => Zf9 (h v0))
theorem b2 (h : ∀ v0 v1 : Value, bindArgs fd ⟨[v0, v1], []⟩ = pure ((ns.take 2).zip ([v0, v1] ++ []))) : BdOk K fd 2 [] ns := Zfw (Jb fun v0 => Jb fun v1 => Zf9 (h v0 v1))
theorem b3 (h : ∀ v0 v1 v2 : Value, bindArgs fd ⟨[v0, v1, v2], []⟩ = pure ((ns.take 3).zip ([v0, v1, v2] ++ []))) : BdOk K fd 3 [] ns := Zfw (Jb fun v0 => Jb fun v1 => Jb fun v2 => Zf9 (h v0 v1 v2))
theorem b4 (h : ∀ v0 v1 v2 v3 : Value, bindArgs fd ⟨[v0, v1, v2, v3], []⟩ = pure ((ns.take 4).zip ([v0, v1, v2, v3] ++ []))) : BdOk K fd 4 [] ns := Zfw (Jb fun v0 => Jb fun v1 => Jb fun v2 => Jb fun v3 => Zf9 (h v0 v1 v2 v3))
theorem b5 (h : ∀ v0 v1 v2 v3 v4 : Value, bindArgs fd ⟨[v0, v1, v2, v3, v4], []⟩ = pure ((ns.take 5).zip ([v0, v1, v2, v3, v4] ++ []))) : BdOk K fd 5 [] ns := Zfw (Jb fun v0 => Jb fun v1 => Jb fun v2 => Jb fun v3 => Jb fun v4 => Zf9 (h v0 v1 v2 v3 v4))
theorem b6 (h : ∀ v0 v1 v2 v3 v4 v5 : Value, bindArgs fd ⟨[v0, v1, v2, v3, v4, v5], []⟩ = pure ((ns.take 6).zip ([v0, v1, v2, v3, v4, v5] ++ []))) : BdOk K fd 6 [] ns := Zfw (Jb fun v0 => Jb fun v1 => Jb fun v2 => Jb fun v3 => Jb fun v4 => Jb fun v5 => Zf9 (h v0 v1 v2 v3 v4 v5))
end
noncomputable def bindD (p : Nat) (df ds : List D) : Option (List D) := if p - df.length ≤ ds.length ∧ ds.length ≤ p then some (ds ++ df.drop (ds.length - (p - df.length))) else none
noncomputable def locs (full : List D) (m : Nat) : Loc := full.map some ++ List.replicate (m - full.length) none
structure Fun where
 p : Nat
 df : List D
 ns : List Str
 W : WS
noncomputable def oracle (T : Addr → Option Fun) : Nat → Ora
 | 0 => fun _ _ _ _ => False
 | n + 1 => fun f ds σ Q => match T f with
  | some F => (match bindD F.p F.df ds with | some full => F.W (oracle T n) (locs full F.ns.length) σ (fun _ σ' => Q .none σ') Q (fun _ _ => False) | none => False)
  | none => False
theorem Ub {x : Str} : ∀ (names : List (Str × NameKind)) (n : Nat) (acc : List (Str × Addr)), (names.lookup x = some .cell ∨ (acc.lookup x).isSome = true) → ((cellsFrom n names acc).lookup x).isSome = true
 | [], _, _, h => by
  rcases h with h | h
  ·cases h
  ·exact h
 | (y, k) :: r, n, acc, h => by
  unfold cellsFrom
  by_cases hk : k = .cell
  ·subst hk
   rw [if_pos (by rfl)]
   refine Ub r (n + 1) _ ?_
   by_cases hx : x = y
   ·subst hx; exact .inr (by simp)
   ·have hb : (x == y) = false := beq_eq_false_iff_ne.mpr hx
    rcases h with h | h
    ·rw [List.lookup_cons, hb] at h; exact .inl h
    ·right; rw [List.lookup_cons, hb]; exact h
  ·rw [if_neg (by simpa using hk)]
   refine Ub r n acc ?_
   rcases h with h | h
   ·rw [List.lookup_cons] at h
    split at h
    ·cases h; exact absurd rfl hk
    ·exact .inl h
   ·exact .inr h
theorem Zdp {kindOf : Str → Option NameKind} {x : Str} : ∀ (bs : List (Str × Value)) (m : Str → Option Value), x ∉ bs.map (·.1) → bindL kindOf bs m x = m x
 | [], _, _ => rfl
 | (y, v) :: r, m, h => by
  have hx : x ≠ y := fun e => h (by simp [e])
  unfold bindL
  rw [Zdp r _ fun hm => h (by simp [hm])]
  split
  ·exact if_neg hx
  ·rfl
theorem Zdl {kindOf : Str → Option NameKind} {x : Str} : ∀ (bs : List (Str × Value)) (m : Str → Option Value), x ∉ bs.map (·.1) → bindC kindOf bs m x = m x
 | [], _, _ => rfl
 | (y, v) :: r, m, h => by
  have hx : x ≠ y := fun e => h (by simp [e])
  unfold bindC
  rw [Zdl r _ fun hm => h (by simp [hm])]
  split
  ·rfl
  ·exact if_neg hx
theorem Zey {kindOf : Str → Option NameKind} {x : Str} {v : Value} (hk : kindOf x = some .local) : ∀ (bs : List (Str × Value)) (m : Str → Option Value), (bs.map (·.1)).Nodup → (x, v) ∈ bs → bindL kindOf bs m x = some v
 | (y, u) :: r, m, hn, h => by
  rw [List.map_cons, List.nodup_cons] at hn
  unfold bindL
  rcases List.mem_cons.mp h with e | h
  ·cases e
   rw [Zdp r _ hn.1, if_pos hk]; exact if_pos rfl
  ·exact Zey hk r _ hn.2 h
theorem Ze1 {kindOf : Str → Option NameKind} {x : Str} {v : Value} (hk : kindOf x ≠ some .local) : ∀ (bs : List (Str × Value)) (m : Str → Option Value), (bs.map (·.1)).Nodup → (x, v) ∈ bs → bindC kindOf bs m x = some v
 | (y, u) :: r, m, hn, h => by
  rw [List.map_cons, List.nodup_cons] at hn
  unfold bindC
  rcases List.mem_cons.mp h with e | h
  ·cases e
   rw [Zdl r _ hn.1, if_neg hk]; exact if_pos rfl
  ·exact Ze1 hk r _ hn.2 h
theorem Kb : ∀ (full : List D) (m i : Nat) (d : D), nth (full.map some ++ List.replicate m none) i = some d → full[i]? = some d
 | [], m, i, d, h => by
  exfalso
  have : ∀ m i, nth (List.replicate m (none : Option D)) i = none := by
   intro m
   induction m with
   | zero => intro i; rfl
   | succ m ih => intro i; cases i with
    | zero => rfl
    | succ i => exact ih i
  rw [List.map_nil, List.nil_append, this] at h; cases h
 | x :: r, m, 0, d, h => by cases h; rfl
 | x :: r, m, i + 1, d, h => by simpa using Kb r m i d h
section
variable {prog : Program} {w : World} {h₀ : Heap} {K : Frag} {n : Nat} {C : Ora} {A : Around} {B : Fz} {σ : Sto} {s : Shared}
theorem bd_len {a b p : Nat} (h1 : p - b ≤ a) (h2 : a ≤ p) (h3 : b ≤ p) : a + (b - (a - (p - b))) = p := by
 obtain ⟨k, rfl⟩ := Nat.exists_eq_add_of_le' h3
 rw [Nat.add_sub_cancel] at h1 ⊢
 obtain ⟨j, rfl⟩ := Nat.exists_eq_add_of_le h1
 rw [Nat.add_sub_cancel_left, Nat.add_assoc, Nat.add_sub_cancel' (Nat.le_of_add_le_add_left h2)]
theorem fn_step (G : Gd K h₀) {f : Addr} {p : Nat} {df : List D} {ns : List Str} {W : WS} (F : FnOk w K f p df ns W) (ora : OraOk prog w h₀ n C) {ds full : List D} {vs : List Value} {Q : D → Sto → Prop} (room : Room (n + 1) A) (st : St prog w h₀ B σ s.heap) (r : Rps prog w B vs ds)
  (hb : bindD p df ds = some full) (hW : W C (locs full ns.length) σ (fun _ σ' => Q .none σ') Q (fun _ _ => False)) : codeAny (model prog w) A (.call (.ref f) ⟨vs, []⟩) (PostC prog w h₀ B σ s Q) s := by
 refine byC fun nT => ?_
 obtain ⟨name, qual, params, body, scope, dV, kV, doc, pm, an, cdv, ct, oc, od, osl, hlook, hcode, sc, hdf, hbinds, hsnd⟩ := F
 have X := G.inK st
 have hlen := r.length
 unfold bindD at hb
 split at hb
 ·rename_i hpl
  cases hb
  obtain ⟨dvs, hd, hbt⟩ := hbinds s vs X (by rw [hlen]; exact hpl.1) (by rw [hlen]; exact hpl.2)
  have hd' := hd prog w B
  rw [hlen] at hd'
  have rall := r.append hd'
  have hfl : (ds ++ df.drop (ds.length - (p - df.length))).length = p := by
   rw [List.length_append, List.length_drop]; exact bd_len hpl.1 hpl.2 hdf
  have hvl : (vs ++ dvs).length = p := rall.length.trans hfl
  have hbn : ((ns.take p).zip (vs ++ dvs)).map (·.1) = ns.take p := by
   rw [List.map_fst_zip]; rw [List.length_take, hvl]; exact Nat.min_le_left _ _
  have hroom : A.depth < recursionLimit := by have := room.depth; show A.depth < 1000; lia
  refine nT (codeAny_call_function hroom (X _ _ hlook) rfl sc.co sc.gen rfl (codeRec_of X hcode) (hbt _ _ _ _ ?_))
  refine wpAny_newFunctionEnv_cells sc.kind (fun x hx => ?_) fun env he s' x => ?_
  ·have hm : x.1 ∈ ns := List.mem_of_mem_take (hbn ▸ List.mem_map_of_mem hx)
   rcases sc.can _ hm with q | q
   ·exact .inl q
   ·exact .inr ⟨q, Ub _ _ _ (.inl q)⟩
  ·refine byC fun nT => ?_
   obtain ⟨h₁, tk, rfl, _⟩ := x.done
   have hk₁ := x.toInCall.keep
   refine nT ⟨G.nolimit.keeps fun b o e => hk₁ b o (st.baseHeap b o e), codeAny_func ?_⟩
   have hloc : env.locals = s.heap.objs.size := by rw [he]; rfl
   have hcells : env.cells = cellsFrom (s.heap.objs.size + 1) scope.names [] := by rw [he]; rfl
   have hscope : env.scope = scope := by rw [he]; rfl
   have hgl : env.globals = mainGlobals := by rw [he]; rfl
   have hbi : env.builtins = builtinsNs := by rw [he]; rfl
   have g0 : Go prog w h₀ [] B σ s B σ { s with heap := h₁, toks := tk } := st.keepAll hk₁
   have above : ∀ y a, env.cells.lookup y = some a → env.locals < a := fun y a e => x.above y a (mem_of_lookup e)
   have fresh : ∀ a, s.heap.objs.size ≤ a → σ a = none ∧ B a = none ∧ s.heap.get? a = none := fun a ha => by
    refine ⟨?_, ?_, ?_⟩
    ·cases e : σ a with
     | none => rfl
     | some m => exact absurd (st.ltS e) (Nat.not_lt.mpr ha)
    ·cases e : B a with
     | none => rfl
     | some m => exact absurd (st.lt e) (Nat.not_lt.mpr ha)
    ·cases e : s.heap.get? a with
     | none => rfl
     | some o => exact absurd (Heap.lt_size e) (Nat.not_lt.mpr ha)
   have cellHas : ∀ y, scope.names.lookup y = some .cell → ∃ a, env.cells.lookup y = some a := fun y hy => by
    rw [hcells]; exact Option.isSome_iff_exists.mp (Ub scope.names (s.heap.objs.size + 1) [] (.inl hy))
   have kindIs : ∀ y, env.kindOf y = scope.names.lookup y := fun y => by unfold Env.kindOf; rw [hscope]
   have fm : Fm prog w h₀ env ns (env.locals :: ns.filterMap fun y => env.cells.lookup y) (locs (ds ++ df.drop (ds.length - (p - df.length))) ns.length) B σ h₁ := by
    refine ⟨by rw [hscope]; exact sc.kind, hgl, hbi, by simp, ⟨_, x.toInCall.ns, fun i d e => ?_⟩, fun y hy => ?_, fun y z c h1 h2 => name_of_addr x.apart (mem_of_lookup h1) (mem_of_lookup h2), fun y e => Nat.lt_irrefl _ (above y _ e), sc.nd, fun a ha => ?_, ?_, rfl, sc.dbg⟩
    ·have e' := Kb _ _ i d e
     obtain ⟨v, hv, rv⟩ := rall.get e'
     have hi : i < p := by have := (List.getElem?_eq_some_iff.mp hv).1; rw [hvl] at this; exact this
     have hin : i < ns.length := Nat.lt_of_lt_of_le hi sc.le
     have hx : ns[i]? = some ns[i] := List.getElem?_eq_getElem hin
     have hmem : (ns[i], v) ∈ (ns.take p).zip (vs ++ dvs) := by
      refine List.mem_of_getElem? (i := i) ?_
      rw [List.getElem?_zip_eq_some]
      exact ⟨by rw [List.getElem?_take_of_lt hi]; exact hx, hv⟩
     have hnd : (((ns.take p).zip (vs ++ dvs)).map (·.1)).Nodup := by rw [hbn]; exact sc.nd.sublist (List.take_sublist _ _)
     refine ⟨ns[i], v, hx, rv, ?_⟩
     rcases sc.can _ (List.getElem_mem hin) with q | q
     ·exact .inl ⟨(kindIs _).trans q, Zey ((kindIs _).trans q) _ _ hnd hmem⟩
     ·obtain ⟨a, ha⟩ := cellHas _ q
      have hne : env.kindOf ns[i] ≠ some .local := by rw [kindIs, q]; intro z; cases z
      have := x.cell _ a ha
      rw [Ze1 hne _ _ hnd hmem] at this
      exact .inr ⟨a, .inl ((kindIs _).trans q), ha, this⟩
    ·rcases sc.can y hy with q | q
     ·exact .inl ((kindIs _).trans q)
     ·obtain ⟨a, ha⟩ := cellHas y q
      exact .inr (.inl ⟨(kindIs _).trans q, a, _, ha, List.mem_cons_of_mem _ (List.mem_filterMap.mpr ⟨y, hy, ha⟩), x.cell y a ha⟩)
    ·have key : ∀ y c, env.cells.lookup y = some c → σ c = none ∧ B c = none ∧ ∃ o, h₁.get? c = some o := fun y c hc => by
      have := fresh c (by have := above y c hc; rw [hloc] at this; exact Nat.le_of_lt this)
      obtain ⟨o, ho, _⟩ := x.cell y c hc
      exact ⟨this.1, this.2.1, o, ho⟩
     rcases ha with ha | ⟨y, hy⟩
     ·rcases List.mem_cons.mp ha with rfl | ha
      ·have := fresh env.locals (by rw [hloc]; exact Nat.le_refl _)
       obtain ⟨o, _, _, ho, _⟩ := x.toInCall.ns
       exact ⟨this.1, this.2.1, o, ho⟩
      ·obtain ⟨y, _, hy⟩ := List.mem_filterMap.mp ha
       exact key y a hy
     ·exact key y a hy
    ·unfold locs
     rw [List.length_append, List.length_map, List.length_replicate, hfl]
     have := sc.le; lia
   have cx : Cx prog w h₀ scope ns n C (A.deeper env) env (env.locals :: ns.filterMap fun y => env.cells.lookup y) (locs (ds ++ df.drop (ds.length - (p - df.length))) ns.length) B σ { s with heap := h₁, toks := tk } :=
    ⟨hscope, ora, RoomB.of room env, g0.st, fm⟩
   have gone : ∀ a ∈ (env.locals :: ns.filterMap fun y => env.cells.lookup y), a ∈ ([] : List Addr) ∨ s.heap.get? a = none := fun a ha => by
    refine .inr (fresh a ?_).2.2
    rcases List.mem_cons.mp ha with rfl | ha
    ·rw [hloc]; exact Nat.le_refl _
    ·obtain ⟨y, _, hy⟩ := List.mem_filterMap.mp ha
     have := above y a hy
     rw [hloc] at this; exact Nat.le_of_lt this
   refine wpAny_mono ((hsnd prog h₀ G (fun y hy => ⟨fun q => (sc.can y hy).elim (fun z => by rw [q] at z; cases z) (fun z => by rw [q] at z; cases z), sc.dot⟩)).go n C _ env _ _ B σ _ _ Q _ _ cx hW) (fun fl s' hf => ?_) fun _ _ x => x
   cases fl with
   | next =>
    obtain ⟨ρ', σ', B', q, g, _⟩ := hf
    exact ⟨.none, .none, σ', B', rfl, q, .none, (g0.any.trans g).to gone⟩
   | brk =>
    obtain ⟨ρ', σ', B', q, g, _⟩ := hf
    exact q.elim
   | ret v =>
    obtain ⟨d, σ', B', q, rv, g⟩ := hf
    exact ⟨v, d, σ', B', rfl, q, rv, (g0.any.trans g).to gone⟩
   | cont => exact hf.elim
 ·cases hb
theorem ora_ok (G : Gd K h₀) {T : Addr → Option Fun} (hT : ∀ f F, T f = some F → FnOk w K f F.p F.df F.ns F.W) : ∀ n, OraOk prog w h₀ n (oracle T n)
 | 0 => fun f ds Q A s vs B σ _ _ _ h => h.elim
 | n + 1 => fun f ds Q A s vs B σ room st r h => by
  unfold oracle at h
  split at h
  ·rename_i F hF
   split at h
   ·rename_i full hb
    exact fn_step G (hT f F hF) (ora_ok G hT n) room st r hb h
   ·exact h.elim
  ·exact h.elim
end
noncomputable def wGlob (d : D) : WE := fun _ _ σ Q => Q d σ
section
variable {prog : Program} {w : World} {h₀ : Heap} {K : Frag} {sc : Scope} {ns : List Str}
theorem Zae (G : Gd K h₀) {x : Str} {pos : Pos} {v : Value} {d : D} (hr : ∀ prog B, (∀ a o, List.lookup a K = some o → B a = some o) → Rp prog w B v d) (e : nsIn K mainGlobals x = some (some v)) (hx : (sc.names.lookup x) = some .globalImplicit) (hd : (x == ("__debug__" : Str)) = false) :
  SndE prog w h₀ sc ns (.Name x pos) (wGlob d) := ⟨fun n C A env own ρ B σ s Q E c h =>
 Zaj G c e hx hd (c.fin c.refl h (hr prog B fun a o e => c.st.base a o (G.K a o e)))⟩
theorem with_so {b : List Stmt} {W : WS} (h : StOk sc ns) (k : StOk sc ns → SndB prog w h₀ sc ns b W) : SndB prog w h₀ sc ns b W := k h
theorem Vx (ts : List Expr) (v : Expr) {env : Env} {sc : Scope} (h : env.scope = sc) : swappedStores ts v env = swappedStores ts v { env with scope := sc, locals := 0, globals := 0, cells := [], qual := "", func := none, code := .none, frame := none, builtins := 0 } := by
 subst h; rfl
end
set_option maxHeartbeats 4000000
noncomputable def Ye : D := .tup [.str "integer", .str "numeric"]
noncomputable def Ko : D := .dics [("Goto", .int 1), ("Gosub", .int 1), ("Once", .int 1), ("If", .int 1), ("IfNot", .int 1), ("IsNull", .int 1), ("NotNull", .int 1), ("IfPos", .int 1), ("MustBeInt", .int 1), ("CompareJump", .int 1), ("Rewind", .int 1), ("Last", .int 1), ("Next", .int 1), ("Prev", .int 1), ("SeekRowid", .int 1), ("SeekGE", .int 1), ("SeekGT", .int 1), ("SeekLE", .int 1), ("SeekLT", .int 1), ("IdxGT", .int 1), ("IdxGE", .int 1), ("IdxLT", .int 1), ("IdxLE", .int 1), ("Found", .int 1), ("NotFound", .int 1), ("NoConflict", .int 1), ("NotExists", .int 1), ("SorterSort", .int 1), ("SorterNext", .int 1), ("IntegrityRows", .int 1)]
noncomputable def K1 : List Addr := [148]
noncomputable def Zct : List Addr := [328]
noncomputable def Ve : List Addr := [611]
noncomputable def Kf : List Addr := [148]
noncomputable def cs_high : List Addr := [252]
noncomputable def Zdv : List Addr := [278]
noncomputable def Xi : List Addr := [707]
noncomputable def Vv : List Addr := [226]
noncomputable def cs_low : List Addr := [252]
noncomputable def Vh : List Addr := [252, 278, 406]
noncomputable def Ut : List Addr := [707]
noncomputable def U5 : List Addr := [200, 226]
noncomputable def V7 : List Addr := [200]
noncomputable def Vp : List Addr := [707]
noncomputable def Zcb : List Addr := [328]
noncomputable def Zef : List Addr := [148]
noncomputable def Zo : List Addr := [611]
noncomputable def Ke : List Addr := [707]
noncomputable def X0 : List Addr := [226]
noncomputable def Zag : List Addr := [148]
noncomputable def X7 : List Addr := [122, 252, 278, 406]
noncomputable def Zew : List Addr := [328]
noncomputable def K7 : List Addr := [252]
noncomputable def Kj : List Addr := [122, 148, 200, 226, 278, 328, 406]
noncomputable def X5 : List Addr := [226]
noncomputable def Vd : List Addr := [122, 148, 200, 252, 278, 328, 406]
noncomputable def Zes : List Addr := [328]
noncomputable def Zel : List Addr := [122, 148, 200, 226, 252, 278, 406]
noncomputable def Zcc : List Addr := []
noncomputable def K8 : List Addr := [122, 148, 200, 226, 252, 278, 328, 406]
noncomputable def K6 : List Addr := []
noncomputable def Uu : List Addr := [122, 148, 200, 226, 252, 278, 328, 406]
noncomputable def Za3 : List Addr := [278]
noncomputable def Zan : List Addr := [122, 148, 200, 226, 252, 328, 406]
noncomputable def Jh : List Addr := [406]
noncomputable def Ji : List Addr := [122, 148, 200, 226, 252, 278, 328]
noncomputable def Kz : List Addr := [122]
noncomputable def Kn : List Addr := [148, 200, 226, 252, 278, 328, 406]
noncomputable def Zat : List Addr := [148]
noncomputable def K2 : List Addr := [122, 200, 226, 252, 278, 328, 406]
noncomputable def Zdn : List Addr := []
noncomputable def J2 : List Addr := [122, 148, 200, 226, 252, 278, 328, 406]
noncomputable def U3 : List Addr := [200]
noncomputable def U8 : List Addr := [122, 148, 226, 252, 278, 328, 406]
noncomputable def Zbj : List Addr := []
noncomputable def Jo : List Addr := [122, 148, 200, 226, 252, 278, 328, 406]
noncomputable def W_112 : WS := (sSeq (sAsg (wV 1) (aAttr 122 "value" (wV 0))) sNil)
noncomputable def F_112 : Fun := ⟨2, [], ["self", "value"], W_112⟩
noncomputable def W_138_4 : WS := (sSeq (sAsg (wI 0) (aAttr 148 "depth" (wV 0))) sNil)
noncomputable def W_138_3 : WS := (sSeq (sAsg wNone (aAttr 148 "place" (wV 0))) W_138_4)
noncomputable def W_138_2 : WS := (sSeq (sAsg wNone (aAttr 148 "source" (wV 0))) W_138_3)
noncomputable def W_138_1 : WS := (sSeq (sAsg (wV 2) (aAttr 148 "column" (wV 0))) W_138_2)
noncomputable def W_138 : WS := (sSeq (sAsg (wV 1) (aAttr 148 "table" (wV 0))) W_138_1)
noncomputable def F_138 : Fun := ⟨3, [], ["self", "table", "column"], W_138⟩
noncomputable def W_190 : WS := (sSeq (sAsg (wV 1) (aAttr 200 "op" (wV 0))) (sSeq (sAsg (wV 2) (aAttr 200 "operand" (wV 0))) sNil))
noncomputable def F_190 : Fun := ⟨3, [], ["self", "op", "operand"], W_190⟩
noncomputable def W_216_2 : WS := (sSeq (sAsg (wV 3) (aAttr 226 "right" (wV 0))) sNil)
noncomputable def W_216_1 : WS := (sSeq (sAsg (wV 2) (aAttr 226 "left" (wV 0))) W_216_2)
noncomputable def W_216 : WS := (sSeq (sAsg (wV 1) (aAttr 226 "op" (wV 0))) W_216_1)
noncomputable def F_216 : Fun := ⟨4, [], ["self", "op", "left", "right"], W_216⟩
noncomputable def W_242_3 : WS := (sSeq (sAsg (wV 4) (aAttr 252 "negated" (wV 0))) sNil)
noncomputable def W_242_2 : WS := (sSeq (sAsg (wV 3) (aAttr 252 "high" (wV 0))) W_242_3)
noncomputable def W_242_1 : WS := (sSeq (sAsg (wV 2) (aAttr 252 "low" (wV 0))) W_242_2)
noncomputable def W_242 : WS := (sSeq (sAsg (wV 1) (aAttr 252 "value" (wV 0))) W_242_1)
noncomputable def F_242 : Fun := ⟨5, [], ["self", "value", "low", "high", "negated"], W_242⟩
noncomputable def W_268_2 : WS := (sSeq (sAsg (wV 3) (aAttr 278 "negated" (wV 0))) sNil)
noncomputable def W_268_1 : WS := (sSeq (sAsg (wV 2) (aAttr 278 "items" (wV 0))) W_268_2)
noncomputable def W_268 : WS := (sSeq (sAsg (wV 1) (aAttr 278 "value" (wV 0))) W_268_1)
noncomputable def F_268 : Fun := ⟨4, [], ["self", "value", "items", "negated"], W_268⟩
noncomputable def W_320_2 : WS := (sSeq (sAsg (wV 3) (aAttr 328 "other" (wV 0))) sNil)
noncomputable def W_320_1 : WS := (sSeq (sAsg (wV 2) (aAttr 328 "whens" (wV 0))) W_320_2)
noncomputable def W_320 : WS := (sSeq (sAsg (wV 1) (aAttr 328 "base" (wV 0))) W_320_1)
noncomputable def F_320 : Fun := ⟨4, [], ["self", "base", "whens", "other"], W_320⟩
noncomputable def W_396 : WS := (sSeq (sAsg (wV 1) (aAttr 406 "value" (wV 0))) (sSeq (sAsg (wV 2) (aAttr 406 "negated" (wV 0))) sNil))
noncomputable def F_396 : Fun := ⟨3, [], ["self", "value", "negated"], W_396⟩
noncomputable def W_430_4 : WS := (sSeq (sRet (wTup [wNone, wNone])) sNil)
noncomputable def W_430_3 : WS := (sSeq (sIf (tAnd (tCmp oEq (wV 1) (wS "text")) (tAnd (tCmp oIsN (wV 0) wNone) (tEnd (BoolOp.And == BoolOp.And))))
 (sSeq (sRet (wTup [(wS "text"), wNone])) sNil)
 sNil) W_430_4)
noncomputable def W_430_2 : WS := (sSeq (sIf (tAnd (tCmp oEq (wV 0) (wS "text")) (tAnd (tCmp oIsN (wV 1) wNone) (tEnd (BoolOp.And == BoolOp.And))))
 (sSeq (sRet (wTup [wNone, (wS "text")])) sNil)
 sNil) W_430_3)
noncomputable def W_430_1 : WS := (sSeq (sIf (tAnd (tCmp gIn (wV 1) (wGlob Ye)) (tAnd (tCmp gNotIn (wV 0) (wGlob Ye)) (tEnd (BoolOp.And == BoolOp.And))))
 (sSeq (sRet (wTup [(wS "numeric"), wNone])) sNil)
 sNil) W_430_2)
noncomputable def W_430 : WS := (sSeq (sIf (tAnd (tCmp gIn (wV 0) (wGlob Ye)) (tAnd (tCmp gNotIn (wV 1) (wGlob Ye)) (tEnd (BoolOp.And == BoolOp.And))))
 (sSeq (sRet (wTup [wNone, (wS "numeric")])) sNil)
 sNil) W_430_1)
noncomputable def F_430 : Fun := ⟨2, [], ["left", "right"], W_430⟩
noncomputable def W_443_4 : WS := (sSeq (sRet wNone) sNil)
noncomputable def W_443_3 : WS := (sSeq (sIf (tOf oTr (wIsi (gIsi Zdn J2) (wV 0)))
 (sSeq sNo sNil)
 sNil) W_443_4)
noncomputable def W_443_2 : WS := (sSeq (sIf (tOf oTr (wIsi (gIsi K6 Uu) (wV 0)))
 (sSeq (sRet (wCall 443 [(wAttr X7 "value" (wV 0)), (wV 1)])) sNil)
 sNil) W_443_3)
noncomputable def W_443_1 : WS := (sSeq (sIf (tOf oTr (wIsi (gIsi Zcc K8) (wV 0)))
 (sSeq sNo sNil)
 sNil) W_443_2)
noncomputable def W_443 : WS := (sSeq (sIf (tOf oTr (wIsi (gIsi Zat K2) (wV 0)))
 (sSeq (sRet (wAttr K1 "affinity" (wV 0))) sNil)
 sNil) W_443_1)
noncomputable def F_443 : Fun := ⟨2, [.none], ["expr", "sources"], W_443⟩
noncomputable def W_450_4 : WS := (sSeq (sRet wNone) sNil)
noncomputable def W_450_3 : WS := (sSeq (sIf (tOf oTr (wIsi (gIsi X5 Vd) (wV 0)))
 (sSeq (sRet (wOr oTr (wCall 450 [(wAttr Vv "left" (wV 0))]) (wCall 450 [(wAttr X0 "right" (wV 0))]))) sNil)
 sNil) W_450_4)
noncomputable def W_450_2 : WS := (sSeq (sIf (tOf oTr (wIsi (gIsi Zcc K8) (wV 0)))
 (sSeq (sRet (wCall 450 [(wAttr X7 "value" (wV 0))])) sNil)
 sNil) W_450_3)
noncomputable def W_450_1 : WS := (sSeq (sIf (tOf oTr (wIsi (gIsi U3 U8) (wV 0)))
 (sSeq (sRet (wCall 450 [(wAttr V7 "operand" (wV 0))])) sNil)
 sNil) W_450_2)
noncomputable def W_450 : WS := (sSeq (sIf (tOf oTr (wIsi (gIsi K6 Uu) (wV 0)))
 (sSeq sNo sNil)
 sNil) W_450_1)
noncomputable def F_450 : Fun := ⟨1, [], ["expr"], W_450⟩
noncomputable def W_457_3 : WS := (sSeq (sRet wNone) sNil)
noncomputable def W_457_2 : WS := (sSeq (sIf (tAnd (tOf oTr (wIsi (gIsi U3 U8) (wV 0))) (tAnd (tCmp oEq (wAttr U5 "op" (wV 0)) (wS "+")) (tEnd (BoolOp.And == BoolOp.And))))
 (sSeq (sRet (wCall 457 [(wAttr V7 "operand" (wV 0))])) sNil)
 sNil) W_457_3)
noncomputable def W_457_1 : WS := (sSeq (sIf (tOf oTr (wIsi (gIsi Zcc K8) (wV 0)))
 (sSeq (sRet (wCall 457 [(wAttr X7 "value" (wV 0))])) sNil)
 sNil) W_457_2)
noncomputable def W_457 : WS := (sSeq (sIf (tOf oTr (wIsi (gIsi Zat K2) (wV 0)))
 (sSeq (sRet (wAttr Kf "collation" (wV 0))) sNil)
 sNil) W_457_1)
noncomputable def F_457 : Fun := ⟨1, [], ["expr"], W_457⟩
noncomputable def W_465 : WS := (sSeq (sRet (wOr oTr (wCall 450 [(wV 0)]) (wOr oTr (wCall 457 [(wV 0)]) (wS "binary")))) sNil)
noncomputable def F_465 : Fun := ⟨2, [.none], ["expr", "sources"], W_465⟩
noncomputable def W_472 : WS := (sSeq (sFor (wTup [(wCall 450 [(wV 0)]), (wCall 450 [(wV 1)]), (wCall 457 [(wV 0)])]) (aName 2)
 (sSeq (sIf (tCmp oNotN (wV 2) wNone)
 (sSeq (sRet (wV 2)) sNil)
 sNil) sNil)) (sSeq (sRet (wOr oTr (wCall 457 [(wV 1)]) (wS "binary"))) sNil))
noncomputable def F_472 : Fun := ⟨2, [], ["left", "right", "found"], W_472⟩
noncomputable def W_479 : WS := (sSeq (sRet (wCmp gIn (wV 0) (wTup [(wS "="), (wS "<>"), (wS "<"), (wS "<="), (wS ">"), (wS ">="), (wS "is"), (wS "is not")]))) sNil)
noncomputable def F_479 : Fun := ⟨1, [], ["op"], W_479⟩
noncomputable def W_486 : WS := (sSeq (sRet (w2 gItem (wDicS [((wS "="), (wS "<>")), ((wS "<>"), (wS "=")), ((wS "<"), (wS ">=")), ((wS "<="), (wS ">")), ((wS ">"), (wS "<=")), ((wS ">="), (wS "<")), ((wS "is"), (wS "is not")), ((wS "is not"), (wS "is"))]) (wV 0))) sNil)
noncomputable def F_486 : Fun := ⟨1, [], ["op"], W_486⟩
noncomputable def W_500 : WS := (sSeq (sAsg (wV 1) (aAttr 611 "program" (wV 0))) (sSeq (sAsg wDic0 (aAttr 611 "bindings" (wV 0))) sNil))
noncomputable def F_500 : Fun := ⟨2, [], ["self", "program"], W_500⟩
noncomputable def W_508_2 : WS := (sSeq (sRet (wV 3)) sNil)
noncomputable def Zck : WS := (sSeq (sIf (tOf oTr (wIsi (gIsi Kz Kn) (wV 1)))
 (sSeq (sExpr (wMeth 707 639 "add" (wAttr Zo "program" (wV 0)) [(wS "Value"), (wI 0), (wV 3), (wI 0), (wAttr X7 "value" (wV 1))])) sNil)
 (sSeq (sIf (tOf oTr (wIsi (gIsi Zbj Jo) (wV 1)))
 (sSeq sNo sNil)
 (sSeq (sIf (tOf oTr (wIsi (gIsi Zat K2) (wV 1)))
 (sSeq (sIf (tCmp gNotIn (wAttr Zag "source" (wV 1)) (wAttr Ve "bindings" (wV 0)))
 (sSeq sNo sNil)
 sNil) (sSeq (sExpr (wMeth 611 529 "column" (wV 0) [(wAttr Zag "source" (wV 1)), (wAttr Zef "place" (wV 1)), (wV 3)])) sNil))
 (sSeq (sIf (tOf oTr (wIsi (gIsi U3 U8) (wV 1)))
 (sSeq (sAsg (wMeth 611 508 "expression" (wV 0) [(wAttr V7 "operand" (wV 1))]) (aName 4)) (sSeq (sExpr (wMeth 707 639 "add" (wAttr Zo "program" (wV 0)) [(wS "Unary"), (wV 4), (wV 3), (wI 0), (wAttr U5 "op" (wV 1))])) sNil))
 (sSeq (sIf (tOf oTr (wIsi (gIsi X5 Vd) (wV 1)))
 (sSeq (sExpr (wMeth 611 536 "binary" (wV 0) [(wV 1), (wV 3)])) sNil)
 (sSeq (sIf (tOf oTr (wIsi (gIsi K7 Kj) (wV 1)))
 (sSeq (sExpr (wMeth 611 550 "between" (wV 0) [(wV 1), (wV 3)])) sNil)
 (sSeq (sIf (tOf oTr (wIsi (gIsi Zes Zel) (wV 1)))
 (sSeq (sExpr (wMeth 611 571 "case" (wV 0) [(wV 1), (wV 3)])) sNil)
 (sSeq (sIf (tOf oTr (wIsi (gIsi Jh Ji) (wV 1)))
 (sSeq (sExpr (wMeth 611 564 "is_null" (wV 0) [(wV 1), (wV 3)])) sNil)
 (sSeq (sIf (tOf oTr (wIsi (gIsi Za3 Zan) (wV 1)))
 (sSeq (sExpr (wMeth 611 578 "in_list" (wV 0) [(wV 1), (wV 3)])) sNil)
 (sSeq sNo sNil)) sNil)) sNil)) sNil)) sNil)) sNil)) sNil)) sNil)) sNil)) W_508_2)
noncomputable def Zf7 : WS := (sSeq (sAsg (wIf (tCmp oIsN (wV 2) wNone) (wMeth 707 668 "register" (wAttr Zo "program" (wV 0)) []) (wV 2)) (aName 3)) Zck)
noncomputable def F_508 : Fun := ⟨3, [.none], ["self", "expr", "into", "target", "operand"], Zf7⟩
noncomputable def W_529 : WS := (sSeq (sAsg (wSlice (w2 gItem (wAttr Ve "bindings" (wV 0)) (wV 1)) wNone (wI 2)) (aTup [(aName 4), (aName 5)])) (sSeq (sExpr (wMeth 707 639 "add" (wAttr Zo "program" (wV 0)) [(wS "Copy"), (wIf (tCmp oEq (wV 4) (wS "map")) (w2 gItem (wV 5) (wV 2)) (w2 oAdd (wV 5) (wV 2))), (wV 3), (wI 1)])) sNil))
noncomputable def F_529 : Fun := ⟨4, [], ["self", "number", "place", "target", "kind", "held"], W_529⟩
noncomputable def W_536_2 : WS := (sSeq (sIf (tCmp gIn (wAttr U5 "op" (wV 1)) (wTup [(wS "and"), (wS "or")]))
 (sSeq (sExpr (wMeth 707 639 "add" (wAttr Zo "program" (wV 0)) [(wS "Logic"), (wV 3), (wV 4), (wV 2), (wAttr U5 "op" (wV 1))])) sNil)
 (sSeq (sIf (tOf oTr (wCall 479 [(wAttr U5 "op" (wV 1))]))
 (sSeq (sAsg (wCall 430 [(wCall 443 [(wAttr Vv "left" (wV 1))]), (wCall 443 [(wAttr X0 "right" (wV 1))])]) (aName 5)) (sSeq (sAsg (wCall 472 [(wAttr Vv "left" (wV 1)), (wAttr X0 "right" (wV 1))]) (aName 6)) (sSeq (sExpr (wMeth 707 639 "add" (wAttr Zo "program" (wV 0)) [(wS "Compare"), (wV 3), (wV 4), (wV 2), (wTup [(wAttr U5 "op" (wV 1)), (wV 6), (wV 5)])])) sNil)))
 (sSeq (sExpr (wMeth 707 639 "add" (wAttr Zo "program" (wV 0)) [(wS "Arith"), (wV 3), (wV 4), (wV 2), (wAttr U5 "op" (wV 1))])) sNil)) sNil)) sNil)
noncomputable def W_536_1 : WS := (sSeq (sAsg (wMeth 611 508 "expression" (wV 0) [(wAttr X0 "right" (wV 1))]) (aName 4)) W_536_2)
noncomputable def W_536 : WS := (sSeq (sAsg (wMeth 611 508 "expression" (wV 0) [(wAttr Vv "left" (wV 1))]) (aName 3)) W_536_1)
noncomputable def F_536 : Fun := ⟨3, [], ["self", "expr", "target", "left", "right", "affinities", "collation"], W_536⟩
noncomputable def W_543_3 : WS := (sSeq (sExpr (wMeth 707 639 "add" (wAttr Zo "program" (wV 0)) [(wS "Compare"), (wV 3), (wV 6), (wV 5), (wV 8)])) sNil)
noncomputable def W_543_2 : WS := (sSeq (sAsg (wTup [(wV 1), (wCall 472 [(wV 2), (wV 4)]), (wV 7)]) (aName 8)) W_543_3)
noncomputable def W_543_1 : WS := (sSeq (sAsg (wCall 430 [(wCall 443 [(wV 2)]), (wCall 443 [(wV 4)])]) (aName 7)) W_543_2)
noncomputable def W_543 : WS := (sSeq (sAsg (wMeth 611 508 "expression" (wV 0) [(wV 4)]) (aName 6)) W_543_1)
noncomputable def F_543 : Fun := ⟨6, [], ["self", "op", "value", "register", "other", "target", "right", "affinities", "told"], W_543⟩
noncomputable def W_550_6 : WS := (sSeq (sExpr (wMeth 611 557 "negate" (wV 0) [(wV 2), (wAttr Vh "negated" (wV 1))])) sNil)
noncomputable def W_550_5 : WS := (sSeq (sExpr (wMeth 707 639 "add" (wAttr Zo "program" (wV 0)) [(wS "Logic"), (wV 4), (wV 5), (wV 2), (wS "and")])) W_550_6)
noncomputable def W_550_4 : WS := (sSeq (sExpr (wMeth 611 543 "compared" (wV 0) [(wS "<="), (wAttr X7 "value" (wV 1)), (wV 3), (wAttr cs_high "high" (wV 1)), (wV 5)])) W_550_5)
noncomputable def W_550_3 : WS := (sSeq (sExpr (wMeth 611 543 "compared" (wV 0) [(wS ">="), (wAttr X7 "value" (wV 1)), (wV 3), (wAttr cs_low "low" (wV 1)), (wV 4)])) W_550_4)
noncomputable def W_550_2 : WS := (sSeq (sAsg (wMeth 707 668 "register" (wAttr Zo "program" (wV 0)) []) (aName 5)) W_550_3)
noncomputable def W_550_1 : WS := (sSeq (sAsg (wMeth 707 668 "register" (wAttr Zo "program" (wV 0)) []) (aName 4)) W_550_2)
noncomputable def W_550 : WS := (sSeq (sAsg (wMeth 611 508 "expression" (wV 0) [(wAttr X7 "value" (wV 1))]) (aName 3)) W_550_1)
noncomputable def F_550 : Fun := ⟨3, [], ["self", "expr", "target", "value", "low", "high"], W_550⟩
noncomputable def W_557 : WS := (sSeq (sIf (tOf oTr (wV 2))
 (sSeq (sExpr (wMeth 707 639 "add" (wAttr Zo "program" (wV 0)) [(wS "Unary"), (wV 1), (wV 1), (wI 0), (wS "not")])) sNil)
 sNil) sNil)
noncomputable def F_557 : Fun := ⟨3, [], ["self", "target", "negated"], W_557⟩
noncomputable def W_564_5 : WS := (sSeq (sExpr (wMeth 707 660 "place" (wAttr Zo "program" (wV 0)) [(wV 4)])) sNil)
noncomputable def W_564_4 : WS := (sSeq (sExpr (wMeth 707 639 "add" (wAttr Zo "program" (wV 0)) [(wS "Value"), (wI 0), (wV 2), (wI 0), (wIf (tOf oTr (wAttr Vh "negated" (wV 1))) (wI 1) (wI 0))])) W_564_5)
noncomputable def W_564_3 : WS := (sSeq (sExpr (wMeth 707 639 "add" (wAttr Zo "program" (wV 0)) [(wS "IsNull"), (wV 3), (wV 4)])) W_564_4)
noncomputable def W_564_2 : WS := (sSeq (sExpr (wMeth 707 639 "add" (wAttr Zo "program" (wV 0)) [(wS "Value"), (wI 0), (wV 2), (wI 0), (wIf (tOf oTr (wAttr Vh "negated" (wV 1))) (wI 0) (wI 1))])) W_564_3)
noncomputable def W_564_1 : WS := (sSeq (sAsg (wMeth 707 653 "label" (wAttr Zo "program" (wV 0)) []) (aName 4)) W_564_2)
noncomputable def W_564 : WS := (sSeq (sAsg (wMeth 611 508 "expression" (wV 0) [(wAttr X7 "value" (wV 1))]) (aName 3)) W_564_1)
noncomputable def F_564 : Fun := ⟨3, [], ["self", "expr", "target", "value", "end"], W_564⟩
noncomputable def Zcs : WS := (sSeq (sExpr (wMeth 707 660 "place" (wAttr Zo "program" (wV 0)) [(wV 3)])) sNil)
noncomputable def U2 : WS := (sSeq (sIf (tCmp oIsN (wAttr Zcb "other" (wV 1)) wNone)
 (sSeq (sExpr (wMeth 707 639 "add" (wAttr Zo "program" (wV 0)) [(wS "Null"), (wI 0), (wV 2), (wI 1)])) sNil)
 (sSeq (sExpr (wMeth 611 508 "expression" (wV 0) [(wAttr Zcb "other" (wV 1)), (wV 2)])) sNil)) Zcs)
noncomputable def W_571_2 : WS := (sSeq (sFor (wAttr Zew "whens" (wV 1)) (aTup [(aName 5), (aName 6)])
 (sSeq (sAsg (wMeth 707 653 "label" (wAttr Zo "program" (wV 0)) []) (aName 7)) (sSeq (sIf (tCmp oIsN (wV 4) wNone)
 (sSeq (sExpr (wMeth 611 594 "jump_unless" (wV 0) [(wV 5), (wV 7), (wB true)])) sNil)
 (sSeq (sAsg (wMeth 707 668 "register" (wAttr Zo "program" (wV 0)) []) (aName 8)) (sSeq (sExpr (wMeth 611 543 "compared" (wV 0) [(wS "="), (wAttr Zct "base" (wV 1)), (wV 4), (wV 5), (wV 8)])) (sSeq (sExpr (wMeth 707 639 "add" (wAttr Zo "program" (wV 0)) [(wS "IfNot"), (wV 8), (wV 7), (wI 1)])) sNil)))) (sSeq (sExpr (wMeth 611 508 "expression" (wV 0) [(wV 6), (wV 2)])) (sSeq (sExpr (wMeth 707 639 "add" (wAttr Zo "program" (wV 0)) [(wS "Goto"), (wI 0), (wV 3)])) (sSeq (sExpr (wMeth 707 660 "place" (wAttr Zo "program" (wV 0)) [(wV 7)])) sNil)))))) U2)
noncomputable def Zbi : WS := (sSeq (sAsg (wIf (tCmp oIsN (wAttr Zct "base" (wV 1)) wNone) wNone (wMeth 611 508 "expression" (wV 0) [(wAttr Zct "base" (wV 1))])) (aName 4)) W_571_2)
noncomputable def W_571 : WS := (sSeq (sAsg (wMeth 707 653 "label" (wAttr Zo "program" (wV 0)) []) (aName 3)) Zbi)
noncomputable def F_571 : Fun := ⟨3, [], ["self", "expr", "target", "end", "base", "when", "then", "following", "found"], W_571⟩
noncomputable def W_578_10 : WS := (sSeq (sExpr (wMeth 611 557 "negate" (wV 0) [(wV 2), (wAttr Vh "negated" (wV 1))])) sNil)
noncomputable def W_578_9 : WS := (sSeq (sExpr (wMeth 707 660 "place" (wAttr Zo "program" (wV 0)) [(wV 5)])) W_578_10)
noncomputable def W_578_8 : WS := (sSeq (sExpr (wMeth 707 639 "add" (wAttr Zo "program" (wV 0)) [(wS "Value"), (wI 0), (wV 2), (wI 0), (wI 1)])) W_578_9)
noncomputable def W_578_7 : WS := (sSeq (sExpr (wMeth 707 660 "place" (wAttr Zo "program" (wV 0)) [(wV 4)])) W_578_8)
noncomputable def Zev : WS := (sSeq (sExpr (wMeth 707 639 "add" (wAttr Zo "program" (wV 0)) [(wS "Goto"), (wI 0), (wV 5)])) W_578_7)
noncomputable def W_578_5 : WS := (sSeq (sFor (wAttr Zdv "items" (wV 1)) (aName 7)
 (sSeq (sAsg (wMeth 707 653 "label" (wAttr Zo "program" (wV 0)) []) (aName 8)) (sSeq (sAsg (wMeth 611 508 "expression" (wV 0) [(wV 7)]) (aName 9)) (sSeq (sAsg (wMeth 707 668 "register" (wAttr Zo "program" (wV 0)) []) (aName 10)) (sSeq (sExpr (wMeth 707 639 "add" (wAttr Zo "program" (wV 0)) [(wS "Compare"), (wV 3), (wV 9), (wV 10), (wV 6)])) (sSeq (sExpr (wMeth 707 639 "add" (wAttr Zo "program" (wV 0)) [(wS "If"), (wV 10), (wV 4), (wI 0)])) (sSeq (sExpr (wMeth 707 639 "add" (wAttr Zo "program" (wV 0)) [(wS "NotNull"), (wV 10), (wV 8)])) (sSeq (sExpr (wMeth 707 639 "add" (wAttr Zo "program" (wV 0)) [(wS "Null"), (wI 0), (wV 2), (wI 1)])) (sSeq (sExpr (wMeth 707 660 "place" (wAttr Zo "program" (wV 0)) [(wV 8)])) sNil))))))))) Zev)
noncomputable def W_578_4 : WS := (sSeq (sAsg (wTup [(wS "="), (wCall 465 [(wAttr X7 "value" (wV 1))]), (wCall 430 [(wCall 443 [(wAttr X7 "value" (wV 1))]), wNone])]) (aName 6)) W_578_5)
noncomputable def W_578_3 : WS := (sSeq (sExpr (wMeth 707 639 "add" (wAttr Zo "program" (wV 0)) [(wS "Value"), (wI 0), (wV 2), (wI 0), (wI 0)])) W_578_4)
noncomputable def W_578_2 : WS := (sSeq (sAsg (wMeth 707 653 "label" (wAttr Zo "program" (wV 0)) []) (aName 5)) W_578_3)
noncomputable def W_578_1 : WS := (sSeq (sAsg (wMeth 707 653 "label" (wAttr Zo "program" (wV 0)) []) (aName 4)) W_578_2)
noncomputable def W_578 : WS := (sSeq (sAsg (wMeth 611 508 "expression" (wV 0) [(wAttr X7 "value" (wV 1))]) (aName 3)) W_578_1)
noncomputable def F_578 : Fun := ⟨3, [], ["self", "expr", "target", "value", "hit", "end", "told", "item", "following", "register", "found"], W_578⟩
noncomputable def W_586 : WS := (sSeq (sIf (tAnd (tOf oTr (wIsi (gIsi X5 Vd) (wV 1))) (tAnd (tCmp oEq (wAttr U5 "op" (wV 1)) (wS "and")) (tEnd (BoolOp.And == BoolOp.And))))
 (sSeq (sAsg (wMeth 707 653 "label" (wAttr Zo "program" (wV 0)) []) (aName 4)) (sSeq (sExpr (wMeth 611 594 "jump_unless" (wV 0) [(wAttr Vv "left" (wV 1)), (wV 4), (wNot oTr (wV 3))])) (sSeq (sExpr (wMeth 611 586 "jump_if" (wV 0) [(wAttr X0 "right" (wV 1)), (wV 2), (wV 3)])) (sSeq (sExpr (wMeth 707 660 "place" (wAttr Zo "program" (wV 0)) [(wV 4)])) sNil))))
 (sSeq (sIf (tAnd (tOf oTr (wIsi (gIsi X5 Vd) (wV 1))) (tAnd (tCmp oEq (wAttr U5 "op" (wV 1)) (wS "or")) (tEnd (BoolOp.And == BoolOp.And))))
 (sSeq (sExpr (wMeth 611 586 "jump_if" (wV 0) [(wAttr Vv "left" (wV 1)), (wV 2), (wV 3)])) (sSeq (sExpr (wMeth 611 586 "jump_if" (wV 0) [(wAttr X0 "right" (wV 1)), (wV 2), (wV 3)])) sNil))
 (sSeq (sIf (tAnd (tOf oTr (wIsi (gIsi U3 U8) (wV 1))) (tAnd (tCmp oEq (wAttr U5 "op" (wV 1)) (wS "not")) (tEnd (BoolOp.And == BoolOp.And))))
 (sSeq (sExpr (wMeth 611 594 "jump_unless" (wV 0) [(wAttr V7 "operand" (wV 1)), (wV 2), (wV 3)])) sNil)
 (sSeq (sIf (tAnd (tOf oTr (wIsi (gIsi X5 Vd) (wV 1))) (tAnd (tOf oTr (wCall 479 [(wAttr U5 "op" (wV 1))])) (tEnd (BoolOp.And == BoolOp.And))))
 (sSeq (sExpr (wMeth 611 601 "jump_compared" (wV 0) [(wV 1), (wAttr U5 "op" (wV 1)), (wV 2), (wV 3)])) sNil)
 (sSeq (sIf (tOf oTr (wIsi (gIsi Jh Ji) (wV 1)))
 (sSeq (sExpr (wMeth 611 608 "jump_null" (wV 0) [(wV 1), (wAttr Vh "negated" (wV 1)), (wV 2)])) sNil)
 (sSeq (sAsg (wMeth 611 508 "expression" (wV 0) [(wV 1)]) (aName 5)) (sSeq (sExpr (wMeth 707 639 "add" (wAttr Zo "program" (wV 0)) [(wS "If"), (wV 5), (wV 2), (wIf (tOf oTr (wV 3)) (wI 1) (wI 0))])) sNil))) sNil)) sNil)) sNil)) sNil)) sNil)
noncomputable def F_586 : Fun := ⟨4, [.bool false], ["self", "expr", "label", "null_jumps", "past", "value"], W_586⟩
noncomputable def W_594 : WS := (sSeq (sIf (tAnd (tOf oTr (wIsi (gIsi X5 Vd) (wV 1))) (tAnd (tCmp oEq (wAttr U5 "op" (wV 1)) (wS "or")) (tEnd (BoolOp.And == BoolOp.And))))
 (sSeq (sAsg (wMeth 707 653 "label" (wAttr Zo "program" (wV 0)) []) (aName 4)) (sSeq (sExpr (wMeth 611 586 "jump_if" (wV 0) [(wAttr Vv "left" (wV 1)), (wV 4), (wNot oTr (wV 3))])) (sSeq (sExpr (wMeth 611 594 "jump_unless" (wV 0) [(wAttr X0 "right" (wV 1)), (wV 2), (wV 3)])) (sSeq (sExpr (wMeth 707 660 "place" (wAttr Zo "program" (wV 0)) [(wV 4)])) sNil))))
 (sSeq (sIf (tAnd (tOf oTr (wIsi (gIsi X5 Vd) (wV 1))) (tAnd (tCmp oEq (wAttr U5 "op" (wV 1)) (wS "and")) (tEnd (BoolOp.And == BoolOp.And))))
 (sSeq (sExpr (wMeth 611 594 "jump_unless" (wV 0) [(wAttr Vv "left" (wV 1)), (wV 2), (wV 3)])) (sSeq (sExpr (wMeth 611 594 "jump_unless" (wV 0) [(wAttr X0 "right" (wV 1)), (wV 2), (wV 3)])) sNil))
 (sSeq (sIf (tAnd (tOf oTr (wIsi (gIsi U3 U8) (wV 1))) (tAnd (tCmp oEq (wAttr U5 "op" (wV 1)) (wS "not")) (tEnd (BoolOp.And == BoolOp.And))))
 (sSeq (sExpr (wMeth 611 586 "jump_if" (wV 0) [(wAttr V7 "operand" (wV 1)), (wV 2), (wV 3)])) sNil)
 (sSeq (sIf (tAnd (tOf oTr (wIsi (gIsi X5 Vd) (wV 1))) (tAnd (tOf oTr (wCall 479 [(wAttr U5 "op" (wV 1))])) (tEnd (BoolOp.And == BoolOp.And))))
 (sSeq (sExpr (wMeth 611 601 "jump_compared" (wV 0) [(wV 1), (wCall 486 [(wAttr U5 "op" (wV 1))]), (wV 2), (wV 3)])) sNil)
 (sSeq (sIf (tOf oTr (wIsi (gIsi Jh Ji) (wV 1)))
 (sSeq (sExpr (wMeth 611 608 "jump_null" (wV 0) [(wV 1), (wNot oTr (wAttr Vh "negated" (wV 1))), (wV 2)])) sNil)
 (sSeq (sAsg (wMeth 611 508 "expression" (wV 0) [(wV 1)]) (aName 5)) (sSeq (sExpr (wMeth 707 639 "add" (wAttr Zo "program" (wV 0)) [(wS "IfNot"), (wV 5), (wV 2), (wIf (tOf oTr (wV 3)) (wI 1) (wI 0))])) sNil))) sNil)) sNil)) sNil)) sNil)) sNil)
noncomputable def F_594 : Fun := ⟨4, [.bool false], ["self", "expr", "label", "null_jumps", "past", "value"], W_594⟩
noncomputable def W_601_4 : WS := (sSeq (sExpr (wMeth 707 639 "add" (wAttr Zo "program" (wV 0)) [(wS "CompareJump"), (wV 5), (wV 3), (wV 6), (wV 8)])) sNil)
noncomputable def W_601_3 : WS := (sSeq (sAsg (wTup [(wV 2), (wCall 472 [(wAttr Vv "left" (wV 1)), (wAttr X0 "right" (wV 1))]), (wV 7), (wV 4)]) (aName 8)) W_601_4)
noncomputable def W_601_2 : WS := (sSeq (sAsg (wCall 430 [(wCall 443 [(wAttr Vv "left" (wV 1))]), (wCall 443 [(wAttr X0 "right" (wV 1))])]) (aName 7)) W_601_3)
noncomputable def W_601_1 : WS := (sSeq (sAsg (wMeth 611 508 "expression" (wV 0) [(wAttr X0 "right" (wV 1))]) (aName 6)) W_601_2)
noncomputable def W_601 : WS := (sSeq (sAsg (wMeth 611 508 "expression" (wV 0) [(wAttr Vv "left" (wV 1))]) (aName 5)) W_601_1)
noncomputable def F_601 : Fun := ⟨5, [], ["self", "expr", "op", "label", "null_jumps", "left", "right", "affinities", "told"], W_601⟩
noncomputable def W_608 : WS := (sSeq (sAsg (wMeth 611 508 "expression" (wV 0) [(wAttr X7 "value" (wV 1))]) (aName 4)) (sSeq (sExpr (wMeth 707 639 "add" (wAttr Zo "program" (wV 0)) [(wIf (tOf oTr (wV 2)) (wS "NotNull") (wS "IsNull")), (wV 4), (wV 3)])) sNil))
noncomputable def F_608 : Fun := ⟨4, [], ["self", "expr", "negated", "label", "value"], W_608⟩
noncomputable def W_631_7 : WS := (sSeq (sAsg (wNeg (wI 1)) (aAttr 707 "next_label" (wV 0))) sNil)
noncomputable def W_631_6 : WS := (sSeq (sAsg wDic0 (aAttr 707 "labels" (wV 0))) W_631_7)
noncomputable def W_631_5 : WS := (sSeq (sAsg (wB false) (aAttr 707 "writes" (wV 0))) W_631_6)
noncomputable def W_631_4 : WS := (sSeq (sAsg (wI 0) (aAttr 707 "slots" (wV 0))) W_631_5)
noncomputable def W_631_3 : WS := (sSeq (sAsg (wI 0) (aAttr 707 "cursors" (wV 0))) W_631_4)
noncomputable def W_631_2 : WS := (sSeq (sAsg (wI 1) (aAttr 707 "registers" (wV 0))) W_631_3)
noncomputable def W_631_1 : WS := (sSeq (sAsg (wLstM []) (aAttr 707 "columns" (wV 0))) W_631_2)
noncomputable def W_631 : WS := (sSeq (sAsg (wLstM []) (aAttr 707 "ops" (wV 0))) W_631_1)
noncomputable def F_631 : Fun := ⟨1, [], ["self"], W_631⟩
noncomputable def W_639 : WS := (sSeq (sExpr (wBM rList mAppend (wAttr Vp "ops" (wV 0)) [(wLstM [(wV 1), (wV 2), (wV 3), (wV 4), (wV 5)])])) (sSeq (sRet (w2 oSub (wBi bLen [(wAttr Vp "ops" (wV 0))]) (wI 1))) sNil))
noncomputable def F_639 : Fun := ⟨6, [.int 0, .int 0, .int 0, .none], ["self", "name", "p1", "p2", "p3", "p4"], W_639⟩
noncomputable def W_653_2 : WS := (sSeq (sRet (wV 1)) sNil)
noncomputable def W_653_1 : WS := (sSeq (sAsg (w2 oSub (wV 1) (wI 1)) (aAttr 707 "next_label" (wV 0))) W_653_2)
noncomputable def W_653 : WS := (sSeq (sAsg (wAttr Ut "next_label" (wV 0)) (aName 1)) W_653_1)
noncomputable def F_653 : Fun := ⟨1, [], ["self", "label"], W_653⟩
noncomputable def W_660_2 : WS := (sSeq (sAsg (wBi bLen [(wAttr Vp "ops" (wV 0))]) (aSub (wAttr Xi "labels" (wV 0)) (wV 1))) sNil)
noncomputable def W_660_1 : WS := (sSeq (sIf (tCmp gIn (wV 1) (wAttr Xi "labels" (wV 0)))
 (sSeq sNo sNil)
 sNil) W_660_2)
noncomputable def W_660 : WS := (sSeq (sIf (tOr (tCmp oGe (wV 1) (wI 0)) (tOr (tCmp oLe (wV 1) (wAttr Ut "next_label" (wV 0))) (tEnd (BoolOp.Or == BoolOp.And))))
 (sSeq sNo sNil)
 sNil) W_660_1)
noncomputable def F_660 : Fun := ⟨2, [], ["self", "label"], W_660⟩
noncomputable def W_668_2 : WS := (sSeq (sRet (wV 2)) sNil)
noncomputable def W_668_1 : WS := (sSeq (sAsg (w2 oAdd (wV 2) (wV 1)) (aAttr 707 "registers" (wV 0))) W_668_2)
noncomputable def W_668 : WS := (sSeq (sAsg (wAttr Ke "registers" (wV 0)) (aName 2)) W_668_1)
noncomputable def F_668 : Fun := ⟨2, [.int 1], ["self", "many", "first"], W_668⟩
noncomputable def W_704_3 : WS := (sSeq (sRet (wV 0)) sNil)
noncomputable def W_704_2 : WS := (sSeq (sFor (wAttr Vp "ops" (wV 0)) (aName 2)
 (sSeq (sIf (tAnd (tCmp gIn (w2 gItem (wV 2) (wI 0)) (wGlob Ko)) (tAnd (tCmp oLt (w2 gItem (wV 2) (wI 2)) (wI 0)) (tEnd (BoolOp.And == BoolOp.And))))
 (sSeq (sIf (tCmp gNotIn (w2 gItem (wV 2) (wI 2)) (wAttr Xi "labels" (wV 0)))
 (sSeq sNo sNil)
 sNil) (sSeq (sAsg (w2 gItem (wAttr Xi "labels" (wV 0)) (w2 gItem (wV 2) (wI 2))) (aSub (wV 2) (wI 2))) sNil))
 sNil) sNil)) W_704_3)
noncomputable def Zd0 : WS := (sSeq (sFor (wAttr Xi "labels" (wV 0)) (aName 1)
 (sSeq (sIf (tCmp oEq (w2 gItem (wAttr Xi "labels" (wV 0)) (wV 1)) (wBi bLen [(wAttr Vp "ops" (wV 0))]))
 (sSeq (sExpr (wMeth 707 639 "add" (wV 0) [(wS "Halt")])) (sSeq sBrk sNil))
 sNil) sNil)) W_704_2)
noncomputable def W_704 : WS := (sSeq (sIf (tOr (tNot (tOf oTrL (wAttr Vp "ops" (wV 0)))) (tOr (tCmp gNotIn (w2 gItem (w2 gItem (wAttr Vp "ops" (wV 0)) (wNeg (wI 1))) (wI 0)) (wTup [(wS "Halt"), (wS "Goto"), (wS "Return"), (wS "Fail")])) (tEnd (BoolOp.Or == BoolOp.And))))
 (sSeq (sExpr (wMeth 707 639 "add" (wV 0) [(wS "Halt")])) sNil)
 sNil) Zd0)
noncomputable def F_704 : Fun := ⟨1, [], ["self", "label", "op"], W_704⟩
noncomputable def W_718_4 : WS := (sSeq (sRet (wLstM [(w2 oMul (wV 3) (wBi bInt [(wCmp oGe (wV 3) (w2 oPow (wI 10) (wI 18)))])), (wV 4)])) sNil)
noncomputable def W_718_3 : WS := (sSeq (sAsg (w2 oMod (wBi bInt [(w2 oMul (w2 oAdd (w2 oAdd (w2 oAdd (w2 oMod (wBi bInt [(wV 3)]) (wI 2147483629)) (w2 oMul (w2 oMul (wI 7919) (wV 1)) (wV 1))) (w2 oMul (wI 31) (wV 1))) (wI 17)) (wI 48271))]) (wI 2147483647)) (aName 4)) W_718_4)
noncomputable def W_718_2 : WS := (sSeq (sAsg (wBi bMax [(wBi bInt [(wV 2)]), (wBi bInt [(w2 oSub (wNeg (wI 1)) (wV 2))])]) (aName 3)) W_718_3)
noncomputable def W_718_1 : WS := (sSeq (sIf (tCmp oLt (wV 1) (wBi bLen [(wV 0)]))
 (sSeq (sAsg (w2 gItem (wV 0) (wV 1)) (aName 2)) sNil)
 sNil) W_718_2)
noncomputable def W_718 : WS := (sSeq (sAsg (wI 0) (aName 2)) W_718_1)
noncomputable def F_718 : Fun := ⟨2, [], ["script", "k", "cell", "big", "mixed"], W_718⟩
noncomputable def W_725_2 : WS := (sSeq (sRet (w2 oMod (wBi bInt [(w2 oFloor (w2 oMod (wBi bInt [(w2 oMul (w2 gItem (wV 0) (wI 1)) (w2 gItem (wV 0) (wI 1)))]) (wI 2147483629)) (wI 32))]) (wV 1))) sNil)
noncomputable def W_725_1 : WS := (sSeq (sAsg (w2 oMod (wBi bInt [(w2 oAdd (w2 oMul (w2 gItem (wV 0) (wI 1)) (wI 39373)) (wI 7))]) (wI 2147483647)) (aSub (wV 0) (wI 1))) W_725_2)
noncomputable def W_725 : WS := (sSeq (sIf (tCmp oGt (w2 gItem (wV 0) (wI 0)) (wI 0))
 (sSeq (sAsg (w2 oMod (wBi bInt [(w2 gItem (wV 0) (wI 0))]) (wV 1)) (aName 2)) (sSeq (sAsg (w2 oFloor (w2 gItem (wV 0) (wI 0)) (wV 1)) (aSub (wV 0) (wI 0))) (sSeq (sRet (wV 2)) sNil)))
 sNil) W_725_1)
noncomputable def F_725 : Fun := ⟨2, [], ["source", "top", "drawn"], W_725⟩
noncomputable def W_732 : WS := (sSeq (sRet (w2 gItem (wV 1) (wCall 725 [(wV 0), (wBi bLen [(wV 1)])]))) sNil)
noncomputable def F_732 : Fun := ⟨2, [], ["source", "things"], W_732⟩
noncomputable def W_739 : WS := (sSeq (sRet (wCall 732 [(wV 0), (wLst [wNone, wNone, (wI 0), (wI 1), (wI 1), (wI 2), (wI 3), (wNeg (wI 1)), (wS ""), (wS "a"), (wS "2"), (wS "A"), (wS "b")])])) sNil)
noncomputable def F_739 : Fun := ⟨1, [], ["source"], W_739⟩
noncomputable def W_746_12 : WS := (sSeq (sRet (wTup [(wS "case"), (wCall 732 [(wV 0), (wLst [wNone, (wTup [(wS "column"), (wCall 725 [(wV 0), (wI 3)])])])]), (wV 3), (wV 4), (wCall 732 [(wV 0), (wLst [wNone, (wV 5)])])])) sNil)
noncomputable def W_746_11 : WS := (sSeq (sIf (tCmp oEq (wV 2) (wI 12))
 (sSeq (sRet (wTup [(wS "between"), (wV 3), (wV 4), (wV 5), (wCmp oEq (wCall 725 [(wV 0), (wI 2)]) (wI 1))])) sNil)
 sNil) W_746_12)
noncomputable def W_746_10 : WS := (sSeq (sIf (tCmp oEq (wV 2) (wI 11))
 (sSeq (sRet (wTup [(wS "in"), (wV 3), (wSlice (wLst [(wV 4), (wV 5)]) wNone (wCall 725 [(wV 0), (wI 3)])), (wCmp oEq (wCall 725 [(wV 0), (wI 2)]) (wI 1))])) sNil)
 sNil) W_746_11)
noncomputable def W_746_9 : WS := (sSeq (sAsg (wCall 746 [(wV 0), (w2 oSub (wV 1) (wI 1))]) (aName 5)) W_746_10)
noncomputable def W_746_8 : WS := (sSeq (sIf (tCmp oEq (wV 2) (wI 10))
 (sSeq (sRet (wTup [(wS "binary"), (wCall 732 [(wV 0), (wLst [(wS "+"), (wS "*")])]), (wV 3), (wV 4)])) sNil)
 sNil) W_746_9)
noncomputable def W_746_7 : WS := (sSeq (sIf (tCmp oLt (wV 2) (wI 10))
 (sSeq (sRet (wTup [(wS "binary"), (wCall 732 [(wV 0), (wLst [(wS "and"), (wS "or")])]), (wV 3), (wV 4)])) sNil)
 sNil) W_746_8)
noncomputable def W_746_6 : WS := (sSeq (sIf (tCmp oLt (wV 2) (wI 7))
 (sSeq (sRet (wTup [(wS "binary"), (wCall 732 [(wV 0), (wLst [(wS "="), (wS "<>"), (wS "<"), (wS "<="), (wS ">"), (wS ">="), (wS "is"), (wS "is not")])]), (wV 3), (wV 4)])) sNil)
 sNil) W_746_7)
noncomputable def W_746_5 : WS := (sSeq (sAsg (wCall 746 [(wV 0), (w2 oSub (wV 1) (wI 1))]) (aName 4)) W_746_6)
noncomputable def W_746_4 : WS := (sSeq (sIf (tCmp oEq (wV 2) (wI 3))
 (sSeq (sRet (wTup [(wS "null"), (wV 3), (wCmp oEq (wCall 725 [(wV 0), (wI 2)]) (wI 1))])) sNil)
 sNil) W_746_5)
noncomputable def W_746_3 : WS := (sSeq (sIf (tCmp oEq (wV 2) (wI 2))
 (sSeq (sRet (wTup [(wS "unary"), (wCall 732 [(wV 0), (wLst [(wS "not"), (wS "not"), (wS "-")])]), (wV 3)])) sNil)
 sNil) W_746_4)
noncomputable def W_746_2 : WS := (sSeq (sAsg (wCall 746 [(wV 0), (w2 oSub (wV 1) (wI 1))]) (aName 3)) W_746_3)
noncomputable def W_746_1 : WS := (sSeq (sIf (tOr (tCmp oEq (wV 1) (wI 0)) (tOr (tCmp oLt (wV 2) (wI 2)) (tEnd (BoolOp.Or == BoolOp.And))))
 (sSeq (sRet (wCall 732 [(wV 0), (wLst [(wTup [(wS "column"), (wI 0)]), (wTup [(wS "column"), (wI 1)]), (wTup [(wS "column"), (wI 2)]), (wTup [(wS "column"), (wNeg (wI 1))]), (wTup [(wS "value"), (wCall 739 [(wV 0)])])])])) sNil)
 sNil) W_746_2)
noncomputable def W_746 : WS := (sSeq (sAsg (wCall 725 [(wV 0), (wI 14)]) (aName 2)) W_746_1)
noncomputable def F_746 : Fun := ⟨2, [], ["source", "deep", "way", "one", "two", "three"], W_746⟩
noncomputable def W_751_9 : WS := (sSeq (sRet (wFrz (wNew 328 320 [(w2 gItem (wV 4) (wI 0)), (wLst [(wTup [(w2 gItem (wV 4) (wI 1)), (w2 gItem (wV 4) (wI 2))])]), (w2 gItem (wV 4) (wI 3))]))) sNil)
noncomputable def W_751_8 : WS := (sSeq (sComp (wSlice (wV 0) (wI 1) wNone) [1] (tEnd true) (wIf (tCmp oIsN (wV 0) wNone) wNone (wCall 751 [(wV 0), (wV 1)])) 4) W_751_9)
noncomputable def W_751_7 : WS := (sSeq (sIf (tCmp oEq (wV 2) (wS "between"))
 (sSeq (sComp (wSlice (wV 0) (wI 1) (wI 4)) [1] (tEnd true) (wCall 751 [(wV 0), (wV 1)]) 4) (sSeq (sRet (wFrz (wNew 252 242 [(w2 gItem (wV 4) (wI 0)), (w2 gItem (wV 4) (wI 1)), (w2 gItem (wV 4) (wI 2)), (w2 gItem (wV 0) (wI 4))]))) sNil))
 sNil) W_751_8)
noncomputable def W_751_6 : WS := (sSeq (sIf (tCmp oEq (wV 2) (wS "in"))
 (sSeq (sRet (wFrz (wNew 278 268 [(wCall 751 [(w2 gItem (wV 0) (wI 1)), (wV 1)]), (wComp (w2 gItem (wV 0) (wI 2)) [1] (tEnd true) (wCall 751 [(wV 0), (wV 1)])), (w2 gItem (wV 0) (wI 3))]))) sNil)
 sNil) W_751_7)
noncomputable def W_751_5 : WS := (sSeq (sIf (tCmp oEq (wV 2) (wS "binary"))
 (sSeq (sRet (wFrz (wNew 226 216 [(w2 gItem (wV 0) (wI 1)), (wCall 751 [(w2 gItem (wV 0) (wI 2)), (wV 1)]), (wCall 751 [(w2 gItem (wV 0) (wI 3)), (wV 1)])]))) sNil)
 sNil) W_751_6)
noncomputable def W_751_4 : WS := (sSeq (sIf (tCmp oEq (wV 2) (wS "null"))
 (sSeq (sRet (wFrz (wNew 406 396 [(wCall 751 [(w2 gItem (wV 0) (wI 1)), (wV 1)]), (w2 gItem (wV 0) (wI 2))]))) sNil)
 sNil) W_751_5)
noncomputable def W_751_3 : WS := (sSeq (sIf (tCmp oEq (wV 2) (wS "unary"))
 (sSeq (sRet (wFrz (wNew 200 190 [(w2 gItem (wV 0) (wI 1)), (wCall 751 [(w2 gItem (wV 0) (wI 2)), (wV 1)])]))) sNil)
 sNil) W_751_4)
noncomputable def W_751_2 : WS := (sSeq (sIf (tCmp oEq (wV 2) (wS "value"))
 (sSeq (sRet (wFrz (wNew 122 112 [(w2 gItem (wV 0) (wI 1))]))) sNil)
 sNil) W_751_3)
noncomputable def W_751_1 : WS := (sSeq (sIf (tCmp oEq (wV 2) (wS "column"))
 (sSeq (sAsg (wNew 148 138 [wNone, (wS "c")]) (aName 3)) (sSeq (sAsg (wTup [(wI 4), (w2 gItem (wV 0) (wI 1))]) (aTup [(aAttr 148 "source" (wV 3)), (aAttr 148 "place" (wV 3))])) (sSeq (sAsg (w2 gItem (wLst [(wS "integer"), (wS "text"), (wS "blob"), (wS "integer")]) (w2 gItem (wV 0) (wI 1))) (aAttr 148 "affinity" (wV 3))) (sSeq (sAsg (wIf (tCmp oEq (w2 gItem (wV 0) (wI 1)) (wI 1)) (wV 1) (wS "binary")) (aAttr 148 "collation" (wV 3))) (sSeq (sRet (wFrz (wV 3))) sNil)))))
 sNil) W_751_2)
noncomputable def W_751 : WS := (sSeq (sAsg (w2 gItem (wV 0) (wI 0)) (aName 2)) W_751_1)
noncomputable def F_751 : Fun := ⟨2, [], ["tree", "collation", "word", "found", "parts"], W_751⟩
noncomputable def W_758 : WS := (sSeq (sIf (tOr (tCmp oIsN (wV 0) wNone) (tOr (tOf oTr (wIsi gIsiInt (wV 0))) (tEnd (BoolOp.Or == BoolOp.And))))
 (sSeq (sRet (wV 0)) sNil)
 sNil) (sSeq (sRet (wIf (tCmp gIn (wV 0) (wLst [(wS "2")])) (wBi bInt [(wV 0)]) (wI 0))) sNil))
noncomputable def F_758 : Fun := ⟨1, [], ["value"], W_758⟩
noncomputable def W_765 : WS := (sSeq (sAsg (wCall 758 [(wV 0)]) (aName 1)) (sSeq (sRet (wIf (tCmp oIsN (wV 1) wNone) wNone (wBi bInt [(wCmp oNe (wV 1) (wI 0))]))) sNil))
noncomputable def F_765 : Fun := ⟨1, [], ["value", "number"], W_765⟩
noncomputable def W_772_2 : WS := (sSeq (sRet (wTup [(wI 2), (wI 0), (wIf (tCmp oEq (wV 1) (wS "nocase")) (wBM rStr mLower (wV 0) []) (wV 0))])) sNil)
noncomputable def W_772_1 : WS := (sSeq (sIf (tOf oTr (wIsi gIsiInt (wV 0)))
 (sSeq (sRet (wTup [(wI 1), (wV 0), (wS "")])) sNil)
 sNil) W_772_2)
noncomputable def W_772 : WS := (sSeq (sIf (tCmp oIsN (wV 0) wNone)
 (sSeq (sRet (wTup [(wI 0), (wI 0), (wS "")])) sNil)
 sNil) W_772_1)
noncomputable def F_772 : Fun := ⟨2, [], ["value", "collation"], W_772⟩
noncomputable def W_779_5 : WS := (sSeq (sRet (wBi bInt [(wCmp gIn (wV 6) (w2 gItem (wV 7) (wV 0)))])) sNil)
noncomputable def W_779_4 : WS := (sSeq (sAsg (wDicS [((wS "="), (wLst [(wI 0)])), ((wS "<>"), (wLst [(wNeg (wI 1)), (wI 1)])), ((wS "<"), (wLst [(wNeg (wI 1))])), ((wS "<="), (wLst [(wNeg (wI 1)), (wI 0)])), ((wS ">"), (wLst [(wI 1)])), ((wS ">="), (wLst [(wI 0), (wI 1)]))]) (aName 7)) W_779_5)
noncomputable def W_779_3 : WS := (sSeq (sAsg (w2 oSub (wBi bInt [(wCmp oGt3 (wV 4) (wV 5))]) (wBi bInt [(wCmp oLt3 (wV 4) (wV 5))])) (aName 6)) W_779_4)
noncomputable def W_779_2 : WS := (sSeq (sSwap (wTup [(wCall 772 [(wV 1), (wV 3)]), (wCall 772 [(wV 2), (wV 3)])]) [4, 5]) W_779_3)
noncomputable def W_779_1 : WS := (sSeq (sIf (tOr (tCmp oIsN (wV 1) wNone) (tOr (tCmp oIsN (wV 2) wNone) (tEnd (BoolOp.Or == BoolOp.And))))
 (sSeq (sRet wNone) sNil)
 sNil) W_779_2)
noncomputable def W_779 : WS := (sSeq (sIf (tCmp gIn (wV 0) (wLst [(wS "is"), (wS "is not")]))
 (sSeq (sRet (wBi bInt [(wCmp oEq (wCmp oEq (wCall 772 [(wV 1), (wV 3)]) (wCall 772 [(wV 2), (wV 3)])) (wCmp oEq (wV 0) (wS "is")))])) sNil)
 sNil) W_779_1)
noncomputable def F_779 : Fun := ⟨4, [], ["op", "one", "two", "collation", "first", "second", "order", "right"], W_779⟩
noncomputable def W_786 : WS := (sSeq (sIf (tCmp gIn (wV 1) (wLst [(wS "integer"), (wS "numeric")]))
 (sSeq (sRet (wIf (tCmp oEq (wV 0) (wS "2")) (wI 2) (wV 0))) sNil)
 sNil) (sSeq (sRet (wIf (tAnd (tCmp oEq (wV 1) (wS "text")) (tAnd (tOf oTr (wIsi gIsiInt (wV 0))) (tEnd (BoolOp.And == BoolOp.And)))) (wBi bStr [(wV 0)]) (wV 0))) sNil))
noncomputable def F_786 : Fun := ⟨2, [], ["value", "affinity"], W_786⟩
noncomputable def W_793 : WS := (sSeq (sRet (wIf (tCmp oEq (w2 gItem (wV 0) (wI 0)) (wS "column")) (w2 gItem (wLst [(wS "integer"), (wS "text"), (wS "blob"), (wS "integer")]) (w2 gItem (wV 0) (wI 1))) wNone)) sNil)
noncomputable def F_793 : Fun := ⟨1, [], ["tree"], W_793⟩
noncomputable def W_798_4 : WS := (sSeq (sRet (wCall 779 [(wV 0), (wV 6), (wV 7), (wIf (tAnd (tCmp oNe (wV 8) (wLst [])) (tAnd (tCmp oEq (w2 gItem (wV 8) (wI 0)) (wI 1)) (tEnd (BoolOp.And == BoolOp.And)))) (wV 3) (wS "binary"))])) sNil)
noncomputable def Zek : WS := (sSeq (sComp (wV 1) [] (tAnd (tCmp oNotN (wV 0) wNone) (tAnd (tCmp oNotN (wCall 805 [(wV 0)]) wNone) (tEnd (BoolOp.And == BoolOp.And)))) (wCall 805 [(wV 0)]) 8) W_798_4)
noncomputable def W_798_2 : WS := (sSeq (sIf (tAnd (tCmp oEq (wV 4) (wS "integer")) (tAnd (tCmp oNe (wV 5) (wS "integer")) (tEnd (BoolOp.And == BoolOp.And))))
 (sSeq (sAsg (wCall 786 [(wV 7), (wS "integer")]) (aName 7)) sNil)
 (sSeq (sIf (tAnd (tCmp oEq (wV 5) (wS "integer")) (tAnd (tCmp oNe (wV 4) (wS "integer")) (tEnd (BoolOp.And == BoolOp.And))))
 (sSeq (sAsg (wCall 786 [(wV 6), (wS "integer")]) (aName 6)) sNil)
 (sSeq (sIf (tAnd (tCmp oEq (wV 4) (wS "text")) (tAnd (tCmp oIsN (wV 5) wNone) (tEnd (BoolOp.And == BoolOp.And))))
 (sSeq (sAsg (wCall 786 [(wV 7), (wS "text")]) (aName 7)) sNil)
 (sSeq (sIf (tAnd (tCmp oEq (wV 5) (wS "text")) (tAnd (tCmp oIsN (wV 4) wNone) (tEnd (BoolOp.And == BoolOp.And))))
 (sSeq (sAsg (wCall 786 [(wV 6), (wS "text")]) (aName 6)) sNil)
 sNil) sNil)) sNil)) sNil)) Zek)
noncomputable def W_798_1 : WS := (sSeq (sAsg (wV 2) (aTup [(aName 6), (aName 7)])) W_798_2)
noncomputable def W_798 : WS := (sSeq (sSwap (wTup [(wCall 793 [(w2 gItem (wV 1) (wI 0))]), (wIf (tCmp oIsN (w2 gItem (wV 1) (wI 1)) wNone) wNone (wCall 793 [(w2 gItem (wV 1) (wI 1))]))]) [4, 5]) W_798_1)
noncomputable def F_798 : Fun := ⟨4, [], ["op", "trees", "values", "collation", "left", "right", "one", "two", "named"], W_798⟩
noncomputable def W_805 : WS := (sSeq (sRet (wIf (tCmp oEq (w2 gItem (wV 0) (wI 0)) (wS "column")) (w2 gItem (wV 0) (wI 1)) wNone)) sNil)
noncomputable def F_805 : Fun := ⟨1, [], ["tree"], W_805⟩
noncomputable def W_812_2 : WS := (sSeq (sRet (wIf (tOr (tCmp oIsN (wV 1) wNone) (tOr (tCmp oIsN (wV 2) wNone) (tEnd (BoolOp.Or == BoolOp.And)))) wNone (w2 oSub (wI 1) (wV 3)))) sNil)
noncomputable def W_812_1 : WS := (sSeq (sIf (tOr (tCmp oEq (wV 1) (wV 3)) (tOr (tCmp oEq (wV 2) (wV 3)) (tEnd (BoolOp.Or == BoolOp.And))))
 (sSeq (sRet (wV 3)) sNil)
 sNil) W_812_2)
noncomputable def W_812 : WS := (sSeq (sAsg (wIf (tCmp oEq (wV 0) (wS "and")) (wI 0) (wI 1)) (aName 3)) W_812_1)
noncomputable def F_812 : Fun := ⟨3, [], ["op", "one", "two", "telling"], W_812⟩
noncomputable def W_819 : WS := (sSeq (sIf (tOr (tNot (tOf oTr (wV 1))) (tOr (tCmp oIsN (wV 0) wNone) (tEnd (BoolOp.Or == BoolOp.And))))
 (sSeq (sRet (wV 0)) sNil)
 sNil) (sSeq (sRet (w2 oSub (wI 1) (wV 0))) sNil))
noncomputable def F_819 : Fun := ⟨2, [], ["truth", "negated"], W_819⟩
noncomputable def W_824_12 : WS := (sSeq (sRet (wIf (tCmp oIsN (w2 gItem (wV 0) (wI 4)) wNone) wNone (wCall 824 [(w2 gItem (wV 0) (wI 4)), (wV 1), (wV 2)]))) sNil)
noncomputable def Zdx : WS := (sSeq (sIf (tCmp oEq (wV 12) (wI 1))
 (sSeq (sRet (wCall 824 [(w2 gItem (wV 0) (wI 3)), (wV 1), (wV 2)])) sNil)
 sNil) W_824_12)
noncomputable def W_824_10 : WS := (sSeq (sAsg (wIf (tCmp oIsN (w2 gItem (wV 0) (wI 1)) wNone) (wCall 765 [(wV 11)]) (wCall 798 [(wS "="), (wTup [(w2 gItem (wV 0) (wI 1)), (w2 gItem (wV 0) (wI 2))]), (wTup [(wV 4), (wV 11)]), (wV 2)])) (aName 12)) Zdx)
noncomputable def W_824_9 : WS := (sSeq (sAsg (wCall 824 [(w2 gItem (wV 0) (wI 2)), (wV 1), (wV 2)]) (aName 11)) W_824_10)
noncomputable def W_824_8 : WS := (sSeq (sIf (tCmp oEq (wV 3) (wS "between"))
 (sSeq (sAsg (wLst [(wCall 824 [(w2 gItem (wV 0) (wI 2)), (wV 1), (wV 2)]), (wCall 824 [(w2 gItem (wV 0) (wI 3)), (wV 1), (wV 2)])]) (aName 8)) (sSeq (sAsg (wCall 798 [(wS ">="), (wTup [(w2 gItem (wV 0) (wI 1)), (w2 gItem (wV 0) (wI 2))]), (wTup [(wV 4), (w2 gItem (wV 8) (wI 0))]), (wV 2)]) (aName 9)) (sSeq (sAsg (wCall 798 [(wS "<="), (wTup [(w2 gItem (wV 0) (wI 1)), (w2 gItem (wV 0) (wI 3))]), (wTup [(wV 4), (w2 gItem (wV 8) (wI 1))]), (wV 2)]) (aName 10)) (sSeq (sRet (wCall 819 [(wCall 812 [(wS "and"), (wV 9), (wV 10)]), (w2 gItem (wV 0) (wI 4))])) sNil))))
 sNil) W_824_9)
noncomputable def W_824_7 : WS := (sSeq (sIf (tCmp oEq (wV 3) (wS "in"))
 (sSeq (sComp (w2 gItem (wV 0) (wI 2)) [2, 4, 1, 0] (tEnd true) (wCall 798 [(wS "="), (wTup [(w2 gItem (wV 4) (wI 1)), wNone]), (wTup [(wV 2), (wCall 824 [(wV 0), (wV 3), (wV 1)])]), (wV 1)]) 6) (sSeq (sAsg (wIf (tCmp gIn (wI 1) (wV 6)) (wI 1) (wIf (tCmp gIn wNone (wV 6)) wNone (wI 0))) (aName 7)) (sSeq (sRet (wCall 819 [(wV 7), (w2 gItem (wV 0) (wI 3))])) sNil)))
 sNil) W_824_8)
noncomputable def W_824_6 : WS := (sSeq (sAsg (wIf (tCmp oNotN (w2 gItem (wV 0) (wI 1)) wNone) (wCall 824 [(w2 gItem (wV 0) (wI 1)), (wV 1), (wV 2)]) wNone) (aName 4)) W_824_7)
noncomputable def W_824_5 : WS := (sSeq (sIf (tCmp oEq (wV 3) (wS "binary"))
 (sSeq (sAsg (wTup [(wCall 824 [(w2 gItem (wV 0) (wI 2)), (wV 1), (wV 2)]), (wCall 824 [(w2 gItem (wV 0) (wI 3)), (wV 1), (wV 2)])]) (aTup [(aName 4), (aName 5)])) (sSeq (sRet (wCall 831 [(w2 gItem (wV 0) (wI 1)), (wSlice (wV 0) (wI 2) wNone), (wTup [(wV 4), (wV 5)]), (wV 2)])) sNil))
 sNil) W_824_6)
noncomputable def W_824_4 : WS := (sSeq (sIf (tCmp oEq (wV 3) (wS "unary"))
 (sSeq (sAsg (wCall 824 [(w2 gItem (wV 0) (wI 2)), (wV 1), (wV 2)]) (aName 4)) (sSeq (sIf (tCmp oEq (w2 gItem (wV 0) (wI 1)) (wS "not"))
 (sSeq (sRet (wCall 819 [(wCall 765 [(wV 4)]), (wB true)])) sNil)
 sNil) (sSeq (sRet (wIf (tCmp oIsN (wV 4) wNone) wNone (w2 oSub (wI 0) (wCall 758 [(wV 4)])))) sNil)))
 sNil) W_824_5)
noncomputable def W_824_3 : WS := (sSeq (sIf (tCmp oEq (wV 3) (wS "null"))
 (sSeq (sRet (wBi bInt [(wCmp oNe (wCmp oIsN (wCall 824 [(w2 gItem (wV 0) (wI 1)), (wV 1), (wV 2)]) wNone) (w2 gItem (wV 0) (wI 2)))])) sNil)
 sNil) W_824_4)
noncomputable def W_824_2 : WS := (sSeq (sIf (tCmp oEq (wV 3) (wS "value"))
 (sSeq (sRet (w2 gItem (wV 0) (wI 1))) sNil)
 sNil) W_824_3)
noncomputable def W_824_1 : WS := (sSeq (sIf (tCmp oEq (wV 3) (wS "column"))
 (sSeq (sRet (w2 gItem (wV 1) (w2 gItem (wV 0) (wI 1)))) sNil)
 sNil) W_824_2)
noncomputable def W_824 : WS := (sSeq (sAsg (w2 gItem (wV 0) (wI 0)) (aName 3)) W_824_1)
noncomputable def F_824 : Fun := ⟨3, [], ["tree", "row", "collation", "word", "one", "two", "some", "truth", "ends", "low", "high", "when", "right"], W_824⟩
noncomputable def W_831_2 : WS := (sSeq (sRet (wCall 798 [(wV 0), (wV 1), (wV 2), (wV 3)])) sNil)
noncomputable def W_831_1 : WS := (sSeq (sIf (tCmp gIn (wV 0) (wLst [(wS "+"), (wS "*")]))
 (sSeq (sSwap (wTup [(wCall 758 [(w2 gItem (wV 2) (wI 0))]), (wCall 758 [(w2 gItem (wV 2) (wI 1))])]) [4, 5]) (sSeq (sIf (tOr (tCmp oIsN (wV 4) wNone) (tOr (tCmp oIsN (wV 5) wNone) (tEnd (BoolOp.Or == BoolOp.And))))
 (sSeq (sRet wNone) sNil)
 sNil) (sSeq (sRet (wIf (tCmp oEq (wV 0) (wS "+")) (w2 oAdd (wV 4) (wV 5)) (w2 oMul (wV 4) (wV 5)))) sNil)))
 sNil) W_831_2)
noncomputable def W_831 : WS := (sSeq (sIf (tCmp gIn (wV 0) (wLst [(wS "and"), (wS "or")]))
 (sSeq (sRet (wCall 812 [(wV 0), (wCall 765 [(w2 gItem (wV 2) (wI 0))]), (wCall 765 [(w2 gItem (wV 2) (wI 1))])])) sNil)
 sNil) W_831_1)
noncomputable def F_831 : Fun := ⟨4, [], ["op", "trees", "values", "collation", "one", "two"], W_831⟩
noncomputable def W_838_3 : WS := (sSeq (sRet (wCall 779 [(w2 gItem (wV 6) (wI 0)), (wV 8), (wV 9), (w2 gItem (wV 6) (wI 1))])) sNil)
noncomputable def W_838_2 : WS := (sSeq (sSwap (wTup [(wCall 786 [(wBM rDict mGet (wV 0) [(wV 3)]), (w2 gItem (w2 gItem (wV 6) (wI 2)) (wI 0))]), (wCall 786 [(wBM rDict mGet (wV 0) [(wV 7)]), (w2 gItem (w2 gItem (wV 6) (wI 2)) (wI 1))])]) [8, 9]) W_838_3)
noncomputable def W_838_1 : WS := (sSeq (sAsg (wIf (tCmp oEq (wV 2) (wS "Compare")) (wV 4) (wV 5)) (aName 7)) W_838_2)
noncomputable def W_838 : WS := (sSeq (sAsg (wV 1) (aTup [(aName 2), (aName 3), (aName 4), (aName 5), (aName 6)])) W_838_1)
noncomputable def F_838 : Fun := ⟨2, [], ["held", "op", "name", "p1", "p2", "p3", "p4", "other", "one", "two"], W_838⟩
noncomputable def W_845_6 : WS := (sSeq (sRet (wIf (tCmp oIsN (wV 8) wNone) (wBi bBool [(wV 5)]) (wCmp oEq (wV 8) (wBi bInt [(wCmp oEq (wV 2) (wS "If"))])))) sNil)
noncomputable def W_845_5 : WS := (sSeq (sAsg (wCall 765 [(wV 7)]) (aName 8)) W_845_6)
noncomputable def W_845_4 : WS := (sSeq (sIf (tCmp oEq (wV 2) (wS "CompareJump"))
 (sSeq (sAsg (wCall 838 [(wV 0), (wV 1)]) (aName 8)) (sSeq (sRet (wIf (tCmp oIsN (wV 8) wNone) (wBi bBool [(w2 gItem (wV 6) (wI 3))]) (wCmp oEq (wV 8) (wI 1)))) sNil))
 sNil) W_845_5)
noncomputable def W_845_3 : WS := (sSeq (sIf (tCmp gIn (wV 2) (wLst [(wS "IsNull"), (wS "NotNull")]))
 (sSeq (sRet (wCmp oEq (wCmp oIsN (wV 7) wNone) (wCmp oEq (wV 2) (wS "IsNull")))) sNil)
 sNil) W_845_4)
noncomputable def W_845_2 : WS := (sSeq (sIf (tCmp oEq (wV 2) (wS "Goto"))
 (sSeq (sRet (wB true)) sNil)
 sNil) W_845_3)
noncomputable def W_845_1 : WS := (sSeq (sAsg (wBM rDict mGet (wV 0) [(wV 3)]) (aName 7)) W_845_2)
noncomputable def W_845 : WS := (sSeq (sAsg (wV 1) (aTup [(aName 2), (aName 3), (aName 4), (aName 5), (aName 6)])) W_845_1)
noncomputable def F_845 : Fun := ⟨2, [], ["held", "op", "name", "p1", "p2", "p3", "p4", "value", "truth"], W_845⟩
noncomputable def W_852_2 : WS := (sSeq (sRet (wB false)) sNil)
noncomputable def W_852_1 : WS := (sSeq (sRange 2000 (aName 3) (sSeq (sIf (tOr (tCmp oGe (wV 2) (wBi bLen [(wV 0)])) (tOr (tCmp oEq (w2 gItem (w2 gItem (wV 0) (wV 2)) (wI 0)) (wS "Halt")) (tEnd (BoolOp.Or == BoolOp.And))))
 (sSeq (sRet (wB true)) sNil)
 sNil) (sSeq (sAsg (w2 gItem (wV 0) (wV 2)) (aTup [(aName 4), (aName 5), (aName 6), (aName 7), (aName 8)])) (sSeq (sAsg (w2 oAdd (wV 2) (wI 1)) (aName 2)) (sSeq (sIf (tCmp oEq (wV 4) (wS "Value"))
 (sSeq (sAsg (wV 8) (aSub (wV 1) (wV 6))) sNil)
 (sSeq (sIf (tCmp oEq (wV 4) (wS "Null"))
 (sSeq (sAsg wNone (aSub (wV 1) (wV 6))) sNil)
 (sSeq (sIf (tCmp oEq (wV 4) (wS "Copy"))
 (sSeq (sAsg (wBM rDict mGet (wV 1) [(wV 5)]) (aSub (wV 1) (wV 6))) sNil)
 (sSeq (sIf (tCmp oEq (wV 4) (wS "Unary"))
 (sSeq (sAsg (wBM rDict mGet (wV 1) [(wV 5)]) (aName 9)) (sSeq (sAsg (wIf (tCmp oIsN (wV 9) wNone) wNone (w2 oSub (wI 0) (wCall 758 [(wV 9)]))) (aName 10)) (sSeq (sAsg (wIf (tCmp oEq (wV 8) (wS "not")) (wCall 819 [(wCall 765 [(wV 9)]), (wB true)]) (wV 10)) (aSub (wV 1) (wV 6))) sNil)))
 (sSeq (sIf (tCmp oEq (wV 4) (wS "Compare"))
 (sSeq (sAsg (wCall 838 [(wV 1), (w2 gItem (wV 0) (w2 oSub (wV 2) (wI 1)))]) (aSub (wV 1) (wV 7))) sNil)
 (sSeq (sIf (tCmp gIn (wV 4) (wLst [(wS "Logic"), (wS "Arith")]))
 (sSeq (sAsg (wCall 831 [(wV 8), wNone, (wTup [(wBM rDict mGet (wV 1) [(wV 5)]), (wBM rDict mGet (wV 1) [(wV 6)])]), (wS "binary")]) (aSub (wV 1) (wV 7))) sNil)
 (sSeq (sIf (tCmp gNotIn (wV 4) (wLst [(wS "Goto"), (wS "IsNull"), (wS "NotNull"), (wS "CompareJump"), (wS "If"), (wS "IfNot")]))
 (sSeq (sRet (wB false)) sNil)
 (sSeq (sIf (tOf oTr (wCall 845 [(wV 1), (w2 gItem (wV 0) (w2 oSub (wV 2) (wI 1)))]))
 (sSeq (sAsg (wV 6) (aName 2)) sNil)
 sNil) sNil)) sNil)) sNil)) sNil)) sNil)) sNil)) sNil)) sNil))))) W_852_2)
noncomputable def W_852 : WS := (sSeq (sAsg (wI 0) (aName 2)) W_852_1)
noncomputable def F_852 : Fun := ⟨2, [], ["ops", "held", "at", "turn", "name", "p1", "p2", "p3", "p4", "one", "known"], W_852⟩
noncomputable def Zd2 : WS := (sSeq (sRet (wLst [(wV 4), (wDicM [((wV 3), (w2 gItem (wV 0) (wI 3))), ((w2 oAdd (wV 3) (wI 1)), (w2 gItem (wV 0) (wI 0))), ((w2 oAdd (wV 3) (wI 2)), (w2 gItem (wV 0) (wI 1))), ((w2 oAdd (wV 3) (wI 3)), (w2 gItem (wV 0) (wI 2)))])])) sNil)
noncomputable def W_859_4 : WS := (sSeq (sIf (tOf oTr (wV 1))
 (sSeq (sAsg (wTup [(wS "map"), (wDicZ [((wNeg (wI 1)), (wV 3)), ((wI 0), (w2 oAdd (wV 3) (wI 1))), ((wI 1), (w2 oAdd (wV 3) (wI 2))), ((wI 2), (w2 oAdd (wV 3) (wI 3)))])]) (aSub (wAttr Ve "bindings" (wV 4)) (wI 4))) sNil)
 sNil) Zd2)
noncomputable def W_859_3 : WS := (sSeq (sAsg (wTup [(wS "registers"), (w2 oAdd (wV 3) (wI 1))]) (aSub (wAttr Ve "bindings" (wV 4)) (wI 4))) W_859_4)
noncomputable def W_859_2 : WS := (sSeq (sAsg (wNew 611 500 [(wV 2)]) (aName 4)) W_859_3)
noncomputable def W_859_1 : WS := (sSeq (sAsg (wMeth 707 668 "register" (wV 2) [(wI 4)]) (aName 3)) W_859_2)
noncomputable def W_859 : WS := (sSeq (sAsg (wNew 707 631 []) (aName 2)) W_859_1)
noncomputable def F_859 : Fun := ⟨2, [], ["row", "is_map", "program", "base", "coder"], W_859⟩
noncomputable def Zd3 : WS := (sSeq (sRet (wAnd oTr (wCall 852 [(wAttr Vp "ops" (wV 7)), (wV 6)]) (wCmp oEq (w2 gItem (wV 6) (wV 10)) (wV 12)))) sNil)
noncomputable def W_866_11 : WS := (sSeq (sAsg (wIf (tCmp oIsN (wV 11) wNone) (wBi bInt [(wV 4)]) (wBi bInt [(wCmp oEq (wV 11) (w2 oSub (wI 1) (wV 3)))])) (aName 12)) Zd3)
noncomputable def W_866_10 : WS := (sSeq (sAsg (wCall 765 [(wCall 824 [(wV 0), (wV 1), (wV 2)])]) (aName 11)) W_866_11)
noncomputable def W_866_9 : WS := (sSeq (sExpr (wMeth 707 704 "finish" (wV 7) [])) W_866_10)
noncomputable def W_866_8 : WS := (sSeq (sExpr (wMeth 707 660 "place" (wV 7) [(wV 9)])) W_866_9)
noncomputable def W_866_7 : WS := (sSeq (sExpr (wMeth 707 639 "add" (wV 7) [(wS "Value"), (wI 0), (wV 10), (wI 0), (wI 1)])) W_866_8)
noncomputable def W_866_6 : WS := (sSeq (sExpr (wMeth 707 660 "place" (wV 7) [(wV 8)])) W_866_7)
noncomputable def W_866_5 : WS := (sSeq (sExpr (wMeth 707 639 "add" (wV 7) [(wS "Goto"), (wI 0), (wV 9)])) W_866_6)
noncomputable def W_866_4 : WS := (sSeq (sExpr (wMeth 707 639 "add" (wV 7) [(wS "Value"), (wI 0), (wV 10), (wI 0), (wI 0)])) W_866_5)
noncomputable def W_866_3 : WS := (sSeq (sIf (tCmp oEq (wV 3) (wI 0))
 (sSeq (sExpr (wMeth 611 586 "jump_if" (wV 5) [(wCall 751 [(wV 0), (wV 2)]), (wV 8), (wV 4)])) sNil)
 (sSeq (sExpr (wMeth 611 594 "jump_unless" (wV 5) [(wCall 751 [(wV 0), (wV 2)]), (wV 8), (wV 4)])) sNil)) W_866_4)
noncomputable def W_866_2 : WS := (sSeq (sSwap (wTup [(wMeth 707 653 "label" (wV 7) []), (wMeth 707 653 "label" (wV 7) []), (wMeth 707 668 "register" (wV 7) [])]) [8, 9, 10]) W_866_3)
noncomputable def W_866_1 : WS := (sSeq (sAsg (wAttr Zo "program" (wV 5)) (aName 7)) W_866_2)
noncomputable def W_866 : WS := (sSeq (sAsg (wCall 859 [(wV 1), (wB false)]) (aTup [(aName 5), (aName 6)])) W_866_1)
noncomputable def F_866 : Fun := ⟨5, [], ["tree", "row", "collation", "way", "nulls", "coder", "held", "program", "label", "end", "target", "truth", "due"], W_866⟩
noncomputable def W_873_7 : WS := (sSeq (sRet (wCall 866 [(wV 3), (wV 2), (wV 4), (wCall 725 [(wV 1), (wI 2)]), (wCmp oEq (wCall 725 [(wV 1), (wI 2)]) (wI 1))])) sNil)
noncomputable def Zep : WS := (sSeq (sIf (tOr (tNot (tOf oTr (wCall 852 [(wAttr Vp "ops" (wAttr Zo "program" (wV 5))), (wV 6)]))) (tOr (tCmp oNe (wBi bRepr [(wBM rDict mGet (wV 6) [(wV 7)])]) (wBi bRepr [(wCall 824 [(wV 3), (wV 2), (wV 4)])])) (tEnd (BoolOp.Or == BoolOp.And))))
 (sSeq (sRet (wB false)) sNil)
 sNil) W_873_7)
noncomputable def W_873_5 : WS := (sSeq (sExpr (wMeth 707 704 "finish" (wAttr Zo "program" (wV 5)) [])) Zep)
noncomputable def Zeb : WS := (sSeq (sAsg (wMeth 611 508 "expression" (wV 5) [(wCall 751 [(wV 3), (wV 4)])]) (aName 7)) W_873_5)
noncomputable def W_873_3 : WS := (sSeq (sAsg (wCall 859 [(wV 2), (wCmp oEq (wCall 725 [(wV 1), (wI 2)]) (wI 0))]) (aTup [(aName 5), (aName 6)])) Zeb)
noncomputable def W_873_2 : WS := (sSeq (sSwap (wTup [(wCall 746 [(wV 1), (w2 oAdd (wI 2) (wBi bInt [(wCmp oEq (wCall 725 [(wV 1), (wI 4)]) (wI 0))]))]), (wCall 732 [(wV 1), (wLst [(wS "binary"), (wS "nocase")])])]) [3, 4]) W_873_3)
noncomputable def W_873_1 : WS := (sSeq (sAsg (wTup [(wCall 732 [(wV 1), (wLst [wNone, (wI 0), (wI 1), (wI 2), (wS "a")])]), (wCall 732 [(wV 1), (wLst [wNone, (wS ""), (wS "a"), (wS "A"), (wS "2"), (wS "b")])]), (wCall 739 [(wV 1)]), (w2 oAdd (wI 1) (wCall 725 [(wV 1), (wI 3)]))]) (aName 2)) W_873_2)
noncomputable def W_873 : WS := (sSeq (sAsg (wCall 718 [(wV 0), (wI 0)]) (aName 1)) W_873_1)
noncomputable def F_873 : Fun := ⟨1, [], ["script", "source", "row", "tree", "collation", "coder", "held", "register"], W_873⟩
noncomputable def table (f : Addr) : Option Fun :=
 if f = 112 then some F_112 else
 if f = 138 then some F_138 else
 if f = 190 then some F_190 else
 if f = 216 then some F_216 else
 if f = 242 then some F_242 else
 if f = 268 then some F_268 else
 if f = 320 then some F_320 else
 if f = 396 then some F_396 else
 if f = 430 then some F_430 else
 if f = 443 then some F_443 else
 if f = 450 then some F_450 else
 if f = 457 then some F_457 else
 if f = 465 then some F_465 else
 if f = 472 then some F_472 else
 if f = 479 then some F_479 else
 if f = 486 then some F_486 else
 if f = 500 then some F_500 else
 if f = 508 then some F_508 else
 if f = 529 then some F_529 else
 if f = 536 then some F_536 else
 if f = 543 then some F_543 else
 if f = 550 then some F_550 else
 if f = 557 then some F_557 else
 if f = 564 then some F_564 else
 if f = 571 then some F_571 else
 if f = 578 then some F_578 else
 if f = 586 then some F_586 else
 if f = 594 then some F_594 else
 if f = 601 then some F_601 else
 if f = 608 then some F_608 else
 if f = 631 then some F_631 else
 if f = 639 then some F_639 else
 if f = 653 then some F_653 else
 if f = 660 then some F_660 else
 if f = 668 then some F_668 else
 if f = 704 then some F_704 else
 if f = 718 then some F_718 else
 if f = 725 then some F_725 else
 if f = 732 then some F_732 else
 if f = 739 then some F_739 else
 if f = 746 then some F_746 else
 if f = 751 then some F_751 else
 if f = 758 then some F_758 else
 if f = 765 then some F_765 else
 if f = 772 then some F_772 else
 if f = 779 then some F_779 else
 if f = 786 then some F_786 else
 if f = 793 then some F_793 else
 if f = 798 then some F_798 else
 if f = 805 then some F_805 else
 if f = 812 then some F_812 else
 if f = 819 then some F_819 else
 if f = 824 then some F_824 else
 if f = 831 then some F_831 else
 if f = 838 then some F_838 else
 if f = 845 then some F_845 else
 if f = 852 then some F_852 else
 if f = 859 then some F_859 else
 if f = 866 then some F_866 else
 if f = 873 then some F_873 else
 none
section
variable (w : World)
theorem fill : PySem.Challenge.rw_nt0117_01 = PySem.Challenge.rw_nt0117_01 ∧ K39 w.params = K39 w.params := by k_fill; exact ⟨rfl, rfl⟩
theorem Xo : ∀ prog B, (∀ a o, List.lookup a (K39 w.params) = some o → B a = some o) → Rp prog w B (.ref 409) Ye := fun prog B h =>
 have e : ∃ t u, List.lookup 409 (K39 w.params) = some { cls := .type "tuple", data := .seq #[.str "integer" t, .str "numeric" u] } := ⟨_, _, by k_is⟩
 let ⟨t, u, e⟩ := e
 .tup (h _ _ e) rfl rfl (.cons (.str t (Zd _)) (.cons (.str u (Zd _)) .nil))
theorem entries_ok (prog : Program) (B : Fz) : ∀ (xs : List (Str × Tok × Int × Tok)), KeysOf (strKind prog w) (xs.map fun x => (⟨PyData.keyHash w.params x.1, .str x.1 x.2.1, .int x.2.2.1 x.2.2.2⟩ : DictEntry)).toArray ∧
  Pairs (strKind prog w) (xs.map fun x => (⟨PyData.keyHash w.params x.1, .str x.1 x.2.1, .int x.2.2.1 x.2.2.2⟩ : DictEntry)) (xs.map fun x => (x.1, .int x.2.2.1 x.2.2.2)) ∧ RpK prog w B (xs.map fun x => (x.1, .int x.2.2.1 x.2.2.2)) (xs.map fun x => (x.1, .int x.2.2.1)) := by
 intro xs
 refine ⟨fun e he => ?_, ?_, ?_⟩
 ·simp only [List.mem_toArray, List.mem_map] at he
  obtain ⟨x, _, rfl⟩ := he
  exact ⟨x.1, strKind_is prog w _ _, rfl⟩
 ·induction xs with
  | nil => exact .nil
  | cons x xs ih => exact .cons (strKind_is prog w _ _) rfl ih
 ·induction xs with
  | nil => exact .nil
  | cons x xs ih => exact .cons (.int _ _) ih
noncomputable def xs616 : List (Str × Tok × Int × Tok) := [("Goto", 1023, 1, 1024), ("Gosub", 1026, 1, 1027), ("Once", 1029, 1, 1030), ("If", 1032, 1, 1033), ("IfNot", 1035, 1, 1036), ("IsNull", 1038, 1, 1039), ("NotNull", 1041, 1, 1042), ("IfPos", 1044, 1, 1045), ("MustBeInt", 1047, 1, 1048), ("CompareJump", 1050, 1, 1051), ("Rewind", 1053, 1, 1054), ("Last", 1056, 1, 1057), ("Next", 1059, 1, 1060), ("Prev", 1062, 1, 1063), ("SeekRowid", 1065, 1, 1066), ("SeekGE", 1068, 1, 1069), ("SeekGT", 1071, 1, 1072), ("SeekLE", 1074, 1, 1075), ("SeekLT", 1076, 1, 1077), ("IdxGT", 1078, 1, 1079), ("IdxGE", 1080, 1, 1081), ("IdxLT", 1082, 1, 1083), ("IdxLE", 1084, 1, 1085), ("Found", 1086, 1, 1087), ("NotFound", 1088, 1, 1089), ("NoConflict", 1090, 1, 1091), ("NotExists", 1092, 1, 1093), ("SorterSort", 1094, 1, 1095), ("SorterNext", 1096, 1, 1097), ("IntegrityRows", 1098, 1, 1099)]
theorem Zha : ∀ prog B, (∀ a o, List.lookup a (K39 w.params) = some o → B a = some o) → Rp prog w B (.ref 616) Ko := fun prog B h =>
 have e : List.lookup 616 (K39 w.params) = some { cls := .type "dict", data := .dict (xs616.map fun x => (⟨PyData.keyHash w.params x.1, .str x.1 x.2.1, .int x.2.2.1 x.2.2.2⟩ : DictEntry)).toArray 30 } := by kernel_rfl
 have E := entries_ok w prog B xs616
 .dics (h _ _ e) ⟨_, _, ⟨rfl, rfl, rfl⟩, rfl, E.1, E.2.1, by decide +kernel⟩ rfl E.2.2
theorem Zdm : nsIn (K39 w.params) mainGlobals "Between" = some (some (.ref 252)) := by k_is
theorem V2 : nsIn (K39 w.params) mainGlobals "Binary" = some (some (.ref 226)) := by k_is
theorem gl_Case : nsIn (K39 w.params) mainGlobals "Case" = some (some (.ref 328)) := by k_is
theorem gl_Cast : nsIn (K39 w.params) mainGlobals "Cast" = some (some (.ref 354)) := by k_is
theorem Zdb : nsIn (K39 w.params) mainGlobals "Collate" = some (some (.ref 380)) := by k_is
theorem Zfl : nsIn (K39 w.params) mainGlobals "InList" = some (some (.ref 278)) := by k_is
theorem Zaf : nsIn (K39 w.params) mainGlobals "IsNull" = some (some (.ref 406)) := by k_is
theorem gl_JUMPS : nsIn (K39 w.params) mainGlobals "JUMPS" = some (some (.ref 616)) := by k_is
theorem Zdi : nsIn (K39 w.params) mainGlobals "Literal" = some (some (.ref 122)) := by k_is
theorem Xs : nsIn (K39 w.params) mainGlobals "NUMERIC_AFFINITIES" = some (some (.ref 409)) := by k_is
theorem Zei : nsIn (K39 w.params) mainGlobals "Name" = some (some (.ref 148)) := by k_is
theorem Zb1 : nsIn (K39 w.params) mainGlobals "OperatorCoder" = some (some (.ref 611)) := by k_is
theorem Zgs : nsIn (K39 w.params) mainGlobals "Program" = some (some (.ref 707)) := by k_is
theorem Zgz : nsIn (K39 w.params) mainGlobals "Scalar" = some (some (.ref 304)) := by k_is
theorem Ki : nsIn (K39 w.params) mainGlobals "Unary" = some (some (.ref 200)) := by k_is
theorem Zf3 : nsIn (K39 w.params) mainGlobals "Variable" = some (some (.ref 174)) := by k_is
theorem J0 : nsIn (K39 w.params) mainGlobals "_law_affinity" = some (some (.ref 793)) := by k_is
theorem Us : nsIn (K39 w.params) mainGlobals "_law_class" = some (some (.ref 772)) := by k_is
theorem Zad : nsIn (K39 w.params) mainGlobals "_law_coder" = some (some (.ref 859)) := by k_is
theorem Jt : nsIn (K39 w.params) mainGlobals "_law_compared" = some (some (.ref 779)) := by k_is
theorem Ks : nsIn (K39 w.params) mainGlobals "_law_either" = some (some (.ref 812)) := by k_is
theorem Yp : nsIn (K39 w.params) mainGlobals "_law_found" = some (some (.ref 824)) := by k_is
theorem Kw : nsIn (K39 w.params) mainGlobals "_law_joined" = some (some (.ref 831)) := by k_is
theorem K9 : nsIn (K39 w.params) mainGlobals "_law_jump_right" = some (some (.ref 866)) := by k_is
theorem Zeq : nsIn (K39 w.params) mainGlobals "_law_jumps" = some (some (.ref 845)) := by k_is
theorem V6 : nsIn (K39 w.params) mainGlobals "_law_led" = some (some (.ref 786)) := by k_is
theorem Zav : nsIn (K39 w.params) mainGlobals "_law_named" = some (some (.ref 805)) := by k_is
theorem Y6 : nsIn (K39 w.params) mainGlobals "_law_node" = some (some (.ref 751)) := by k_is
theorem Vj : nsIn (K39 w.params) mainGlobals "_law_number" = some (some (.ref 758)) := by k_is
theorem Xl : nsIn (K39 w.params) mainGlobals "_law_one" = some (some (.ref 732)) := by k_is
theorem Vr : nsIn (K39 w.params) mainGlobals "_law_opposite" = some (some (.ref 819)) := by k_is
theorem Uh : nsIn (K39 w.params) mainGlobals "_law_pair" = some (some (.ref 798)) := by k_is
theorem Zff : nsIn (K39 w.params) mainGlobals "_law_pool" = some (some (.ref 718)) := by k_is
theorem Zco : nsIn (K39 w.params) mainGlobals "_law_run" = some (some (.ref 852)) := by k_is
theorem Yy : nsIn (K39 w.params) mainGlobals "_law_take" = some (some (.ref 725)) := by k_is
theorem Zbp : nsIn (K39 w.params) mainGlobals "_law_told" = some (some (.ref 838)) := by k_is
theorem U9 : nsIn (K39 w.params) mainGlobals "_law_tree" = some (some (.ref 746)) := by k_is
theorem Va : nsIn (K39 w.params) mainGlobals "_law_true" = some (some (.ref 765)) := by k_is
theorem Zab : nsIn (K39 w.params) mainGlobals "_law_value" = some (some (.ref 739)) := by k_is
theorem Xe : nsIn (K39 w.params) mainGlobals "affinity_of" = some (some (.ref 443)) := by k_is
theorem Zc4 : nsIn (K39 w.params) mainGlobals "collation_of" = some (some (.ref 465)) := by k_is
theorem Xj : nsIn (K39 w.params) mainGlobals "column_collation" = some (some (.ref 457)) := by k_is
theorem Xa : nsIn (K39 w.params) mainGlobals "comparison_affinities" = some (some (.ref 430)) := by k_is
theorem Xz : nsIn (K39 w.params) mainGlobals "comparison_collation" = some (some (.ref 472)) := by k_is
theorem Yn : nsIn (K39 w.params) mainGlobals "explicit_collation" = some (some (.ref 450)) := by k_is
theorem Uk : nsIn (K39 w.params) mainGlobals "is_comparison" = some (some (.ref 479)) := by k_is
theorem Zf1 : nsIn (K39 w.params) mainGlobals "opposite" = some (some (.ref 486)) := by k_is
theorem Ju : keepIn (K39 w.params) (.ref 793) = true := by k_is
theorem Ur : keepIn (K39 w.params) (.ref 772) = true := by k_is
theorem Zaw : keepIn (K39 w.params) (.ref 859) = true := by k_is
theorem Jz : keepIn (K39 w.params) (.ref 779) = true := by k_is
theorem Kt : keepIn (K39 w.params) (.ref 812) = true := by k_is
theorem Yq : keepIn (K39 w.params) (.ref 824) = true := by k_is
theorem Kx : keepIn (K39 w.params) (.ref 831) = true := by k_is
theorem Zax : keepIn (K39 w.params) (.ref 866) = true := by k_is
theorem Zd4 : keepIn (K39 w.params) (.ref 845) = true := by k_is
theorem V8 : keepIn (K39 w.params) (.ref 786) = true := by k_is
theorem Zam : keepIn (K39 w.params) (.ref 805) = true := by k_is
theorem Y7 : keepIn (K39 w.params) (.ref 751) = true := by k_is
theorem Vk : keepIn (K39 w.params) (.ref 758) = true := by k_is
theorem Xk : keepIn (K39 w.params) (.ref 732) = true := by k_is
theorem Vq : keepIn (K39 w.params) (.ref 819) = true := by k_is
theorem Ui : keepIn (K39 w.params) (.ref 798) = true := by k_is
theorem Zex : keepIn (K39 w.params) (.ref 718) = true := by k_is
theorem Zcv : keepIn (K39 w.params) (.ref 852) = true := by k_is
theorem Yz : keepIn (K39 w.params) (.ref 725) = true := by k_is
theorem Zbn : keepIn (K39 w.params) (.ref 838) = true := by k_is
theorem U6 : keepIn (K39 w.params) (.ref 746) = true := by k_is
theorem Vc : keepIn (K39 w.params) (.ref 765) = true := by k_is
theorem Zaa : keepIn (K39 w.params) (.ref 739) = true := by k_is
theorem Xf : keepIn (K39 w.params) (.ref 443) = true := by k_is
theorem Zc0 : keepIn (K39 w.params) (.ref 465) = true := by k_is
theorem Xm : keepIn (K39 w.params) (.ref 457) = true := by k_is
theorem Y8 : keepIn (K39 w.params) (.ref 430) = true := by k_is
theorem X1 : keepIn (K39 w.params) (.ref 472) = true := by k_is
theorem Ym : keepIn (K39 w.params) (.ref 450) = true := by k_is
theorem Ul : keepIn (K39 w.params) (.ref 479) = true := by k_is
theorem Zfs : keepIn (K39 w.params) (.ref 486) = true := by k_is
theorem gb_bool : nsIn (K39 w.params) mainGlobals "bool" = some none := by k_is
theorem X8 : nsIn (K39 w.params) mainGlobals "int" = some none := by k_is
theorem Zx : nsIn (K39 w.params) mainGlobals "isinstance" = some none := by k_is
theorem Zdg : nsIn (K39 w.params) mainGlobals "len" = some none := by k_is
theorem gb_max : nsIn (K39 w.params) mainGlobals "max" = some none := by k_is
theorem gb_range : nsIn (K39 w.params) mainGlobals "range" = some none := by k_is
theorem gb_repr : nsIn (K39 w.params) mainGlobals "repr" = some none := by k_is
theorem gb_str : nsIn (K39 w.params) mainGlobals "str" = some none := by k_is
theorem Zft : ∀ c ∈ K1, AttrR (K39 w.params) c "affinity" := by
 intro c hc
 simp only [K1, List.mem_cons, List.not_mem_nil, or_false] at hc
 rcases hc with rfl <;> exact ⟨by k_is, by k_is, by k_is⟩
theorem at_base : ∀ c ∈ Zct, AttrR (K39 w.params) c "base" := by
 intro c hc
 simp only [Zct, List.mem_cons, List.not_mem_nil, or_false] at hc
 rcases hc with rfl <;> exact ⟨by k_is, by k_is, by k_is⟩
theorem Jq : ∀ c ∈ Ve, AttrR (K39 w.params) c "bindings" := by
 intro c hc
 simp only [Ve, List.mem_cons, List.not_mem_nil, or_false] at hc
 rcases hc with rfl <;> exact ⟨by k_is, by k_is, by k_is⟩
theorem Zfj : ∀ c ∈ Kf, AttrR (K39 w.params) c "collation" := by
 intro c hc
 simp only [Kf, List.mem_cons, List.not_mem_nil, or_false] at hc
 rcases hc with rfl <;> exact ⟨by k_is, by k_is, by k_is⟩
theorem at_high : ∀ c ∈ cs_high, AttrR (K39 w.params) c "high" := by
 intro c hc
 simp only [cs_high, List.mem_cons, List.not_mem_nil, or_false] at hc
 rcases hc with rfl <;> exact ⟨by k_is, by k_is, by k_is⟩
theorem at_items : ∀ c ∈ Zdv, AttrR (K39 w.params) c "items" := by
 intro c hc
 simp only [Zdv, List.mem_cons, List.not_mem_nil, or_false] at hc
 rcases hc with rfl <;> exact ⟨by k_is, by k_is, by k_is⟩
theorem Jk : ∀ c ∈ Xi, AttrR (K39 w.params) c "labels" := by
 intro c hc
 simp only [Xi, List.mem_cons, List.not_mem_nil, or_false] at hc
 rcases hc with rfl <;> exact ⟨by k_is, by k_is, by k_is⟩
theorem U4 : ∀ c ∈ Vv, AttrR (K39 w.params) c "left" := by
 intro c hc
 simp only [Vv, List.mem_cons, List.not_mem_nil, or_false] at hc
 rcases hc with rfl <;> exact ⟨by k_is, by k_is, by k_is⟩
theorem at_low : ∀ c ∈ cs_low, AttrR (K39 w.params) c "low" := by
 intro c hc
 simp only [cs_low, List.mem_cons, List.not_mem_nil, or_false] at hc
 rcases hc with rfl <;> exact ⟨by k_is, by k_is, by k_is⟩
theorem Uw : ∀ c ∈ Vh, AttrR (K39 w.params) c "negated" := by
 intro c hc
 simp only [Vh, List.mem_cons, List.not_mem_nil, or_false] at hc
 rcases hc with rfl | rfl | rfl <;> exact ⟨by k_is, by k_is, by k_is⟩
theorem Zay : ∀ c ∈ Ut, AttrR (K39 w.params) c "next_label" := by
 intro c hc
 simp only [Ut, List.mem_cons, List.not_mem_nil, or_false] at hc
 rcases hc with rfl <;> exact ⟨by k_is, by k_is, by k_is⟩
theorem J3 : ∀ c ∈ U5, AttrR (K39 w.params) c "op" := by
 intro c hc
 simp only [U5, List.mem_cons, List.not_mem_nil, or_false] at hc
 rcases hc with rfl | rfl <;> exact ⟨by k_is, by k_is, by k_is⟩
theorem Jm : ∀ c ∈ V7, AttrR (K39 w.params) c "operand" := by
 intro c hc
 simp only [V7, List.mem_cons, List.not_mem_nil, or_false] at hc
 rcases hc with rfl <;> exact ⟨by k_is, by k_is, by k_is⟩
theorem Zao : ∀ c ∈ Vp, AttrR (K39 w.params) c "ops" := by
 intro c hc
 simp only [Vp, List.mem_cons, List.not_mem_nil, or_false] at hc
 rcases hc with rfl <;> exact ⟨by k_is, by k_is, by k_is⟩
theorem at_other : ∀ c ∈ Zcb, AttrR (K39 w.params) c "other" := by
 intro c hc
 simp only [Zcb, List.mem_cons, List.not_mem_nil, or_false] at hc
 rcases hc with rfl <;> exact ⟨by k_is, by k_is, by k_is⟩
theorem at_place : ∀ c ∈ Zef, AttrR (K39 w.params) c "place" := by
 intro c hc
 simp only [Zef, List.mem_cons, List.not_mem_nil, or_false] at hc
 rcases hc with rfl <;> exact ⟨by k_is, by k_is, by k_is⟩
theorem Zv : ∀ c ∈ Zo, AttrR (K39 w.params) c "program" := by
 intro c hc
 simp only [Zo, List.mem_cons, List.not_mem_nil, or_false] at hc
 rcases hc with rfl <;> exact ⟨by k_is, by k_is, by k_is⟩
theorem Ze5 : ∀ c ∈ Ke, AttrR (K39 w.params) c "registers" := by
 intro c hc
 simp only [Ke, List.mem_cons, List.not_mem_nil, or_false] at hc
 rcases hc with rfl <;> exact ⟨by k_is, by k_is, by k_is⟩
theorem V0 : ∀ c ∈ X0, AttrR (K39 w.params) c "right" := by
 intro c hc
 simp only [X0, List.mem_cons, List.not_mem_nil, or_false] at hc
 rcases hc with rfl <;> exact ⟨by k_is, by k_is, by k_is⟩
theorem Ze3 : ∀ c ∈ Zag, AttrR (K39 w.params) c "source" := by
 intro c hc
 simp only [Zag, List.mem_cons, List.not_mem_nil, or_false] at hc
 rcases hc with rfl <;> exact ⟨by k_is, by k_is, by k_is⟩
theorem Vt : ∀ c ∈ X7, AttrR (K39 w.params) c "value" := by
 intro c hc
 simp only [X7, List.mem_cons, List.not_mem_nil, or_false] at hc
 rcases hc with rfl | rfl | rfl | rfl <;> exact ⟨by k_is, by k_is, by k_is⟩
theorem at_whens : ∀ c ∈ Zew, AttrR (K39 w.params) c "whens" := by
 intro c hc
 simp only [Zew, List.mem_cons, List.not_mem_nil, or_false] at hc
 rcases hc with rfl <;> exact ⟨by k_is, by k_is, by k_is⟩
theorem Zcf : AttrW (K39 w.params) 252 "high" := ⟨by k_is, by k_is, by k_is, by k_is⟩
theorem Zda : AttrW (K39 w.params) 252 "low" := ⟨by k_is, by k_is, by k_is, by k_is⟩
theorem Zai : AttrW (K39 w.params) 252 "negated" := ⟨by k_is, by k_is, by k_is, by k_is⟩
theorem Zbx : AttrW (K39 w.params) 252 "value" := ⟨by k_is, by k_is, by k_is, by k_is⟩
theorem Zc6 : AttrW (K39 w.params) 226 "left" := ⟨by k_is, by k_is, by k_is, by k_is⟩
theorem Zfh : AttrW (K39 w.params) 226 "op" := ⟨by k_is, by k_is, by k_is, by k_is⟩
theorem Zcg : AttrW (K39 w.params) 226 "right" := ⟨by k_is, by k_is, by k_is, by k_is⟩
theorem Ze6 : AttrW (K39 w.params) 328 "base" := ⟨by k_is, by k_is, by k_is, by k_is⟩
theorem Zdw : AttrW (K39 w.params) 328 "other" := ⟨by k_is, by k_is, by k_is, by k_is⟩
theorem Zer : AttrW (K39 w.params) 328 "whens" := ⟨by k_is, by k_is, by k_is, by k_is⟩
theorem Zci : AttrW (K39 w.params) 278 "items" := ⟨by k_is, by k_is, by k_is, by k_is⟩
theorem Zbe : AttrW (K39 w.params) 278 "negated" := ⟨by k_is, by k_is, by k_is, by k_is⟩
theorem Zcj : AttrW (K39 w.params) 278 "value" := ⟨by k_is, by k_is, by k_is, by k_is⟩
theorem Zaz : AttrW (K39 w.params) 406 "negated" := ⟨by k_is, by k_is, by k_is, by k_is⟩
theorem Zcm : AttrW (K39 w.params) 406 "value" := ⟨by k_is, by k_is, by k_is, by k_is⟩
theorem Zb3 : AttrW (K39 w.params) 122 "value" := ⟨by k_is, by k_is, by k_is, by k_is⟩
theorem Zbv : AttrW (K39 w.params) 148 "affinity" := ⟨by k_is, by k_is, by k_is, by k_is⟩
theorem Za6 : AttrW (K39 w.params) 148 "collation" := ⟨by k_is, by k_is, by k_is, by k_is⟩
theorem Zc9 : AttrW (K39 w.params) 148 "column" := ⟨by k_is, by k_is, by k_is, by k_is⟩
theorem Zd8 : AttrW (K39 w.params) 148 "depth" := ⟨by k_is, by k_is, by k_is, by k_is⟩
theorem Zap : AttrW (K39 w.params) 148 "place" := ⟨by k_is, by k_is, by k_is, by k_is⟩
theorem Ku : AttrW (K39 w.params) 148 "source" := ⟨by k_is, by k_is, by k_is, by k_is⟩
theorem Zet : AttrW (K39 w.params) 148 "table" := ⟨by k_is, by k_is, by k_is, by k_is⟩
theorem Jd : AttrW (K39 w.params) 611 "bindings" := ⟨by k_is, by k_is, by k_is, by k_is⟩
theorem Jl : AttrW (K39 w.params) 611 "program" := ⟨by k_is, by k_is, by k_is, by k_is⟩
theorem Zal : AttrW (K39 w.params) 707 "columns" := ⟨by k_is, by k_is, by k_is, by k_is⟩
theorem Zas : AttrW (K39 w.params) 707 "cursors" := ⟨by k_is, by k_is, by k_is, by k_is⟩
theorem Zba : AttrW (K39 w.params) 707 "labels" := ⟨by k_is, by k_is, by k_is, by k_is⟩
theorem Ue : AttrW (K39 w.params) 707 "next_label" := ⟨by k_is, by k_is, by k_is, by k_is⟩
theorem Zc7 : AttrW (K39 w.params) 707 "ops" := ⟨by k_is, by k_is, by k_is, by k_is⟩
theorem Un : AttrW (K39 w.params) 707 "registers" := ⟨by k_is, by k_is, by k_is, by k_is⟩
theorem Zbz : AttrW (K39 w.params) 707 "slots" := ⟨by k_is, by k_is, by k_is, by k_is⟩
theorem Zbb : AttrW (K39 w.params) 707 "writes" := ⟨by k_is, by k_is, by k_is, by k_is⟩
theorem Zfu : AttrW (K39 w.params) 200 "op" := ⟨by k_is, by k_is, by k_is, by k_is⟩
theorem Zb2 : AttrW (K39 w.params) 200 "operand" := ⟨by k_is, by k_is, by k_is, by k_is⟩
theorem Xn : MethR (K39 w.params) 707 "add" 639 := ⟨by k_is, by k_is, by k_is, by k_is⟩
theorem Zge : MethR (K39 w.params) 611 "between" 550 := ⟨by k_is, by k_is, by k_is, by k_is⟩
theorem Zhi : MethR (K39 w.params) 611 "binary" 536 := ⟨by k_is, by k_is, by k_is, by k_is⟩
theorem me_case : MethR (K39 w.params) 611 "case" 571 := ⟨by k_is, by k_is, by k_is, by k_is⟩
theorem Zhg : MethR (K39 w.params) 611 "column" 529 := ⟨by k_is, by k_is, by k_is, by k_is⟩
theorem K4 : MethR (K39 w.params) 611 "compared" 543 := ⟨by k_is, by k_is, by k_is, by k_is⟩
theorem Z9 : MethR (K39 w.params) 611 "expression" 508 := ⟨by k_is, by k_is, by k_is, by k_is⟩
theorem Zfg : MethR (K39 w.params) 707 "finish" 704 := ⟨by k_is, by k_is, by k_is, by k_is⟩
theorem Zgf : MethR (K39 w.params) 611 "in_list" 578 := ⟨by k_is, by k_is, by k_is, by k_is⟩
theorem Zgp : MethR (K39 w.params) 611 "is_null" 564 := ⟨by k_is, by k_is, by k_is, by k_is⟩
theorem Jx : MethR (K39 w.params) 611 "jump_compared" 601 := ⟨by k_is, by k_is, by k_is, by k_is⟩
theorem Uv : MethR (K39 w.params) 611 "jump_if" 586 := ⟨by k_is, by k_is, by k_is, by k_is⟩
theorem Zbo : MethR (K39 w.params) 611 "jump_null" 608 := ⟨by k_is, by k_is, by k_is, by k_is⟩
theorem Xw : MethR (K39 w.params) 611 "jump_unless" 594 := ⟨by k_is, by k_is, by k_is, by k_is⟩
theorem V9 : MethR (K39 w.params) 707 "label" 653 := ⟨by k_is, by k_is, by k_is, by k_is⟩
theorem Ze2 : MethR (K39 w.params) 611 "negate" 557 := ⟨by k_is, by k_is, by k_is, by k_is⟩
theorem Ua : MethR (K39 w.params) 707 "place" 660 := ⟨by k_is, by k_is, by k_is, by k_is⟩
theorem Vu : MethR (K39 w.params) 707 "register" 668 := ⟨by k_is, by k_is, by k_is, by k_is⟩
theorem Zgn : MakeR (K39 w.params) 252 242 := ⟨by k_is, by k_is, by k_is, by k_is⟩
theorem Zg7 : MakeR (K39 w.params) 226 216 := ⟨by k_is, by k_is, by k_is, by k_is⟩
theorem mk_Case : MakeR (K39 w.params) 328 320 := ⟨by k_is, by k_is, by k_is, by k_is⟩
theorem Zg0 : MakeR (K39 w.params) 278 268 := ⟨by k_is, by k_is, by k_is, by k_is⟩
theorem Zhl : MakeR (K39 w.params) 406 396 := ⟨by k_is, by k_is, by k_is, by k_is⟩
theorem Zgx : MakeR (K39 w.params) 122 112 := ⟨by k_is, by k_is, by k_is, by k_is⟩
theorem mk_Name : MakeR (K39 w.params) 148 138 := ⟨by k_is, by k_is, by k_is, by k_is⟩
theorem Zb0 : MakeR (K39 w.params) 611 500 := ⟨by k_is, by k_is, by k_is, by k_is⟩
theorem Zgu : MakeR (K39 w.params) 707 631 := ⟨by k_is, by k_is, by k_is, by k_is⟩
theorem mk_Unary : MakeR (K39 w.params) 200 190 := ⟨by k_is, by k_is, by k_is, by k_is⟩
theorem Jy : ∀ c ∈ [122, 148, 200, 226, 252, 278, 328, 406], ClsR (K39 w.params) c := by
 intro c hc
 simp only [List.mem_cons, List.not_mem_nil, or_false] at hc
 rcases hc with rfl | rfl | rfl | rfl | rfl | rfl | rfl | rfl <;> exact ⟨by k_is, by k_is, by k_is, by k_is, by k_is, by k_is⟩
theorem Zf0 : ∀ c ∈ Kj, ClsR (K39 w.params) c := fun c hc => Jy w c (by revert c; decide)
theorem Zf2 : IsiR (K39 w.params) 252 K7 Kj := by
 constructor
 ·intro c hc
  simp only [K7, List.mem_cons, List.not_mem_nil, or_false] at hc
  rcases hc with rfl <;> k_is
 ·intro c hc
  simp only [Kj, List.mem_cons, List.not_mem_nil, or_false] at hc
  rcases hc with rfl | rfl | rfl | rfl | rfl | rfl | rfl <;> kernel_rfl
theorem Vy : ∀ c ∈ Vd, ClsR (K39 w.params) c := fun c hc => Jy w c (by revert c; decide)
theorem Vz : IsiR (K39 w.params) 226 X5 Vd := by
 constructor
 ·intro c hc
  simp only [X5, List.mem_cons, List.not_mem_nil, or_false] at hc
  rcases hc with rfl <;> k_is
 ·intro c hc
  simp only [Vd, List.mem_cons, List.not_mem_nil, or_false] at hc
  rcases hc with rfl | rfl | rfl | rfl | rfl | rfl | rfl <;> kernel_rfl
theorem cls_Case : ∀ c ∈ Zel, ClsR (K39 w.params) c := fun c hc => Jy w c (by revert c; decide)
theorem isi_Case : IsiR (K39 w.params) 328 Zes Zel := by
 constructor
 ·intro c hc
  simp only [Zes, List.mem_cons, List.not_mem_nil, or_false] at hc
  rcases hc with rfl <;> k_is
 ·intro c hc
  simp only [Zel, List.mem_cons, List.not_mem_nil, or_false] at hc
  rcases hc with rfl | rfl | rfl | rfl | rfl | rfl | rfl <;> kernel_rfl
theorem Zdy : ∀ c ∈ K8, ClsR (K39 w.params) c := fun c hc => Jy w c (by revert c; decide)
theorem Zej : IsiR (K39 w.params) 354 Zcc K8 := by
 constructor
 ·intro c hc
  cases hc
 ·intro c hc
  simp only [K8, List.mem_cons, List.not_mem_nil, or_false] at hc
  rcases hc with rfl | rfl | rfl | rfl | rfl | rfl | rfl | rfl <;> kernel_rfl
theorem Zch : ∀ c ∈ Uu, ClsR (K39 w.params) c := fun c hc => Jy w c (by revert c; decide)
theorem Zcl : IsiR (K39 w.params) 380 K6 Uu := by
 constructor
 ·intro c hc
  cases hc
 ·intro c hc
  simp only [Uu, List.mem_cons, List.not_mem_nil, or_false] at hc
  rcases hc with rfl | rfl | rfl | rfl | rfl | rfl | rfl | rfl <;> kernel_rfl
theorem Zgl : ∀ c ∈ Zan, ClsR (K39 w.params) c := fun c hc => Jy w c (by revert c; decide)
theorem Zga : IsiR (K39 w.params) 278 Za3 Zan := by
 constructor
 ·intro c hc
  simp only [Za3, List.mem_cons, List.not_mem_nil, or_false] at hc
  rcases hc with rfl <;> k_is
 ·intro c hc
  simp only [Zan, List.mem_cons, List.not_mem_nil, or_false] at hc
  rcases hc with rfl | rfl | rfl | rfl | rfl | rfl | rfl <;> kernel_rfl
theorem Za5 : ∀ c ∈ Ji, ClsR (K39 w.params) c := fun c hc => Jy w c (by revert c; decide)
theorem Za4 : IsiR (K39 w.params) 406 Jh Ji := by
 constructor
 ·intro c hc
  simp only [Jh, List.mem_cons, List.not_mem_nil, or_false] at hc
  rcases hc with rfl <;> k_is
 ·intro c hc
  simp only [Ji, List.mem_cons, List.not_mem_nil, or_false] at hc
  rcases hc with rfl | rfl | rfl | rfl | rfl | rfl | rfl <;> kernel_rfl
theorem Zf4 : ∀ c ∈ Kn, ClsR (K39 w.params) c := fun c hc => Jy w c (by revert c; decide)
theorem Zfx : IsiR (K39 w.params) 122 Kz Kn := by
 constructor
 ·intro c hc
  simp only [Kz, List.mem_cons, List.not_mem_nil, or_false] at hc
  rcases hc with rfl <;> k_is
 ·intro c hc
  simp only [Kn, List.mem_cons, List.not_mem_nil, or_false] at hc
  rcases hc with rfl | rfl | rfl | rfl | rfl | rfl | rfl <;> kernel_rfl
theorem Zd9 : ∀ c ∈ K2, ClsR (K39 w.params) c := fun c hc => Jy w c (by revert c; decide)
theorem Zed : IsiR (K39 w.params) 148 Zat K2 := by
 constructor
 ·intro c hc
  simp only [Zat, List.mem_cons, List.not_mem_nil, or_false] at hc
  rcases hc with rfl <;> k_is
 ·intro c hc
  simp only [K2, List.mem_cons, List.not_mem_nil, or_false] at hc
  rcases hc with rfl | rfl | rfl | rfl | rfl | rfl | rfl <;> kernel_rfl
theorem Zgo : ∀ c ∈ J2, ClsR (K39 w.params) c := fun c hc => Jy w c (by revert c; decide)
theorem Zgj : IsiR (K39 w.params) 304 Zdn J2 := by
 constructor
 ·intro c hc
  cases hc
 ·intro c hc
  simp only [J2, List.mem_cons, List.not_mem_nil, or_false] at hc
  rcases hc with rfl | rfl | rfl | rfl | rfl | rfl | rfl | rfl <;> kernel_rfl
theorem J7 : ∀ c ∈ U8, ClsR (K39 w.params) c := fun c hc => Jy w c (by revert c; decide)
theorem Ka : IsiR (K39 w.params) 200 U3 U8 := by
 constructor
 ·intro c hc
  simp only [U3, List.mem_cons, List.not_mem_nil, or_false] at hc
  rcases hc with rfl <;> k_is
 ·intro c hc
  simp only [U8, List.mem_cons, List.not_mem_nil, or_false] at hc
  rcases hc with rfl | rfl | rfl | rfl | rfl | rfl | rfl <;> kernel_rfl
theorem Zfi : ∀ c ∈ Jo, ClsR (K39 w.params) c := fun c hc => Jy w c (by revert c; decide)
theorem Zfp : IsiR (K39 w.params) 174 Zbj Jo := by
 constructor
 ·intro c hc
  cases hc
 ·intro c hc
  simp only [Jo, List.mem_cons, List.not_mem_nil, or_false] at hc
  rcases hc with rfl | rfl | rfl | rfl | rfl | rfl | rfl | rfl <;> kernel_rfl
theorem fn_112 : FnOk w (K39 w.params) 112 F_112.p F_112.df F_112.ns F_112.W := by
 refine Yv (by k_is) (by k_is) ?_ ?_ ?_ ?_
 ·exact .of (by kernel_rfl) rfl rfl rfl (by kernel_rfl)
 ·decide
 ·exact b2 fun _ _ => rfl
 ·intro prog h₀ G so
  show SndB prog w h₀ _ ["self", "value"] _ W_112
  unfold W_112
  exact (Zb (Zl rfl (Za rfl) (Z7 G (Zb3 w) (Za rfl)) (fun _ => rfl) (fun _ _ => rfl)) Ze)
theorem fn_138 : FnOk w (K39 w.params) 138 F_138.p F_138.df F_138.ns F_138.W := by
 refine Yv (by k_is) (by k_is) ?_ ?_ ?_ ?_
 ·exact .of (by kernel_rfl) rfl rfl rfl (by kernel_rfl)
 ·decide
 ·exact b3 fun _ _ _ => rfl
 ·intro prog h₀ G so
  show SndB prog w h₀ _ ["self", "table", "column"] _ W_138
  unfold W_138 W_138_1 W_138_2 W_138_3 W_138_4
  exact (Zb (Zl rfl (Za rfl) (Z7 G (Zet w) (Za rfl)) (fun _ => rfl) (fun _ _ => rfl)) (Zb (Zl rfl (Za rfl) (Z7 G (Zc9 w) (Za rfl)) (fun _ => rfl) (fun _ _ => rfl)) (Zb (Zl rfl Zw (Z7 G (Ku w) (Za rfl)) (fun _ => rfl) (fun _ _ => rfl)) (Zb (Zl rfl Zw (Z7 G (Zap w) (Za rfl)) (fun _ => rfl) (fun _ _ => rfl)) (Zb (Zl rfl Zf (Z7 G (Zd8 w) (Za rfl)) (fun _ => rfl) (fun _ _ => rfl)) Ze)))))
theorem fn_190 : FnOk w (K39 w.params) 190 F_190.p F_190.df F_190.ns F_190.W := by
 refine Yv (by k_is) (by k_is) ?_ ?_ ?_ ?_
 ·exact .of (by kernel_rfl) rfl rfl rfl (by kernel_rfl)
 ·decide
 ·exact b3 fun _ _ _ => rfl
 ·intro prog h₀ G so
  show SndB prog w h₀ _ ["self", "op", "operand"] _ W_190
  unfold W_190
  exact (Zb (Zl rfl (Za rfl) (Z7 G (Zfu w) (Za rfl)) (fun _ => rfl) (fun _ _ => rfl)) (Zb (Zl rfl (Za rfl) (Z7 G (Zb2 w) (Za rfl)) (fun _ => rfl) (fun _ _ => rfl)) Ze))
theorem fn_216 : FnOk w (K39 w.params) 216 F_216.p F_216.df F_216.ns F_216.W := by
 refine Yv (by k_is) (by k_is) ?_ ?_ ?_ ?_
 ·exact .of (by kernel_rfl) rfl rfl rfl (by kernel_rfl)
 ·decide
 ·exact b4 fun _ _ _ _ => rfl
 ·intro prog h₀ G so
  show SndB prog w h₀ _ ["self", "op", "left", "right"] _ W_216
  unfold W_216 W_216_1 W_216_2
  exact (Zb (Zl rfl (Za rfl) (Z7 G (Zfh w) (Za rfl)) (fun _ => rfl) (fun _ _ => rfl)) (Zb (Zl rfl (Za rfl) (Z7 G (Zc6 w) (Za rfl)) (fun _ => rfl) (fun _ _ => rfl)) (Zb (Zl rfl (Za rfl) (Z7 G (Zcg w) (Za rfl)) (fun _ => rfl) (fun _ _ => rfl)) Ze)))
theorem fn_242 : FnOk w (K39 w.params) 242 F_242.p F_242.df F_242.ns F_242.W := by
 refine Yv (by k_is) (by k_is) ?_ ?_ ?_ ?_
 ·exact .of (by kernel_rfl) rfl rfl rfl (by kernel_rfl)
 ·decide
 ·exact b5 fun _ _ _ _ _ => rfl
 ·intro prog h₀ G so
  show SndB prog w h₀ _ ["self", "value", "low", "high", "negated"] _ W_242
  unfold W_242 W_242_1 W_242_2 W_242_3
  exact (Zb (Zl rfl (Za rfl) (Z7 G (Zbx w) (Za rfl)) (fun _ => rfl) (fun _ _ => rfl)) (Zb (Zl rfl (Za rfl) (Z7 G (Zda w) (Za rfl)) (fun _ => rfl) (fun _ _ => rfl)) (Zb (Zl rfl (Za rfl) (Z7 G (Zcf w) (Za rfl)) (fun _ => rfl) (fun _ _ => rfl)) (Zb (Zl rfl (Za rfl) (Z7 G (Zai w) (Za rfl)) (fun _ => rfl) (fun _ _ => rfl)) Ze))))
theorem fn_268 : FnOk w (K39 w.params) 268 F_268.p F_268.df F_268.ns F_268.W := by
 refine Yv (by k_is) (by k_is) ?_ ?_ ?_ ?_
 ·exact .of (by kernel_rfl) rfl rfl rfl (by kernel_rfl)
 ·decide
 ·exact b4 fun _ _ _ _ => rfl
 ·intro prog h₀ G so
  show SndB prog w h₀ _ ["self", "value", "items", "negated"] _ W_268
  unfold W_268 W_268_1 W_268_2
  exact (Zb (Zl rfl (Za rfl) (Z7 G (Zcj w) (Za rfl)) (fun _ => rfl) (fun _ _ => rfl)) (Zb (Zl rfl (Za rfl) (Z7 G (Zci w) (Za rfl)) (fun _ => rfl) (fun _ _ => rfl)) (Zb (Zl rfl (Za rfl) (Z7 G (Zbe w) (Za rfl)) (fun _ => rfl) (fun _ _ => rfl)) Ze)))
theorem fn_320 : FnOk w (K39 w.params) 320 F_320.p F_320.df F_320.ns F_320.W := by
 refine Yv (by k_is) (by k_is) ?_ ?_ ?_ ?_
 ·exact .of (by kernel_rfl) rfl rfl rfl (by kernel_rfl)
 ·decide
 ·exact b4 fun _ _ _ _ => rfl
 ·intro prog h₀ G so
  show SndB prog w h₀ _ ["self", "base", "whens", "other"] _ W_320
  unfold W_320 W_320_1 W_320_2
  exact (Zb (Zl rfl (Za rfl) (Z7 G (Ze6 w) (Za rfl)) (fun _ => rfl) (fun _ _ => rfl)) (Zb (Zl rfl (Za rfl) (Z7 G (Zer w) (Za rfl)) (fun _ => rfl) (fun _ _ => rfl)) (Zb (Zl rfl (Za rfl) (Z7 G (Zdw w) (Za rfl)) (fun _ => rfl) (fun _ _ => rfl)) Ze)))
theorem fn_396 : FnOk w (K39 w.params) 396 F_396.p F_396.df F_396.ns F_396.W := by
 refine Yv (by k_is) (by k_is) ?_ ?_ ?_ ?_
 ·exact .of (by kernel_rfl) rfl rfl rfl (by kernel_rfl)
 ·decide
 ·exact b3 fun _ _ _ => rfl
 ·intro prog h₀ G so
  show SndB prog w h₀ _ ["self", "value", "negated"] _ W_396
  unfold W_396
  exact (Zb (Zl rfl (Za rfl) (Z7 G (Zcm w) (Za rfl)) (fun _ => rfl) (fun _ _ => rfl)) (Zb (Zl rfl (Za rfl) (Z7 G (Zaz w) (Za rfl)) (fun _ => rfl) (fun _ _ => rfl)) Ze))
theorem fn_430 : FnOk w (K39 w.params) 430 F_430.p F_430.df F_430.ns F_430.W := by
 refine Yv (by k_is) (by k_is) ?_ ?_ ?_ ?_
 ·exact .of (by kernel_rfl) rfl rfl rfl (by kernel_rfl)
 ·decide
 ·exact b2 fun _ _ => rfl
 ·intro prog h₀ G so
  show SndB prog w h₀ _ ["left", "right"] _ W_430
  unfold W_430 W_430_1 W_430_2 W_430_3 W_430_4
  exact (Zb (Zz (Yc (Z5 (Zq Kr (Za rfl) (Zae G (Xo w) (Xs w) rfl rfl) rfl) (Z5 (Zq Kl (Za rfl) (Zae G (Xo w) (Xs w) rfl rfl) rfl) Yd)))
 (Zb (Zu (Z6 (Zh rfl Zw (Zh rfl (Zg (Zd _)) Zs)) (by decide))) Ze)
 Ze) (Zb (Zz (Yc (Z5 (Zq Kr (Za rfl) (Zae G (Xo w) (Xs w) rfl rfl) rfl) (Z5 (Zq Kl (Za rfl) (Zae G (Xo w) (Xs w) rfl rfl) rfl) Yd)))
 (Zb (Zu (Z6 (Zh rfl (Zg (Zd _)) (Zh rfl Zw Zs)) (by decide))) Ze)
 Ze) (Zb (Zz (Yc (Z5 (Zq Yh (Za rfl) (Zg (Zd _)) rfl) (Z5 (Zq Xu (Za rfl) Zw rfl) Yd)))
 (Zb (Zu (Z6 (Zh rfl Zw (Zh rfl (Zg (Zd _)) Zs)) (by decide))) Ze)
 Ze) (Zb (Zz (Yc (Z5 (Zq Yh (Za rfl) (Zg (Zd _)) rfl) (Z5 (Zq Xu (Za rfl) Zw rfl) Yd)))
 (Zb (Zu (Z6 (Zh rfl (Zg (Zd _)) (Zh rfl Zw Zs)) (by decide))) Ze)
 Ze) (Zb (Zu (Z6 (Zh rfl Zw (Zh rfl Zw Zs)) (by decide))) Ze)))))
theorem kd_443 : List.lookup 436 (K39 w.params) = some { cls := .type "tuple", data := .seq #[.none] } := by k_is
theorem fn_443 : FnOk w (K39 w.params) 443 F_443.p F_443.df F_443.ns F_443.W := by
 refine Yv (by k_is) (by k_is) ?_ ?_ ?_ ?_
 ·exact .of (by kernel_rfl) rfl rfl rfl (by kernel_rfl)
 ·decide
 ·intro s vs X h0 h1
  have kd := kd_443 w
  match vs, h0, h1 with
  | [v0], _, _ => exact ⟨[_], fun _ _ _ => (.cons .none .nil), BindsTo.of_defaults (T := 436) rfl (X _ _ kd) rfl rfl rfl⟩
  | [v0, v1], _, _ => exact ⟨[], fun _ _ _ => .nil, BindsTo.of_defaults (T := 436) rfl (X _ _ kd) rfl rfl rfl⟩
  | [], h0, _ => exact absurd (show 1 ≤ 0 from h0) (by decide)
  | v0 :: v1 :: v2 :: vs, _, h1 => exact absurd (show _ ≤ 2 from h1) (by simp)
 ·intro prog h₀ G so
  show SndB prog w h₀ _ ["expr", "sources"] _ W_443
  unfold W_443 W_443_1 W_443_2 W_443_3 W_443_4
  exact (Zb (Zz (Yl (Yu G (Zed w) (Zd9 w) (Za rfl) rfl (Zei w) rfl rfl (Zx w) rfl) Y5 rfl)
 (Zb (Zu (Zi G (Zft w) (Za rfl) (fun _ => rfl))) Ze)
 Ze) (Zb (Zz (Yl (Yu G (Zej w) (Zdy w) (Za rfl) rfl (gl_Cast w) rfl rfl (Zx w) rfl) Y5 rfl)
 (Zb Zau Ze)
 Ze) (Zb (Zz (Yl (Yu G (Zcl w) (Zch w) (Za rfl) rfl (Zdb w) rfl rfl (Zx w) rfl) Y5 rfl)
 (Zb (Zu (Zj G (Zh rfl (Zi G (Vt w) (Za rfl) (fun _ => rfl)) (Zh rfl (Za rfl) Zs)) (Xe w) (Xf w) rfl rfl)) Ze)
 Ze) (Zb (Zz (Yl (Yu G (Zgj w) (Zgo w) (Za rfl) rfl (Zgz w) rfl rfl (Zx w) rfl) Y5 rfl)
 (Zb Zau Ze)
 Ze) (Zb (Zu Zw) Ze)))))
theorem fn_450 : FnOk w (K39 w.params) 450 F_450.p F_450.df F_450.ns F_450.W := by
 refine Yv (by k_is) (by k_is) ?_ ?_ ?_ ?_
 ·exact .of (by kernel_rfl) rfl rfl rfl (by kernel_rfl)
 ·decide
 ·exact b1 fun _ => rfl
 ·intro prog h₀ G so
  show SndB prog w h₀ _ ["expr"] _ W_450
  unfold W_450 W_450_1 W_450_2 W_450_3 W_450_4
  exact (Zb (Zz (Yl (Yu G (Zcl w) (Zch w) (Za rfl) rfl (Zdb w) rfl rfl (Zx w) rfl) Y5 rfl)
 (Zb Zau Ze)
 Ze) (Zb (Zz (Yl (Yu G (Ka w) (J7 w) (Za rfl) rfl (Ki w) rfl rfl (Zx w) rfl) Y5 rfl)
 (Zb (Zu (Zj G (Zh rfl (Zi G (Jm w) (Za rfl) (fun _ => rfl)) Zs) (Yn w) (Ym w) rfl rfl)) Ze)
 Ze) (Zb (Zz (Yl (Yu G (Zej w) (Zdy w) (Za rfl) rfl (gl_Cast w) rfl rfl (Zx w) rfl) Y5 rfl)
 (Zb (Zu (Zj G (Zh rfl (Zi G (Vt w) (Za rfl) (fun _ => rfl)) Zs) (Yn w) (Ym w) rfl rfl)) Ze)
 Ze) (Zb (Zz (Yl (Yu G (Vz w) (Vy w) (Za rfl) rfl (V2 w) rfl rfl (Zx w) rfl) Y5 rfl)
 (Zb (Zu (Km (Zee (Zj G (Zh rfl (Zi G (U4 w) (Za rfl) (fun _ => rfl)) Zs) (Yn w) (Ym w) rfl rfl) Y5 (Zcd (Zj G (Zh rfl (Zi G (V0 w) (Za rfl) (fun _ => rfl)) Zs) (Yn w) (Ym w) rfl rfl))))) Ze)
 Ze) (Zb (Zu Zw) Ze)))))
theorem fn_457 : FnOk w (K39 w.params) 457 F_457.p F_457.df F_457.ns F_457.W := by
 refine Yv (by k_is) (by k_is) ?_ ?_ ?_ ?_
 ·exact .of (by kernel_rfl) rfl rfl rfl (by kernel_rfl)
 ·decide
 ·exact b1 fun _ => rfl
 ·intro prog h₀ G so
  show SndB prog w h₀ _ ["expr"] _ W_457
  unfold W_457 W_457_1 W_457_2 W_457_3
  exact (Zb (Zz (Yl (Yu G (Zed w) (Zd9 w) (Za rfl) rfl (Zei w) rfl rfl (Zx w) rfl) Y5 rfl)
 (Zb (Zu (Zi G (Zfj w) (Za rfl) (fun _ => rfl))) Ze)
 Ze) (Zb (Zz (Yl (Yu G (Zej w) (Zdy w) (Za rfl) rfl (gl_Cast w) rfl rfl (Zx w) rfl) Y5 rfl)
 (Zb (Zu (Zj G (Zh rfl (Zi G (Vt w) (Za rfl) (fun _ => rfl)) Zs) (Xj w) (Xm w) rfl rfl)) Ze)
 Ze) (Zb (Zz (Yc (Z5 (Yl (Yu G (Ka w) (J7 w) (Za rfl) rfl (Ki w) rfl rfl (Zx w) rfl) Y5 rfl) (Z5 (Zq Yh (Zi G (J3 w) (Za rfl) (fun _ => rfl)) (Zg (Zd _)) rfl) Yd)))
 (Zb (Zu (Zj G (Zh rfl (Zi G (Jm w) (Za rfl) (fun _ => rfl)) Zs) (Xj w) (Xm w) rfl rfl)) Ze)
 Ze) (Zb (Zu Zw) Ze))))
theorem kd_465 : List.lookup 458 (K39 w.params) = some { cls := .type "tuple", data := .seq #[.none] } := by k_is
theorem fn_465 : FnOk w (K39 w.params) 465 F_465.p F_465.df F_465.ns F_465.W := by
 refine Yv (by k_is) (by k_is) ?_ ?_ ?_ ?_
 ·exact .of (by kernel_rfl) rfl rfl rfl (by kernel_rfl)
 ·decide
 ·intro s vs X h0 h1
  have kd := kd_465 w
  match vs, h0, h1 with
  | [v0], _, _ => exact ⟨[_], fun _ _ _ => (.cons .none .nil), BindsTo.of_defaults (T := 458) rfl (X _ _ kd) rfl rfl rfl⟩
  | [v0, v1], _, _ => exact ⟨[], fun _ _ _ => .nil, BindsTo.of_defaults (T := 458) rfl (X _ _ kd) rfl rfl rfl⟩
  | [], h0, _ => exact absurd (show 1 ≤ 0 from h0) (by decide)
  | v0 :: v1 :: v2 :: vs, _, h1 => exact absurd (show _ ≤ 2 from h1) (by simp)
 ·intro prog h₀ G so
  show SndB prog w h₀ _ ["expr", "sources"] _ W_465
  unfold W_465
  exact (Zb (Zu (Km (Zee (Zj G (Zh rfl (Za rfl) Zs) (Yn w) (Ym w) rfl rfl) Y5 (Zee (Zj G (Zh rfl (Za rfl) Zs) (Xj w) (Xm w) rfl rfl) Y5 (Zcd (Zg (Zd _))))))) Ze)
theorem fn_472 : FnOk w (K39 w.params) 472 F_472.p F_472.df F_472.ns F_472.W := by
 refine Yv (by k_is) (by k_is) ?_ ?_ ?_ ?_
 ·exact .of (by kernel_rfl) rfl rfl rfl (by kernel_rfl)
 ·decide
 ·exact b2 fun _ _ => rfl
 ·intro prog h₀ G so
  show SndB prog w h₀ _ ["left", "right", "found"] _ W_472
  unfold W_472
  exact (Zb (Zc2 (Z6 (Zh rfl (Zj G (Zh rfl (Za rfl) Zs) (Yn w) (Ym w) rfl rfl) (Zh rfl (Zj G (Zh rfl (Za rfl) Zs) (Yn w) (Ym w) rfl rfl) (Zh rfl (Zj G (Zh rfl (Za rfl) Zs) (Xj w) (Xm w) rfl rfl) Zs))) (by decide)) (Zk rfl so)
 (Zb (Zz (Zq Zd1 (Za rfl) Zw rfl)
 (Zb (Zu (Za rfl)) Ze)
 Ze) Ze) (fun _ _ => rfl)) (Zb (Zu (Km (Zee (Zj G (Zh rfl (Za rfl) Zs) (Xj w) (Xm w) rfl rfl) Y5 (Zcd (Zg (Zd _)))))) Ze))
theorem fn_479 : FnOk w (K39 w.params) 479 F_479.p F_479.df F_479.ns F_479.W := by
 refine Yv (by k_is) (by k_is) ?_ ?_ ?_ ?_
 ·exact .of (by kernel_rfl) rfl rfl rfl (by kernel_rfl)
 ·decide
 ·exact b1 fun _ => rfl
 ·intro prog h₀ G so
  show SndB prog w h₀ _ ["op"] _ W_479
  unfold W_479
  exact (Zb (Zu (Xb Kr (Za rfl) (Z6 (Zh rfl (Zg (Zd _)) (Zh rfl (Zg (Zd _)) (Zh rfl (Zg (Zd _)) (Zh rfl (Zg (Zd _)) (Zh rfl (Zg (Zd _)) (Zh rfl (Zg (Zd _)) (Zh rfl (Zg (Zd _)) (Zh rfl (Zg (Zd _)) Zs)))))))) (by decide)) rfl)) Ze)
theorem fn_486 : FnOk w (K39 w.params) 486 F_486.p F_486.df F_486.ns F_486.W := by
 refine Yv (by k_is) (by k_is) ?_ ?_ ?_ ?_
 ·exact .of (by kernel_rfl) rfl rfl rfl (by kernel_rfl)
 ·decide
 ·exact b1 fun _ => rfl
 ·intro prog h₀ G so
  show SndB prog w h₀ _ ["op"] _ W_486
  unfold W_486
  exact (Zb (Zu (Zr (snd_dicS G (SndP.cons (Zg (Zd _)) (Zg (Zd _)) (SndP.cons (Zg (Zd _)) (Zg (Zd _)) (SndP.cons (Zg (Zd _)) (Zg (Zd _)) (SndP.cons (Zg (Zd _)) (Zg (Zd _)) (SndP.cons (Zg (Zd _)) (Zg (Zd _)) (SndP.cons (Zg (Zd _)) (Zg (Zd _)) (SndP.cons (Zg (Zd _)) (Zg (Zd _)) (SndP.cons (Zg (Zd _)) (Zg (Zd _)) SndP.nil)))))))) (List.cons_ne_nil _ _) (by decide)) (Za rfl) rfl)) Ze)
theorem fn_500 : FnOk w (K39 w.params) 500 F_500.p F_500.df F_500.ns F_500.W := by
 refine Yv (by k_is) (by k_is) ?_ ?_ ?_ ?_
 ·exact .of (by kernel_rfl) rfl rfl rfl (by kernel_rfl)
 ·decide
 ·exact b2 fun _ _ => rfl
 ·intro prog h₀ G so
  show SndB prog w h₀ _ ["self", "program"] _ W_500
  unfold W_500
  exact (Zb (Zl rfl (Za rfl) (Z7 G (Jl w) (Za rfl)) (fun _ => rfl) (fun _ _ => rfl)) (Zb (Zl rfl (snd_dic0 G) (Z7 G (Jd w) (Za rfl)) (fun _ => rfl) (fun _ _ => rfl)) Ze))
theorem kd_508 : List.lookup 501 (K39 w.params) = some { cls := .type "tuple", data := .seq #[.none] } := by k_is
theorem fn_508 : FnOk w (K39 w.params) 508 F_508.p F_508.df F_508.ns F_508.W := by
 refine Yv (by k_is) (by k_is) ?_ ?_ ?_ ?_
 ·exact .of (by kernel_rfl) rfl rfl rfl (by kernel_rfl)
 ·decide
 ·intro s vs X h0 h1
  have kd := kd_508 w
  match vs, h0, h1 with
  | [v0, v1], _, _ => exact ⟨[_], fun _ _ _ => (.cons .none .nil), BindsTo.of_defaults (T := 501) rfl (X _ _ kd) rfl rfl rfl⟩
  | [v0, v1, v2], _, _ => exact ⟨[], fun _ _ _ => .nil, BindsTo.of_defaults (T := 501) rfl (X _ _ kd) rfl rfl rfl⟩
  | [], h0, _ => exact absurd (show 2 ≤ 0 from h0) (by decide)
  | [v0], h0, _ => exact absurd (show 2 ≤ 1 from h0) (by decide)
  | v0 :: v1 :: v2 :: v3 :: vs, _, h1 => exact absurd (show _ ≤ 3 from h1) (by simp)
 ·intro prog h₀ G so
  show SndB prog w h₀ _ ["self", "expr", "into", "target", "operand"] _ Zf7
  unfold Zf7 Zck W_508_2
  exact (Zb (Zl rfl (Y9 (Zq Xu (Za rfl) Zw rfl) (Zm G (Vu w) (Zi G (Zv w) (Za rfl) (fun _ => rfl)) Zs (fun _ => rfl)) (Za rfl)) (Zk rfl so) (fun _ => rfl) (fun _ _ => rfl)) (Zb (Zz (Yl (Yu G (Zfx w) (Zf4 w) (Za rfl) rfl (Zdi w) rfl rfl (Zx w) rfl) Y5 rfl)
 (Zb (Zt (Zm G (Xn w) (Zi G (Zv w) (Za rfl) (fun _ => rfl)) (Zh rfl (Zg (Zd _)) (Zh rfl Zf (Zh rfl (Za rfl) (Zh rfl Zf (Zh rfl (Zi G (Vt w) (Za rfl) (fun _ => rfl)) Zs))))) (fun _ => rfl)) rfl (fun _ => rfl)) Ze)
 (Zb (Zz (Yl (Yu G (Zfp w) (Zfi w) (Za rfl) rfl (Zf3 w) rfl rfl (Zx w) rfl) Y5 rfl)
 (Zb Zau Ze)
 (Zb (Zz (Yl (Yu G (Zed w) (Zd9 w) (Za rfl) rfl (Zei w) rfl rfl (Zx w) rfl) Y5 rfl)
 (Zb (Zz (Zq Kl (Zi G (Ze3 w) (Za rfl) (fun _ => rfl)) (Zi G (Jq w) (Za rfl) (fun _ => rfl)) rfl)
 (Zb Zau Ze)
 Ze) (Zb (Zt (Zm G (Zhg w) (Za rfl) (Zh rfl (Zi G (Ze3 w) (Za rfl) (fun _ => rfl)) (Zh rfl (Zi G (at_place w) (Za rfl) (fun _ => rfl)) (Zh rfl (Za rfl) Zs))) (fun _ => rfl)) rfl (fun _ => rfl)) Ze))
 (Zb (Zz (Yl (Yu G (Ka w) (J7 w) (Za rfl) rfl (Ki w) rfl rfl (Zx w) rfl) Y5 rfl)
 (Zb (Zl rfl (Zm G (Z9 w) (Za rfl) (Zh rfl (Zi G (Jm w) (Za rfl) (fun _ => rfl)) Zs) (fun _ => rfl)) (Zk rfl so) (fun _ => rfl) (fun _ _ => rfl)) (Zb (Zt (Zm G (Xn w) (Zi G (Zv w) (Za rfl) (fun _ => rfl)) (Zh rfl (Zg (Zd _)) (Zh rfl (Za rfl) (Zh rfl (Za rfl) (Zh rfl Zf (Zh rfl (Zi G (J3 w) (Za rfl) (fun _ => rfl)) Zs))))) (fun _ => rfl)) rfl (fun _ => rfl)) Ze))
 (Zb (Zz (Yl (Yu G (Vz w) (Vy w) (Za rfl) rfl (V2 w) rfl rfl (Zx w) rfl) Y5 rfl)
 (Zb (Zt (Zm G (Zhi w) (Za rfl) (Zh rfl (Za rfl) (Zh rfl (Za rfl) Zs)) (fun _ => rfl)) rfl (fun _ => rfl)) Ze)
 (Zb (Zz (Yl (Yu G (Zf2 w) (Zf0 w) (Za rfl) rfl (Zdm w) rfl rfl (Zx w) rfl) Y5 rfl)
 (Zb (Zt (Zm G (Zge w) (Za rfl) (Zh rfl (Za rfl) (Zh rfl (Za rfl) Zs)) (fun _ => rfl)) rfl (fun _ => rfl)) Ze)
 (Zb (Zz (Yl (Yu G (isi_Case w) (cls_Case w) (Za rfl) rfl (gl_Case w) rfl rfl (Zx w) rfl) Y5 rfl)
 (Zb (Zt (Zm G (me_case w) (Za rfl) (Zh rfl (Za rfl) (Zh rfl (Za rfl) Zs)) (fun _ => rfl)) rfl (fun _ => rfl)) Ze)
 (Zb (Zz (Yl (Yu G (Za4 w) (Za5 w) (Za rfl) rfl (Zaf w) rfl rfl (Zx w) rfl) Y5 rfl)
 (Zb (Zt (Zm G (Zgp w) (Za rfl) (Zh rfl (Za rfl) (Zh rfl (Za rfl) Zs)) (fun _ => rfl)) rfl (fun _ => rfl)) Ze)
 (Zb (Zz (Yl (Yu G (Zga w) (Zgl w) (Za rfl) rfl (Zfl w) rfl rfl (Zx w) rfl) Y5 rfl)
 (Zb (Zt (Zm G (Zgf w) (Za rfl) (Zh rfl (Za rfl) (Zh rfl (Za rfl) Zs)) (fun _ => rfl)) rfl (fun _ => rfl)) Ze)
 (Zb Zau Ze)) Ze)) Ze)) Ze)) Ze)) Ze)) Ze)) Ze)) Ze)) (Zb (Zu (Za rfl)) Ze)))
theorem fn_529 : FnOk w (K39 w.params) 529 F_529.p F_529.df F_529.ns F_529.W := by
 refine Yv (by k_is) (by k_is) ?_ ?_ ?_ ?_
 ·exact .of (by kernel_rfl) rfl rfl rfl (by kernel_rfl)
 ·decide
 ·exact b4 fun _ _ _ _ => rfl
 ·intro prog h₀ G so
  show SndB prog w h₀ _ ["self", "number", "place", "target", "kind", "held"] _ W_529
  unfold W_529
  exact (Zb (Zl rfl (Vi (Zr (Zi G (Jq w) (Za rfl) (fun _ => rfl)) (Za rfl) rfl) Zak (Jf Zf)) (Jc (SndAs.cons rfl (Zk rfl so) (SndAs.cons rfl (Zk rfl so) SndAs.nil))) (fun _ => rfl) (fun _ _ => rfl)) (Zb (Zt (Zm G (Xn w) (Zi G (Zv w) (Za rfl) (fun _ => rfl)) (Zh rfl (Zg (Zd _)) (Zh rfl (Y9 (Zq Yh (Za rfl) (Zg (Zd _)) rfl) (Zr (Za rfl) (Za rfl) rfl) (Z8 Ug (Za rfl) (Za rfl))) (Zh rfl (Za rfl) (Zh rfl Zf Zs)))) (fun _ => rfl)) rfl (fun _ => rfl)) Ze))
theorem fn_536 : FnOk w (K39 w.params) 536 F_536.p F_536.df F_536.ns F_536.W := by
 refine Yv (by k_is) (by k_is) ?_ ?_ ?_ ?_
 ·exact .of (by kernel_rfl) rfl rfl rfl (by kernel_rfl)
 ·decide
 ·exact b3 fun _ _ _ => rfl
 ·intro prog h₀ G so
  show SndB prog w h₀ _ ["self", "expr", "target", "left", "right", "affinities", "collation"] _ W_536
  unfold W_536 W_536_1 W_536_2
  exact (Zb (Zl rfl (Zm G (Z9 w) (Za rfl) (Zh rfl (Zi G (U4 w) (Za rfl) (fun _ => rfl)) Zs) (fun _ => rfl)) (Zk rfl so) (fun _ => rfl) (fun _ _ => rfl)) (Zb (Zl rfl (Zm G (Z9 w) (Za rfl) (Zh rfl (Zi G (V0 w) (Za rfl) (fun _ => rfl)) Zs) (fun _ => rfl)) (Zk rfl so) (fun _ => rfl) (fun _ _ => rfl)) (Zb (Zz (Zq Kr (Zi G (J3 w) (Za rfl) (fun _ => rfl)) (Z6 (Zh rfl (Zg (Zd _)) (Zh rfl (Zg (Zd _)) Zs)) (by decide)) rfl)
 (Zb (Zt (Zm G (Xn w) (Zi G (Zv w) (Za rfl) (fun _ => rfl)) (Zh rfl (Zg (Zd _)) (Zh rfl (Za rfl) (Zh rfl (Za rfl) (Zh rfl (Za rfl) (Zh rfl (Zi G (J3 w) (Za rfl) (fun _ => rfl)) Zs))))) (fun _ => rfl)) rfl (fun _ => rfl)) Ze)
 (Zb (Zz (Yl (Zj G (Zh rfl (Zi G (J3 w) (Za rfl) (fun _ => rfl)) Zs) (Uk w) (Ul w) rfl rfl) Y5 rfl)
 (Zb (Zl rfl (Zj G (Zh rfl (Zj G (Zh rfl (Zi G (U4 w) (Za rfl) (fun _ => rfl)) Zs) (Xe w) (Xf w) rfl rfl) (Zh rfl (Zj G (Zh rfl (Zi G (V0 w) (Za rfl) (fun _ => rfl)) Zs) (Xe w) (Xf w) rfl rfl) Zs)) (Xa w) (Y8 w) rfl rfl) (Zk rfl so) (fun _ => rfl) (fun _ _ => rfl)) (Zb (Zl rfl (Zj G (Zh rfl (Zi G (U4 w) (Za rfl) (fun _ => rfl)) (Zh rfl (Zi G (V0 w) (Za rfl) (fun _ => rfl)) Zs)) (Xz w) (X1 w) rfl rfl) (Zk rfl so) (fun _ => rfl) (fun _ _ => rfl)) (Zb (Zt (Zm G (Xn w) (Zi G (Zv w) (Za rfl) (fun _ => rfl)) (Zh rfl (Zg (Zd _)) (Zh rfl (Za rfl) (Zh rfl (Za rfl) (Zh rfl (Za rfl) (Zh rfl (Z6 (Zh rfl (Zi G (J3 w) (Za rfl) (fun _ => rfl)) (Zh rfl (Za rfl) (Zh rfl (Za rfl) Zs))) (by decide)) Zs))))) (fun _ => rfl)) rfl (fun _ => rfl)) Ze)))
 (Zb (Zt (Zm G (Xn w) (Zi G (Zv w) (Za rfl) (fun _ => rfl)) (Zh rfl (Zg (Zd _)) (Zh rfl (Za rfl) (Zh rfl (Za rfl) (Zh rfl (Za rfl) (Zh rfl (Zi G (J3 w) (Za rfl) (fun _ => rfl)) Zs))))) (fun _ => rfl)) rfl (fun _ => rfl)) Ze)) Ze)) Ze)))
theorem fn_543 : FnOk w (K39 w.params) 543 F_543.p F_543.df F_543.ns F_543.W := by
 refine Yv (by k_is) (by k_is) ?_ ?_ ?_ ?_
 ·exact .of (by kernel_rfl) rfl rfl rfl (by kernel_rfl)
 ·decide
 ·exact b6 fun _ _ _ _ _ _ => rfl
 ·intro prog h₀ G so
  show SndB prog w h₀ _ ["self", "op", "value", "register", "other", "target", "right", "affinities", "told"] _ W_543
  unfold W_543 W_543_1 W_543_2 W_543_3
  exact (Zb (Zl rfl (Zm G (Z9 w) (Za rfl) (Zh rfl (Za rfl) Zs) (fun _ => rfl)) (Zk rfl so) (fun _ => rfl) (fun _ _ => rfl)) (Zb (Zl rfl (Zj G (Zh rfl (Zj G (Zh rfl (Za rfl) Zs) (Xe w) (Xf w) rfl rfl) (Zh rfl (Zj G (Zh rfl (Za rfl) Zs) (Xe w) (Xf w) rfl rfl) Zs)) (Xa w) (Y8 w) rfl rfl) (Zk rfl so) (fun _ => rfl) (fun _ _ => rfl)) (Zb (Zl rfl (Z6 (Zh rfl (Za rfl) (Zh rfl (Zj G (Zh rfl (Za rfl) (Zh rfl (Za rfl) Zs)) (Xz w) (X1 w) rfl rfl) (Zh rfl (Za rfl) Zs))) (by decide)) (Zk rfl so) (fun _ => rfl) (fun _ _ => rfl)) (Zb (Zt (Zm G (Xn w) (Zi G (Zv w) (Za rfl) (fun _ => rfl)) (Zh rfl (Zg (Zd _)) (Zh rfl (Za rfl) (Zh rfl (Za rfl) (Zh rfl (Za rfl) (Zh rfl (Za rfl) Zs))))) (fun _ => rfl)) rfl (fun _ => rfl)) Ze))))
theorem fn_550 : FnOk w (K39 w.params) 550 F_550.p F_550.df F_550.ns F_550.W := by
 refine Yv (by k_is) (by k_is) ?_ ?_ ?_ ?_
 ·exact .of (by kernel_rfl) rfl rfl rfl (by kernel_rfl)
 ·decide
 ·exact b3 fun _ _ _ => rfl
 ·intro prog h₀ G so
  show SndB prog w h₀ _ ["self", "expr", "target", "value", "low", "high"] _ W_550
  unfold W_550 W_550_1 W_550_2 W_550_3 W_550_4 W_550_5 W_550_6
  exact (Zb (Zl rfl (Zm G (Z9 w) (Za rfl) (Zh rfl (Zi G (Vt w) (Za rfl) (fun _ => rfl)) Zs) (fun _ => rfl)) (Zk rfl so) (fun _ => rfl) (fun _ _ => rfl)) (Zb (Zl rfl (Zm G (Vu w) (Zi G (Zv w) (Za rfl) (fun _ => rfl)) Zs (fun _ => rfl)) (Zk rfl so) (fun _ => rfl) (fun _ _ => rfl)) (Zb (Zl rfl (Zm G (Vu w) (Zi G (Zv w) (Za rfl) (fun _ => rfl)) Zs (fun _ => rfl)) (Zk rfl so) (fun _ => rfl) (fun _ _ => rfl)) (Zb (Zt (Zm G (K4 w) (Za rfl) (Zh rfl (Zg (Zd _)) (Zh rfl (Zi G (Vt w) (Za rfl) (fun _ => rfl)) (Zh rfl (Za rfl) (Zh rfl (Zi G (at_low w) (Za rfl) (fun _ => rfl)) (Zh rfl (Za rfl) Zs))))) (fun _ => rfl)) rfl (fun _ => rfl)) (Zb (Zt (Zm G (K4 w) (Za rfl) (Zh rfl (Zg (Zd _)) (Zh rfl (Zi G (Vt w) (Za rfl) (fun _ => rfl)) (Zh rfl (Za rfl) (Zh rfl (Zi G (at_high w) (Za rfl) (fun _ => rfl)) (Zh rfl (Za rfl) Zs))))) (fun _ => rfl)) rfl (fun _ => rfl)) (Zb (Zt (Zm G (Xn w) (Zi G (Zv w) (Za rfl) (fun _ => rfl)) (Zh rfl (Zg (Zd _)) (Zh rfl (Za rfl) (Zh rfl (Za rfl) (Zh rfl (Za rfl) (Zh rfl (Zg (Zd _)) Zs))))) (fun _ => rfl)) rfl (fun _ => rfl)) (Zb (Zt (Zm G (Ze2 w) (Za rfl) (Zh rfl (Za rfl) (Zh rfl (Zi G (Uw w) (Za rfl) (fun _ => rfl)) Zs)) (fun _ => rfl)) rfl (fun _ => rfl)) Ze)))))))
theorem fn_557 : FnOk w (K39 w.params) 557 F_557.p F_557.df F_557.ns F_557.W := by
 refine Yv (by k_is) (by k_is) ?_ ?_ ?_ ?_
 ·exact .of (by kernel_rfl) rfl rfl rfl (by kernel_rfl)
 ·decide
 ·exact b3 fun _ _ _ => rfl
 ·intro prog h₀ G so
  show SndB prog w h₀ _ ["self", "target", "negated"] _ W_557
  unfold W_557
  exact (Zb (Zz (Yl (Za rfl) Y5 rfl)
 (Zb (Zt (Zm G (Xn w) (Zi G (Zv w) (Za rfl) (fun _ => rfl)) (Zh rfl (Zg (Zd _)) (Zh rfl (Za rfl) (Zh rfl (Za rfl) (Zh rfl Zf (Zh rfl (Zg (Zd _)) Zs))))) (fun _ => rfl)) rfl (fun _ => rfl)) Ze)
 Ze) Ze)
theorem fn_564 : FnOk w (K39 w.params) 564 F_564.p F_564.df F_564.ns F_564.W := by
 refine Yv (by k_is) (by k_is) ?_ ?_ ?_ ?_
 ·exact .of (by kernel_rfl) rfl rfl rfl (by kernel_rfl)
 ·decide
 ·exact b3 fun _ _ _ => rfl
 ·intro prog h₀ G so
  show SndB prog w h₀ _ ["self", "expr", "target", "value", "end"] _ W_564
  unfold W_564 W_564_1 W_564_2 W_564_3 W_564_4 W_564_5
  exact (Zb (Zl rfl (Zm G (Z9 w) (Za rfl) (Zh rfl (Zi G (Vt w) (Za rfl) (fun _ => rfl)) Zs) (fun _ => rfl)) (Zk rfl so) (fun _ => rfl) (fun _ _ => rfl)) (Zb (Zl rfl (Zm G (V9 w) (Zi G (Zv w) (Za rfl) (fun _ => rfl)) Zs (fun _ => rfl)) (Zk rfl so) (fun _ => rfl) (fun _ _ => rfl)) (Zb (Zt (Zm G (Xn w) (Zi G (Zv w) (Za rfl) (fun _ => rfl)) (Zh rfl (Zg (Zd _)) (Zh rfl Zf (Zh rfl (Za rfl) (Zh rfl Zf (Zh rfl (Y9 (Yl (Zi G (Uw w) (Za rfl) (fun _ => rfl)) Y5 rfl) Zf Zf) Zs))))) (fun _ => rfl)) rfl (fun _ => rfl)) (Zb (Zt (Zm G (Xn w) (Zi G (Zv w) (Za rfl) (fun _ => rfl)) (Zh rfl (Zg (Zd _)) (Zh rfl (Za rfl) (Zh rfl (Za rfl) Zs))) (fun _ => rfl)) rfl (fun _ => rfl)) (Zb (Zt (Zm G (Xn w) (Zi G (Zv w) (Za rfl) (fun _ => rfl)) (Zh rfl (Zg (Zd _)) (Zh rfl Zf (Zh rfl (Za rfl) (Zh rfl Zf (Zh rfl (Y9 (Yl (Zi G (Uw w) (Za rfl) (fun _ => rfl)) Y5 rfl) Zf Zf) Zs))))) (fun _ => rfl)) rfl (fun _ => rfl)) (Zb (Zt (Zm G (Ua w) (Zi G (Zv w) (Za rfl) (fun _ => rfl)) (Zh rfl (Za rfl) Zs) (fun _ => rfl)) rfl (fun _ => rfl)) Ze))))))
theorem fn_571 : FnOk w (K39 w.params) 571 F_571.p F_571.df F_571.ns F_571.W := by
 refine Yv (by k_is) (by k_is) ?_ ?_ ?_ ?_
 ·exact .of (by kernel_rfl) rfl rfl rfl (by kernel_rfl)
 ·decide
 ·exact b3 fun _ _ _ => rfl
 ·intro prog h₀ G so
  show SndB prog w h₀ _ ["self", "expr", "target", "end", "base", "when", "then", "following", "found"] _ W_571
  unfold W_571 Zbi W_571_2 U2 Zcs
  exact (Zb (Zl rfl (Zm G (V9 w) (Zi G (Zv w) (Za rfl) (fun _ => rfl)) Zs (fun _ => rfl)) (Zk rfl so) (fun _ => rfl) (fun _ _ => rfl)) (Zb (Zl rfl (Y9 (Zq Xu (Zi G (at_base w) (Za rfl) (fun _ => rfl)) Zw rfl) Zw (Zm G (Z9 w) (Za rfl) (Zh rfl (Zi G (at_base w) (Za rfl) (fun _ => rfl)) Zs) (fun _ => rfl))) (Zk rfl so) (fun _ => rfl) (fun _ _ => rfl)) (Zb (Zc2 (Zi G (at_whens w) (Za rfl) (fun _ => rfl)) (Jc (SndAs.cons rfl (Zk rfl so) (SndAs.cons rfl (Zk rfl so) SndAs.nil)))
 (Zb (Zl rfl (Zm G (V9 w) (Zi G (Zv w) (Za rfl) (fun _ => rfl)) Zs (fun _ => rfl)) (Zk rfl so) (fun _ => rfl) (fun _ _ => rfl)) (Zb (Zz (Zq Xu (Za rfl) Zw rfl)
 (Zb (Zt (Zm G (Xw w) (Za rfl) (Zh rfl (Za rfl) (Zh rfl (Za rfl) (Zh rfl Ud Zs))) (fun _ => rfl)) rfl (fun _ => rfl)) Ze)
 (Zb (Zl rfl (Zm G (Vu w) (Zi G (Zv w) (Za rfl) (fun _ => rfl)) Zs (fun _ => rfl)) (Zk rfl so) (fun _ => rfl) (fun _ _ => rfl)) (Zb (Zt (Zm G (K4 w) (Za rfl) (Zh rfl (Zg (Zd _)) (Zh rfl (Zi G (at_base w) (Za rfl) (fun _ => rfl)) (Zh rfl (Za rfl) (Zh rfl (Za rfl) (Zh rfl (Za rfl) Zs))))) (fun _ => rfl)) rfl (fun _ => rfl)) (Zb (Zt (Zm G (Xn w) (Zi G (Zv w) (Za rfl) (fun _ => rfl)) (Zh rfl (Zg (Zd _)) (Zh rfl (Za rfl) (Zh rfl (Za rfl) (Zh rfl Zf Zs)))) (fun _ => rfl)) rfl (fun _ => rfl)) Ze)))) (Zb (Zt (Zm G (Z9 w) (Za rfl) (Zh rfl (Za rfl) (Zh rfl (Za rfl) Zs)) (fun _ => rfl)) rfl (fun _ => rfl)) (Zb (Zt (Zm G (Xn w) (Zi G (Zv w) (Za rfl) (fun _ => rfl)) (Zh rfl (Zg (Zd _)) (Zh rfl Zf (Zh rfl (Za rfl) Zs))) (fun _ => rfl)) rfl (fun _ => rfl)) (Zb (Zt (Zm G (Ua w) (Zi G (Zv w) (Za rfl) (fun _ => rfl)) (Zh rfl (Za rfl) Zs) (fun _ => rfl)) rfl (fun _ => rfl)) Ze))))) (fun _ _ => rfl)) (Zb (Zz (Zq Xu (Zi G (at_other w) (Za rfl) (fun _ => rfl)) Zw rfl)
 (Zb (Zt (Zm G (Xn w) (Zi G (Zv w) (Za rfl) (fun _ => rfl)) (Zh rfl (Zg (Zd _)) (Zh rfl Zf (Zh rfl (Za rfl) (Zh rfl Zf Zs)))) (fun _ => rfl)) rfl (fun _ => rfl)) Ze)
 (Zb (Zt (Zm G (Z9 w) (Za rfl) (Zh rfl (Zi G (at_other w) (Za rfl) (fun _ => rfl)) (Zh rfl (Za rfl) Zs)) (fun _ => rfl)) rfl (fun _ => rfl)) Ze)) (Zb (Zt (Zm G (Ua w) (Zi G (Zv w) (Za rfl) (fun _ => rfl)) (Zh rfl (Za rfl) Zs) (fun _ => rfl)) rfl (fun _ => rfl)) Ze)))))
theorem fn_578 : FnOk w (K39 w.params) 578 F_578.p F_578.df F_578.ns F_578.W := by
 refine Yv (by k_is) (by k_is) ?_ ?_ ?_ ?_
 ·exact .of (by kernel_rfl) rfl rfl rfl (by kernel_rfl)
 ·decide
 ·exact b3 fun _ _ _ => rfl
 ·intro prog h₀ G so
  show SndB prog w h₀ _ ["self", "expr", "target", "value", "hit", "end", "told", "item", "following", "register", "found"] _ W_578
  unfold W_578 W_578_1 W_578_2 W_578_3 W_578_4 W_578_5 Zev W_578_7 W_578_8 W_578_9 W_578_10
  exact (Zb (Zl rfl (Zm G (Z9 w) (Za rfl) (Zh rfl (Zi G (Vt w) (Za rfl) (fun _ => rfl)) Zs) (fun _ => rfl)) (Zk rfl so) (fun _ => rfl) (fun _ _ => rfl)) (Zb (Zl rfl (Zm G (V9 w) (Zi G (Zv w) (Za rfl) (fun _ => rfl)) Zs (fun _ => rfl)) (Zk rfl so) (fun _ => rfl) (fun _ _ => rfl)) (Zb (Zl rfl (Zm G (V9 w) (Zi G (Zv w) (Za rfl) (fun _ => rfl)) Zs (fun _ => rfl)) (Zk rfl so) (fun _ => rfl) (fun _ _ => rfl)) (Zb (Zt (Zm G (Xn w) (Zi G (Zv w) (Za rfl) (fun _ => rfl)) (Zh rfl (Zg (Zd _)) (Zh rfl Zf (Zh rfl (Za rfl) (Zh rfl Zf (Zh rfl Zf Zs))))) (fun _ => rfl)) rfl (fun _ => rfl)) (Zb (Zl rfl (Z6 (Zh rfl (Zg (Zd _)) (Zh rfl (Zj G (Zh rfl (Zi G (Vt w) (Za rfl) (fun _ => rfl)) Zs) (Zc4 w) (Zc0 w) rfl rfl) (Zh rfl (Zj G (Zh rfl (Zj G (Zh rfl (Zi G (Vt w) (Za rfl) (fun _ => rfl)) Zs) (Xe w) (Xf w) rfl rfl) (Zh rfl Zw Zs)) (Xa w) (Y8 w) rfl rfl) Zs))) (by decide)) (Zk rfl so) (fun _ => rfl) (fun _ _ => rfl)) (Zb (Zc2 (Zi G (at_items w) (Za rfl) (fun _ => rfl)) (Zk rfl so)
 (Zb (Zl rfl (Zm G (V9 w) (Zi G (Zv w) (Za rfl) (fun _ => rfl)) Zs (fun _ => rfl)) (Zk rfl so) (fun _ => rfl) (fun _ _ => rfl)) (Zb (Zl rfl (Zm G (Z9 w) (Za rfl) (Zh rfl (Za rfl) Zs) (fun _ => rfl)) (Zk rfl so) (fun _ => rfl) (fun _ _ => rfl)) (Zb (Zl rfl (Zm G (Vu w) (Zi G (Zv w) (Za rfl) (fun _ => rfl)) Zs (fun _ => rfl)) (Zk rfl so) (fun _ => rfl) (fun _ _ => rfl)) (Zb (Zt (Zm G (Xn w) (Zi G (Zv w) (Za rfl) (fun _ => rfl)) (Zh rfl (Zg (Zd _)) (Zh rfl (Za rfl) (Zh rfl (Za rfl) (Zh rfl (Za rfl) (Zh rfl (Za rfl) Zs))))) (fun _ => rfl)) rfl (fun _ => rfl)) (Zb (Zt (Zm G (Xn w) (Zi G (Zv w) (Za rfl) (fun _ => rfl)) (Zh rfl (Zg (Zd _)) (Zh rfl (Za rfl) (Zh rfl (Za rfl) (Zh rfl Zf Zs)))) (fun _ => rfl)) rfl (fun _ => rfl)) (Zb (Zt (Zm G (Xn w) (Zi G (Zv w) (Za rfl) (fun _ => rfl)) (Zh rfl (Zg (Zd _)) (Zh rfl (Za rfl) (Zh rfl (Za rfl) Zs))) (fun _ => rfl)) rfl (fun _ => rfl)) (Zb (Zt (Zm G (Xn w) (Zi G (Zv w) (Za rfl) (fun _ => rfl)) (Zh rfl (Zg (Zd _)) (Zh rfl Zf (Zh rfl (Za rfl) (Zh rfl Zf Zs)))) (fun _ => rfl)) rfl (fun _ => rfl)) (Zb (Zt (Zm G (Ua w) (Zi G (Zv w) (Za rfl) (fun _ => rfl)) (Zh rfl (Za rfl) Zs) (fun _ => rfl)) rfl (fun _ => rfl)) Ze)))))))) (fun _ _ => rfl)) (Zb (Zt (Zm G (Xn w) (Zi G (Zv w) (Za rfl) (fun _ => rfl)) (Zh rfl (Zg (Zd _)) (Zh rfl Zf (Zh rfl (Za rfl) Zs))) (fun _ => rfl)) rfl (fun _ => rfl)) (Zb (Zt (Zm G (Ua w) (Zi G (Zv w) (Za rfl) (fun _ => rfl)) (Zh rfl (Za rfl) Zs) (fun _ => rfl)) rfl (fun _ => rfl)) (Zb (Zt (Zm G (Xn w) (Zi G (Zv w) (Za rfl) (fun _ => rfl)) (Zh rfl (Zg (Zd _)) (Zh rfl Zf (Zh rfl (Za rfl) (Zh rfl Zf (Zh rfl Zf Zs))))) (fun _ => rfl)) rfl (fun _ => rfl)) (Zb (Zt (Zm G (Ua w) (Zi G (Zv w) (Za rfl) (fun _ => rfl)) (Zh rfl (Za rfl) Zs) (fun _ => rfl)) rfl (fun _ => rfl)) (Zb (Zt (Zm G (Ze2 w) (Za rfl) (Zh rfl (Za rfl) (Zh rfl (Zi G (Uw w) (Za rfl) (fun _ => rfl)) Zs)) (fun _ => rfl)) rfl (fun _ => rfl)) Ze)))))))))))
theorem kd_586 : List.lookup 579 (K39 w.params) = some { cls := .type "tuple", data := .seq #[.bool false] } := by k_is
theorem fn_586 : FnOk w (K39 w.params) 586 F_586.p F_586.df F_586.ns F_586.W := by
 refine Yv (by k_is) (by k_is) ?_ ?_ ?_ ?_
 ·exact .of (by kernel_rfl) rfl rfl rfl (by kernel_rfl)
 ·decide
 ·intro s vs X h0 h1
  have kd := kd_586 w
  match vs, h0, h1 with
  | [v0, v1, v2], _, _ => exact ⟨[_], fun _ _ _ => (.cons (.bool _) .nil), BindsTo.of_defaults (T := 579) rfl (X _ _ kd) rfl rfl rfl⟩
  | [v0, v1, v2, v3], _, _ => exact ⟨[], fun _ _ _ => .nil, BindsTo.of_defaults (T := 579) rfl (X _ _ kd) rfl rfl rfl⟩
  | [], h0, _ => exact absurd (show 3 ≤ 0 from h0) (by decide)
  | [v0], h0, _ => exact absurd (show 3 ≤ 1 from h0) (by decide)
  | [v0, v1], h0, _ => exact absurd (show 3 ≤ 2 from h0) (by decide)
  | v0 :: v1 :: v2 :: v3 :: v4 :: vs, _, h1 => exact absurd (show _ ≤ 4 from h1) (by simp)
 ·intro prog h₀ G so
  show SndB prog w h₀ _ ["self", "expr", "label", "null_jumps", "past", "value"] _ W_586
  unfold W_586
  exact (Zb (Zz (Yc (Z5 (Yl (Yu G (Vz w) (Vy w) (Za rfl) rfl (V2 w) rfl rfl (Zx w) rfl) Y5 rfl) (Z5 (Zq Yh (Zi G (J3 w) (Za rfl) (fun _ => rfl)) (Zg (Zd _)) rfl) Yd)))
 (Zb (Zl rfl (Zm G (V9 w) (Zi G (Zv w) (Za rfl) (fun _ => rfl)) Zs (fun _ => rfl)) (Zk rfl so) (fun _ => rfl) (fun _ _ => rfl)) (Zb (Zt (Zm G (Xw w) (Za rfl) (Zh rfl (Zi G (U4 w) (Za rfl) (fun _ => rfl)) (Zh rfl (Za rfl) (Zh rfl (snd_not (Za rfl) Y5) Zs))) (fun _ => rfl)) rfl (fun _ => rfl)) (Zb (Zt (Zm G (Uv w) (Za rfl) (Zh rfl (Zi G (V0 w) (Za rfl) (fun _ => rfl)) (Zh rfl (Za rfl) (Zh rfl (Za rfl) Zs))) (fun _ => rfl)) rfl (fun _ => rfl)) (Zb (Zt (Zm G (Ua w) (Zi G (Zv w) (Za rfl) (fun _ => rfl)) (Zh rfl (Za rfl) Zs) (fun _ => rfl)) rfl (fun _ => rfl)) Ze))))
 (Zb (Zz (Yc (Z5 (Yl (Yu G (Vz w) (Vy w) (Za rfl) rfl (V2 w) rfl rfl (Zx w) rfl) Y5 rfl) (Z5 (Zq Yh (Zi G (J3 w) (Za rfl) (fun _ => rfl)) (Zg (Zd _)) rfl) Yd)))
 (Zb (Zt (Zm G (Uv w) (Za rfl) (Zh rfl (Zi G (U4 w) (Za rfl) (fun _ => rfl)) (Zh rfl (Za rfl) (Zh rfl (Za rfl) Zs))) (fun _ => rfl)) rfl (fun _ => rfl)) (Zb (Zt (Zm G (Uv w) (Za rfl) (Zh rfl (Zi G (V0 w) (Za rfl) (fun _ => rfl)) (Zh rfl (Za rfl) (Zh rfl (Za rfl) Zs))) (fun _ => rfl)) rfl (fun _ => rfl)) Ze))
 (Zb (Zz (Yc (Z5 (Yl (Yu G (Ka w) (J7 w) (Za rfl) rfl (Ki w) rfl rfl (Zx w) rfl) Y5 rfl) (Z5 (Zq Yh (Zi G (J3 w) (Za rfl) (fun _ => rfl)) (Zg (Zd _)) rfl) Yd)))
 (Zb (Zt (Zm G (Xw w) (Za rfl) (Zh rfl (Zi G (Jm w) (Za rfl) (fun _ => rfl)) (Zh rfl (Za rfl) (Zh rfl (Za rfl) Zs))) (fun _ => rfl)) rfl (fun _ => rfl)) Ze)
 (Zb (Zz (Yc (Z5 (Yl (Yu G (Vz w) (Vy w) (Za rfl) rfl (V2 w) rfl rfl (Zx w) rfl) Y5 rfl) (Z5 (Yl (Zj G (Zh rfl (Zi G (J3 w) (Za rfl) (fun _ => rfl)) Zs) (Uk w) (Ul w) rfl rfl) Y5 rfl) Yd)))
 (Zb (Zt (Zm G (Jx w) (Za rfl) (Zh rfl (Za rfl) (Zh rfl (Zi G (J3 w) (Za rfl) (fun _ => rfl)) (Zh rfl (Za rfl) (Zh rfl (Za rfl) Zs)))) (fun _ => rfl)) rfl (fun _ => rfl)) Ze)
 (Zb (Zz (Yl (Yu G (Za4 w) (Za5 w) (Za rfl) rfl (Zaf w) rfl rfl (Zx w) rfl) Y5 rfl)
 (Zb (Zt (Zm G (Zbo w) (Za rfl) (Zh rfl (Za rfl) (Zh rfl (Zi G (Uw w) (Za rfl) (fun _ => rfl)) (Zh rfl (Za rfl) Zs))) (fun _ => rfl)) rfl (fun _ => rfl)) Ze)
 (Zb (Zl rfl (Zm G (Z9 w) (Za rfl) (Zh rfl (Za rfl) Zs) (fun _ => rfl)) (Zk rfl so) (fun _ => rfl) (fun _ _ => rfl)) (Zb (Zt (Zm G (Xn w) (Zi G (Zv w) (Za rfl) (fun _ => rfl)) (Zh rfl (Zg (Zd _)) (Zh rfl (Za rfl) (Zh rfl (Za rfl) (Zh rfl (Y9 (Yl (Za rfl) Y5 rfl) Zf Zf) Zs)))) (fun _ => rfl)) rfl (fun _ => rfl)) Ze))) Ze)) Ze)) Ze)) Ze)) Ze)
theorem kd_594 : List.lookup 587 (K39 w.params) = some { cls := .type "tuple", data := .seq #[.bool false] } := by k_is
theorem fn_594 : FnOk w (K39 w.params) 594 F_594.p F_594.df F_594.ns F_594.W := by
 refine Yv (by k_is) (by k_is) ?_ ?_ ?_ ?_
 ·exact .of (by kernel_rfl) rfl rfl rfl (by kernel_rfl)
 ·decide
 ·intro s vs X h0 h1
  have kd := kd_594 w
  match vs, h0, h1 with
  | [v0, v1, v2], _, _ => exact ⟨[_], fun _ _ _ => (.cons (.bool _) .nil), BindsTo.of_defaults (T := 587) rfl (X _ _ kd) rfl rfl rfl⟩
  | [v0, v1, v2, v3], _, _ => exact ⟨[], fun _ _ _ => .nil, BindsTo.of_defaults (T := 587) rfl (X _ _ kd) rfl rfl rfl⟩
  | [], h0, _ => exact absurd (show 3 ≤ 0 from h0) (by decide)
  | [v0], h0, _ => exact absurd (show 3 ≤ 1 from h0) (by decide)
  | [v0, v1], h0, _ => exact absurd (show 3 ≤ 2 from h0) (by decide)
  | v0 :: v1 :: v2 :: v3 :: v4 :: vs, _, h1 => exact absurd (show _ ≤ 4 from h1) (by simp)
 ·intro prog h₀ G so
  show SndB prog w h₀ _ ["self", "expr", "label", "null_jumps", "past", "value"] _ W_594
  unfold W_594
  exact (Zb (Zz (Yc (Z5 (Yl (Yu G (Vz w) (Vy w) (Za rfl) rfl (V2 w) rfl rfl (Zx w) rfl) Y5 rfl) (Z5 (Zq Yh (Zi G (J3 w) (Za rfl) (fun _ => rfl)) (Zg (Zd _)) rfl) Yd)))
 (Zb (Zl rfl (Zm G (V9 w) (Zi G (Zv w) (Za rfl) (fun _ => rfl)) Zs (fun _ => rfl)) (Zk rfl so) (fun _ => rfl) (fun _ _ => rfl)) (Zb (Zt (Zm G (Uv w) (Za rfl) (Zh rfl (Zi G (U4 w) (Za rfl) (fun _ => rfl)) (Zh rfl (Za rfl) (Zh rfl (snd_not (Za rfl) Y5) Zs))) (fun _ => rfl)) rfl (fun _ => rfl)) (Zb (Zt (Zm G (Xw w) (Za rfl) (Zh rfl (Zi G (V0 w) (Za rfl) (fun _ => rfl)) (Zh rfl (Za rfl) (Zh rfl (Za rfl) Zs))) (fun _ => rfl)) rfl (fun _ => rfl)) (Zb (Zt (Zm G (Ua w) (Zi G (Zv w) (Za rfl) (fun _ => rfl)) (Zh rfl (Za rfl) Zs) (fun _ => rfl)) rfl (fun _ => rfl)) Ze))))
 (Zb (Zz (Yc (Z5 (Yl (Yu G (Vz w) (Vy w) (Za rfl) rfl (V2 w) rfl rfl (Zx w) rfl) Y5 rfl) (Z5 (Zq Yh (Zi G (J3 w) (Za rfl) (fun _ => rfl)) (Zg (Zd _)) rfl) Yd)))
 (Zb (Zt (Zm G (Xw w) (Za rfl) (Zh rfl (Zi G (U4 w) (Za rfl) (fun _ => rfl)) (Zh rfl (Za rfl) (Zh rfl (Za rfl) Zs))) (fun _ => rfl)) rfl (fun _ => rfl)) (Zb (Zt (Zm G (Xw w) (Za rfl) (Zh rfl (Zi G (V0 w) (Za rfl) (fun _ => rfl)) (Zh rfl (Za rfl) (Zh rfl (Za rfl) Zs))) (fun _ => rfl)) rfl (fun _ => rfl)) Ze))
 (Zb (Zz (Yc (Z5 (Yl (Yu G (Ka w) (J7 w) (Za rfl) rfl (Ki w) rfl rfl (Zx w) rfl) Y5 rfl) (Z5 (Zq Yh (Zi G (J3 w) (Za rfl) (fun _ => rfl)) (Zg (Zd _)) rfl) Yd)))
 (Zb (Zt (Zm G (Uv w) (Za rfl) (Zh rfl (Zi G (Jm w) (Za rfl) (fun _ => rfl)) (Zh rfl (Za rfl) (Zh rfl (Za rfl) Zs))) (fun _ => rfl)) rfl (fun _ => rfl)) Ze)
 (Zb (Zz (Yc (Z5 (Yl (Yu G (Vz w) (Vy w) (Za rfl) rfl (V2 w) rfl rfl (Zx w) rfl) Y5 rfl) (Z5 (Yl (Zj G (Zh rfl (Zi G (J3 w) (Za rfl) (fun _ => rfl)) Zs) (Uk w) (Ul w) rfl rfl) Y5 rfl) Yd)))
 (Zb (Zt (Zm G (Jx w) (Za rfl) (Zh rfl (Za rfl) (Zh rfl (Zj G (Zh rfl (Zi G (J3 w) (Za rfl) (fun _ => rfl)) Zs) (Zf1 w) (Zfs w) rfl rfl) (Zh rfl (Za rfl) (Zh rfl (Za rfl) Zs)))) (fun _ => rfl)) rfl (fun _ => rfl)) Ze)
 (Zb (Zz (Yl (Yu G (Za4 w) (Za5 w) (Za rfl) rfl (Zaf w) rfl rfl (Zx w) rfl) Y5 rfl)
 (Zb (Zt (Zm G (Zbo w) (Za rfl) (Zh rfl (Za rfl) (Zh rfl (snd_not (Zi G (Uw w) (Za rfl) (fun _ => rfl)) Y5) (Zh rfl (Za rfl) Zs))) (fun _ => rfl)) rfl (fun _ => rfl)) Ze)
 (Zb (Zl rfl (Zm G (Z9 w) (Za rfl) (Zh rfl (Za rfl) Zs) (fun _ => rfl)) (Zk rfl so) (fun _ => rfl) (fun _ _ => rfl)) (Zb (Zt (Zm G (Xn w) (Zi G (Zv w) (Za rfl) (fun _ => rfl)) (Zh rfl (Zg (Zd _)) (Zh rfl (Za rfl) (Zh rfl (Za rfl) (Zh rfl (Y9 (Yl (Za rfl) Y5 rfl) Zf Zf) Zs)))) (fun _ => rfl)) rfl (fun _ => rfl)) Ze))) Ze)) Ze)) Ze)) Ze)) Ze)
theorem fn_601 : FnOk w (K39 w.params) 601 F_601.p F_601.df F_601.ns F_601.W := by
 refine Yv (by k_is) (by k_is) ?_ ?_ ?_ ?_
 ·exact .of (by kernel_rfl) rfl rfl rfl (by kernel_rfl)
 ·decide
 ·exact b5 fun _ _ _ _ _ => rfl
 ·intro prog h₀ G so
  show SndB prog w h₀ _ ["self", "expr", "op", "label", "null_jumps", "left", "right", "affinities", "told"] _ W_601
  unfold W_601 W_601_1 W_601_2 W_601_3 W_601_4
  exact (Zb (Zl rfl (Zm G (Z9 w) (Za rfl) (Zh rfl (Zi G (U4 w) (Za rfl) (fun _ => rfl)) Zs) (fun _ => rfl)) (Zk rfl so) (fun _ => rfl) (fun _ _ => rfl)) (Zb (Zl rfl (Zm G (Z9 w) (Za rfl) (Zh rfl (Zi G (V0 w) (Za rfl) (fun _ => rfl)) Zs) (fun _ => rfl)) (Zk rfl so) (fun _ => rfl) (fun _ _ => rfl)) (Zb (Zl rfl (Zj G (Zh rfl (Zj G (Zh rfl (Zi G (U4 w) (Za rfl) (fun _ => rfl)) Zs) (Xe w) (Xf w) rfl rfl) (Zh rfl (Zj G (Zh rfl (Zi G (V0 w) (Za rfl) (fun _ => rfl)) Zs) (Xe w) (Xf w) rfl rfl) Zs)) (Xa w) (Y8 w) rfl rfl) (Zk rfl so) (fun _ => rfl) (fun _ _ => rfl)) (Zb (Zl rfl (Z6 (Zh rfl (Za rfl) (Zh rfl (Zj G (Zh rfl (Zi G (U4 w) (Za rfl) (fun _ => rfl)) (Zh rfl (Zi G (V0 w) (Za rfl) (fun _ => rfl)) Zs)) (Xz w) (X1 w) rfl rfl) (Zh rfl (Za rfl) (Zh rfl (Za rfl) Zs)))) (by decide)) (Zk rfl so) (fun _ => rfl) (fun _ _ => rfl)) (Zb (Zt (Zm G (Xn w) (Zi G (Zv w) (Za rfl) (fun _ => rfl)) (Zh rfl (Zg (Zd _)) (Zh rfl (Za rfl) (Zh rfl (Za rfl) (Zh rfl (Za rfl) (Zh rfl (Za rfl) Zs))))) (fun _ => rfl)) rfl (fun _ => rfl)) Ze)))))
theorem fn_608 : FnOk w (K39 w.params) 608 F_608.p F_608.df F_608.ns F_608.W := by
 refine Yv (by k_is) (by k_is) ?_ ?_ ?_ ?_
 ·exact .of (by kernel_rfl) rfl rfl rfl (by kernel_rfl)
 ·decide
 ·exact b4 fun _ _ _ _ => rfl
 ·intro prog h₀ G so
  show SndB prog w h₀ _ ["self", "expr", "negated", "label", "value"] _ W_608
  unfold W_608
  exact (Zb (Zl rfl (Zm G (Z9 w) (Za rfl) (Zh rfl (Zi G (Vt w) (Za rfl) (fun _ => rfl)) Zs) (fun _ => rfl)) (Zk rfl so) (fun _ => rfl) (fun _ _ => rfl)) (Zb (Zt (Zm G (Xn w) (Zi G (Zv w) (Za rfl) (fun _ => rfl)) (Zh rfl (Y9 (Yl (Za rfl) Y5 rfl) (Zg (Zd _)) (Zg (Zd _))) (Zh rfl (Za rfl) (Zh rfl (Za rfl) Zs))) (fun _ => rfl)) rfl (fun _ => rfl)) Ze))
theorem fn_631 : FnOk w (K39 w.params) 631 F_631.p F_631.df F_631.ns F_631.W := by
 refine Yv (by k_is) (by k_is) ?_ ?_ ?_ ?_
 ·exact .of (by kernel_rfl) rfl rfl rfl (by kernel_rfl)
 ·decide
 ·exact b1 fun _ => rfl
 ·intro prog h₀ G so
  show SndB prog w h₀ _ ["self"] _ W_631
  unfold W_631 W_631_1 W_631_2 W_631_3 W_631_4 W_631_5 W_631_6 W_631_7
  exact (Zb (Zl rfl (Zb4 Zs (by decide)) (Z7 G (Zc7 w) (Za rfl)) (fun _ => rfl) (fun _ _ => rfl)) (Zb (Zl rfl (Zb4 Zs (by decide)) (Z7 G (Zal w) (Za rfl)) (fun _ => rfl) (fun _ _ => rfl)) (Zb (Zl rfl Zf (Z7 G (Un w) (Za rfl)) (fun _ => rfl) (fun _ _ => rfl)) (Zb (Zl rfl Zf (Z7 G (Zas w) (Za rfl)) (fun _ => rfl) (fun _ _ => rfl)) (Zb (Zl rfl Zf (Z7 G (Zbz w) (Za rfl)) (fun _ => rfl) (fun _ _ => rfl)) (Zb (Zl rfl Ud (Z7 G (Zbb w) (Za rfl)) (fun _ => rfl) (fun _ _ => rfl)) (Zb (Zl rfl (snd_dic0 G) (Z7 G (Zba w) (Za rfl)) (fun _ => rfl) (fun _ _ => rfl)) (Zb (Zl rfl (Jr Zf) (Z7 G (Ue w) (Za rfl)) (fun _ => rfl) (fun _ _ => rfl)) Ze))))))))
theorem kd_639 : ∃ t0 t1 t2 : Tok, List.lookup 632 (K39 w.params) = some { cls := .type "tuple", data := .seq #[.int 0 t0, .int 0 t1, .int 0 t2, .none] } := ⟨_, _, _, by k_is⟩
theorem fn_639 : FnOk w (K39 w.params) 639 F_639.p F_639.df F_639.ns F_639.W := by
 refine Yv (by k_is) (by k_is) ?_ ?_ ?_ ?_
 ·exact .of (by kernel_rfl) rfl rfl rfl (by kernel_rfl)
 ·decide
 ·intro s vs X h0 h1
  obtain ⟨t0, t1, t2, kd⟩ := kd_639 w
  match vs, h0, h1 with
  | [v0, v1], _, _ => exact ⟨[_, _, _, _], fun _ _ _ => (.cons (.int _ _) (.cons (.int _ _) (.cons (.int _ _) (.cons .none .nil)))), BindsTo.of_defaults (T := 632) rfl (X _ _ kd) rfl rfl rfl⟩
  | [v0, v1, v2], _, _ => exact ⟨[_, _, _], fun _ _ _ => (.cons (.int _ _) (.cons (.int _ _) (.cons .none .nil))), BindsTo.of_defaults (T := 632) rfl (X _ _ kd) rfl rfl rfl⟩
  | [v0, v1, v2, v3], _, _ => exact ⟨[_, _], fun _ _ _ => (.cons (.int _ _) (.cons .none .nil)), BindsTo.of_defaults (T := 632) rfl (X _ _ kd) rfl rfl rfl⟩
  | [v0, v1, v2, v3, v4], _, _ => exact ⟨[_], fun _ _ _ => (.cons .none .nil), BindsTo.of_defaults (T := 632) rfl (X _ _ kd) rfl rfl rfl⟩
  | [v0, v1, v2, v3, v4, v5], _, _ => exact ⟨[], fun _ _ _ => .nil, BindsTo.of_defaults (T := 632) rfl (X _ _ kd) rfl rfl rfl⟩
  | [], h0, _ => exact absurd (show 2 ≤ 0 from h0) (by decide)
  | [v0], h0, _ => exact absurd (show 2 ≤ 1 from h0) (by decide)
  | v0 :: v1 :: v2 :: v3 :: v4 :: v5 :: v6 :: vs, _, h1 => exact absurd (show _ ≤ 6 from h1) (by simp)
 ·intro prog h₀ G so
  show SndB prog w h₀ _ ["self", "name", "p1", "p2", "p3", "p4"] _ W_639
  unfold W_639
  exact (Zb (Zt (Vm Zg3 (Zi G (Zao w) (Za rfl) (fun _ => rfl)) (Zh rfl (Zb4 (Zh rfl (Za rfl) (Zh rfl (Za rfl) (Zh rfl (Za rfl) (Zh rfl (Za rfl) (Zh rfl (Za rfl) Zs))))) (by decide)) Zs) (fun _ => rfl)) rfl (fun _ => rfl)) (Zb (Zu (Z8 Ja (Z0 G (x := "len") Zdj (Zh rfl (Zi G (Zao w) (Za rfl) (fun _ => rfl)) Zs) (Zdg w) rfl (by decide) rfl rfl (.inl ⟨_, rfl⟩)) Zf)) Ze))
theorem fn_653 : FnOk w (K39 w.params) 653 F_653.p F_653.df F_653.ns F_653.W := by
 refine Yv (by k_is) (by k_is) ?_ ?_ ?_ ?_
 ·exact .of (by kernel_rfl) rfl rfl rfl (by kernel_rfl)
 ·decide
 ·exact b1 fun _ => rfl
 ·intro prog h₀ G so
  show SndB prog w h₀ _ ["self", "label"] _ W_653
  unfold W_653 W_653_1 W_653_2
  exact (Zb (Zl rfl (Zi G (Zay w) (Za rfl) (fun _ => rfl)) (Zk rfl so) (fun _ => rfl) (fun _ _ => rfl)) (Zb (Zl rfl (Z8 Ja (Za rfl) Zf) (Z7 G (Ue w) (Za rfl)) (fun _ => rfl) (fun _ _ => rfl)) (Zb (Zu (Za rfl)) Ze)))
theorem fn_660 : FnOk w (K39 w.params) 660 F_660.p F_660.df F_660.ns F_660.W := by
 refine Yv (by k_is) (by k_is) ?_ ?_ ?_ ?_
 ·exact .of (by kernel_rfl) rfl rfl rfl (by kernel_rfl)
 ·decide
 ·exact b2 fun _ _ => rfl
 ·intro prog h₀ G so
  show SndB prog w h₀ _ ["self", "label"] _ W_660
  unfold W_660 W_660_1 W_660_2
  exact (Zb (Zz (Yc (Xr (Zq ok_ge (Za rfl) Zf rfl) (Xr (Zq ok_le (Za rfl) (Zi G (Zay w) (Za rfl) (fun _ => rfl)) rfl) Yd)))
 (Zb Zau Ze)
 Ze) (Zb (Zz (Zq Kr (Za rfl) (Zi G (Jk w) (Za rfl) (fun _ => rfl)) rfl)
 (Zb Zau Ze)
 Ze) (Zb (Zl rfl (Z0 G (x := "len") Zdj (Zh rfl (Zi G (Zao w) (Za rfl) (fun _ => rfl)) Zs) (Zdg w) rfl (by decide) rfl rfl (.inl ⟨_, rfl⟩)) (Um (Zi G (Jk w) (Za rfl) (fun _ => rfl)) (Za rfl)) (fun _ => rfl) (fun _ _ => rfl)) Ze)))
theorem kd_668 : ∃ t0 : Tok, List.lookup 661 (K39 w.params) = some { cls := .type "tuple", data := .seq #[.int 1 t0] } := ⟨_, by k_is⟩
theorem fn_668 : FnOk w (K39 w.params) 668 F_668.p F_668.df F_668.ns F_668.W := by
 refine Yv (by k_is) (by k_is) ?_ ?_ ?_ ?_
 ·exact .of (by kernel_rfl) rfl rfl rfl (by kernel_rfl)
 ·decide
 ·intro s vs X h0 h1
  obtain ⟨t0, kd⟩ := kd_668 w
  match vs, h0, h1 with
  | [v0], _, _ => exact ⟨[_], fun _ _ _ => (.cons (.int _ _) .nil), BindsTo.of_defaults (T := 661) rfl (X _ _ kd) rfl rfl rfl⟩
  | [v0, v1], _, _ => exact ⟨[], fun _ _ _ => .nil, BindsTo.of_defaults (T := 661) rfl (X _ _ kd) rfl rfl rfl⟩
  | [], h0, _ => exact absurd (show 1 ≤ 0 from h0) (by decide)
  | v0 :: v1 :: v2 :: vs, _, h1 => exact absurd (show _ ≤ 2 from h1) (by simp)
 ·intro prog h₀ G so
  show SndB prog w h₀ _ ["self", "many", "first"] _ W_668
  unfold W_668 W_668_1 W_668_2
  exact (Zb (Zl rfl (Zi G (Ze5 w) (Za rfl) (fun _ => rfl)) (Zk rfl so) (fun _ => rfl) (fun _ _ => rfl)) (Zb (Zl rfl (Z8 Ug (Za rfl) (Za rfl)) (Z7 G (Un w) (Za rfl)) (fun _ => rfl) (fun _ _ => rfl)) (Zb (Zu (Za rfl)) Ze)))
theorem fn_704 : FnOk w (K39 w.params) 704 F_704.p F_704.df F_704.ns F_704.W := by
 refine Yv (by k_is) (by k_is) ?_ ?_ ?_ ?_
 ·exact .of (by kernel_rfl) rfl rfl rfl (by kernel_rfl)
 ·decide
 ·exact b1 fun _ => rfl
 ·intro prog h₀ G so
  show SndB prog w h₀ _ ["self", "label", "op"] _ W_704
  unfold W_704 Zd0 W_704_2 W_704_3
  exact (Zb (Zz (Yc (Xr (snt_not (Yl (Zi G (Zao w) (Za rfl) (fun _ => rfl)) ok_trL rfl)) (Xr (Zq Kl (Zr (Zr (Zi G (Zao w) (Za rfl) (fun _ => rfl)) (Jr Zf) rfl) Zf rfl) (Z6 (Zh rfl (Zg (Zd _)) (Zh rfl (Zg (Zd _)) (Zh rfl (Zg (Zd _)) (Zh rfl (Zg (Zd _)) Zs)))) (by decide)) rfl) Yd)))
 (Zb (Zt (Zm G (Xn w) (Za rfl) (Zh rfl (Zg (Zd _)) Zs) (fun _ => rfl)) rfl (fun _ => rfl)) Ze)
 Ze) (Zb (Zc2 (Zi G (Jk w) (Za rfl) (fun _ => rfl)) (Zk rfl so)
 (Zb (Zz (Zq Yh (Zr (Zi G (Jk w) (Za rfl) (fun _ => rfl)) (Za rfl) rfl) (Z0 G (x := "len") Zdj (Zh rfl (Zi G (Zao w) (Za rfl) (fun _ => rfl)) Zs) (Zdg w) rfl (by decide) rfl rfl (.inl ⟨_, rfl⟩)) rfl)
 (Zb (Zt (Zm G (Xn w) (Za rfl) (Zh rfl (Zg (Zd _)) Zs) (fun _ => rfl)) rfl (fun _ => rfl)) (Zb sns_brk Ze))
 Ze) Ze) (fun _ _ => rfl)) (Zb (Zc2 (Zi G (Zao w) (Za rfl) (fun _ => rfl)) (Zk rfl so)
 (Zb (Zz (Yc (Z5 (Zq Kr (Zr (Za rfl) Zf rfl) (Zae G (Zha w) (gl_JUMPS w) rfl rfl) rfl) (Z5 (Zq ok_lt (Zr (Za rfl) Zf rfl) Zf rfl) Yd)))
 (Zb (Zz (Zq Kl (Zr (Za rfl) Zf rfl) (Zi G (Jk w) (Za rfl) (fun _ => rfl)) rfl)
 (Zb Zau Ze)
 Ze) (Zb (Zl rfl (Zr (Zi G (Jk w) (Za rfl) (fun _ => rfl)) (Zr (Za rfl) Zf rfl) rfl) (Um (Za rfl) Zf) (fun _ => rfl) (fun _ _ => rfl)) Ze))
 Ze) Ze) (fun _ _ => rfl)) (Zb (Zu (Za rfl)) Ze))))
theorem fn_718 : FnOk w (K39 w.params) 718 F_718.p F_718.df F_718.ns F_718.W := by
 refine Yv (by k_is) (by k_is) ?_ ?_ ?_ ?_
 ·exact .of (by kernel_rfl) rfl rfl rfl (by kernel_rfl)
 ·decide
 ·exact b2 fun _ _ => rfl
 ·intro prog h₀ G so
  show SndB prog w h₀ _ ["script", "k", "cell", "big", "mixed"] _ W_718
  unfold W_718 W_718_1 W_718_2 W_718_3 W_718_4
  exact (Zb (Zl rfl Zf (Zk rfl so) (fun _ => rfl) (fun _ _ => rfl)) (Zb (Zz (Zq ok_lt (Za rfl) (Z0 G (x := "len") Zdj (Zh rfl (Za rfl) Zs) (Zdg w) rfl (by decide) rfl rfl (.inl ⟨_, rfl⟩)) rfl)
 (Zb (Zl rfl (Zr (Za rfl) (Za rfl) rfl) (Zk rfl so) (fun _ => rfl) (fun _ _ => rfl)) Ze)
 Ze) (Zb (Zl rfl (Z0 G (x := "max") ok_max (Zh rfl (Z0 G (x := "int") Vw (Zh rfl (Za rfl) Zs) (X8 w) rfl (by decide) rfl rfl (.inr ⟨_, rfl⟩)) (Zh rfl (Z0 G (x := "int") Vw (Zh rfl (Z8 Ja (Jr Zf) (Za rfl)) Zs) (X8 w) rfl (by decide) rfl rfl (.inr ⟨_, rfl⟩)) Zs)) (gb_max w) rfl (by decide) rfl rfl (.inl ⟨_, rfl⟩)) (Zk rfl so) (fun _ => rfl) (fun _ _ => rfl)) (Zb (Zl rfl (Z8 Zdh (Z0 G (x := "int") Vw (Zh rfl (Z8 Zbr (Z8 Ug (Z8 Ug (Z8 Ug (Z8 Zdh (Z0 G (x := "int") Vw (Zh rfl (Za rfl) Zs) (X8 w) rfl (by decide) rfl rfl (.inr ⟨_, rfl⟩)) Zf) (Z8 Zbr (Z8 Zbr Zf (Za rfl)) (Za rfl))) (Z8 Zbr Zf (Za rfl))) Zf) Zf) Zs) (X8 w) rfl (by decide) rfl rfl (.inr ⟨_, rfl⟩)) Zf) (Zk rfl so) (fun _ => rfl) (fun _ _ => rfl)) (Zb (Zu (Zb4 (Zh rfl (Z8 Zbr (Za rfl) (Z0 G (x := "int") Vw (Zh rfl (Xb ok_ge (Za rfl) (Z8 ok_pow Zf Zf) rfl) Zs) (X8 w) rfl (by decide) rfl rfl (.inr ⟨_, rfl⟩))) (Zh rfl (Za rfl) Zs)) (by decide))) Ze)))))
theorem fn_725 : FnOk w (K39 w.params) 725 F_725.p F_725.df F_725.ns F_725.W := by
 refine Yv (by k_is) (by k_is) ?_ ?_ ?_ ?_
 ·exact .of (by kernel_rfl) rfl rfl rfl (by kernel_rfl)
 ·decide
 ·exact b2 fun _ _ => rfl
 ·intro prog h₀ G so
  show SndB prog w h₀ _ ["source", "top", "drawn"] _ W_725
  unfold W_725 W_725_1 W_725_2
  exact (Zb (Zz (Zq ok_gt (Zr (Za rfl) Zf rfl) Zf rfl)
 (Zb (Zl rfl (Z8 Zdh (Z0 G (x := "int") Vw (Zh rfl (Zr (Za rfl) Zf rfl) Zs) (X8 w) rfl (by decide) rfl rfl (.inr ⟨_, rfl⟩)) (Za rfl)) (Zk rfl so) (fun _ => rfl) (fun _ _ => rfl)) (Zb (Zl rfl (Z8 ok_floor (Zr (Za rfl) Zf rfl) (Za rfl)) (Um (Za rfl) Zf) (fun _ => rfl) (fun _ _ => rfl)) (Zb (Zu (Za rfl)) Ze)))
 Ze) (Zb (Zl rfl (Z8 Zdh (Z0 G (x := "int") Vw (Zh rfl (Z8 Ug (Z8 Zbr (Zr (Za rfl) Zf rfl) Zf) Zf) Zs) (X8 w) rfl (by decide) rfl rfl (.inr ⟨_, rfl⟩)) Zf) (Um (Za rfl) Zf) (fun _ => rfl) (fun _ _ => rfl)) (Zb (Zu (Z8 Zdh (Z0 G (x := "int") Vw (Zh rfl (Z8 ok_floor (Z8 Zdh (Z0 G (x := "int") Vw (Zh rfl (Z8 Zbr (Zr (Za rfl) Zf rfl) (Zr (Za rfl) Zf rfl)) Zs) (X8 w) rfl (by decide) rfl rfl (.inr ⟨_, rfl⟩)) Zf) Zf) Zs) (X8 w) rfl (by decide) rfl rfl (.inr ⟨_, rfl⟩)) (Za rfl))) Ze)))
theorem fn_732 : FnOk w (K39 w.params) 732 F_732.p F_732.df F_732.ns F_732.W := by
 refine Yv (by k_is) (by k_is) ?_ ?_ ?_ ?_
 ·exact .of (by kernel_rfl) rfl rfl rfl (by kernel_rfl)
 ·decide
 ·exact b2 fun _ _ => rfl
 ·intro prog h₀ G so
  show SndB prog w h₀ _ ["source", "things"] _ W_732
  unfold W_732
  exact (Zb (Zu (Zr (Za rfl) (Zj G (Zh rfl (Za rfl) (Zh rfl (Z0 G (x := "len") Zdj (Zh rfl (Za rfl) Zs) (Zdg w) rfl (by decide) rfl rfl (.inl ⟨_, rfl⟩)) Zs)) (Yy w) (Yz w) rfl rfl) rfl)) Ze)
theorem fn_739 : FnOk w (K39 w.params) 739 F_739.p F_739.df F_739.ns F_739.W := by
 refine Yv (by k_is) (by k_is) ?_ ?_ ?_ ?_
 ·exact .of (by kernel_rfl) rfl rfl rfl (by kernel_rfl)
 ·decide
 ·exact b1 fun _ => rfl
 ·intro prog h₀ G so
  show SndB prog w h₀ _ ["source"] _ W_739
  unfold W_739
  exact (Zb (Zu (Zj G (Zh rfl (Za rfl) (Zh rfl (Yt (Zh rfl Zw (Zh rfl Zw (Zh rfl Zf (Zh rfl Zf (Zh rfl Zf (Zh rfl Zf (Zh rfl Zf (Zh rfl (Jr Zf) (Zh rfl (Zg (Zd _)) (Zh rfl (Zg (Zd _)) (Zh rfl (Zg (Zd _)) (Zh rfl (Zg (Zd _)) (Zh rfl (Zg (Zd _)) Zs))))))))))))) (by decide)) Zs)) (Xl w) (Xk w) rfl rfl)) Ze)
theorem fn_746 : FnOk w (K39 w.params) 746 F_746.p F_746.df F_746.ns F_746.W := by
 refine Yv (by k_is) (by k_is) ?_ ?_ ?_ ?_
 ·exact .of (by kernel_rfl) rfl rfl rfl (by kernel_rfl)
 ·decide
 ·exact b2 fun _ _ => rfl
 ·intro prog h₀ G so
  show SndB prog w h₀ _ ["source", "deep", "way", "one", "two", "three"] _ W_746
  unfold W_746 W_746_1 W_746_2 W_746_3 W_746_4 W_746_5 W_746_6 W_746_7 W_746_8 W_746_9 W_746_10 W_746_11 W_746_12
  exact (Zb (Zl rfl (Zj G (Zh rfl (Za rfl) (Zh rfl Zf Zs)) (Yy w) (Yz w) rfl rfl) (Zk rfl so) (fun _ => rfl) (fun _ _ => rfl)) (Zb (Zz (Yc (Xr (Zq Yh (Za rfl) Zf rfl) (Xr (Zq ok_lt (Za rfl) Zf rfl) Yd)))
 (Zb (Zu (Zj G (Zh rfl (Za rfl) (Zh rfl (Yt (Zh rfl (Z6 (Zh rfl (Zg (Zd _)) (Zh rfl Zf Zs)) (by decide)) (Zh rfl (Z6 (Zh rfl (Zg (Zd _)) (Zh rfl Zf Zs)) (by decide)) (Zh rfl (Z6 (Zh rfl (Zg (Zd _)) (Zh rfl Zf Zs)) (by decide)) (Zh rfl (Z6 (Zh rfl (Zg (Zd _)) (Zh rfl (Jr Zf) Zs)) (by decide)) (Zh rfl (Z6 (Zh rfl (Zg (Zd _)) (Zh rfl (Zj G (Zh rfl (Za rfl) Zs) (Zab w) (Zaa w) rfl rfl) Zs)) (by decide)) Zs))))) (by decide)) Zs)) (Xl w) (Xk w) rfl rfl)) Ze)
 Ze) (Zb (Zl rfl (Zj G (Zh rfl (Za rfl) (Zh rfl (Z8 Ja (Za rfl) Zf) Zs)) (U9 w) (U6 w) rfl rfl) (Zk rfl so) (fun _ => rfl) (fun _ _ => rfl)) (Zb (Zz (Zq Yh (Za rfl) Zf rfl)
 (Zb (Zu (Z6 (Zh rfl (Zg (Zd _)) (Zh rfl (Zj G (Zh rfl (Za rfl) (Zh rfl (Yt (Zh rfl (Zg (Zd _)) (Zh rfl (Zg (Zd _)) (Zh rfl (Zg (Zd _)) Zs))) (by decide)) Zs)) (Xl w) (Xk w) rfl rfl) (Zh rfl (Za rfl) Zs))) (by decide))) Ze)
 Ze) (Zb (Zz (Zq Yh (Za rfl) Zf rfl)
 (Zb (Zu (Z6 (Zh rfl (Zg (Zd _)) (Zh rfl (Za rfl) (Zh rfl (Xb Yh (Zj G (Zh rfl (Za rfl) (Zh rfl Zf Zs)) (Yy w) (Yz w) rfl rfl) Zf rfl) Zs))) (by decide))) Ze)
 Ze) (Zb (Zl rfl (Zj G (Zh rfl (Za rfl) (Zh rfl (Z8 Ja (Za rfl) Zf) Zs)) (U9 w) (U6 w) rfl rfl) (Zk rfl so) (fun _ => rfl) (fun _ _ => rfl)) (Zb (Zz (Zq ok_lt (Za rfl) Zf rfl)
 (Zb (Zu (Z6 (Zh rfl (Zg (Zd _)) (Zh rfl (Zj G (Zh rfl (Za rfl) (Zh rfl (Yt (Zh rfl (Zg (Zd _)) (Zh rfl (Zg (Zd _)) (Zh rfl (Zg (Zd _)) (Zh rfl (Zg (Zd _)) (Zh rfl (Zg (Zd _)) (Zh rfl (Zg (Zd _)) (Zh rfl (Zg (Zd _)) (Zh rfl (Zg (Zd _)) Zs)))))))) (by decide)) Zs)) (Xl w) (Xk w) rfl rfl) (Zh rfl (Za rfl) (Zh rfl (Za rfl) Zs)))) (by decide))) Ze)
 Ze) (Zb (Zz (Zq ok_lt (Za rfl) Zf rfl)
 (Zb (Zu (Z6 (Zh rfl (Zg (Zd _)) (Zh rfl (Zj G (Zh rfl (Za rfl) (Zh rfl (Yt (Zh rfl (Zg (Zd _)) (Zh rfl (Zg (Zd _)) Zs)) (by decide)) Zs)) (Xl w) (Xk w) rfl rfl) (Zh rfl (Za rfl) (Zh rfl (Za rfl) Zs)))) (by decide))) Ze)
 Ze) (Zb (Zz (Zq Yh (Za rfl) Zf rfl)
 (Zb (Zu (Z6 (Zh rfl (Zg (Zd _)) (Zh rfl (Zj G (Zh rfl (Za rfl) (Zh rfl (Yt (Zh rfl (Zg (Zd _)) (Zh rfl (Zg (Zd _)) Zs)) (by decide)) Zs)) (Xl w) (Xk w) rfl rfl) (Zh rfl (Za rfl) (Zh rfl (Za rfl) Zs)))) (by decide))) Ze)
 Ze) (Zb (Zl rfl (Zj G (Zh rfl (Za rfl) (Zh rfl (Z8 Ja (Za rfl) Zf) Zs)) (U9 w) (U6 w) rfl rfl) (Zk rfl so) (fun _ => rfl) (fun _ _ => rfl)) (Zb (Zz (Zq Yh (Za rfl) Zf rfl)
 (Zb (Zu (Z6 (Zh rfl (Zg (Zd _)) (Zh rfl (Za rfl) (Zh rfl (Vi (Yt (Zh rfl (Za rfl) (Zh rfl (Za rfl) Zs)) (by decide)) Zak (Jf (Zj G (Zh rfl (Za rfl) (Zh rfl Zf Zs)) (Yy w) (Yz w) rfl rfl))) (Zh rfl (Xb Yh (Zj G (Zh rfl (Za rfl) (Zh rfl Zf Zs)) (Yy w) (Yz w) rfl rfl) Zf rfl) Zs)))) (by decide))) Ze)
 Ze) (Zb (Zz (Zq Yh (Za rfl) Zf rfl)
 (Zb (Zu (Z6 (Zh rfl (Zg (Zd _)) (Zh rfl (Za rfl) (Zh rfl (Za rfl) (Zh rfl (Za rfl) (Zh rfl (Xb Yh (Zj G (Zh rfl (Za rfl) (Zh rfl Zf Zs)) (Yy w) (Yz w) rfl rfl) Zf rfl) Zs))))) (by decide))) Ze)
 Ze) (Zb (Zu (Z6 (Zh rfl (Zg (Zd _)) (Zh rfl (Zj G (Zh rfl (Za rfl) (Zh rfl (Yt (Zh rfl Zw (Zh rfl (Z6 (Zh rfl (Zg (Zd _)) (Zh rfl (Zj G (Zh rfl (Za rfl) (Zh rfl Zf Zs)) (Yy w) (Yz w) rfl rfl) Zs)) (by decide)) Zs)) (by decide)) Zs)) (Xl w) (Xk w) rfl rfl) (Zh rfl (Za rfl) (Zh rfl (Za rfl) (Zh rfl (Zj G (Zh rfl (Za rfl) (Zh rfl (Yt (Zh rfl Zw (Zh rfl (Za rfl) Zs)) (by decide)) Zs)) (Xl w) (Xk w) rfl rfl) Zs))))) (by decide))) Ze)))))))))))))
theorem fn_751 : FnOk w (K39 w.params) 751 F_751.p F_751.df F_751.ns F_751.W := by
 refine Yv (by k_is) (by k_is) ?_ ?_ ?_ ?_
 ·exact .of (by kernel_rfl) rfl rfl rfl (by kernel_rfl)
 ·decide
 ·exact b2 fun _ _ => rfl
 ·intro prog h₀ G so
  show SndB prog w h₀ _ ["tree", "collation", "word", "found", "parts"] _ W_751
  unfold W_751 W_751_1 W_751_2 W_751_3 W_751_4 W_751_5 W_751_6 W_751_7 W_751_8 W_751_9
  exact (Zb (Zl rfl (Zr (Za rfl) Zf rfl) (Zk rfl so) (fun _ => rfl) (fun _ _ => rfl)) (Zb (Zz (Zq Yh (Za rfl) (Zg (Zd _)) rfl)
 (Zb (Zl rfl (Je G (mk_Name w) (Zh rfl Zw (Zh rfl (Zg (Zd _)) Zs)) (Zei w) rfl rfl) (Zk rfl so) (fun _ => rfl) (fun _ _ => rfl)) (Zb (Zl rfl (Z6 (Zh rfl Zf (Zh rfl (Zr (Za rfl) Zf rfl) Zs)) (by decide)) (Jc (SndAs.cons rfl (Z7 G (Ku w) (Za rfl)) (SndAs.cons rfl (Z7 G (Zap w) (Za rfl)) SndAs.nil))) (fun _ => rfl) (fun _ h => (Vx _ _ h).trans rfl)) (Zb (Zl rfl (Zr (Yt (Zh rfl (Zg (Zd _)) (Zh rfl (Zg (Zd _)) (Zh rfl (Zg (Zd _)) (Zh rfl (Zg (Zd _)) Zs)))) (by decide)) (Zr (Za rfl) Zf rfl) rfl) (Z7 G (Zbv w) (Za rfl)) (fun _ => rfl) (fun _ _ => rfl)) (Zb (Zl rfl (Y9 (Zq Yh (Zr (Za rfl) Zf rfl) Zf rfl) (Za rfl) (Zg (Zd _))) (Z7 G (Za6 w) (Za rfl)) (fun _ => rfl) (fun _ _ => rfl)) (Zb (Zu (J9 (Za rfl))) Ze)))))
 Ze) (Zb (Zz (Zq Yh (Za rfl) (Zg (Zd _)) rfl)
 (Zb (Zu (J9 (Je G (Zgx w) (Zh rfl (Zr (Za rfl) Zf rfl) Zs) (Zdi w) rfl rfl))) Ze)
 Ze) (Zb (Zz (Zq Yh (Za rfl) (Zg (Zd _)) rfl)
 (Zb (Zu (J9 (Je G (mk_Unary w) (Zh rfl (Zr (Za rfl) Zf rfl) (Zh rfl (Zj G (Zh rfl (Zr (Za rfl) Zf rfl) (Zh rfl (Za rfl) Zs)) (Y6 w) (Y7 w) rfl rfl) Zs)) (Ki w) rfl rfl))) Ze)
 Ze) (Zb (Zz (Zq Yh (Za rfl) (Zg (Zd _)) rfl)
 (Zb (Zu (J9 (Je G (Zhl w) (Zh rfl (Zj G (Zh rfl (Zr (Za rfl) Zf rfl) (Zh rfl (Za rfl) Zs)) (Y6 w) (Y7 w) rfl rfl) (Zh rfl (Zr (Za rfl) Zf rfl) Zs)) (Zaf w) rfl rfl))) Ze)
 Ze) (Zb (Zz (Zq Yh (Za rfl) (Zg (Zd _)) rfl)
 (Zb (Zu (J9 (Je G (Zg7 w) (Zh rfl (Zr (Za rfl) Zf rfl) (Zh rfl (Zj G (Zh rfl (Zr (Za rfl) Zf rfl) (Zh rfl (Za rfl) Zs)) (Y6 w) (Y7 w) rfl rfl) (Zh rfl (Zj G (Zh rfl (Zr (Za rfl) Zf rfl) (Zh rfl (Za rfl) Zs)) (Y6 w) (Y7 w) rfl rfl) Zs))) (V2 w) rfl rfl))) Ze)
 Ze) (Zb (Zz (Zq Yh (Za rfl) (Zg (Zd _)) rfl)
 (Zb (Zu (J9 (Je G (Zg0 w) (Zh rfl (Zj G (Zh rfl (Zr (Za rfl) Zf rfl) (Zh rfl (Za rfl) Zs)) (Y6 w) (Y7 w) rfl rfl) (Zh rfl (snd_comp (ys := ["collation"]) (fr := [1]) ⟨rfl, by decide, by decide, rfl, rfl, rfl, by decide, by decide, by decide, by decide⟩ (Zr (Za rfl) Zf rfl) (Zj G (Zh rfl (Za rfl) (Zh rfl (Za rfl) Zs)) (Y6 w) (Y7 w) rfl rfl) SndF.nil (fun _ _ => rfl)) (Zh rfl (Zr (Za rfl) Zf rfl) Zs))) (Zfl w) rfl rfl))) Ze)
 Ze) (Zb (Zz (Zq Yh (Za rfl) (Zg (Zd _)) rfl)
 (Zb (Zb8 (ys := ["collation"]) (fr := [1]) ⟨rfl, by decide, by decide, rfl, rfl, rfl, by decide, by decide, by decide, by decide⟩ (Vi (Za rfl) (Jf Zf) (Jf Zf)) (Zj G (Zh rfl (Za rfl) (Zh rfl (Za rfl) Zs)) (Y6 w) (Y7 w) rfl rfl) SndF.nil (fun _ _ => rfl) rfl rfl rfl rfl rfl rfl) (Zb (Zu (J9 (Je G (Zgn w) (Zh rfl (Zr (Za rfl) Zf rfl) (Zh rfl (Zr (Za rfl) Zf rfl) (Zh rfl (Zr (Za rfl) Zf rfl) (Zh rfl (Zr (Za rfl) Zf rfl) Zs)))) (Zdm w) rfl rfl))) Ze))
 Ze) (Zb (Zb8 (ys := ["collation"]) (fr := [1]) ⟨rfl, by decide, by decide, rfl, rfl, rfl, by decide, by decide, by decide, by decide⟩ (Vi (Za rfl) (Jf Zf) Zak) (Y9 (Zq Xu (Za rfl) Zw rfl) Zw (Zj G (Zh rfl (Za rfl) (Zh rfl (Za rfl) Zs)) (Y6 w) (Y7 w) rfl rfl)) SndF.nil (fun _ _ => rfl) rfl rfl rfl rfl rfl rfl) (Zb (Zu (J9 (Je G (mk_Case w) (Zh rfl (Zr (Za rfl) Zf rfl) (Zh rfl (Yt (Zh rfl (Z6 (Zh rfl (Zr (Za rfl) Zf rfl) (Zh rfl (Zr (Za rfl) Zf rfl) Zs)) (by decide)) Zs) (by decide)) (Zh rfl (Zr (Za rfl) Zf rfl) Zs))) (gl_Case w) rfl rfl))) Ze))))))))))
theorem fn_758 : FnOk w (K39 w.params) 758 F_758.p F_758.df F_758.ns F_758.W := by
 refine Yv (by k_is) (by k_is) ?_ ?_ ?_ ?_
 ·exact .of (by kernel_rfl) rfl rfl rfl (by kernel_rfl)
 ·decide
 ·exact b1 fun _ => rfl
 ·intro prog h₀ G so
  show SndB prog w h₀ _ ["value"] _ W_758
  unfold W_758
  exact (Zb (Zz (Yc (Xr (Zq Xu (Za rfl) Zw rfl) (Xr (Yl (Za0 G (Za rfl) rfl (X8 w) rfl (Zx w) rfl) Y5 rfl) Yd)))
 (Zb (Zu (Za rfl)) Ze)
 Ze) (Zb (Zu (Y9 (Zq Kr (Za rfl) (Yt (Zh rfl (Zg (Zd _)) Zs) (by decide)) rfl) (Z0 G (x := "int") Vw (Zh rfl (Za rfl) Zs) (X8 w) rfl (by decide) rfl rfl (.inr ⟨_, rfl⟩)) Zf)) Ze))
theorem fn_765 : FnOk w (K39 w.params) 765 F_765.p F_765.df F_765.ns F_765.W := by
 refine Yv (by k_is) (by k_is) ?_ ?_ ?_ ?_
 ·exact .of (by kernel_rfl) rfl rfl rfl (by kernel_rfl)
 ·decide
 ·exact b1 fun _ => rfl
 ·intro prog h₀ G so
  show SndB prog w h₀ _ ["value", "number"] _ W_765
  unfold W_765
  exact (Zb (Zl rfl (Zj G (Zh rfl (Za rfl) Zs) (Vj w) (Vk w) rfl rfl) (Zk rfl so) (fun _ => rfl) (fun _ _ => rfl)) (Zb (Zu (Y9 (Zq Xu (Za rfl) Zw rfl) Zw (Z0 G (x := "int") Vw (Zh rfl (Xb ok_ne (Za rfl) Zf rfl) Zs) (X8 w) rfl (by decide) rfl rfl (.inr ⟨_, rfl⟩)))) Ze))
theorem fn_772 : FnOk w (K39 w.params) 772 F_772.p F_772.df F_772.ns F_772.W := by
 refine Yv (by k_is) (by k_is) ?_ ?_ ?_ ?_
 ·exact .of (by kernel_rfl) rfl rfl rfl (by kernel_rfl)
 ·decide
 ·exact b2 fun _ _ => rfl
 ·intro prog h₀ G so
  show SndB prog w h₀ _ ["value", "collation"] _ W_772
  unfold W_772 W_772_1 W_772_2
  exact (Zb (Zz (Zq Xu (Za rfl) Zw rfl)
 (Zb (Zu (Z6 (Zh rfl Zf (Zh rfl Zf (Zh rfl (Zg (Zd _)) Zs))) (by decide))) Ze)
 Ze) (Zb (Zz (Yl (Za0 G (Za rfl) rfl (X8 w) rfl (Zx w) rfl) Y5 rfl)
 (Zb (Zu (Z6 (Zh rfl Zf (Zh rfl (Za rfl) (Zh rfl (Zg (Zd _)) Zs))) (by decide))) Ze)
 Ze) (Zb (Zu (Z6 (Zh rfl Zf (Zh rfl Zf (Zh rfl (Y9 (Zq Yh (Za rfl) (Zg (Zd _)) rfl) (Vm ok_lower (Za rfl) Zs (fun _ => rfl)) (Za rfl)) Zs))) (by decide))) Ze)))
theorem fn_779 : FnOk w (K39 w.params) 779 F_779.p F_779.df F_779.ns F_779.W := by
 refine Yv (by k_is) (by k_is) ?_ ?_ ?_ ?_
 ·exact .of (by kernel_rfl) rfl rfl rfl (by kernel_rfl)
 ·decide
 ·exact b4 fun _ _ _ _ => rfl
 ·intro prog h₀ G so
  show SndB prog w h₀ _ ["op", "one", "two", "collation", "first", "second", "order", "right"] _ W_779
  unfold W_779 W_779_1 W_779_2 W_779_3 W_779_4 W_779_5
  exact (Zb (Zz (Zq Kr (Za rfl) (Yt (Zh rfl (Zg (Zd _)) (Zh rfl (Zg (Zd _)) Zs)) (by decide)) rfl)
 (Zb (Zu (Z0 G (x := "int") Vw (Zh rfl (Xb Yh (Xb Yh (Zj G (Zh rfl (Za rfl) (Zh rfl (Za rfl) Zs)) (Us w) (Ur w) rfl rfl) (Zj G (Zh rfl (Za rfl) (Zh rfl (Za rfl) Zs)) (Us w) (Ur w) rfl rfl) rfl) (Xb Yh (Za rfl) (Zg (Zd _)) rfl) rfl) Zs) (X8 w) rfl (by decide) rfl rfl (.inr ⟨_, rfl⟩))) Ze)
 Ze) (Zb (Zz (Yc (Xr (Zq Xu (Za rfl) Zw rfl) (Xr (Zq Xu (Za rfl) Zw rfl) Yd)))
 (Zb (Zu Zw) Ze)
 Ze) (Zb (Kh (is := [4, 5]) (names := ["first", "second"]) (Z6 (Zh rfl (Zj G (Zh rfl (Za rfl) (Zh rfl (Za rfl) Zs)) (Us w) (Ur w) rfl rfl) (Zh rfl (Zj G (Zh rfl (Za rfl) (Zh rfl (Za rfl) Zs)) (Us w) (Ur w) rfl rfl) Zs)) (by decide)) rfl so (fun _ => rfl) (fun _ h => (Vx _ _ h).trans rfl)) (Zb (Zl rfl (Z8 Ja (Z0 G (x := "int") Vw (Zh rfl (Xb ok_gt3 (Za rfl) (Za rfl) rfl) Zs) (X8 w) rfl (by decide) rfl rfl (.inr ⟨_, rfl⟩)) (Z0 G (x := "int") Vw (Zh rfl (Xb ok_lt3 (Za rfl) (Za rfl) rfl) Zs) (X8 w) rfl (by decide) rfl rfl (.inr ⟨_, rfl⟩))) (Zk rfl so) (fun _ => rfl) (fun _ _ => rfl)) (Zb (Zl rfl (snd_dicS G (SndP.cons (Zg (Zd _)) (Yt (Zh rfl Zf Zs) (by decide)) (SndP.cons (Zg (Zd _)) (Yt (Zh rfl (Jr Zf) (Zh rfl Zf Zs)) (by decide)) (SndP.cons (Zg (Zd _)) (Yt (Zh rfl (Jr Zf) Zs) (by decide)) (SndP.cons (Zg (Zd _)) (Yt (Zh rfl (Jr Zf) (Zh rfl Zf Zs)) (by decide)) (SndP.cons (Zg (Zd _)) (Yt (Zh rfl Zf Zs) (by decide)) (SndP.cons (Zg (Zd _)) (Yt (Zh rfl Zf (Zh rfl Zf Zs)) (by decide)) SndP.nil)))))) (List.cons_ne_nil _ _) (by decide)) (Zk rfl so) (fun _ => rfl) (fun _ _ => rfl)) (Zb (Zu (Z0 G (x := "int") Vw (Zh rfl (Xb Kr (Za rfl) (Zr (Za rfl) (Za rfl) rfl) rfl) Zs) (X8 w) rfl (by decide) rfl rfl (.inr ⟨_, rfl⟩))) Ze))))))
theorem fn_786 : FnOk w (K39 w.params) 786 F_786.p F_786.df F_786.ns F_786.W := by
 refine Yv (by k_is) (by k_is) ?_ ?_ ?_ ?_
 ·exact .of (by kernel_rfl) rfl rfl rfl (by kernel_rfl)
 ·decide
 ·exact b2 fun _ _ => rfl
 ·intro prog h₀ G so
  show SndB prog w h₀ _ ["value", "affinity"] _ W_786
  unfold W_786
  exact (Zb (Zz (Zq Kr (Za rfl) (Yt (Zh rfl (Zg (Zd _)) (Zh rfl (Zg (Zd _)) Zs)) (by decide)) rfl)
 (Zb (Zu (Y9 (Zq Yh (Za rfl) (Zg (Zd _)) rfl) Zf (Za rfl))) Ze)
 Ze) (Zb (Zu (Y9 (Yc (Z5 (Zq Yh (Za rfl) (Zg (Zd _)) rfl) (Z5 (Yl (Za0 G (Za rfl) rfl (X8 w) rfl (Zx w) rfl) Y5 rfl) Yd))) (Z0 G (x := "str") ok_str (Zh rfl (Za rfl) Zs) (gb_str w) rfl (by decide) rfl rfl (.inr ⟨_, rfl⟩)) (Za rfl))) Ze))
theorem fn_793 : FnOk w (K39 w.params) 793 F_793.p F_793.df F_793.ns F_793.W := by
 refine Yv (by k_is) (by k_is) ?_ ?_ ?_ ?_
 ·exact .of (by kernel_rfl) rfl rfl rfl (by kernel_rfl)
 ·decide
 ·exact b1 fun _ => rfl
 ·intro prog h₀ G so
  show SndB prog w h₀ _ ["tree"] _ W_793
  unfold W_793
  exact (Zb (Zu (Y9 (Zq Yh (Zr (Za rfl) Zf rfl) (Zg (Zd _)) rfl) (Zr (Yt (Zh rfl (Zg (Zd _)) (Zh rfl (Zg (Zd _)) (Zh rfl (Zg (Zd _)) (Zh rfl (Zg (Zd _)) Zs)))) (by decide)) (Zr (Za rfl) Zf rfl) rfl) Zw)) Ze)
theorem fn_798 : FnOk w (K39 w.params) 798 F_798.p F_798.df F_798.ns F_798.W := by
 refine Yv (by k_is) (by k_is) ?_ ?_ ?_ ?_
 ·exact .of (by kernel_rfl) rfl rfl rfl (by kernel_rfl)
 ·decide
 ·exact b4 fun _ _ _ _ => rfl
 ·intro prog h₀ G so
  show SndB prog w h₀ _ ["op", "trees", "values", "collation", "left", "right", "one", "two", "named"] _ W_798
  unfold W_798 W_798_1 W_798_2 Zek W_798_4
  exact (Zb (Kh (is := [4, 5]) (names := ["left", "right"]) (Z6 (Zh rfl (Zj G (Zh rfl (Zr (Za rfl) Zf rfl) Zs) (J0 w) (Ju w) rfl rfl) (Zh rfl (Y9 (Zq Xu (Zr (Za rfl) Zf rfl) Zw rfl) Zw (Zj G (Zh rfl (Zr (Za rfl) Zf rfl) Zs) (J0 w) (Ju w) rfl rfl)) Zs)) (by decide)) rfl so (fun _ => rfl) (fun _ h => (Vx _ _ h).trans rfl)) (Zb (Zl rfl (Za rfl) (Jc (SndAs.cons rfl (Zk rfl so) (SndAs.cons rfl (Zk rfl so) SndAs.nil))) (fun _ => rfl) (fun _ _ => rfl)) (Zb (Zz (Yc (Z5 (Zq Yh (Za rfl) (Zg (Zd _)) rfl) (Z5 (Zq ok_ne (Za rfl) (Zg (Zd _)) rfl) Yd)))
 (Zb (Zl rfl (Zj G (Zh rfl (Za rfl) (Zh rfl (Zg (Zd _)) Zs)) (V6 w) (V8 w) rfl rfl) (Zk rfl so) (fun _ => rfl) (fun _ _ => rfl)) Ze)
 (Zb (Zz (Yc (Z5 (Zq Yh (Za rfl) (Zg (Zd _)) rfl) (Z5 (Zq ok_ne (Za rfl) (Zg (Zd _)) rfl) Yd)))
 (Zb (Zl rfl (Zj G (Zh rfl (Za rfl) (Zh rfl (Zg (Zd _)) Zs)) (V6 w) (V8 w) rfl rfl) (Zk rfl so) (fun _ => rfl) (fun _ _ => rfl)) Ze)
 (Zb (Zz (Yc (Z5 (Zq Yh (Za rfl) (Zg (Zd _)) rfl) (Z5 (Zq Xu (Za rfl) Zw rfl) Yd)))
 (Zb (Zl rfl (Zj G (Zh rfl (Za rfl) (Zh rfl (Zg (Zd _)) Zs)) (V6 w) (V8 w) rfl rfl) (Zk rfl so) (fun _ => rfl) (fun _ _ => rfl)) Ze)
 (Zb (Zz (Yc (Z5 (Zq Yh (Za rfl) (Zg (Zd _)) rfl) (Z5 (Zq Xu (Za rfl) Zw rfl) Yd)))
 (Zb (Zl rfl (Zj G (Zh rfl (Za rfl) (Zh rfl (Zg (Zd _)) Zs)) (V6 w) (V8 w) rfl rfl) (Zk rfl so) (fun _ => rfl) (fun _ _ => rfl)) Ze)
 Ze) Ze)) Ze)) Ze)) (Zb (Zb8 (ys := []) (fr := []) ⟨rfl, by decide, by decide, rfl, rfl, rfl, by decide, by decide, by decide, by decide⟩ (Za rfl) (Zj G (Zh rfl (Za rfl) Zs) (Zav w) (Zam w) rfl rfl) (SndF.one (Yc (Z5 (Zq Zd1 (Za rfl) Zw rfl) (Z5 (Zq Zd1 (Zj G (Zh rfl (Za rfl) Zs) (Zav w) (Zam w) rfl rfl) Zw rfl) Yd)))) (fun _ _ => rfl) rfl rfl rfl rfl rfl rfl) (Zb (Zu (Zj G (Zh rfl (Za rfl) (Zh rfl (Za rfl) (Zh rfl (Za rfl) (Zh rfl (Y9 (Yc (Z5 (Zq ok_ne (Za rfl) (Yt Zs (by decide)) rfl) (Z5 (Zq Yh (Zr (Za rfl) Zf rfl) Zf rfl) Yd))) (Za rfl) (Zg (Zd _))) Zs)))) (Jt w) (Jz w) rfl rfl)) Ze)))))
theorem fn_805 : FnOk w (K39 w.params) 805 F_805.p F_805.df F_805.ns F_805.W := by
 refine Yv (by k_is) (by k_is) ?_ ?_ ?_ ?_
 ·exact .of (by kernel_rfl) rfl rfl rfl (by kernel_rfl)
 ·decide
 ·exact b1 fun _ => rfl
 ·intro prog h₀ G so
  show SndB prog w h₀ _ ["tree"] _ W_805
  unfold W_805
  exact (Zb (Zu (Y9 (Zq Yh (Zr (Za rfl) Zf rfl) (Zg (Zd _)) rfl) (Zr (Za rfl) Zf rfl) Zw)) Ze)
theorem fn_812 : FnOk w (K39 w.params) 812 F_812.p F_812.df F_812.ns F_812.W := by
 refine Yv (by k_is) (by k_is) ?_ ?_ ?_ ?_
 ·exact .of (by kernel_rfl) rfl rfl rfl (by kernel_rfl)
 ·decide
 ·exact b3 fun _ _ _ => rfl
 ·intro prog h₀ G so
  show SndB prog w h₀ _ ["op", "one", "two", "telling"] _ W_812
  unfold W_812 W_812_1 W_812_2
  exact (Zb (Zl rfl (Y9 (Zq Yh (Za rfl) (Zg (Zd _)) rfl) Zf Zf) (Zk rfl so) (fun _ => rfl) (fun _ _ => rfl)) (Zb (Zz (Yc (Xr (Zq Yh (Za rfl) (Za rfl) rfl) (Xr (Zq Yh (Za rfl) (Za rfl) rfl) Yd)))
 (Zb (Zu (Za rfl)) Ze)
 Ze) (Zb (Zu (Y9 (Yc (Xr (Zq Xu (Za rfl) Zw rfl) (Xr (Zq Xu (Za rfl) Zw rfl) Yd))) Zw (Z8 Ja Zf (Za rfl)))) Ze)))
theorem fn_819 : FnOk w (K39 w.params) 819 F_819.p F_819.df F_819.ns F_819.W := by
 refine Yv (by k_is) (by k_is) ?_ ?_ ?_ ?_
 ·exact .of (by kernel_rfl) rfl rfl rfl (by kernel_rfl)
 ·decide
 ·exact b2 fun _ _ => rfl
 ·intro prog h₀ G so
  show SndB prog w h₀ _ ["truth", "negated"] _ W_819
  unfold W_819
  exact (Zb (Zz (Yc (Xr (snt_not (Yl (Za rfl) Y5 rfl)) (Xr (Zq Xu (Za rfl) Zw rfl) Yd)))
 (Zb (Zu (Za rfl)) Ze)
 Ze) (Zb (Zu (Z8 Ja Zf (Za rfl))) Ze))
theorem fn_824 : FnOk w (K39 w.params) 824 F_824.p F_824.df F_824.ns F_824.W := by
 refine Yv (by k_is) (by k_is) ?_ ?_ ?_ ?_
 ·exact .of (by kernel_rfl) rfl rfl rfl (by kernel_rfl)
 ·decide
 ·exact b3 fun _ _ _ => rfl
 ·intro prog h₀ G so
  show SndB prog w h₀ _ ["tree", "row", "collation", "word", "one", "two", "some", "truth", "ends", "low", "high", "when", "right"] _ W_824
  unfold W_824 W_824_1 W_824_2 W_824_3 W_824_4 W_824_5 W_824_6 W_824_7 W_824_8 W_824_9 W_824_10 Zdx W_824_12
  exact (Zb (Zl rfl (Zr (Za rfl) Zf rfl) (Zk rfl so) (fun _ => rfl) (fun _ _ => rfl)) (Zb (Zz (Zq Yh (Za rfl) (Zg (Zd _)) rfl)
 (Zb (Zu (Zr (Za rfl) (Zr (Za rfl) Zf rfl) rfl)) Ze)
 Ze) (Zb (Zz (Zq Yh (Za rfl) (Zg (Zd _)) rfl)
 (Zb (Zu (Zr (Za rfl) Zf rfl)) Ze)
 Ze) (Zb (Zz (Zq Yh (Za rfl) (Zg (Zd _)) rfl)
 (Zb (Zu (Z0 G (x := "int") Vw (Zh rfl (Xb ok_ne (Xb Xu (Zj G (Zh rfl (Zr (Za rfl) Zf rfl) (Zh rfl (Za rfl) (Zh rfl (Za rfl) Zs))) (Yp w) (Yq w) rfl rfl) Zw rfl) (Zr (Za rfl) Zf rfl) rfl) Zs) (X8 w) rfl (by decide) rfl rfl (.inr ⟨_, rfl⟩))) Ze)
 Ze) (Zb (Zz (Zq Yh (Za rfl) (Zg (Zd _)) rfl)
 (Zb (Zl rfl (Zj G (Zh rfl (Zr (Za rfl) Zf rfl) (Zh rfl (Za rfl) (Zh rfl (Za rfl) Zs))) (Yp w) (Yq w) rfl rfl) (Zk rfl so) (fun _ => rfl) (fun _ _ => rfl)) (Zb (Zz (Zq Yh (Zr (Za rfl) Zf rfl) (Zg (Zd _)) rfl)
 (Zb (Zu (Zj G (Zh rfl (Zj G (Zh rfl (Za rfl) Zs) (Va w) (Vc w) rfl rfl) (Zh rfl Ud Zs)) (Vr w) (Vq w) rfl rfl)) Ze)
 Ze) (Zb (Zu (Y9 (Zq Xu (Za rfl) Zw rfl) Zw (Z8 Ja Zf (Zj G (Zh rfl (Za rfl) Zs) (Vj w) (Vk w) rfl rfl)))) Ze)))
 Ze) (Zb (Zz (Zq Yh (Za rfl) (Zg (Zd _)) rfl)
 (Zb (Zl rfl (Z6 (Zh rfl (Zj G (Zh rfl (Zr (Za rfl) Zf rfl) (Zh rfl (Za rfl) (Zh rfl (Za rfl) Zs))) (Yp w) (Yq w) rfl rfl) (Zh rfl (Zj G (Zh rfl (Zr (Za rfl) Zf rfl) (Zh rfl (Za rfl) (Zh rfl (Za rfl) Zs))) (Yp w) (Yq w) rfl rfl) Zs)) (by decide)) (Jc (SndAs.cons rfl (Zk rfl so) (SndAs.cons rfl (Zk rfl so) SndAs.nil))) (fun _ => rfl) (fun _ h => (Vx _ _ h).trans rfl)) (Zb (Zu (Zj G (Zh rfl (Zr (Za rfl) Zf rfl) (Zh rfl (Vi (Za rfl) (Jf Zf) Zak) (Zh rfl (Z6 (Zh rfl (Za rfl) (Zh rfl (Za rfl) Zs)) (by decide)) (Zh rfl (Za rfl) Zs)))) (Kw w) (Kx w) rfl rfl)) Ze))
 Ze) (Zb (Zl rfl (Y9 (Zq Zd1 (Zr (Za rfl) Zf rfl) Zw rfl) (Zj G (Zh rfl (Zr (Za rfl) Zf rfl) (Zh rfl (Za rfl) (Zh rfl (Za rfl) Zs))) (Yp w) (Yq w) rfl rfl) Zw) (Zk rfl so) (fun _ => rfl) (fun _ _ => rfl)) (Zb (Zz (Zq Yh (Za rfl) (Zg (Zd _)) rfl)
 (Zb (Zb8 (ys := ["collation", "one", "row", "tree"]) (fr := [2, 4, 1, 0]) ⟨rfl, by decide, by decide, rfl, rfl, rfl, by decide, by decide, by decide, by decide⟩ (Zr (Za rfl) Zf rfl) (Zj G (Zh rfl (Zg (Zd _)) (Zh rfl (Z6 (Zh rfl (Zr (Za rfl) Zf rfl) (Zh rfl Zw Zs)) (by decide)) (Zh rfl (Z6 (Zh rfl (Za rfl) (Zh rfl (Zj G (Zh rfl (Za rfl) (Zh rfl (Za rfl) (Zh rfl (Za rfl) Zs))) (Yp w) (Yq w) rfl rfl) Zs)) (by decide)) (Zh rfl (Za rfl) Zs)))) (Uh w) (Ui w) rfl rfl) SndF.nil (fun _ _ => rfl) rfl rfl rfl rfl rfl rfl) (Zb (Zl rfl (Y9 (Zq Kr Zf (Za rfl) rfl) Zf (Y9 (Zq Kr Zw (Za rfl) rfl) Zw Zf)) (Zk rfl so) (fun _ => rfl) (fun _ _ => rfl)) (Zb (Zu (Zj G (Zh rfl (Za rfl) (Zh rfl (Zr (Za rfl) Zf rfl) Zs)) (Vr w) (Vq w) rfl rfl)) Ze)))
 Ze) (Zb (Zz (Zq Yh (Za rfl) (Zg (Zd _)) rfl)
 (Zb (Zl rfl (Yt (Zh rfl (Zj G (Zh rfl (Zr (Za rfl) Zf rfl) (Zh rfl (Za rfl) (Zh rfl (Za rfl) Zs))) (Yp w) (Yq w) rfl rfl) (Zh rfl (Zj G (Zh rfl (Zr (Za rfl) Zf rfl) (Zh rfl (Za rfl) (Zh rfl (Za rfl) Zs))) (Yp w) (Yq w) rfl rfl) Zs)) (by decide)) (Zk rfl so) (fun _ => rfl) (fun _ _ => rfl)) (Zb (Zl rfl (Zj G (Zh rfl (Zg (Zd _)) (Zh rfl (Z6 (Zh rfl (Zr (Za rfl) Zf rfl) (Zh rfl (Zr (Za rfl) Zf rfl) Zs)) (by decide)) (Zh rfl (Z6 (Zh rfl (Za rfl) (Zh rfl (Zr (Za rfl) Zf rfl) Zs)) (by decide)) (Zh rfl (Za rfl) Zs)))) (Uh w) (Ui w) rfl rfl) (Zk rfl so) (fun _ => rfl) (fun _ _ => rfl)) (Zb (Zl rfl (Zj G (Zh rfl (Zg (Zd _)) (Zh rfl (Z6 (Zh rfl (Zr (Za rfl) Zf rfl) (Zh rfl (Zr (Za rfl) Zf rfl) Zs)) (by decide)) (Zh rfl (Z6 (Zh rfl (Za rfl) (Zh rfl (Zr (Za rfl) Zf rfl) Zs)) (by decide)) (Zh rfl (Za rfl) Zs)))) (Uh w) (Ui w) rfl rfl) (Zk rfl so) (fun _ => rfl) (fun _ _ => rfl)) (Zb (Zu (Zj G (Zh rfl (Zj G (Zh rfl (Zg (Zd _)) (Zh rfl (Za rfl) (Zh rfl (Za rfl) Zs))) (Ks w) (Kt w) rfl rfl) (Zh rfl (Zr (Za rfl) Zf rfl) Zs)) (Vr w) (Vq w) rfl rfl)) Ze))))
 Ze) (Zb (Zl rfl (Zj G (Zh rfl (Zr (Za rfl) Zf rfl) (Zh rfl (Za rfl) (Zh rfl (Za rfl) Zs))) (Yp w) (Yq w) rfl rfl) (Zk rfl so) (fun _ => rfl) (fun _ _ => rfl)) (Zb (Zl rfl (Y9 (Zq Xu (Zr (Za rfl) Zf rfl) Zw rfl) (Zj G (Zh rfl (Za rfl) Zs) (Va w) (Vc w) rfl rfl) (Zj G (Zh rfl (Zg (Zd _)) (Zh rfl (Z6 (Zh rfl (Zr (Za rfl) Zf rfl) (Zh rfl (Zr (Za rfl) Zf rfl) Zs)) (by decide)) (Zh rfl (Z6 (Zh rfl (Za rfl) (Zh rfl (Za rfl) Zs)) (by decide)) (Zh rfl (Za rfl) Zs)))) (Uh w) (Ui w) rfl rfl)) (Zk rfl so) (fun _ => rfl) (fun _ _ => rfl)) (Zb (Zz (Zq Yh (Za rfl) Zf rfl)
 (Zb (Zu (Zj G (Zh rfl (Zr (Za rfl) Zf rfl) (Zh rfl (Za rfl) (Zh rfl (Za rfl) Zs))) (Yp w) (Yq w) rfl rfl)) Ze)
 Ze) (Zb (Zu (Y9 (Zq Xu (Zr (Za rfl) Zf rfl) Zw rfl) Zw (Zj G (Zh rfl (Zr (Za rfl) Zf rfl) (Zh rfl (Za rfl) (Zh rfl (Za rfl) Zs))) (Yp w) (Yq w) rfl rfl))) Ze)))))))))))))
theorem fn_831 : FnOk w (K39 w.params) 831 F_831.p F_831.df F_831.ns F_831.W := by
 refine Yv (by k_is) (by k_is) ?_ ?_ ?_ ?_
 ·exact .of (by kernel_rfl) rfl rfl rfl (by kernel_rfl)
 ·decide
 ·exact b4 fun _ _ _ _ => rfl
 ·intro prog h₀ G so
  show SndB prog w h₀ _ ["op", "trees", "values", "collation", "one", "two"] _ W_831
  unfold W_831 W_831_1 W_831_2
  exact (Zb (Zz (Zq Kr (Za rfl) (Yt (Zh rfl (Zg (Zd _)) (Zh rfl (Zg (Zd _)) Zs)) (by decide)) rfl)
 (Zb (Zu (Zj G (Zh rfl (Za rfl) (Zh rfl (Zj G (Zh rfl (Zr (Za rfl) Zf rfl) Zs) (Va w) (Vc w) rfl rfl) (Zh rfl (Zj G (Zh rfl (Zr (Za rfl) Zf rfl) Zs) (Va w) (Vc w) rfl rfl) Zs))) (Ks w) (Kt w) rfl rfl)) Ze)
 Ze) (Zb (Zz (Zq Kr (Za rfl) (Yt (Zh rfl (Zg (Zd _)) (Zh rfl (Zg (Zd _)) Zs)) (by decide)) rfl)
 (Zb (Kh (is := [4, 5]) (names := ["one", "two"]) (Z6 (Zh rfl (Zj G (Zh rfl (Zr (Za rfl) Zf rfl) Zs) (Vj w) (Vk w) rfl rfl) (Zh rfl (Zj G (Zh rfl (Zr (Za rfl) Zf rfl) Zs) (Vj w) (Vk w) rfl rfl) Zs)) (by decide)) rfl so (fun _ => rfl) (fun _ h => (Vx _ _ h).trans rfl)) (Zb (Zz (Yc (Xr (Zq Xu (Za rfl) Zw rfl) (Xr (Zq Xu (Za rfl) Zw rfl) Yd)))
 (Zb (Zu Zw) Ze)
 Ze) (Zb (Zu (Y9 (Zq Yh (Za rfl) (Zg (Zd _)) rfl) (Z8 Ug (Za rfl) (Za rfl)) (Z8 Zbr (Za rfl) (Za rfl)))) Ze)))
 Ze) (Zb (Zu (Zj G (Zh rfl (Za rfl) (Zh rfl (Za rfl) (Zh rfl (Za rfl) (Zh rfl (Za rfl) Zs)))) (Uh w) (Ui w) rfl rfl)) Ze)))
theorem fn_838 : FnOk w (K39 w.params) 838 F_838.p F_838.df F_838.ns F_838.W := by
 refine Yv (by k_is) (by k_is) ?_ ?_ ?_ ?_
 ·exact .of (by kernel_rfl) rfl rfl rfl (by kernel_rfl)
 ·decide
 ·exact b2 fun _ _ => rfl
 ·intro prog h₀ G so
  show SndB prog w h₀ _ ["held", "op", "name", "p1", "p2", "p3", "p4", "other", "one", "two"] _ W_838
  unfold W_838 W_838_1 W_838_2 W_838_3
  exact (Zb (Zl rfl (Za rfl) (Jc (SndAs.cons rfl (Zk rfl so) (SndAs.cons rfl (Zk rfl so) (SndAs.cons rfl (Zk rfl so) (SndAs.cons rfl (Zk rfl so) (SndAs.cons rfl (Zk rfl so) SndAs.nil)))))) (fun _ => rfl) (fun _ _ => rfl)) (Zb (Zl rfl (Y9 (Zq Yh (Za rfl) (Zg (Zd _)) rfl) (Za rfl) (Za rfl)) (Zk rfl so) (fun _ => rfl) (fun _ _ => rfl)) (Zb (Kh (is := [8, 9]) (names := ["one", "two"]) (Z6 (Zh rfl (Zj G (Zh rfl (Vm Zbs (Za rfl) (Zh rfl (Za rfl) Zs) (fun _ => rfl)) (Zh rfl (Zr (Zr (Za rfl) Zf rfl) Zf rfl) Zs)) (V6 w) (V8 w) rfl rfl) (Zh rfl (Zj G (Zh rfl (Vm Zbs (Za rfl) (Zh rfl (Za rfl) Zs) (fun _ => rfl)) (Zh rfl (Zr (Zr (Za rfl) Zf rfl) Zf rfl) Zs)) (V6 w) (V8 w) rfl rfl) Zs)) (by decide)) rfl so (fun _ => rfl) (fun _ h => (Vx _ _ h).trans rfl)) (Zb (Zu (Zj G (Zh rfl (Zr (Za rfl) Zf rfl) (Zh rfl (Za rfl) (Zh rfl (Za rfl) (Zh rfl (Zr (Za rfl) Zf rfl) Zs)))) (Jt w) (Jz w) rfl rfl)) Ze))))
theorem fn_845 : FnOk w (K39 w.params) 845 F_845.p F_845.df F_845.ns F_845.W := by
 refine Yv (by k_is) (by k_is) ?_ ?_ ?_ ?_
 ·exact .of (by kernel_rfl) rfl rfl rfl (by kernel_rfl)
 ·decide
 ·exact b2 fun _ _ => rfl
 ·intro prog h₀ G so
  show SndB prog w h₀ _ ["held", "op", "name", "p1", "p2", "p3", "p4", "value", "truth"] _ W_845
  unfold W_845 W_845_1 W_845_2 W_845_3 W_845_4 W_845_5 W_845_6
  exact (Zb (Zl rfl (Za rfl) (Jc (SndAs.cons rfl (Zk rfl so) (SndAs.cons rfl (Zk rfl so) (SndAs.cons rfl (Zk rfl so) (SndAs.cons rfl (Zk rfl so) (SndAs.cons rfl (Zk rfl so) SndAs.nil)))))) (fun _ => rfl) (fun _ _ => rfl)) (Zb (Zl rfl (Vm Zbs (Za rfl) (Zh rfl (Za rfl) Zs) (fun _ => rfl)) (Zk rfl so) (fun _ => rfl) (fun _ _ => rfl)) (Zb (Zz (Zq Yh (Za rfl) (Zg (Zd _)) rfl)
 (Zb (Zu Ud) Ze)
 Ze) (Zb (Zz (Zq Kr (Za rfl) (Yt (Zh rfl (Zg (Zd _)) (Zh rfl (Zg (Zd _)) Zs)) (by decide)) rfl)
 (Zb (Zu (Xb Yh (Xb Xu (Za rfl) Zw rfl) (Xb Yh (Za rfl) (Zg (Zd _)) rfl) rfl)) Ze)
 Ze) (Zb (Zz (Zq Yh (Za rfl) (Zg (Zd _)) rfl)
 (Zb (Zl rfl (Zj G (Zh rfl (Za rfl) (Zh rfl (Za rfl) Zs)) (Zbp w) (Zbn w) rfl rfl) (Zk rfl so) (fun _ => rfl) (fun _ _ => rfl)) (Zb (Zu (Y9 (Zq Xu (Za rfl) Zw rfl) (Z0 G (x := "bool") ok_bool (Zh rfl (Zr (Za rfl) Zf rfl) Zs) (gb_bool w) rfl (by decide) rfl rfl (.inr ⟨_, rfl⟩)) (Xb Yh (Za rfl) Zf rfl))) Ze))
 Ze) (Zb (Zl rfl (Zj G (Zh rfl (Za rfl) Zs) (Va w) (Vc w) rfl rfl) (Zk rfl so) (fun _ => rfl) (fun _ _ => rfl)) (Zb (Zu (Y9 (Zq Xu (Za rfl) Zw rfl) (Z0 G (x := "bool") ok_bool (Zh rfl (Za rfl) Zs) (gb_bool w) rfl (by decide) rfl rfl (.inr ⟨_, rfl⟩)) (Xb Yh (Za rfl) (Z0 G (x := "int") Vw (Zh rfl (Xb Yh (Za rfl) (Zg (Zd _)) rfl) Zs) (X8 w) rfl (by decide) rfl rfl (.inr ⟨_, rfl⟩)) rfl))) Ze)))))))
theorem fn_852 : FnOk w (K39 w.params) 852 F_852.p F_852.df F_852.ns F_852.W := by
 refine Yv (by k_is) (by k_is) ?_ ?_ ?_ ?_
 ·exact .of (by kernel_rfl) rfl rfl rfl (by kernel_rfl)
 ·decide
 ·exact b2 fun _ _ => rfl
 ·intro prog h₀ G so
  show SndB prog w h₀ _ ["ops", "held", "at", "turn", "name", "p1", "p2", "p3", "p4", "one", "known"] _ W_852
  unfold W_852 W_852_1 W_852_2
  exact (Zb (Zl rfl Zf (Zk rfl so) (fun _ => rfl) (fun _ _ => rfl)) (Zb (Zhj (k := 2000) G (Zk rfl so) (Zb (Zz (Yc (Xr (Zq ok_ge (Za rfl) (Z0 G (x := "len") Zdj (Zh rfl (Za rfl) Zs) (Zdg w) rfl (by decide) rfl rfl (.inl ⟨_, rfl⟩)) rfl) (Xr (Zq Yh (Zr (Zr (Za rfl) (Za rfl) rfl) Zf rfl) (Zg (Zd _)) rfl) Yd)))
 (Zb (Zu Ud) Ze)
 Ze) (Zb (Zl rfl (Zr (Za rfl) (Za rfl) rfl) (Jc (SndAs.cons rfl (Zk rfl so) (SndAs.cons rfl (Zk rfl so) (SndAs.cons rfl (Zk rfl so) (SndAs.cons rfl (Zk rfl so) (SndAs.cons rfl (Zk rfl so) SndAs.nil)))))) (fun _ => rfl) (fun _ _ => rfl)) (Zb (Zl rfl (Z8 Ug (Za rfl) Zf) (Zk rfl so) (fun _ => rfl) (fun _ _ => rfl)) (Zb (Zz (Zq Yh (Za rfl) (Zg (Zd _)) rfl)
 (Zb (Zl rfl (Za rfl) (Um (Za rfl) (Za rfl)) (fun _ => rfl) (fun _ _ => rfl)) Ze)
 (Zb (Zz (Zq Yh (Za rfl) (Zg (Zd _)) rfl)
 (Zb (Zl rfl Zw (Um (Za rfl) (Za rfl)) (fun _ => rfl) (fun _ _ => rfl)) Ze)
 (Zb (Zz (Zq Yh (Za rfl) (Zg (Zd _)) rfl)
 (Zb (Zl rfl (Vm Zbs (Za rfl) (Zh rfl (Za rfl) Zs) (fun _ => rfl)) (Um (Za rfl) (Za rfl)) (fun _ => rfl) (fun _ _ => rfl)) Ze)
 (Zb (Zz (Zq Yh (Za rfl) (Zg (Zd _)) rfl)
 (Zb (Zl rfl (Vm Zbs (Za rfl) (Zh rfl (Za rfl) Zs) (fun _ => rfl)) (Zk rfl so) (fun _ => rfl) (fun _ _ => rfl)) (Zb (Zl rfl (Y9 (Zq Xu (Za rfl) Zw rfl) Zw (Z8 Ja Zf (Zj G (Zh rfl (Za rfl) Zs) (Vj w) (Vk w) rfl rfl))) (Zk rfl so) (fun _ => rfl) (fun _ _ => rfl)) (Zb (Zl rfl (Y9 (Zq Yh (Za rfl) (Zg (Zd _)) rfl) (Zj G (Zh rfl (Zj G (Zh rfl (Za rfl) Zs) (Va w) (Vc w) rfl rfl) (Zh rfl Ud Zs)) (Vr w) (Vq w) rfl rfl) (Za rfl)) (Um (Za rfl) (Za rfl)) (fun _ => rfl) (fun _ _ => rfl)) Ze)))
 (Zb (Zz (Zq Yh (Za rfl) (Zg (Zd _)) rfl)
 (Zb (Zl rfl (Zj G (Zh rfl (Za rfl) (Zh rfl (Zr (Za rfl) (Z8 Ja (Za rfl) Zf) rfl) Zs)) (Zbp w) (Zbn w) rfl rfl) (Um (Za rfl) (Za rfl)) (fun _ => rfl) (fun _ _ => rfl)) Ze)
 (Zb (Zz (Zq Kr (Za rfl) (Yt (Zh rfl (Zg (Zd _)) (Zh rfl (Zg (Zd _)) Zs)) (by decide)) rfl)
 (Zb (Zl rfl (Zj G (Zh rfl (Za rfl) (Zh rfl Zw (Zh rfl (Z6 (Zh rfl (Vm Zbs (Za rfl) (Zh rfl (Za rfl) Zs) (fun _ => rfl)) (Zh rfl (Vm Zbs (Za rfl) (Zh rfl (Za rfl) Zs) (fun _ => rfl)) Zs)) (by decide)) (Zh rfl (Zg (Zd _)) Zs)))) (Kw w) (Kx w) rfl rfl) (Um (Za rfl) (Za rfl)) (fun _ => rfl) (fun _ _ => rfl)) Ze)
 (Zb (Zz (Zq Kl (Za rfl) (Yt (Zh rfl (Zg (Zd _)) (Zh rfl (Zg (Zd _)) (Zh rfl (Zg (Zd _)) (Zh rfl (Zg (Zd _)) (Zh rfl (Zg (Zd _)) (Zh rfl (Zg (Zd _)) Zs)))))) (by decide)) rfl)
 (Zb (Zu Ud) Ze)
 (Zb (Zz (Yl (Zj G (Zh rfl (Za rfl) (Zh rfl (Zr (Za rfl) (Z8 Ja (Za rfl) Zf) rfl) Zs)) (Zeq w) (Zd4 w) rfl rfl) Y5 rfl)
 (Zb (Zl rfl (Za rfl) (Zk rfl so) (fun _ => rfl) (fun _ _ => rfl)) Ze)
 Ze) Ze)) Ze)) Ze)) Ze)) Ze)) Ze)) Ze)) Ze)))) (by decide) (gb_range w) rfl (fun _ _ => rfl)) (Zb (Zu Ud) Ze)))
theorem fn_859 : FnOk w (K39 w.params) 859 F_859.p F_859.df F_859.ns F_859.W := by
 refine Yv (by k_is) (by k_is) ?_ ?_ ?_ ?_
 ·exact .of (by kernel_rfl) rfl rfl rfl (by kernel_rfl)
 ·decide
 ·exact b2 fun _ _ => rfl
 ·intro prog h₀ G so
  show SndB prog w h₀ _ ["row", "is_map", "program", "base", "coder"] _ W_859
  unfold W_859 W_859_1 W_859_2 W_859_3 W_859_4 Zd2
  exact (Zb (Zl rfl (Je G (Zgu w) Zs (Zgs w) rfl rfl) (Zk rfl so) (fun _ => rfl) (fun _ _ => rfl)) (Zb (Zl rfl (Zm G (Vu w) (Za rfl) (Zh rfl Zf Zs) (fun _ => rfl)) (Zk rfl so) (fun _ => rfl) (fun _ _ => rfl)) (Zb (Zl rfl (Je G (Zb0 w) (Zh rfl (Za rfl) Zs) (Zb1 w) rfl rfl) (Zk rfl so) (fun _ => rfl) (fun _ _ => rfl)) (Zb (Zl rfl (Z6 (Zh rfl (Zg (Zd _)) (Zh rfl (Z8 Ug (Za rfl) Zf) Zs)) (by decide)) (Um (Zi G (Jq w) (Za rfl) (fun _ => rfl)) Zf) (fun _ => rfl) (fun _ _ => rfl)) (Zb (Zz (Yl (Za rfl) Y5 rfl)
 (Zb (Zl rfl (Z6 (Zh rfl (Zg (Zd _)) (Zh rfl (snd_dicZ G (SndP.cons (Jr Zf) (Za rfl) (SndP.cons Zf (Z8 Ug (Za rfl) Zf) (SndP.cons Zf (Z8 Ug (Za rfl) Zf) (SndP.cons Zf (Z8 Ug (Za rfl) Zf) SndP.nil)))) (List.cons_ne_nil _ _) (by decide)) Zs)) (by decide)) (Um (Zi G (Jq w) (Za rfl) (fun _ => rfl)) Zf) (fun _ => rfl) (fun _ _ => rfl)) Ze)
 Ze) (Zb (Zu (Yt (Zh rfl (Za rfl) (Zh rfl (snd_dicM G (SndP.cons (Za rfl) (Zr (Za rfl) Zf rfl) (SndP.cons (Z8 Ug (Za rfl) Zf) (Zr (Za rfl) Zf rfl) (SndP.cons (Z8 Ug (Za rfl) Zf) (Zr (Za rfl) Zf rfl) (SndP.cons (Z8 Ug (Za rfl) Zf) (Zr (Za rfl) Zf rfl) SndP.nil)))) (List.cons_ne_nil _ _) (by decide)) Zs)) (by decide))) Ze))))))
theorem fn_866 : FnOk w (K39 w.params) 866 F_866.p F_866.df F_866.ns F_866.W := by
 refine Yv (by k_is) (by k_is) ?_ ?_ ?_ ?_
 ·exact .of (by kernel_rfl) rfl rfl rfl (by kernel_rfl)
 ·decide
 ·exact b5 fun _ _ _ _ _ => rfl
 ·intro prog h₀ G so
  show SndB prog w h₀ _ ["tree", "row", "collation", "way", "nulls", "coder", "held", "program", "label", "end", "target", "truth", "due"] _ W_866
  unfold W_866 W_866_1 W_866_2 W_866_3 W_866_4 W_866_5 W_866_6 W_866_7 W_866_8 W_866_9 W_866_10 W_866_11 Zd3
  exact (Zb (Zl rfl (Zj G (Zh rfl (Za rfl) (Zh rfl Ud Zs)) (Zad w) (Zaw w) rfl rfl) (Jc (SndAs.cons rfl (Zk rfl so) (SndAs.cons rfl (Zk rfl so) SndAs.nil))) (fun _ => rfl) (fun _ _ => rfl)) (Zb (Zl rfl (Zi G (Zv w) (Za rfl) (fun _ => rfl)) (Zk rfl so) (fun _ => rfl) (fun _ _ => rfl)) (Zb (Kh (is := [8, 9, 10]) (names := ["label", "end", "target"]) (Z6 (Zh rfl (Zm G (V9 w) (Za rfl) Zs (fun _ => rfl)) (Zh rfl (Zm G (V9 w) (Za rfl) Zs (fun _ => rfl)) (Zh rfl (Zm G (Vu w) (Za rfl) Zs (fun _ => rfl)) Zs))) (by decide)) rfl so (fun _ => rfl) (fun _ h => (Vx _ _ h).trans rfl)) (Zb (Zz (Zq Yh (Za rfl) Zf rfl)
 (Zb (Zt (Zm G (Uv w) (Za rfl) (Zh rfl (Zj G (Zh rfl (Za rfl) (Zh rfl (Za rfl) Zs)) (Y6 w) (Y7 w) rfl rfl) (Zh rfl (Za rfl) (Zh rfl (Za rfl) Zs))) (fun _ => rfl)) rfl (fun _ => rfl)) Ze)
 (Zb (Zt (Zm G (Xw w) (Za rfl) (Zh rfl (Zj G (Zh rfl (Za rfl) (Zh rfl (Za rfl) Zs)) (Y6 w) (Y7 w) rfl rfl) (Zh rfl (Za rfl) (Zh rfl (Za rfl) Zs))) (fun _ => rfl)) rfl (fun _ => rfl)) Ze)) (Zb (Zt (Zm G (Xn w) (Za rfl) (Zh rfl (Zg (Zd _)) (Zh rfl Zf (Zh rfl (Za rfl) (Zh rfl Zf (Zh rfl Zf Zs))))) (fun _ => rfl)) rfl (fun _ => rfl)) (Zb (Zt (Zm G (Xn w) (Za rfl) (Zh rfl (Zg (Zd _)) (Zh rfl Zf (Zh rfl (Za rfl) Zs))) (fun _ => rfl)) rfl (fun _ => rfl)) (Zb (Zt (Zm G (Ua w) (Za rfl) (Zh rfl (Za rfl) Zs) (fun _ => rfl)) rfl (fun _ => rfl)) (Zb (Zt (Zm G (Xn w) (Za rfl) (Zh rfl (Zg (Zd _)) (Zh rfl Zf (Zh rfl (Za rfl) (Zh rfl Zf (Zh rfl Zf Zs))))) (fun _ => rfl)) rfl (fun _ => rfl)) (Zb (Zt (Zm G (Ua w) (Za rfl) (Zh rfl (Za rfl) Zs) (fun _ => rfl)) rfl (fun _ => rfl)) (Zb (Zt (Zm G (Zfg w) (Za rfl) Zs (fun _ => rfl)) rfl (fun _ => rfl)) (Zb (Zl rfl (Zj G (Zh rfl (Zj G (Zh rfl (Za rfl) (Zh rfl (Za rfl) (Zh rfl (Za rfl) Zs))) (Yp w) (Yq w) rfl rfl) Zs) (Va w) (Vc w) rfl rfl) (Zk rfl so) (fun _ => rfl) (fun _ _ => rfl)) (Zb (Zl rfl (Y9 (Zq Xu (Za rfl) Zw rfl) (Z0 G (x := "int") Vw (Zh rfl (Za rfl) Zs) (X8 w) rfl (by decide) rfl rfl (.inr ⟨_, rfl⟩)) (Z0 G (x := "int") Vw (Zh rfl (Xb Yh (Za rfl) (Z8 Ja Zf (Za rfl)) rfl) Zs) (X8 w) rfl (by decide) rfl rfl (.inr ⟨_, rfl⟩))) (Zk rfl so) (fun _ => rfl) (fun _ _ => rfl)) (Zb (Zu (Km (snes_and (Zj G (Zh rfl (Zi G (Zao w) (Za rfl) (fun _ => rfl)) (Zh rfl (Za rfl) Zs)) (Zco w) (Zcv w) rfl rfl) Y5 (Zcd (Xb Yh (Zr (Za rfl) (Za rfl) rfl) (Za rfl) rfl))))) Ze)))))))))))))
theorem fn_873 : FnOk w (K39 w.params) 873 F_873.p F_873.df F_873.ns F_873.W := by
 refine Yv (by k_is) (by k_is) ?_ ?_ ?_ ?_
 ·exact .of (by kernel_rfl) rfl rfl rfl (by kernel_rfl)
 ·decide
 ·exact b1 fun _ => rfl
 ·intro prog h₀ G so
  show SndB prog w h₀ _ ["script", "source", "row", "tree", "collation", "coder", "held", "register"] _ W_873
  unfold W_873 W_873_1 W_873_2 W_873_3 Zeb W_873_5 Zep W_873_7
  exact (Zb (Zl rfl (Zj G (Zh rfl (Za rfl) (Zh rfl Zf Zs)) (Zff w) (Zex w) rfl rfl) (Zk rfl so) (fun _ => rfl) (fun _ _ => rfl)) (Zb (Zl rfl (Z6 (Zh rfl (Zj G (Zh rfl (Za rfl) (Zh rfl (Yt (Zh rfl Zw (Zh rfl Zf (Zh rfl Zf (Zh rfl Zf (Zh rfl (Zg (Zd _)) Zs))))) (by decide)) Zs)) (Xl w) (Xk w) rfl rfl) (Zh rfl (Zj G (Zh rfl (Za rfl) (Zh rfl (Yt (Zh rfl Zw (Zh rfl (Zg (Zd _)) (Zh rfl (Zg (Zd _)) (Zh rfl (Zg (Zd _)) (Zh rfl (Zg (Zd _)) (Zh rfl (Zg (Zd _)) Zs)))))) (by decide)) Zs)) (Xl w) (Xk w) rfl rfl) (Zh rfl (Zj G (Zh rfl (Za rfl) Zs) (Zab w) (Zaa w) rfl rfl) (Zh rfl (Z8 Ug Zf (Zj G (Zh rfl (Za rfl) (Zh rfl Zf Zs)) (Yy w) (Yz w) rfl rfl)) Zs)))) (by decide)) (Zk rfl so) (fun _ => rfl) (fun _ _ => rfl)) (Zb (Kh (is := [3, 4]) (names := ["tree", "collation"]) (Z6 (Zh rfl (Zj G (Zh rfl (Za rfl) (Zh rfl (Z8 Ug Zf (Z0 G (x := "int") Vw (Zh rfl (Xb Yh (Zj G (Zh rfl (Za rfl) (Zh rfl Zf Zs)) (Yy w) (Yz w) rfl rfl) Zf rfl) Zs) (X8 w) rfl (by decide) rfl rfl (.inr ⟨_, rfl⟩))) Zs)) (U9 w) (U6 w) rfl rfl) (Zh rfl (Zj G (Zh rfl (Za rfl) (Zh rfl (Yt (Zh rfl (Zg (Zd _)) (Zh rfl (Zg (Zd _)) Zs)) (by decide)) Zs)) (Xl w) (Xk w) rfl rfl) Zs)) (by decide)) rfl so (fun _ => rfl) (fun _ h => (Vx _ _ h).trans rfl)) (Zb (Zl rfl (Zj G (Zh rfl (Za rfl) (Zh rfl (Xb Yh (Zj G (Zh rfl (Za rfl) (Zh rfl Zf Zs)) (Yy w) (Yz w) rfl rfl) Zf rfl) Zs)) (Zad w) (Zaw w) rfl rfl) (Jc (SndAs.cons rfl (Zk rfl so) (SndAs.cons rfl (Zk rfl so) SndAs.nil))) (fun _ => rfl) (fun _ _ => rfl)) (Zb (Zl rfl (Zm G (Z9 w) (Za rfl) (Zh rfl (Zj G (Zh rfl (Za rfl) (Zh rfl (Za rfl) Zs)) (Y6 w) (Y7 w) rfl rfl) Zs) (fun _ => rfl)) (Zk rfl so) (fun _ => rfl) (fun _ _ => rfl)) (Zb (Zt (Zm G (Zfg w) (Zi G (Zv w) (Za rfl) (fun _ => rfl)) Zs (fun _ => rfl)) rfl (fun _ => rfl)) (Zb (Zz (Yc (Xr (snt_not (Yl (Zj G (Zh rfl (Zi G (Zao w) (Zi G (Zv w) (Za rfl) (fun _ => rfl)) (fun _ => rfl)) (Zh rfl (Za rfl) Zs)) (Zco w) (Zcv w) rfl rfl) Y5 rfl)) (Xr (Zq ok_ne (Z0 G (x := "repr") ok_repr (Zh rfl (Vm Zbs (Za rfl) (Zh rfl (Za rfl) Zs) (fun _ => rfl)) Zs) (gb_repr w) rfl (by decide) rfl rfl (.inl ⟨_, rfl⟩)) (Z0 G (x := "repr") ok_repr (Zh rfl (Zj G (Zh rfl (Za rfl) (Zh rfl (Za rfl) (Zh rfl (Za rfl) Zs))) (Yp w) (Yq w) rfl rfl) Zs) (gb_repr w) rfl (by decide) rfl rfl (.inl ⟨_, rfl⟩)) rfl) Yd)))
 (Zb (Zu Ud) Ze)
 Ze) (Zb (Zu (Zj G (Zh rfl (Za rfl) (Zh rfl (Za rfl) (Zh rfl (Za rfl) (Zh rfl (Zj G (Zh rfl (Za rfl) (Zh rfl Zf Zs)) (Yy w) (Yz w) rfl rfl) (Zh rfl (Xb Yh (Zj G (Zh rfl (Za rfl) (Zh rfl Zf Zs)) (Yy w) (Yz w) rfl rfl) Zf rfl) Zs))))) (K9 w) (Zax w) rfl rfl)) Ze))))))))
end
set_option maxHeartbeats 200000
section
variable {C : Ora} {ρ : Loc} {σ : Sto} {Q : D → Sto → Prop} {T : Bool → Sto → Prop} {N Kk : Loc → Sto → Prop} {R : D → Sto → Prop} {a b : WE} {p q r : WT} {x y : WS} {t : WA}
@[simp] theorem e_none : wNone C ρ σ Q = Q .none σ := id rfl
@[simp] theorem e_B {b} : wB b C ρ σ Q = Q (.bool b) σ := id rfl
@[simp] theorem e_I {i} : wI i C ρ σ Q = Q (.int i) σ := id rfl
@[simp] theorem e_S {i} : wS i C ρ σ Q = Q (.str i) σ := id rfl
@[simp] theorem Zhq {i} : wV i C ρ σ Q = match nth ρ i with | some d => Q d σ | none => False := id rfl
@[simp] theorem e_glob {d} : wGlob d C ρ σ Q = Q d σ := id rfl
@[simp] theorem Zhr {op} : w2 op a b C ρ σ Q = a C ρ σ fun x σ1 => b C ρ σ1 fun y σ2 => op x y σ2 fun d => Q d σ2 := id rfl
@[simp] theorem J5 {op} : wCmp op a b C ρ σ Q = a C ρ σ fun x σ1 => b C ρ σ1 fun y σ2 => op x y σ2 fun d => Q (.bool d) σ2 := id rfl
@[simp] theorem Ys {op} : tCmp op a b C ρ σ T = a C ρ σ fun x σ1 => b C ρ σ1 fun y σ2 => op x y σ2 fun d => T d σ2 := id rfl
@[simp] theorem e_If : wIf p a b C ρ σ Q = p C ρ σ fun c σ1 => if c then a C ρ σ1 Q else b C ρ σ1 Q := id rfl
@[simp] theorem e_tIf : tIf p q r C ρ σ T = p C ρ σ fun c σ1 => if c then q C ρ σ1 T else r C ρ σ1 T := id rfl
@[simp] theorem e_tNot : tNot p C ρ σ T = p C ρ σ fun c σ1 => T (!c) σ1 := id rfl
@[simp] theorem e_tAnd : tAnd p q C ρ σ T = p C ρ σ fun c σ1 => if c then q C ρ σ1 T else T false σ1 := id rfl
@[simp] theorem e_tOr : tOr p q C ρ σ T = p C ρ σ fun c σ1 => if c then T true σ1 else q C ρ σ1 T := id rfl
@[simp] theorem Zfa {op} : tOf op a C ρ σ T = a C ρ σ fun x σ1 => op x σ1 fun b => T b σ1 := id rfl
@[simp] theorem e_Not {op} : wNot op a C ρ σ Q = a C ρ σ fun x σ1 => op x σ1 fun b => Q (.bool !b) σ1 := id rfl
@[simp] theorem e_Or {op} : wOr op a b C ρ σ Q = a C ρ σ fun x σ1 => op x σ1 fun t => if t then Q x σ1 else b C ρ σ1 Q := id rfl
@[simp] theorem e_And {op} : wAnd op a b C ρ σ Q = a C ρ σ fun x σ1 => op x σ1 fun t => if t then b C ρ σ1 Q else Q x σ1 := id rfl
@[simp] theorem e_Neg : wNeg a C ρ σ Q = a C ρ σ fun x σ1 => match x with | .int i => Q (.int (-i)) σ1 | _ => False := id rfl
@[simp] theorem e_tEnd {b} : tEnd b C ρ σ T = T b σ := id rfl
@[simp] theorem e_L0 {Q} : wL [] C ρ σ Q = Q [] σ := id rfl
@[simp] theorem Zc5 {r Q} : wL (a :: r) C ρ σ Q = a C ρ σ fun d σ1 => wL r C ρ σ1 fun ds σ2 => Q (d :: ds) σ2 := id rfl
@[simp] theorem e_Tup {as} : wTup as C ρ σ Q = wL as C ρ σ fun ds σ' => Q (.tup ds) σ' := id rfl
@[simp] theorem e_Lst {as} : wLst as C ρ σ Q = wL as C ρ σ fun ds σ' => Q (.lst ds) σ' := id rfl
@[simp] theorem e_LstM {as} : wLstM as C ρ σ Q = wL as C ρ σ fun ds σ' => ∀ a, σ' a = none → Q (.mlst a) (up σ' a (some (.list ds))) := id rfl
@[simp] theorem Zbt {cs n} : wAttr cs n a C ρ σ Q = a C ρ σ fun x σ1 => gAttr cs n x σ1 fun d => Q d σ1 := id rfl
@[simp] theorem e_Call {f as} : wCall f as C ρ σ Q = wL as C ρ σ fun ds σ1 => C f ds σ1 Q := id rfl
@[simp] theorem Zcz {c f n as} : wMeth c f n a as C ρ σ Q = a C ρ σ fun x σ1 => match x with
 | .inst c' d => c' = c ∧ match σ1 d with
  | some (.attrs fs) => slook fs n = none ∧ wL as C ρ σ1 fun ds σ2 => C f (.inst c' d :: ds) σ2 Q
  | _ => False
 | _ => False := id rfl
@[simp] theorem e_New {c f as} : wNew c f as C ρ σ Q = wL as C ρ σ fun ds σ1 => ∀ d, σ1 d = none → C f (.inst c d :: ds) (up σ1 d (some (.attrs []))) fun r σ2 => match r with | .none => Q (.inst c d) σ2 | _ => False := id rfl
@[simp] theorem e_Frz : wFrz a C ρ σ Q = a C ρ σ fun x σ1 => match x with
 | .inst c d => (match σ1 d with | some (.attrs fs) => Q (.obj c fs) (up σ1 d none) | _ => False)
 | _ => False := id rfl
@[simp] theorem e_Slice {lo hi : WE} : wSlice a lo hi C ρ σ Q = a C ρ σ fun dx σ1 => lo C ρ σ1 fun dl σ2 => hi C ρ σ2 fun dh σ3 => gSlice dx dl dh fun d => Q d σ3 := id rfl
@[simp] theorem Zfy {op as} : wBi op as C ρ σ Q = wL as C ρ σ fun ds σ1 => op ds σ1 fun d => Q d σ1 := id rfl
@[simp] theorem e_Isi {g} : wIsi g a C ρ σ Q = a C ρ σ fun x σ1 => g x fun b => Q (.bool b) σ1 := id rfl
@[simp] theorem e_Ps0 {Q} : wPs [] C ρ σ Q = Q [] σ := id rfl
@[simp] theorem e_Ps1 {r Q} : wPs ((a, b) :: r) C ρ σ Q = a C ρ σ fun d σ1 => b C ρ σ1 fun e σ2 => wPs r C ρ σ2 fun ds σ3 => Q ((d, e) :: ds) σ3 := id rfl
@[simp] theorem e_DicZ {ps} : wDicZ ps C ρ σ Q = wPs ps C ρ σ fun ds σ1 => match toZ ds with | some zs => (zs.map (·.1)).Nodup ∧ Q (.dici zs) σ1 | none => False := id rfl
@[simp] theorem e_DicS {ps} : wDicS ps C ρ σ Q = wPs ps C ρ σ fun ds σ1 => match toS ds with | some zs => (zs.map (·.1)).Nodup ∧ Q (.dics zs) σ1 | none => False := id rfl
@[simp] theorem e_DicM {ps} : wDicM ps C ρ σ Q = wPs ps C ρ σ fun ds σ1 => match toZ ds with | some zs => (zs.map (·.1)).Nodup ∧ ∀ a e, σ1 a = none → Q (.mdic a) (up σ1 a (some (.dict e zs))) | none => False := id rfl
@[simp] theorem e_Dic0 : wDic0 C ρ σ Q = ∀ a e, σ a = none → Q (.mdic a) (up σ a (some (.dict e []))) := id rfl
@[simp] theorem e_BM {rcv op as} : wBM rcv op a as C ρ σ Q = a C ρ σ fun x σ1 => rcv x σ1 ∧ wL as C ρ σ1 fun ds σ2 => op x ds σ2 Q := id rfl
@[simp] theorem e_Comp {fr} : wComp a fr p b C ρ σ Q = (known ρ fr ∧ a C ρ σ fun x σ1 => match itemsD x with
 | some ds => ds.length ≤ 1000 ∧ cEach p b C (fr.map (nth ρ)) (fun _ => True) (fun acc σ2 => Q (.lst acc) σ2) ds [] σ1
 | none => False) := id rfl
@[simp] theorem e_sComp {fr i} : sComp a fr p b i C ρ σ N R Kk = (known ρ fr ∧ a C ρ σ fun x σ1 => match itemsD x with
 | some ds => ds.length ≤ 1000 ∧ cEach p b C (fr.map (nth ρ)) (fun _ => True) (fun acc σ2 => N (put ρ i (.lst acc)) σ2) ds [] σ1
 | none => False) := id rfl
@[simp] theorem Jj : sNil C ρ σ N R Kk = N ρ σ := id rfl
@[simp] theorem Y0 : sSeq x y C ρ σ N R Kk = x C ρ σ (fun ρ1 σ1 => y C ρ1 σ1 N R Kk) R Kk := id rfl
@[simp] theorem Zfe : sRet a C ρ σ N R Kk = a C ρ σ R := id rfl
@[simp] theorem e_Expr : sExpr a C ρ σ N R Kk = a C ρ σ fun _ σ1 => N ρ σ1 := id rfl
@[simp] theorem e_sIf : sIf p x y C ρ σ N R Kk = p C ρ σ fun c σ1 => if c then x C ρ σ1 N R Kk else y C ρ σ1 N R Kk := id rfl
@[simp] theorem e_Brk : sBrk C ρ σ N R Kk = Kk ρ σ := id rfl
@[simp] theorem e_No : sNo C ρ σ N R Kk = False := id rfl
@[simp] theorem V1 : sAsg a t C ρ σ N R Kk = a C ρ σ fun d σ1 => t C ρ σ1 d N := id rfl
@[simp] theorem Xv {i d N} : aName i C ρ σ d N = N (put ρ i d) σ := id rfl
@[simp] theorem Za1 {c n d N} : aAttr c n a C ρ σ d N = a C ρ σ fun x σ1 => match x with
 | .inst c' a => c' = c ∧ (match σ1 a with | some (.attrs fs) => fs.length ≤ 900 ∧ N ρ (up σ1 a (some (.attrs (setF n d fs)))) | _ => False)
 | _ => False := id rfl
@[simp] theorem Zfd {d N} : aSub a b C ρ σ d N = a C ρ σ fun x σ1 => b C ρ σ1 fun y σ2 => match x, y with
 | .mlst a, .int k => (match σ2 a with | some (.list l) => (0 ≤ k ∧ k < l.length ∧ l.length ≤ 100000) ∧ N ρ (up σ2 a (some (.list (l.set k.toNat d)))) | _ => False)
 | .mdic a, .int k => (match σ2 a with | some (.dict _ l) => l.length ≤ 100000 ∧ ∀ e, N ρ (up σ2 a (some (.dict e (zput l k d)))) | _ => False)
 | _, _ => False := id rfl
@[simp] theorem Zb9 {N} : aMany [] C ρ σ [] N = N ρ σ := id rfl
@[simp] theorem Uc {ts d ds N} : aMany (t :: ts) C ρ σ (d :: ds) N = t C ρ σ d fun ρ1 σ1 => aMany ts C ρ1 σ1 ds N := id rfl
@[simp] theorem Zds {ts d N} : aTup ts C ρ σ d N = match itemsS d σ with | some ds => ds.length = ts.length ∧ aMany ts C ρ σ ds N | none => False := id rfl
@[simp] theorem e_Swap {is} : sSwap a is C ρ σ N R Kk = a C ρ σ fun d σ1 => match itemsD d with
 | some ds => ds.length = is.length ∧ aMany (is.reverse.map aName) C ρ σ1 ds.reverse N
 | none => False := id rfl
@[simp] theorem e_For : sFor a t x C ρ σ N R Kk = a C ρ σ fun d σ1 => match srcOf d σ1 with
 | some ds => sLoop t x (srcInv d σ1) C N R ds ρ σ1
 | none => False := id rfl
@[simp] theorem e_Range {k} : sRange k t x C ρ σ N R Kk = sLoop t x (fun _ => True) C N R ((List.range k).map fun i => .int (Int.ofNat i)) ρ σ := id rfl
@[simp] theorem e_Loop0 {inv} : sLoop t x inv C N R [] ρ σ = (inv σ ∧ N ρ σ) := id rfl
@[simp] theorem Zcu {inv d ds} : sLoop t x inv C N R (d :: ds) ρ σ = (inv σ ∧ t C ρ σ d fun ρ1 σ1 => x C ρ1 σ1 (fun ρ2 σ2 => sLoop t x inv C N R ds ρ2 σ2) R N) := id rfl
@[simp] theorem e_Each0 {e inv fs Q acc} : cEach p e C fs inv Q [] acc σ = (inv σ ∧ Q acc σ) := id rfl
@[simp] theorem e_Each1 {e inv fs Q d ds acc} : cEach p e C fs inv Q (d :: ds) acc σ = (inv σ ∧ p C (some d :: fs) σ fun b σ1 => if b then e C (some d :: fs) σ1 fun y σ2 => cEach p e C fs inv Q ds (acc ++ [y]) σ2 else cEach p e C fs inv Q ds acc σ1) := id rfl
end
@[simp] theorem nth_0 {x r} : nth (x :: r) 0 = x := rfl
@[simp] theorem nth_1 {x r n} : nth (x :: r) (n + 1) = nth r n := rfl
@[simp] theorem put_0 {x r d} : put (x :: r) 0 d = some d :: r := rfl
@[simp] theorem put_1 {x r n d} : put (x :: r) (n + 1) d = x :: put r n d := rfl
noncomputable abbrev Cn (n : Nat) : Ora := oracle table n
theorem Z1 {n : Nat} {f : Addr} {F : Fun} {ds full : List D} {σ : Sto} {Q : D → Sto → Prop} (h : table f = some F) (hb : bindD F.p F.df ds = some full) :
  Cn (n + 1) f ds σ Q = F.W (Cn n) (locs full F.ns.length) σ (fun _ σ' => Q .none σ') Q (fun _ _ => False) := by
 show (match table f with | some F => (match bindD F.p F.df ds with | some full => F.W (oracle table n) (locs full F.ns.length) σ (fun _ σ' => Q .none σ') Q (fun _ _ => False) | none => False) | none => False) = _
 rw [h]; dsimp only; rw [hb]
theorem Zbl (a b : String) : Str.ofString a = Str.ofString b ↔ a = b := by
 constructor
 ·intro h
  rw [Str.ofString_eq_toList, Str.ofString_eq_toList] at h
  have h1 := congrArg (fun s => s.cps.toList) h
  simp only [] at h1
  have h2 : a.toList = b.toList := by
   clear h
   generalize a.toList = l at h1
   generalize b.toList = m at h1
   induction l generalizing m with
   | nil => cases m with
    | nil => rfl
    | cons d m => simp at h1
   | cons c l ih => cases m with
    | nil => simp at h1
    | cons d m =>
     simp only [List.map_cons, List.cons.injEq] at h1
     have e : c = d := Char.ext (UInt32.toNat_inj.mp h1.1)
     rw [e, ih m h1.2]
  exact String.toList_inj.mp h2
 ·rintro rfl; rfl
@[simp] theorem Uz (a b : String) : (Str.ofString a == Str.ofString b) = (a == b) := by
 by_cases h : a = b
 ·subst h; simp
 ·rw [beq_eq_false_iff_ne.mpr fun e => h ((Zbl a b).mp e), beq_eq_false_iff_ne.mpr h]
@[simp] theorem str_eq (a b : String) : (Str.ofString a = Str.ofString b) = (a = b) := propext (Zbl a b)
set_option maxHeartbeats 4000000
@[simp] theorem up_of {α : Type} (f : Addr → Option α) (a b : Addr) (x : Option α) : up f a x b = if b = a then x else f b := rfl
@[simp] theorem lt_str (a : String) : PyData.strOk (Str.ofString a) = true := Zd a
@[simp] theorem eqv_ss (a b : Str) : PyData.eqv (.str a) (.str b) = (a == b) := rfl
@[simp] theorem eqv_si (a : Str) (i : Int) : PyData.eqv (.str a) (.int i) = false := rfl
@[simp] theorem eqv_is (a : Str) (i : Int) : PyData.eqv (.int i) (.str a) = false := rfl
@[simp] theorem eqv_sn (a : Str) : PyData.eqv (.str a) .none = false := rfl
@[simp] theorem eqv_ns (a : Str) : PyData.eqv .none (.str a) = false := rfl
@[simp] theorem eqv_in (i : Int) : PyData.eqv (.int i) .none = false := rfl
@[simp] theorem eqv_ni (i : Int) : PyData.eqv .none (.int i) = false := rfl
@[simp] theorem eqv_nn : PyData.eqv .none .none = true := rfl
@[simp] theorem eqv_ii (i j : Int) : PyData.eqv (.int i) (.int j) = (i == j) := rfl
@[simp] theorem eqv_bb (i j : Bool) : PyData.eqv (.bool i) (.bool j) = (i == j) := rfl
@[simp] theorem eqv_tt (i j : List PyData) : PyData.eqv (.tuple i) (.tuple j) = PyData.eqvAll i j := rfl
@[simp] theorem eqv_ll (i j : List PyData) : PyData.eqv (.list i) (.list j) = PyData.eqvAll i j := rfl
@[simp] theorem eqv_c (x y : PyData) (i j : List PyData) : PyData.eqvAll (x :: i) (y :: j) = (PyData.eqv x y && PyData.eqvAll i j) := rfl
@[simp] theorem eqv_0 : PyData.eqvAll [] [] = true := rfl
@[simp] theorem eqv_c0 (x : PyData) (i : List PyData) : PyData.eqvAll (x :: i) [] = false := rfl
@[simp] theorem dep_n : PyData.depth .none = 0 := rfl
@[simp] theorem dep_b (b : Bool) : PyData.depth (.bool b) = 0 := rfl
@[simp] theorem dep_i (b : Int) : PyData.depth (.int b) = 0 := rfl
@[simp] theorem dep_s (b : Str) : PyData.depth (.str b) = 0 := rfl
@[simp] theorem dep_t (b : List PyData) : PyData.depth (.tuple b) = PyData.depthAll b + 1 := rfl
@[simp] theorem dep_l (b : List PyData) : PyData.depth (.list b) = PyData.depthAll b + 1 := rfl
@[simp] theorem dep_0 : PyData.depthAll [] = 0 := rfl
@[simp] theorem dep_c (x : PyData) (b : List PyData) : PyData.depthAll (x :: b) = max x.depth (PyData.depthAll b) := rfl
theorem idx_c {α : Type} (l : List D) (i : Nat) : idx l (Int.ofNat i) = l[i]? := by unfold idx; simp
@[simp] theorem idx_0 (x : D) (l : List D) : idx (x :: l) 0 = some x := rfl
@[simp] theorem idx_1 (x y : D) (l : List D) : idx (x :: y :: l) 1 = some y := rfl
@[simp] theorem idx_2 (x y z : D) (l : List D) : idx (x :: y :: z :: l) 2 = some z := rfl
@[simp] theorem idx_3 (x y z u : D) (l : List D) : idx (x :: y :: z :: u :: l) 3 = some u := rfl
@[simp] theorem idx_4 (x y z u v : D) (l : List D) : idx (x :: y :: z :: u :: v :: l) 4 = some v := rfl
@[simp] theorem idx_m4 (x y z u : D) : idx [x, y, z, u] (-1) = some u := rfl
@[simp] theorem gItem_t (l : List D) (i : Int) (σ : Sto) (q : D → Prop) : gItem (.tup l) (.int i) σ q = ((-(2 ^ 63) ≤ i ∧ i < 2 ^ 63) ∧ match idx l i with | some d => q d | none => False) := rfl
@[simp] theorem gItem_l (l : List D) (i : Int) (σ : Sto) (q : D → Prop) : gItem (.lst l) (.int i) σ q = ((-(2 ^ 63) ≤ i ∧ i < 2 ^ 63) ∧ match idx l i with | some d => q d | none => False) := rfl
section
variable {n : Nat} {C : Ora} {ρ : Loc} {σ : Sto} {N Kk : Loc → Sto → Prop} {R : D → Sto → Prop} {Q : D → Sto → Prop} {x y z : WS} {p q : WT} {b b1 b2 : Bool} {e f : WE} {d : D} {i : Nat}
noncomputable def Ti (p : WT) (C : Ora) (ρ : Loc) (σ : Sto) (b : Bool) : Prop := ∀ T : Bool → Sto → Prop, T b σ → p C ρ σ T
theorem Vf (h : Ti p C ρ σ true) (k : x C ρ σ (fun ρ1 σ1 => z C ρ1 σ1 N R Kk) R Kk) : sSeq (sIf p x y) z C ρ σ N R Kk := h _ k
theorem Yg (h : Ti p C ρ σ false) (k : y C ρ σ (fun ρ1 σ1 => z C ρ1 σ1 N R Kk) R Kk) : sSeq (sIf p x y) z C ρ σ N R Kk := h _ k
theorem Y4 (h : Ti p C ρ σ false) (k : z C ρ σ N R Kk) : sSeq (sIf p x sNil) z C ρ σ N R Kk := h _ k
theorem Y1 {i : Nat} {c : Addr} {fs : List (Str × D)} {yes no : List Addr} (h : nth ρ i = some (.obj c fs)) (hc : c ∈ yes) : Ti (tOf oTr (wIsi (gIsi yes no) (wV i))) C ρ σ true := fun T k => by
 rw [Zfa, e_Isi, Zhq, h]
 exact .inl ⟨hc, k⟩
theorem Yb {i : Nat} {c : Addr} {fs : List (Str × D)} {yes no : List Addr} (h : nth ρ i = some (.obj c fs)) (hc : c ∈ no) : Ti (tOf oTr (wIsi (gIsi yes no) (wV i))) C ρ σ false := fun T k => by
 rw [Zfa, e_Isi, Zhq, h]
 exact .inr ⟨hc, k⟩
theorem Xh (h : Ti p C ρ σ true) (k : Ti q C ρ σ b) : Ti (tAnd p (tAnd q (tEnd (BoolOp.And == BoolOp.And)))) C ρ σ b := fun T t => h _ (k _ (by cases b <;> exact t))
theorem Z3 (h : Ti p C ρ σ false) : Ti (tAnd p q) C ρ σ false := fun T t => h _ t
theorem ti_eq {i : Nat} {c : Addr} {fs : List (Str × D)} {cs : List Addr} {name s : Str} {t : Str} (h : nth ρ i = some (.obj c fs)) (hc : c ∈ cs) (hf : slook fs name = some (.str t)) (e : (t == s) = b) : Ti (tCmp oEq (wAttr cs name (wV i)) (wS s)) C ρ σ b := fun T k => by
 rw [Ys, Zbt, Zhq, h]
 refine ⟨hc, ?_⟩
 rw [hf]
 have k' : T (t == s) σ := by rw [e]; exact k
 exact ⟨Nat.zero_le _, Nat.zero_le _, k'⟩
theorem Zgh (h : Ti p C ρ σ b1) (k1 : b1 = true → x C ρ σ (fun ρ1 σ1 => z C ρ1 σ1 N R Kk) R Kk) (k2 : b1 = false → y C ρ σ (fun ρ1 σ1 => z C ρ1 σ1 N R Kk) R Kk) : sSeq (sIf p x y) z C ρ σ N R Kk := by
 cases b1
 ·exact Yg h (k2 rfl)
 ·exact Vf h (k1 rfl)
theorem Kc (h : Ti p C ρ σ b1) (k : Ti q C ρ σ b2) : Ti (tAnd p (tAnd q (tEnd (BoolOp.And == BoolOp.And)))) C ρ σ (b1 && b2) := by
 cases b1
 ·exact Z3 h
 ·exact Xh h k
noncomputable def Ev (e : WE) (C : Ora) (ρ : Loc) (σ : Sto) (d : D) : Prop := ∀ Q : D → Sto → Prop, Q d σ → e C ρ σ Q
noncomputable def EvL (as : List WE) (C : Ora) (ρ : Loc) (σ : Sto) (ds : List D) : Prop := ∀ Q : List D → Sto → Prop, Q ds σ → wL as C ρ σ Q
theorem Zn (h : nth ρ i = some d) : Ev (wV i) C ρ σ d := fun Q q => by rw [Zhq, h]; exact q
theorem Yw {k : Int} : Ev (wI k) C ρ σ (.int k) := fun Q q => q
theorem Y3 {k : Str} : Ev (wS k) C ρ σ (.str k) := fun Q q => q
theorem ev_B {k : Bool} : Ev (wB k) C ρ σ (.bool k) := fun Q q => q
theorem Zah : Ev wNone C ρ σ .none := fun Q q => q
theorem Zp : EvL [] C ρ σ [] := fun Q q => q
theorem Zc {as : List WE} {ds : List D} (h : Ev e C ρ σ d) (k : EvL as C ρ σ ds) : EvL (e :: as) C ρ σ (d :: ds) := fun Q q => by rw [Zc5]; exact h _ (k _ q)
theorem Xp {as : List WE} {ds : List D} (h : EvL as C ρ σ ds) : Ev (wTup as) C ρ σ (.tup ds) := fun Q q => by rw [e_Tup]; exact h _ q
theorem Yr {c : Addr} {fs : List (Str × D)} {cs : List Addr} {name : Str} (h : nth ρ i = some (.obj c fs)) (hc : c ∈ cs) (hf : slook fs name = some d) : Ev (wAttr cs name (wV i)) C ρ σ d := fun Q q => by
 rw [Zbt, Zhq, h]
 refine ⟨hc, ?_⟩
 rw [hf]; exact q
theorem Zy {g : Addr} {as : List WE} {ds : List D} (h : EvL as C ρ σ ds) (k : ∀ Q : D → Sto → Prop, Q d σ → C g ds σ Q) : Ev (wCall g as) C ρ σ d := fun Q q => by rw [e_Call]; exact h _ (k _ q)
theorem Vo {a c : WE} (h : Ti p C ρ σ b) (k : Ev (if b then a else c) C ρ σ d) : Ev (wIf p a c) C ρ σ d := fun Q q => by
 rw [e_If]
 refine h _ ?_
 cases b <;> exact k _ q
theorem X9 {e : WE} (h : Ev e C ρ σ (.bool b)) : Ti (tOf oTr e) C ρ σ b := fun T k => by
 rw [Zfa]; exact h _ k
theorem ev_notb {e : WE} (h : Ev e C ρ σ (.bool b)) : Ev (wNot oTr e) C ρ σ (.bool !b) := fun Q q => by
 rw [e_Not]; exact h _ q
theorem Y2 {e : WE} (h : Ev e C ρ σ d) : Ti (tCmp oIsN e wNone) C ρ σ (isNoneD d) := fun T k => by
 rw [Ys]; exact h _ ⟨rfl, k⟩
theorem Yo {j : Nat} (h : Ev e C ρ σ d) (k : z C (put ρ j d) σ N R Kk) : sSeq (sAsg e (aName j)) z C ρ σ N R Kk := by
 rw [Y0, V1]; exact h _ k
theorem Yj (h : Ev e C ρ σ d) (k : R d σ) : sSeq (sRet e) z C ρ σ N R Kk := by
 rw [Y0, Zfe]; exact h _ k
theorem Xc (k : e C ρ σ (fun _ σ1 => z C ρ σ1 N R Kk)) : sSeq (sExpr e) z C ρ σ N R Kk := k
theorem s_retk (k : e C ρ σ R) : sSeq (sRet e) z C ρ σ N R Kk := k
theorem Xx {C : Ora} {ρ : Loc} {σ : Sto} {N Kk : Loc → Sto → Prop} {R : D → Sto → Prop} (k : N ρ σ) : sNil C ρ σ N R Kk := k
theorem Yk {i : Nat} {s t : String} {b : Bool} (h : nth ρ i = some (.str (Str.ofString t))) (e : (t == s) = b) : Ti (tCmp oEq (wV i) (wS s)) C ρ σ b := fun T k => by
 rw [Ys, Zhq, h]
 have k' : T (Str.ofString t == Str.ofString s) σ := by rw [Uz, e]; exact k
 exact ⟨Nat.zero_le _, Nat.zero_le _, k'⟩
theorem ev_eqs {i : Nat} {s t : String} {b : Bool} (h : nth ρ i = some (.str (Str.ofString t))) (e : (t == s) = b) : Ev (wCmp oEq (wV i) (wS s)) C ρ σ (.bool b) := fun T k => by
 rw [J5, Zhq, h]
 have k' : T (.bool (Str.ofString t == Str.ofString s)) σ := by rw [Uz, e]; exact k
 exact ⟨Nat.zero_le _, Nat.zero_le _, k'⟩
theorem Uq {i : Nat} {s1 s2 t : String} {b : Bool} (h : nth ρ i = some (.str (Str.ofString t))) (e : (s1 == t || s2 == t) = b) : Ti (tCmp gIn (wV i) (wLst [(wS s1), (wS s2)])) C ρ σ b := fun T k => by
 rw [Ys, Zhq, h]
 have k' : T (Str.ofString s1 == Str.ofString t || (Str.ofString s2 == Str.ofString t || false)) σ := by rw [Uz, Uz, Bool.or_false, e]; exact k
 exact ⟨Nat.zero_le _, k'⟩
theorem Zbk {e : WE} {x0 x1 x2 x3 x4 : D} {a : Addr} {z : WS} {N Kk : Loc → Sto → Prop} {R : D → Sto → Prop} {t0 t1 t2 t3 t4 : Nat} (he : Ev e C ρ σ (.mlst a)) (ha : σ a = some (.list [x0, x1, x2, x3, x4])) (k : z C (put (put (put (put (put ρ t0 x0) t1 x1) t2 x2) t3 x3) t4 x4) σ N R Kk) : sSeq (sAsg e (aTup [(aName t0), (aName t1), (aName t2), (aName t3), (aName t4)])) z C ρ σ N R Kk := by
 rw [Y0, V1]
 refine he _ ?_
 rw [Zds]
 show (match (match σ a with | some (.list l) => some l | _ => none) with | some ds => ds.length = 5 ∧ aMany [(aName t0), (aName t1), (aName t2), (aName t3), (aName t4)] C ρ σ ds (fun ρ1 σ1 => z C ρ1 σ1 N R Kk) | none => False)
 rw [ha]; exact ⟨rfl, k⟩
theorem Zd6 {e f : WE} {d1 d2 : D} {z : WS} {N Kk : Loc → Sto → Prop} {R : D → Sto → Prop} {i j : Nat} (h1 : Ev e C ρ σ d1) (h2 : Ev f C ρ σ d2) (k : z C (put (put ρ j d2) i d1) σ N R Kk) : sSeq (sSwap (wTup [e, f]) [i, j]) z C ρ σ N R Kk := by
 rw [Y0, e_Swap]
 refine Xp (Zc h1 (Zc h2 Zp)) _ ?_
 exact ⟨rfl, k⟩
theorem Yi {k : Int} {l : List D} {d : D} {e : WE} (h : Ev e C ρ σ (.tup l)) (hk : -(2 ^ 63) ≤ k ∧ k < 2 ^ 63) (hd : idx l k = some d) : Ev (w2 gItem e (wI k)) C ρ σ d := fun Q q => by
 rw [Zhr]
 refine h _ ?_
 rw [e_I, gItem_t, hd]
 exact ⟨hk, q⟩
theorem bool_eqv (x y : Bool) : PyData.eqv (.bool x) (.bool y) = (x == y) := rfl
theorem ev_eqbb {e f : WE} {x y : Bool} (h1 : Ev e C ρ σ (.bool x)) (h2 : Ev f C ρ σ (.bool y)) : Ev (wCmp oEq e f) C ρ σ (.bool (x == y)) := fun Q q => by
 rw [J5]
 refine h1 _ (h2 _ ?_)
 exact ⟨Nat.zero_le _, Nat.zero_le _, q⟩
theorem ev_isn {e : WE} {d : D} (h : Ev e C ρ σ d) : Ev (wCmp oIsN e wNone) C ρ σ (.bool (isNoneD d)) := fun Q q => by
 rw [J5]; exact h _ ⟨rfl, q⟩
theorem Uo {p : WT} {a c : WE} {b : Bool} {d : D} (h : Ti p C ρ σ b) (k1 : b = true → Ev a C ρ σ d) (k2 : b = false → Ev c C ρ σ d) : Ev (wIf p a c) C ρ σ d := fun Q q => by
 rw [e_If]
 refine h _ ?_
 cases b
 ·exact k2 rfl _ q
 ·exact k1 rfl _ q
theorem ev_bb {e : WE} {x : Bool} (h : Ev e C ρ σ (.bool x)) : Ev (wBi bBool [e]) C ρ σ (.bool x) := fun Q q => by
 rw [Zfy]; exact Zc h Zp _ q
theorem ev_bi {e : WE} {x : Bool} (h : Ev e C ρ σ (.int (if x then 1 else 0))) : Ev (wBi bBool [e]) C ρ σ (.bool x) := fun Q q => by
 rw [Zfy]
 refine Zc h Zp _ ?_
 cases x <;> exact q
theorem Zbw {e : WE} {x : Bool} (h : Ev e C ρ σ (.bool x)) : Ev (wBi bInt [e]) C ρ σ (.int (if x then 1 else 0)) := fun Q q => by
 rw [Zfy]; exact Zc h Zp _ q
theorem Zec {e f : WE} {x y : Int} (h1 : Ev e C ρ σ (.int x)) (h2 : Ev f C ρ σ (.int y)) : Ev (wCmp oEq e f) C ρ σ (.bool (x == y)) := fun Q q => by
 rw [J5]
 refine h1 _ (h2 _ ?_)
 exact ⟨Nat.zero_le _, Nat.zero_le _, q⟩
theorem Zbd {p q : WT} {b1 b2 : Bool} (h : Ti p C ρ σ b1) (k : b1 = false → Ti q C ρ σ b2) : Ti (tOr p (tOr q (tEnd (BoolOp.Or == BoolOp.And)))) C ρ σ (b1 || b2) := fun T t => by
 rw [e_tOr]
 refine h _ ?_
 cases b1
 ·refine k rfl _ ?_
  cases b2 <;> exact t
 ·exact t
theorem ti_ge {e f : WE} {x y : Int} (h1 : Ev e C ρ σ (.int x)) (h2 : Ev f C ρ σ (.int y)) : Ti (tCmp oGe e f) C ρ σ (decide (y ≤ x)) := fun T t => by
 rw [Ys]; exact h1 _ (h2 _ t)
theorem Zbm {e : WE} {s t : String} {b : Bool} (h : Ev e C ρ σ (.str (Str.ofString t))) (e1 : (t == s) = b) : Ti (tCmp oEq e (wS s)) C ρ σ b := fun T k => by
 rw [Ys]
 refine h _ ?_
 have k' : T (Str.ofString t == Str.ofString s) σ := by rw [Uz, e1]; exact k
 exact ⟨Nat.zero_le _, Nat.zero_le _, k'⟩
theorem K3 {e : WE} {x k : Int} (h : Ev e C ρ σ (.int x)) : Ev (w2 oAdd e (wI k)) C ρ σ (.int (x + k)) := fun Q q => by
 rw [Zhr]; exact h _ q
theorem ev_subI {e : WE} {x k : Int} (h : Ev e C ρ σ (.int x)) : Ev (w2 oSub e (wI k)) C ρ σ (.int (x - k)) := fun Q q => by
 rw [Zhr]; exact h _ q
theorem Zcx {e : WE} {x k y : Int} (h : Ev e C ρ σ (.int x)) (hy : x - k = y) : Ev (w2 oSub e (wI k)) C ρ σ (.int y) := by rw [← hy]; exact ev_subI h
theorem ev_add_ {e : WE} {x k y : Int} (h : Ev e C ρ σ (.int x)) (hy : x + k = y) : Ev (w2 oAdd e (wI k)) C ρ σ (.int y) := by rw [← hy]; exact K3 h
theorem ev_ti {k : Int} {l : List D} (h : Ev e C ρ σ (.tup l)) (h2 : Ev f C ρ σ (.int k)) (hk : -(2 ^ 63) ≤ k ∧ k < 2 ^ 63) (hd : idx l k = some d) : Ev (w2 gItem e f) C ρ σ d := fun Q q => by
 rw [Zhr]
 refine h _ (h2 _ ?_)
 rw [gItem_t, hd]
 exact ⟨hk, q⟩
theorem Zbc {k : Int} {l : List D} (h : Ev e C ρ σ (.lst l)) (h2 : Ev f C ρ σ (.int k)) (hk : -(2 ^ 63) ≤ k ∧ k < 2 ^ 63) (hd : idx l k = some d) : Ev (w2 gItem e f) C ρ σ d := fun Q q => by
 rw [Zhr]
 refine h _ (h2 _ ?_)
 rw [gItem_l, hd]
 exact ⟨hk, q⟩
theorem V4 (h : Ev e C ρ σ d) : Ti (tCmp oNotN e wNone) C ρ σ (!isNoneD d) := fun T k => by
 rw [Ys]; exact h _ ⟨rfl, k⟩
theorem ev_nebb {x y : Bool} (h1 : Ev e C ρ σ (.bool x)) (h2 : Ev f C ρ σ (.bool y)) : Ev (wCmp oNe e f) C ρ σ (.bool (x != y)) := fun Q q => by
 rw [J5]
 refine h1 _ (h2 _ ?_)
 exact ⟨Nat.zero_le _, Nat.zero_le _, q⟩
theorem Jv {as : List WE} {ds : List D} (h : EvL as C ρ σ ds) : Ev (wLst as) C ρ σ (.lst ds) := fun Q q => by rw [e_Lst]; exact h _ q
theorem s_tup2 {d1 d2 : D} {t0 t1 : Nat} (h : Ev e C ρ σ (.tup [d1, d2])) (k : z C (put (put ρ t0 d1) t1 d2) σ N R Kk) : sSeq (sAsg e (aTup [(aName t0), (aName t1)])) z C ρ σ N R Kk := by
 rw [Y0, V1]
 refine h _ ?_
 rw [Zds]
 exact ⟨rfl, k⟩
theorem Zar {x y : Int} (h1 : Ev e C ρ σ (.int x)) (h2 : Ev f C ρ σ (.int y)) : Ti (tCmp oEq e f) C ρ σ (x == y) := fun T t => by
 rw [Ys]
 exact h1 _ (h2 _ ⟨Nat.zero_le _, Nat.zero_le _, t⟩)
theorem ti_vs {s t : Str} (h : nth ρ i = some (.str t)) : Ti (tCmp oEq (wV i) (wS s)) C ρ σ (t == s) := fun T k => by
 rw [Ys, Zhq, h]
 exact ⟨Nat.zero_le _, Nat.zero_le _, k⟩
theorem ti_not {b : Bool} (h : Ti p C ρ σ b) : Ti (tNot p) C ρ σ (!b) := fun T k => h _ k
theorem ti_tr {b : Bool} (h : nth ρ i = some (.bool b)) : Ti (tOf oTr (wV i)) C ρ σ b := X9 (Zn h)
theorem ev_sub {e f : WE} {x y : Int} (h1 : Ev e C ρ σ (.int x)) (h2 : Ev f C ρ σ (.int y)) : Ev (w2 oSub e f) C ρ σ (.int (x - y)) := fun Q q => by
 rw [Zhr]; exact h1 _ (h2 _ q)
theorem Za2 {b : Bool} (h : Ti p C ρ σ b) (k1 : b = true → x C ρ σ (fun ρ1 σ1 => z C ρ1 σ1 N R Kk) R Kk) (k2 : b = false → z C ρ σ N R Kk) : sSeq (sIf p x sNil) z C ρ σ N R Kk := by
 cases b
 ·exact Y4 h (k2 rfl)
 ·exact Vf h (k1 rfl)
end
theorem X6 {C : Ora} {ρ : Loc} {σ : Sto} {p : WT} {b b1 : Bool} (e : b1 = b) (h : Ti p C ρ σ b1) : Ti p C ρ σ b := e ▸ h
theorem Zc3 {C : Ora} {ρ : Loc} {σ : Sto} {i : Nat} {s1 s2 t : Str} (h : nth ρ i = some (.str t)) : Ti (tCmp gIn (wV i) (wLst [(wS s1), (wS s2)])) C ρ σ (s1 == t || (s2 == t || false)) := fun T k => by
 rw [Ys, Zhq, h]; exact ⟨Nat.zero_le _, k⟩
section
variable {C : Ora} {ρ : Loc} {σ : Sto} {N Kk : Loc → Sto → Prop} {R : D → Sto → Prop} {z : WS} {e f o : WE} {d : D} {i : Nat} {c a : Addr} {fs : List (Str × D)} {cs : List Addr} {name : Str} {x y : Int} {g : Nat} {l : List D} {lz : List (Int × D)} {as : List WE} {ds : List D}
theorem Zcy (h : nth ρ i = some (.inst c a)) (hs : σ a = some (.attrs fs)) (hc : c ∈ cs) (hf : slook fs name = some d) : Ev (wAttr cs name (wV i)) C ρ σ d := fun Q q => by
 rw [Zbt, Zhq, h]
 refine ⟨hc, ?_⟩
 rw [hs]; dsimp only; rw [hf]; exact q
theorem s_setA (he : Ev e C ρ σ d) (hj : nth ρ i = some (.inst c a)) (hs : σ a = some (.attrs fs)) (hl : fs.length ≤ 900) (k : z C ρ (up σ a (some (.attrs (setF name d fs)))) N R Kk) : sSeq (sAsg e (aAttr c name (wV i))) z C ρ σ N R Kk := by
 rw [Y0, V1]
 refine he _ ?_
 rw [Za1, Zhq, hj]
 refine ⟨rfl, ?_⟩
 rw [hs]; exact ⟨hl, k⟩
theorem ti_le (h1 : Ev e C ρ σ (.int x)) (h2 : Ev f C ρ σ (.int y)) : Ti (tCmp oLe e f) C ρ σ (decide (x ≤ y)) := fun T t => by
 rw [Ys]; exact h1 _ (h2 _ t)
theorem ti_ind (h1 : Ev e C ρ σ (.int x)) (h2 : Ev f C ρ σ (.mdic a)) (hs : σ a = some (.dict g lz)) : Ti (tCmp gIn e f) C ρ σ (zlook lz x).isSome := fun T t => by
 rw [Ys]
 refine h1 _ (h2 _ ?_)
 show (match σ a with | some (.dict _ l) => T (zlook l x).isSome σ | _ => False)
 rw [hs]; exact t
theorem ev_lenL (h : Ev e C ρ σ (.mlst a)) (hs : σ a = some (.list l)) (hl : l.length ≤ 100000) : Ev (wBi bLen [e]) C ρ σ (.int l.length) := fun Q q => by
 rw [Zfy]
 refine Zc h Zp _ ?_
 show (match σ a with | some (.list l) => l.length ≤ 100000 ∧ Q (.int l.length) σ | _ => False)
 rw [hs]; exact ⟨hl, q⟩
theorem s_subD (he : Ev e C ρ σ d) (ho : Ev o C ρ σ (.mdic a)) (hk : Ev f C ρ σ (.int x)) (hs : σ a = some (.dict g lz)) (hl : lz.length ≤ 100000) (q : ∀ g, z C ρ (up σ a (some (.dict g (zput lz x d)))) N R Kk) : sSeq (sAsg e (aSub o f)) z C ρ σ N R Kk := by
 rw [Y0, V1]
 refine he _ ?_
 rw [Zfd]
 refine ho _ (hk _ ?_)
 dsimp only
 rw [hs]; exact ⟨hl, q⟩
theorem s_app (ho : Ev o C ρ σ (.mlst a)) (hs : σ a = some (.list l)) (hl : l.length ≤ 100000) (ha : EvL as C ρ σ ds) (q : ∀ b, σ b = none → z C ρ (up (up σ b (some (.list ds))) a (some (.list (l ++ [.mlst b])))) N R Kk) : sSeq (sExpr (wBM rList mAppend o [wLstM as])) z C ρ σ N R Kk := by
 rw [Y0, e_Expr, e_BM]
 refine ho _ ⟨?_, ?_⟩
 ·exact ⟨_, _, rfl, hs⟩
 ·rw [Zc5, e_LstM]
  refine ha _ fun b hb => ?_
  have e1 : up σ b (some (.list ds)) a = some (.list l) := by
   rw [Z4 _ _ fun e => by rw [e, hb] at hs; cases hs]; exact hs
  exact ⟨_, _, _, rfl, rfl, e1, hl, q b hb⟩
theorem ev_add {e f : WE} (h1 : Ev e C ρ σ (.int x)) (h2 : Ev f C ρ σ (.int y)) : Ev (w2 oAdd e f) C ρ σ (.int (x + y)) := fun Q q => by
 rw [Zhr]; exact h1 _ (h2 _ q)
end
set_option maxHeartbeats 400000
noncomputable def Vs (x : Str) : Prop := x.length ≤ 1000 ∧ PyData.strOk (Txt.lower x) = true ∧ (reprText x).length ≤ 1000 ∧ PyData.strOk (reprText x) = true ∧ PyData.strOk x = true
inductive IsV : D → Prop where
 | none : IsV .none
 | int (i : Int) : i.natAbs < 2 ^ 60 → IsV (.int i)
 | str {x : Str} : Vs x → IsV (.str x)
inductive IsW : D → Prop where
 | none : IsW .none
 | int (i : Int) : IsW (.int i)
 | str {x : Str} : x.length ≤ 1000 → PyData.strOk (Txt.lower x) = true → IsW (.str x)
theorem IsV.w {v : D} (h : IsV v) : IsW v := by
 cases h with
 | none => exact .none
 | int i h => exact .int i
 | str h => exact .str h.1 h.2.1
noncomputable def numD : D → D
 | .none => .none
 | .int i => .int i
 | .str x => if x = "2" then .int 2 else .int 0
 | _ => .none
theorem en_758 {n : Nat} {v : D} {σ : Sto} {Q : D → Sto → Prop} : Cn (n + 1) 758 [v] σ Q = W_758 (Cn n) [some v] σ (fun _ σ' => Q .none σ') Q (fun _ _ => False) := Z1 (F := F_758) (full := [v]) rfl rfl
theorem en_765 {n : Nat} {v : D} {σ : Sto} {Q : D → Sto → Prop} : Cn (n + 1) 765 [v] σ Q = W_765 (Cn n) [some v, none] σ (fun _ σ' => Q .none σ') Q (fun _ _ => False) := Z1 (F := F_765) (full := [v]) rfl rfl
theorem ti_int {C : Ora} {ρ : Loc} {σ : Sto} {i : Nat} {v : D} {t : Bool} (h : nth ρ i = some v) (e : ∀ q : Bool → Prop, q t → gIsiInt v fun b => oTr (.bool b) σ q) : Ti (tOf oTr (wIsi gIsiInt (wV i))) C ρ σ t := fun T k => by
 rw [Zfa, e_Isi, Zhq, h]; exact e (fun b => T b σ) k
theorem number {n : Nat} {v : D} {σ : Sto} {Q : D → Sto → Prop} (hv : IsV v) (h : Q (numD v) σ) : Cn (n + 1) 758 [v] σ Q := by
 refine en_758.mpr ?_
 cases hv with
 | none => exact Vf (X6 (b1 := isNoneD .none || false) rfl (Zbd (Y2 (Zn rfl)) fun e => by cases e)) (Yj (Zn rfl) h)
 | int i => exact Vf (X6 (b1 := isNoneD (.int i) || true) rfl (Zbd (Y2 (Zn rfl)) fun _ => ti_int rfl fun q k => k)) (Yj (Zn rfl) h)
 | @str x hx =>
  refine Y4 (X6 (b1 := isNoneD (.str x) || false) rfl (Zbd (Y2 (Zn rfl)) fun _ => ti_int rfl fun q k => k)) ?_
  have tin : ∀ ρ : Loc, nth ρ 0 = some (.str x) → Ti (tCmp gIn (wV 0) (wLst [(wS "2")])) (Cn n) ρ σ (Str.ofString "2" == x || false) := fun ρ q T k => by
   rw [Ys, Zhq, q]; exact ⟨Nat.zero_le _, k⟩
  by_cases e : Str.ofString "2" = x
  ·have e2 : PySem.intText? (Str.ofString "2") = some 2 := by decide +kernel
   have e3 : (Str.ofString "2").length ≤ 640 := by decide +kernel
   rw [show numD (.str x) = .int 2 from if_pos e.symm] at h
   refine Yj (Vo (b := true) (X6 (by rw [beq_iff_eq.mpr e]; rfl) (tin _ rfl)) fun Q q => ?_) h
   show wBi bInt [wV 0] (Cn n) _ σ Q
   rw [Zfy]
   refine Zc (Zn rfl) Zp _ ?_
   rw [← e]
   refine ⟨e3, ?_⟩
   rw [e2]; exact q
  ·rw [show numD (.str x) = .int 0 from if_neg (Ne.symm e)] at h
   exact Yj (Vo (b := false) (X6 (by rw [beq_eq_false_iff_ne.mpr e]; rfl) (tin _ rfl)) Yw) h
noncomputable def trueD (v : D) : D := match numD v with
 | .int i => .int (if i = 0 then 0 else 1)
 | _ => .none
theorem num_or {v : D} (hv : IsV v) : numD v = .none ∨ ∃ i, numD v = .int i := by
 cases hv with
 | none => exact .inl rfl
 | int i => exact .inr ⟨i, rfl⟩
 | @str x =>
  by_cases e : x = "2"
  ·exact .inr ⟨2, if_pos e⟩
  ·exact .inr ⟨0, if_neg e⟩
theorem Kg {n : Nat} {v : D} {σ : Sto} {Q : D → Sto → Prop} (hv : IsV v) (h : Q (trueD v) σ) : Cn (n + 2) 765 [v] σ Q := by
 refine en_765.mpr ?_
 refine Yo (Zy (Zc (Zn rfl) Zp) fun Q q => number hv q) ?_
 unfold trueD at h
 rcases num_or hv with e | ⟨i, e⟩ <;> rw [e] at h ⊢
 ·exact Yj (Vo (b := true) (Y2 (d := .none) (Zn rfl)) Zah) h
 ·refine Yj (Vo (b := false) (Y2 (d := .int i) (Zn rfl)) (Zbw (x := !(i == 0)) fun Q q => ?_)) ?_
  ·rw [J5]
   refine Zn (d := .int i) rfl _ ?_
   exact ⟨Nat.zero_le _, Nat.zero_le _, q⟩
  ·dsimp only at h
   by_cases z : i = 0
   ·rw [z] at h ⊢; exact h
   ·rw [show (!(i == 0)) = true by rw [beq_eq_false_iff_ne.mpr z]; rfl]
    rw [show (if i = 0 then (0 : Int) else 1) = 1 from if_neg z] at h; exact h
noncomputable def trip (coll : Str) : D → Int × Int × Str
 | .int i => (1, i, "")
 | .str x => (2, 0, if coll = "nocase" then Txt.lower x else x)
 | _ => (0, 0, "")
noncomputable def tripD (coll : Str) (v : D) : D := .tup [.int (trip coll v).1, .int (trip coll v).2.1, .str (trip coll v).2.2]
section
variable {C : Ora} {ρ : Loc} {σ : Sto} {e f : WE} {a b : D} {coll : Str} {i : Nat}
theorem ev_lower {x : Str} (h : nth ρ i = some (.str x)) (h1 : x.length ≤ 1000) (h2 : PyData.strOk (Txt.lower x) = true) : Ev (wBM rStr mLower (wV i) []) C ρ σ (.str (Txt.lower x)) := fun Q q => by
 rw [e_BM, Zhq, h]
 exact ⟨⟨_, rfl⟩, _, rfl, rfl, ⟨h1, h2⟩, q⟩
end
theorem class_ {n : Nat} {v : D} {coll : Str} {σ : Sto} {Q : D → Sto → Prop} (hv : IsW v) (h : Q (tripD coll v) σ) : Cn (n + 1) 772 [v, .str coll] σ Q := by
 rw [Z1 (F := F_772) rfl rfl]
 dsimp only [F_772, W_772]
 cases hv with
 | none => exact Vf (Y2 (d := .none) (Zn rfl)) (Yj (Xp (Zc Yw (Zc Yw (Zc Y3 Zp)))) h)
 | int i => exact Y4 (Y2 (d := .int i) (Zn rfl)) (Vf (ti_int rfl fun q h => h) (Yj (Xp (Zc Yw (Zc (Zn rfl) (Zc Y3 Zp)))) h))
 | @str x h1 h2 =>
  refine Y4 (Y2 (d := .str x) (Zn rfl)) (Y4 (ti_int rfl fun q h => h) ?_)
  refine Yj (Xp (Zc Yw (Zc Yw (Zc (d := .str (if coll = "nocase" then Txt.lower x else x)) (Uo (ti_vs rfl) (fun e => ?_) (fun e => ?_)) Zp)))) h
  ·rw [if_pos (beq_iff_eq.mp e)]; exact ev_lower rfl h1 h2
  ·rw [if_neg (beq_eq_false_iff_ne.mp e)]; exact Zn rfl
noncomputable def Ops : List Str := ["=", "<>", "<", "<=", ">", ">=", "is", "is not"]
@[elab_as_elim] theorem Ops.all {P : Str → Prop} {op : Str} (h : op ∈ Ops) (h1 : P "=") (h2 : P "<>") (h3 : P "<") (h4 : P "<=") (h5 : P ">") (h6 : P ">=") (h7 : P "is") (h8 : P "is not") : P op := by
 unfold Ops at h
 simp only [List.mem_cons, List.not_mem_nil, or_false] at h
 rcases h with rfl | rfl | rfl | rfl | rfl | rfl | rfl | rfl <;> assumption
noncomputable def ordI (coll : Str) (a b : D) : Int := (if ord3 true (trip coll a).1 (trip coll a).2.1 (trip coll a).2.2 (trip coll b).1 (trip coll b).2.1 (trip coll b).2.2 then 1 else 0) - (if ord3 false (trip coll a).1 (trip coll a).2.1 (trip coll a).2.2 (trip coll b).1 (trip coll b).2.1 (trip coll b).2.2 then 1 else 0)
noncomputable def ordsOf (op : Str) : List Int := if op = "=" then [0] else if op = "<>" then [-1, 1] else if op = "<" then [-1] else if op = "<=" then [-1, 0] else if op = ">" then [1] else [0, 1]
noncomputable def isN (v : D) : Bool := isNoneD v
noncomputable def b01 (b : Bool) : D := .int (if b then 1 else 0)
noncomputable def tEq (coll : Str) (a b : D) : Bool := (trip coll a).1 == (trip coll b).1 && ((trip coll a).2.1 == (trip coll b).2.1 && (trip coll a).2.2 == (trip coll b).2.2)
noncomputable def cmpD (op : Str) (a b : D) (coll : Str) : D :=
 if op = "is" ∨ op = "is not" then .int (if tEq coll a b = (op == "is") then 1 else 0)
 else if isN a || isN b then .none
 else b01 ((ordsOf op).contains (ordI coll a b))
noncomputable def ordT : List (Str × D) := [("=", .lst [.int 0]), ("<>", .lst [.int (-1), .int 1]), ("<", .lst [.int (-1)]), ("<=", .lst [.int (-1), .int 0]), (">", .lst [.int 1]), (">=", .lst [.int 0, .int 1])]
section
variable {C : Ora} {ρ : Loc} {σ : Sto} {e f : WE} {a b : D} {coll : Str} {i j : Nat}
theorem Zg2 (h1 : Ev e C ρ σ (tripD coll a)) (h2 : Ev f C ρ σ (tripD coll b)) : Ev (wCmp oEq e f) C ρ σ (.bool (tEq coll a b)) := fun Q q => by
 rw [J5]
 refine h1 _ (h2 _ ?_)
 have e3 : tEq coll a b = ((trip coll a).1 == (trip coll b).1 && ((trip coll a).2.1 == (trip coll b).2.1 && ((trip coll a).2.2 == (trip coll b).2.2 && true))) := by unfold tEq; rw [Bool.and_true]
 rw [e3] at q
 exact ⟨Nat.le_of_ble_eq_true rfl, Nat.le_of_ble_eq_true rfl, q⟩
theorem ev_gt3 (h1 : Ev e C ρ σ (tripD coll a)) (h2 : Ev f C ρ σ (tripD coll b)) : Ev (wCmp oGt3 e f) C ρ σ (.bool (ord3 true (trip coll a).1 (trip coll a).2.1 (trip coll a).2.2 (trip coll b).1 (trip coll b).2.1 (trip coll b).2.2)) := fun Q q => by
 rw [J5]; exact h1 _ (h2 _ ⟨_, _, _, _, _, _, rfl, rfl, q⟩)
theorem ev_lt3 (h1 : Ev e C ρ σ (tripD coll a)) (h2 : Ev f C ρ σ (tripD coll b)) : Ev (wCmp oLt3 e f) C ρ σ (.bool (ord3 false (trip coll a).1 (trip coll a).2.1 (trip coll a).2.2 (trip coll b).1 (trip coll b).2.1 (trip coll b).2.2)) := fun Q q => by
 rw [J5]; exact h1 _ (h2 _ ⟨_, _, _, _, _, _, rfl, rfl, q⟩)
theorem ev_eqvs {t s : Str} (h : nth ρ i = some (.str t)) : Ev (wCmp oEq (wV i) (wS s)) C ρ σ (.bool (t == s)) := fun Q q => by
 rw [J5, Zhq, h]; exact ⟨Nat.zero_le _, Nat.zero_le _, q⟩
theorem Zgq (l : List Int) : toPys (l.map .int) = some (l.map .int) := by
 induction l with
 | nil => rfl
 | cons x l ih => rw [List.map_cons, toPys, ih]; rfl
theorem Zgb (k : Int) (l : List Int) : anyEq (.int k) (l.map PyData.int) = l.contains k := by
 induction l with
 | nil => rfl
 | cons x l ih =>
  simp only [List.map_cons, anyEq, ih, eqv_ii, List.contains_cons]
  rw [Bool.beq_comm]
theorem ev_ord {op : Str} {l : List Int} {k : Int} (hs : slook ordT op = some (.lst (l.map .int))) (h0 : nth ρ i = some (.str op)) (h6 : nth ρ j = some (.int k)) {m : Nat} (h7 : nth ρ m = some (.dics ordT)) : Ev (wCmp gIn (wV j) (w2 gItem (wV m) (wV i))) C ρ σ (.bool (l.contains k)) := fun Q q => by
 rw [J5, Zhq, h6]
 dsimp only
 rw [Zhr, Zhq, h7]
 dsimp only
 rw [Zhq, h0]
 show (match slook ordT op with | some d => gIn (.int k) d σ fun b => Q (.bool b) σ | none => False)
 rw [hs]
 show (match some (PyData.int k), toPys (l.map D.int) with | some a, some b => a.depth ≤ 64 ∧ Q (.bool (anyEq a b)) σ | _, _ => False)
 rw [Zgq]
 refine ⟨Nat.zero_le _, ?_⟩
 rw [Zgb]; exact q
end
theorem ev_ordT {C : Ora} {ρ : Loc} {σ : Sto} : Ev (wDicS [((wS "="), (wLst [(wI 0)])), ((wS "<>"), (wLst [(wNeg (wI 1)), (wI 1)])), ((wS "<"), (wLst [(wNeg (wI 1))])), ((wS "<="), (wLst [(wNeg (wI 1)), (wI 0)])), ((wS ">"), (wLst [(wI 1)])), ((wS ">="), (wLst [(wI 0), (wI 1)]))]) C ρ σ (.dics ordT) := fun Q q => by
 show (List.map (·.1) ordT).Nodup ∧ Q (.dics ordT) σ
 exact ⟨by decide, q⟩
theorem Zgy {op : Str} (ho : op ∈ Ops) (hi : ¬ (op = "is" ∨ op = "is not")) : slook ordT op = some (.lst ((ordsOf op).map .int)) := by
 revert hi
 refine Ops.all ho ?_ ?_ ?_ ?_ ?_ ?_ ?_ ?_ <;> first | exact fun _ => rfl | exact fun h => absurd (.inl rfl) h | exact fun h => absurd (.inr rfl) h
theorem compared {n : Nat} {op : Str} {a b : D} {coll : Str} {σ : Sto} {Q : D → Sto → Prop} (ho : op ∈ Ops) (ha : IsW a) (hb : IsW b) (h : Q (cmpD op a b coll) σ) : Cn (n + 2) 779 [.str op, a, b, .str coll] σ Q := by
 rw [Z1 (F := F_779) rfl rfl]
 dsimp only [F_779, W_779]
 unfold cmpD at h
 by_cases his : op = "is" ∨ op = "is not"
 ·have e : ((Str.ofString "is" == op) || ((Str.ofString "is not" == op) || false)) = true := by rcases his with rfl | rfl <;> simp
  rw [if_pos his] at h
  have e2 : (if tEq coll a b = (op == Str.ofString "is") then (1 : Int) else 0) = if (tEq coll a b == (op == Str.ofString "is")) = true then 1 else 0 := by
   cases tEq coll a b <;> cases (op == Str.ofString "is") <;> rfl
  rw [e2] at h
  exact Vf (X6 e (Zc3 rfl)) (Yj (Zbw (ev_eqbb (Zg2 (Zy (Zc (Zn rfl) (Zc (Zn rfl) Zp)) fun Q q => class_ ha q) (Zy (Zc (Zn rfl) (Zc (Zn rfl) Zp)) fun Q q => class_ hb q)) (ev_eqvs rfl))) h)
 ·have e : ((Str.ofString "is" == op) || ((Str.ofString "is not" == op) || false)) = false := by
   have := not_or.mp his
   rw [beq_eq_false_iff_ne.mpr (Ne.symm this.1), beq_eq_false_iff_ne.mpr (Ne.symm this.2)]; rfl
  rw [if_neg his] at h
  refine Y4 (X6 e (Zc3 rfl)) ?_
  refine Za2 (Zbd (Y2 (Zn rfl)) fun _ => Y2 (Zn rfl)) (fun e => ?_) (fun e => ?_)
  ·rw [show (isN a || isN b) = true from e, if_pos rfl] at h
   exact Yj Zah h
  ·rw [show (isN a || isN b) = false from e, if_neg (by decide)] at h
   refine Zd6 (Zy (Zc (Zn rfl) (Zc (Zn rfl) Zp)) fun Q q => class_ ha q) (Zy (Zc (Zn rfl) (Zc (Zn rfl) Zp)) fun Q q => class_ hb q) ?_
   refine Yo (d := .int (ordI coll a b)) (ev_sub (Zbw (ev_gt3 (Zn rfl) (Zn rfl))) (Zbw (ev_lt3 (Zn rfl) (Zn rfl)))) ?_
   refine Yo ev_ordT ?_
   exact Yj (Zbw (ev_ord (Zgy ho his) rfl rfl rfl)) h
@[simp] theorem isN_n : isNoneD .none = true := rfl
@[simp] theorem isN_i (i : Int) : isNoneD (.int i) = false := rfl
@[simp] theorem isN_s (i : Str) : isNoneD (.str i) = false := rfl
@[simp] theorem isN_t (l : List D) : isNoneD (.tup l) = false := rfl
@[simp] theorem isN_l (l : List D) : isNoneD (.lst l) = false := rfl
@[simp] theorem isN_o (c : Addr) (l : List (Str × D)) : isNoneD (.obj c l) = false := rfl
@[simp] theorem isN_b (b : Bool) : isNoneD (.bool b) = false := rfl
theorem isN_ (v : D) : isN v = isNoneD v := rfl
inductive Vb (m : Nat) : D → Prop where
 | none : Vb m .none
 | int (i : Int) : i.natAbs ≤ m → Vb m (.int i)
 | str {x : Str} : Vs x → Vb m (.str x)
theorem Vb.isV {m : Nat} {v : D} (h : Vb m v) (hm : m < 2 ^ 60) : IsV v := by
 cases h with
 | none => exact .none
 | int i h => exact .int i (Nat.lt_of_le_of_lt h hm)
 | str h => exact .str h
theorem Vb.mono {m k : Nat} {v : D} (h : Vb m v) (hm : m ≤ k) : Vb k v := by
 cases h with
 | none => exact .none
 | int i h => exact .int i (Nat.le_trans h hm)
 | str h => exact .str h
noncomputable def is2 : D → Bool
 | .str x => x == "2"
 | _ => false
@[simp] theorem is2_n : is2 .none = false := rfl
@[simp] theorem is2_i (i : Int) : is2 (.int i) = false := rfl
@[simp] theorem is2_s (x : Str) : is2 (.str x) = (x == "2") := rfl
noncomputable def ledD (v : D) (aff : D) : D := match aff with
 | .str a => if a = "integer" ∨ a = "numeric" then (if is2 v then .int 2 else v) else if a = "text" then (match v with | .int i => .str (toString i) | _ => v) else v
 | _ => v
theorem Zg6 (i : Int) : ∀ c ∈ (toString i).toList, c.toNat = 45 ∨ (48 ≤ c.toNat ∧ c.toNat ≤ 57) := by
 have nat : ∀ n : Nat, ∀ c ∈ (toString n).toList, 48 ≤ c.toNat ∧ c.toNat ≤ 57 := by
  intro n c hc
  have h := Nat.isDigit_of_mem_toDigits (b := 10) (n := n) (c := c) (by decide) (by decide) (by simpa [toString, Nat.repr] using hc)
  simp only [Char.isDigit, Bool.and_eq_true, decide_eq_true_eq] at h
  exact ⟨h.1, h.2⟩
 intro c hc
 cases i with
 | ofNat m => exact .inr (nat m c hc)
 | negSucc m =>
  have e : toString (Int.negSucc m) = "-" ++ Nat.repr (m + 1) := rfl
  rw [e, String.toList_append, List.mem_append] at hc
  rcases hc with hc | hc
  ·have : c = '-' := by simpa using hc
   subst this; exact .inl rfl
  ·exact .inr (nat (m + 1) c hc)
theorem led_text (i : Int) (h : i.natAbs < 2 ^ 60) : IsW (.str (toString i)) := by
 have hs : KXs.Still (Str.ofString (toString i)) := by
  rw [Str.ofString_eq_toList]
  intro c hc
  simp only [List.mem_map] at hc
  obtain ⟨d, hd, rfl⟩ := hc
  have := Zg6 i d hd
  lia
 refine .str ?_ ?_
 ·have e := int_text_length_le10 (a := i) (k := 30) (by decide) (Nat.lt_of_lt_of_le h (by decide))
  rw [Str.ofString_eq_toList]
  show (((toString i).toList.map Char.toNat).toArray).size ≤ 1000
  rw [List.size_toArray, List.length_map, String.length_toList]
  lia
 ·rw [KXs.lower_still hs]; exact Zd _
theorem ledW {v aff : D} (h : IsV v) : IsW (ledD v aff) := by
 unfold ledD
 split
 ·split
  ·split
   ·exact .int 2
   ·exact h.w
  ·split
   ·split
    ·rename_i i
     cases h with | int _ hi => exact led_text i hi
    ·exact h.w
   ·exact h.w
 ·exact h.w
noncomputable def Affs : List D := [.none, .str "integer", .str "text", .str "blob", .str "numeric"]
theorem Zdf {i : Int} (h : i.natAbs < 2 ^ 60) : i.natAbs.log2 < 1920 := by
 by_cases e : i.natAbs = 0
 ·rw [e]; decide
 ·exact (Nat.log2_lt e).mpr (Nat.lt_of_lt_of_le h (Nat.pow_le_pow_right (by decide) (by decide)))
section
variable {C : Ora} {ρ : Loc} {σ : Sto} {i : Nat} {v : D}
theorem ti_eqN {s : Str} (h : nth ρ i = some .none) : Ti (tCmp oEq (wV i) (wS s)) C ρ σ false := fun T t => by
 rw [Ys, Zhq, h]; exact ⟨Nat.zero_le _, Nat.zero_le _, t⟩
theorem ti_inN {s1 s2 : Str} (h : nth ρ i = some .none) : Ti (tCmp gIn (wV i) (wLst [(wS s1), (wS s2)])) C ρ σ false := fun T t => by
 rw [Ys, Zhq, h]; exact ⟨Nat.zero_le _, t⟩
theorem ti_is2 (hv : IsV v) (h : nth ρ i = some v) : Ti (tCmp oEq (wV i) (wS "2")) C ρ σ (is2 v) := fun T t => by
 rw [Ys, Zhq, h]; cases hv <;> exact ⟨Nat.zero_le _, Nat.zero_le _, t⟩
noncomputable def isI (v : D) : Bool := match v with | .int _ => true | _ => false
theorem ti_isI (hv : IsV v) (h : nth ρ i = some v) : Ti (tOf oTr (wIsi gIsiInt (wV i))) C ρ σ (isI v) := fun T t => by
 rw [Zfa, e_Isi, Zhq, h]; cases hv <;> exact t
theorem ev_str {j : Int} (h : nth ρ i = some (.int j)) (hj : j.natAbs < 2 ^ 60) : Ev (wBi bStr [(wV i)]) C ρ σ (.str (toString j)) := fun Q q => by
 rw [Zfy]
 refine Zc (Zn h) Zp _ ?_
 exact ⟨_, rfl, Zdf hj, q⟩
end
theorem led {n : Nat} {v aff : D} {σ : Sto} {Q : D → Sto → Prop} (hv : IsV v) (ha : aff ∈ Affs) (h : Q (ledD v aff) σ) : Cn (n + 1) 786 [v, aff] σ Q := by
 rw [Z1 (F := F_786) rfl rfl]
 dsimp only [F_786, W_786]
 simp only [Affs, List.mem_cons, List.not_mem_nil, or_false] at ha
 have num : ∀ s : String, ledD v (.str s) = (if is2 v = true then .int 2 else v) → Q (ledD v (.str s)) σ → (("integer" : String) == s || "numeric" == s) = true → Cn (n + 1) 786 [v, .str s] σ Q := by
  intro s e h hs
  rw [e] at h
  rw [Z1 (F := F_786) rfl rfl]
  dsimp only [F_786, W_786]
  refine Vf (Uq rfl hs) (Yj (Uo (ti_is2 hv rfl) (fun e => ?_) (fun e => ?_)) h)
  ·rw [if_pos e]; exact Yw
  ·rw [e, if_neg (by decide)]; exact Zn rfl
 rcases ha with rfl | rfl | rfl | rfl | rfl
 ·exact Y4 (ti_inN rfl) (Yj (Vo (b := false) (Z3 (ti_eqN rfl)) (Zn rfl)) h)
 ·exact num "integer" (by simp [ledD]) h rfl
 ·refine Y4 (Uq rfl rfl) ?_
  cases hv with
  | none =>
   have e : ledD .none (.str "text") = .none := by simp [ledD]
   rw [e] at h
   exact Yj (Vo (b := false) (Xh (Yk rfl rfl) (ti_isI .none rfl)) (Zn rfl)) h
  | int i hi =>
   have e : ledD (.int i) (.str "text") = .str (toString i) := by simp [ledD]
   rw [e] at h
   exact Yj (Vo (b := true) (Xh (Yk rfl rfl) (ti_isI (.int i hi) rfl)) (ev_str rfl hi)) h
  | @str x hx =>
   have e : ledD (.str x) (.str "text") = .str x := by simp [ledD]
   rw [e] at h
   exact Yj (Vo (b := false) (Xh (Yk rfl rfl) (ti_isI (.str hx) rfl)) (Zn rfl)) h
 ·refine Y4 (Uq rfl rfl) ?_
  have e : ledD v (.str "blob") = v := by simp [ledD]
  rw [e] at h
  exact Yj (Vo (b := false) (Z3 (Yk rfl rfl)) (Zn rfl)) h
 ·exact num "numeric" (by simp [ledD]) h rfl
set_option maxHeartbeats 4000000
inductive Tr where
 | col (i : Int)
 | val (v : D)
 | un (op : Str) (t : Tr)
 | nul (t : Tr) (neg : Bool)
 | bin (op : Str) (a b : Tr)
 | inn0 (t : Tr) (neg : Bool)
 | inn1 (t a : Tr) (neg : Bool)
 | inn2 (t a b : Tr) (neg : Bool)
 | btw (a b c : Tr) (neg : Bool)
 | cas1 (base : Option Int) (w t : Tr)
 | cas2 (base : Option Int) (w t o : Tr)
noncomputable def colD (i : Int) : D := .tup [.str "column", .int i]
noncomputable def baseD : Option Int → D
 | none => .none
 | some i => colD i
noncomputable def enc : Tr → D
 | .col i => colD i
 | .val v => .tup [.str "value", v]
 | .un op t => .tup [.str "unary", .str op, enc t]
 | .nul t n => .tup [.str "null", enc t, .bool n]
 | .bin op a b => .tup [.str "binary", .str op, enc a, enc b]
 | .inn0 t n => .tup [.str "in", enc t, .lst [], .bool n]
 | .inn1 t a n => .tup [.str "in", enc t, .lst [enc a], .bool n]
 | .inn2 t a b n => .tup [.str "in", enc t, .lst [enc a, enc b], .bool n]
 | .btw a b c n => .tup [.str "between", enc a, enc b, enc c, .bool n]
 | .cas1 base w t => .tup [.str "case", baseD base, enc w, enc t, .none]
 | .cas2 base w t o => .tup [.str "case", baseD base, enc w, enc t, enc o]
noncomputable def Cols (i : Int) : Prop := i = 0 ∨ i = 1 ∨ i = 2 ∨ i = -1
noncomputable def affI (i : Int) : D := if i = 1 then .str "text" else if i = 2 then .str "blob" else .str "integer"
noncomputable def affT : Tr → D
 | .col i => affI i
 | _ => .none
noncomputable def colT : Tr → Option Int
 | .col i => some i
 | _ => none
theorem enc_head (t : Tr) : (∃ i, t = .col i) ∨ ∃ (w : String) (l : List D), enc t = .tup (.str w :: l) ∧ (w == "column") = false ∧ affT t = .none ∧ colT t = none := by
 cases t with
 | col i => exact .inl ⟨i, rfl⟩
 | _ => exact .inr ⟨_, _, rfl, rfl, rfl, rfl⟩
theorem affinity {n : Nat} {t : Tr} {σ : Sto} {Q : D → Sto → Prop} (hc : ∀ i, t = .col i → Cols i) (h : Q (affT t) σ) : Cn (n + 1) 793 [enc t] σ Q := by
 rw [Z1 (F := F_793) rfl rfl]
 dsimp only [F_793, W_793]
 rcases enc_head t with ⟨i, rfl⟩ | ⟨w, l, e, hw, ha, _⟩
 ·rcases hc i rfl with rfl | rfl | rfl | rfl
  all_goals exact Yj (Vo (b := true) (Zbm (Yi (Zn rfl) (by decide) rfl) rfl) (Zbc (Jv (Zc Y3 (Zc Y3 (Zc Y3 (Zc Y3 Zp))))) (Yi (Zn rfl) (by decide) rfl) (by decide) rfl)) h
 ·rw [ha] at h
  rw [e]
  exact Yj (Vo (b := false) (Zbm (Yi (Zn rfl) (by decide) rfl) hw) Zah) h
noncomputable def colD' : Option Int → D
 | none => .none
 | some i => .int i
theorem named {n : Nat} {t : Tr} {σ : Sto} {Q : D → Sto → Prop} (h : Q (colD' (colT t)) σ) : Cn (n + 1) 805 [enc t] σ Q := by
 rw [Z1 (F := F_805) rfl rfl]
 dsimp only [F_805, W_805]
 rcases enc_head t with ⟨i, rfl⟩ | ⟨w, l, e, hw, _, ha⟩
 ·exact Yj (Vo (b := true) (Zbm (Yi (Zn rfl) (by decide) rfl) rfl) (Yi (Zn rfl) (by decide) rfl)) h
 ·rw [ha] at h
  rw [e]
  exact Yj (Vo (b := false) (Zbm (Yi (Zn rfl) (by decide) rfl) hw) Zah) h
inductive IsT : D → Prop where
 | none : IsT .none
 | zero : IsT (.int 0)
 | one : IsT (.int 1)
noncomputable def oppD (v : D) (neg : Bool) : D := if neg then (match v with | .int i => .int (1 - i) | _ => v) else v
theorem opposite {n : Nat} {v : D} {neg : Bool} {σ : Sto} {Q : D → Sto → Prop} (hv : IsT v) (h : Q (oppD v neg) σ) : Cn (n + 1) 819 [v, .bool neg] σ Q := by
 rw [Z1 (F := F_819) rfl rfl]
 dsimp only [F_819, W_819]
 refine Za2 (Zbd (ti_not (ti_tr rfl)) fun _ => Y2 (Zn rfl)) (fun e => Yj (Zn rfl) ?_) (fun e => ?_)
 ·cases neg
  ·exact h
  ·cases hv <;> first | exact h | cases e
 ·cases neg
  ·cases e
  ·cases hv <;> first | exact Yj (ev_sub Yw (Zn rfl)) h | cases e
noncomputable def eitherD (isAnd : Bool) (a b : D) : D :=
 let t : D := if isAnd then .int 0 else .int 1
 match a, b with
 | .int i, .int j => if (isAnd && (i == 0 || j == 0)) || (!isAnd && (i == 1 || j == 1)) then t else .int (if isAnd then 1 else 0)
 | .int i, _ => if (isAnd && i == 0) || (!isAnd && i == 1) then t else .none
 | _, .int j => if (isAnd && j == 0) || (!isAnd && j == 1) then t else .none
 | _, _ => .none
noncomputable def eqT (v : D) (k : Int) : Bool := match v with | .int i => i == k | _ => false
theorem ti_eqT {C : Ora} {ρ : Loc} {σ : Sto} {i j : Nat} {v : D} {k : Int} (hv : IsT v) (h : nth ρ i = some v) (h2 : nth ρ j = some (.int k)) : Ti (tCmp oEq (wV i) (wV j)) C ρ σ (eqT v k) := fun T t => by
 rw [Ys, Zhq, h]
 dsimp only
 rw [Zhq, h2]
 cases hv <;> exact ⟨Nat.zero_le _, Nat.zero_le _, t⟩
theorem Zhb {b : Bool} {x y : D} (hx : IsT x) (hy : IsT y) : eitherD b x y = if (eqT x (if b then 0 else 1) || eqT y (if b then 0 else 1)) = true then .int (if b then 0 else 1) else if (isNoneD x || isNoneD y) = true then .none else .int (1 - if b then 0 else 1) := by
 cases b <;> cases hx <;> cases hy <;> rfl
theorem either {n : Nat} {op : Str} {a b : D} {σ : Sto} {Q : D → Sto → Prop} (ha : IsT a) (hb : IsT b) (h : Q (eitherD (op == "and") a b) σ) : Cn (n + 1) 812 [.str op, a, b] σ Q := by
 rw [Z1 (F := F_812) rfl rfl]
 dsimp only [F_812, W_812]
 rw [Zhb ha hb] at h
 refine Yo (d := .int (if (op == "and") = true then 0 else 1)) (Vo (ti_vs rfl) (by cases (op == Str.ofString "and") <;> exact Yw)) ?_
 revert h
 generalize (if (op == Str.ofString "and") = true then (0 : Int) else 1) = k
 intro h
 refine Za2 (Zbd (ti_eqT ha rfl rfl) fun _ => ti_eqT hb rfl rfl) (fun e => ?_) (fun e => ?_)
 ·rw [if_pos e] at h
  exact Yj (Zn rfl) h
 ·rw [e, if_neg (by decide)] at h
  refine Yj (Uo (Zbd (Y2 (Zn rfl)) fun _ => Y2 (Zn rfl)) (fun e => ?_) (fun e => ?_)) h
  ·rw [if_pos e]; exact Zah
  ·rw [e, if_neg (by decide)]; exact ev_sub Yw (Zn rfl)
noncomputable def affO : Option Tr → D
 | none => .none
 | some t => affT t
noncomputable def colO : Option Tr → Option Int
 | none => none
 | some t => colT t
noncomputable def encO : Option Tr → D
 | none => .none
 | some t => enc t
noncomputable def pa (a b : D) : D × D := match a, b with
 | .str x, .str y => if x = "integer" then (if y = "integer" then (.none, .none) else (.none, .str "integer")) else if y = "integer" then (.str "integer", .none) else (.none, .none)
 | .str x, _ => if x = "integer" then (.none, .str "integer") else if x = "text" then (.none, .str "text") else (.none, .none)
 | _, .str y => if y = "integer" then (.str "integer", .none) else if y = "text" then (.str "text", .none) else (.none, .none)
 | _, _ => (.none, .none)
noncomputable def collP (c1 c2 : Option Int) (coll : Str) : Str := match c1 with
 | some i => if i = 1 then coll else "binary"
 | none => match c2 with
  | some i => if i = 1 then coll else "binary"
  | none => "binary"
noncomputable def pairD (op : Str) (t1 : Tr) (t2 : Option Tr) (v1 v2 : D) (coll : Str) : D :=
 cmpD op (ledD v1 (pa (affT t1) (affO t2)).1) (ledD v2 (pa (affT t1) (affO t2)).2) (collP (colT t1) (colO t2) coll)
theorem led_none (v : D) : ledD v .none = v := rfl
section
variable {C : Ora} {σ : Sto} {p : WT} {e : WE} {fs : Loc} {inv : Sto → Prop} {Q : List D → Sto → Prop} {d y : D} {ds acc : List D}
theorem c_t (i : inv σ) (h : Ti p C (some d :: fs) σ true) (he : Ev e C (some d :: fs) σ y) (k : cEach p e C fs inv Q ds (acc ++ [y]) σ) : cEach p e C fs inv Q (d :: ds) acc σ := ⟨i, h _ (he _ k)⟩
theorem c_f (i : inv σ) (h : Ti p C (some d :: fs) σ false) (k : cEach p e C fs inv Q ds acc σ) : cEach p e C fs inv Q (d :: ds) acc σ := ⟨i, h _ k⟩
end
noncomputable def colL : Option Int → List D
 | none => []
 | some i => [.int i]
theorem ev_nam {n : Nat} {ρ : Loc} {σ : Sto} {t : Tr} {i : Nat} (h : nth ρ i = some (enc t)) : Ev (wCall 805 [(wV i)]) (Cn (n + 1)) ρ σ (colD' (colT t)) := Zy (Zc (Zn h) Zp) fun _ q => named q
theorem c_col {n : Nat} {σ : Sto} {Q : List D → Sto → Prop} {ds acc : List D} (o : Option Tr) (k : cEach (tAnd (tCmp oNotN (wV 0) wNone) (tAnd (tCmp oNotN (wCall 805 [(wV 0)]) wNone) (tEnd (BoolOp.And == BoolOp.And)))) (wCall 805 [(wV 0)]) (Cn (n + 1)) [] (fun _ => True) Q ds (acc ++ colL (colO o)) σ) :
  cEach (tAnd (tCmp oNotN (wV 0) wNone) (tAnd (tCmp oNotN (wCall 805 [(wV 0)]) wNone) (tEnd (BoolOp.And == BoolOp.And)))) (wCall 805 [(wV 0)]) (Cn (n + 1)) [] (fun _ => True) Q (encO o :: ds) acc σ := by
 cases o with
 | none => exact c_f trivial (Z3 (V4 (d := .none) (Zn rfl))) (List.append_nil acc ▸ k)
 | some t =>
  have e1 : (!isNoneD (enc t)) = true := by cases t <;> rfl
  have e2 : colO (some t) = colT t := rfl
  rw [e2] at k
  cases c : colT t with
  | none =>
   rw [c] at k
   exact c_f trivial (Xh (e1 ▸ V4 (Zn rfl)) (X6 (by rw [c]; rfl) (V4 (ev_nam (t := t) rfl)))) (List.append_nil acc ▸ k)
  | some i =>
   rw [c] at k
   exact c_t trivial (Xh (e1 ▸ V4 (Zn rfl)) (X6 (by rw [c]; rfl) (V4 (ev_nam (t := t) rfl)))) (by have := ev_nam (n := n) (σ := σ) (ρ := [some (encO (some t))]) (t := t) (i := 0) rfl; rw [c] at this; exact this) k
theorem ev_namC {C : Ora} {ρ : Loc} {σ : Sto} {coll : Str} (c1 c2 : Option Int) (h8 : nth ρ 8 = some (.lst (colL c1 ++ colL c2))) (h3 : nth ρ 3 = some (.str coll)) : Ev (wIf (tAnd (tCmp oNe (wV 8) (wLst [])) (tAnd (tCmp oEq (w2 gItem (wV 8) (wI 0)) (wI 1)) (tEnd (BoolOp.And == BoolOp.And)))) (wV 3) (wS "binary")) C ρ σ (.str (collP c1 c2 coll)) := by
 have one : ∀ (i : Int) (l : List D), nth ρ 8 = some (.lst (.int i :: l)) → Ti (tCmp oNe (wV 8) (wLst [])) C ρ σ true → Ev (wIf (tAnd (tCmp oNe (wV 8) (wLst [])) (tAnd (tCmp oEq (w2 gItem (wV 8) (wI 0)) (wI 1)) (tEnd (BoolOp.And == BoolOp.And)))) (wV 3) (wS "binary")) C ρ σ (.str (if i = 1 then coll else "binary")) := fun i l h t => by
  refine Uo (Xh t (Zar (Zbc (Zn h) Yw (by decide) rfl) Yw)) (fun e => ?_) fun e => ?_
  ·rw [if_pos (beq_iff_eq.mp e)]; exact Zn h3
  ·rw [if_neg (beq_eq_false_iff_ne.mp e)]; exact Y3
 cases c1 with
 | none =>
  cases c2 with
  | none => exact Vo (b := false) (Z3 fun T k => by rw [Ys, Zhq, h8]; exact ⟨Nat.le_of_ble_eq_true rfl, Nat.le_of_ble_eq_true rfl, k⟩) Y3
  | some j => exact one j [] h8 fun T k => by rw [Ys, Zhq, h8]; exact ⟨Nat.le_of_ble_eq_true rfl, Nat.le_of_ble_eq_true rfl, k⟩
 | some i =>
  cases c2 with
  | none => exact one i [] h8 fun T k => by rw [Ys, Zhq, h8]; exact ⟨Nat.le_of_ble_eq_true rfl, Nat.le_of_ble_eq_true rfl, k⟩
  | some j => exact one i [.int j] h8 fun T k => by rw [Ys, Zhq, h8]; exact ⟨Nat.le_of_ble_eq_true rfl, Nat.le_of_ble_eq_true rfl, k⟩
theorem Zhe {n : Nat} {op : Str} {t1 : Tr} {t2 : Option Tr} {v1 v2 u1 u2 a1 a2 : D} {coll : Str} {σ : Sto} {Q : D → Sto → Prop} (ho : op ∈ Ops) (h1 : IsW u1) (h2 : IsW u2) (hn : ∀ i, colT t1 = some i ∨ colO t2 = some i → Cols i)
  (h : Q (cmpD op u1 u2 (collP (colT t1) (colO t2) coll)) σ) :
  cEach (tAnd (tCmp oNotN (wV 0) wNone) (tAnd (tCmp oNotN (wCall 805 [(wV 0)]) wNone) (tEnd (BoolOp.And == BoolOp.And)))) (wCall 805 [(wV 0)]) (Cn (n + 2)) [] (fun _ => True)
   (fun acc σ2 => wCall 779 [(wV 0), (wV 6), (wV 7), (wIf (tAnd (tCmp oNe (wV 8) (wLst [])) (tAnd (tCmp oEq (w2 gItem (wV 8) (wI 0)) (wI 1)) (tEnd (BoolOp.And == BoolOp.And)))) (wV 3) (wS "binary"))] (Cn (n + 2))
    [some (.str op), some (.tup [enc t1, encO t2]), some (.tup [v1, v2]), some (.str coll), some a1, some a2, some u1, some u2, some (.lst acc)] σ2 Q) [enc t1, encO t2] [] σ :=
 c_col (some t1) (c_col t2 ⟨trivial, Zc (Zn rfl) (Zc (Zn rfl) (Zc (Zn rfl) (Zc (ev_namC (colT t1) (colO t2) rfl rfl) Zp))) _ (compared ho h1 h2 h)⟩)
noncomputable def AffV (a : D) : Prop := a = .none ∨ a = .str "integer" ∨ a = .str "text" ∨ a = .str "blob"
@[elab_as_elim] theorem AffV.all {P : D → Prop} {a : D} (h : AffV a) (h0 : P .none) (h1 : P (.str "integer")) (h2 : P (.str "text")) (h3 : P (.str "blob")) : P a := by
 rcases h with rfl | rfl | rfl | rfl <;> assumption
theorem Xy {t : Tr} (h : ∀ i, t = .col i → Cols i) : AffV (affT t) := by
 unfold AffV
 cases t with
 | col i => rcases h i rfl with rfl | rfl | rfl | rfl <;> first | exact .inr (.inl rfl) | exact .inr (.inr (.inl rfl)) | exact .inr (.inr (.inr rfl))
 | _ => exact .inl rfl
noncomputable def isS (a : D) (s : Str) : Bool := match a with | .str x => x == s | _ => false
theorem ti_isS {C : Ora} {ρ : Loc} {σ : Sto} {i : Nat} {a : D} {s : Str} (ha : AffV a) (h : nth ρ i = some a) : Ti (tCmp oEq (wV i) (wS s)) C ρ σ (isS a s) := fun T t => by
 rw [Ys, Zhq, h]
 rcases ha with rfl | rfl | rfl | rfl <;> exact ⟨Nat.zero_le _, Nat.zero_le _, t⟩
theorem ti_neS {C : Ora} {ρ : Loc} {σ : Sto} {i : Nat} {a : D} {s : Str} (ha : AffV a) (h : nth ρ i = some a) : Ti (tCmp oNe (wV i) (wS s)) C ρ σ (!isS a s) := fun T t => by
 rw [Ys, Zhq, h]
 rcases ha with rfl | rfl | rfl | rfl <;> exact ⟨Nat.zero_le _, Nat.zero_le _, t⟩
theorem pa_eq {a b : D} (ha : AffV a) (hb : AffV b) : pa a b = if (isS a "integer" && !isS b "integer") = true then (.none, .str "integer") else if (isS b "integer" && !isS a "integer") = true then (.str "integer", .none)
  else if (isS a "text" && isNoneD b) = true then (.none, .str "text") else if (isS b "text" && isNoneD a) = true then (.str "text", .none) else (.none, .none) := by
 refine AffV.all ha ?_ ?_ ?_ ?_ <;> refine AffV.all hb ?_ ?_ ?_ ?_ <;> rfl
theorem ev_led {n : Nat} {ρ : Loc} {σ : Sto} {j : Nat} {v : D} {s : Str} (hv : IsV v) (h : nth ρ j = some v) (hs : .str s ∈ Affs) : Ev (wCall 786 [(wV j), (wS s)]) (Cn (n + 1)) ρ σ (ledD v (.str s)) :=
 Zy (Zc (Zn h) (Zc Y3 Zp)) fun Q q => led hv hs q
theorem Zg5 {t2 : Option Tr} {i : Int} (h : colO t2 = some i) : t2 = some (.col i) := by
 cases t2 with
 | none => cases h
 | some t => cases t <;> cases h; rfl
theorem Zg8 {t : Tr} {i : Int} (h : colT t = some i) : t = .col i := by
 cases t <;> cases h; rfl
theorem pair {n : Nat} {op : Str} {t1 : Tr} {t2 : Option Tr} {v1 v2 : D} {coll : Str} {σ : Sto} {Q : D → Sto → Prop} (ho : op ∈ Ops) (h1 : IsV v1) (h2 : IsV v2) (c1 : ∀ i, t1 = .col i → Cols i) (c2 : ∀ t, t2 = some t → ∀ i, t = .col i → Cols i)
  (h : Q (pairD op t1 t2 v1 v2 coll) σ) : Cn (n + 3) 798 [.str op, .tup [enc t1, encO t2], .tup [v1, v2], .str coll] σ Q := by
 have a1 := Xy c1
 have a2 : AffV (affO t2) := by
  cases t2 with
  | none => exact .inl rfl
  | some t => exact Xy (c2 t rfl)
 have tail : ∀ (a1 a2 u1 u2 : D) (w1 : IsW u1) (w2 : IsW u2) (e : Q (cmpD op u1 u2 (collP (colT t1) (colO t2) coll)) σ), Zek (Cn (n + 2)) [some (.str op), some (.tup [enc t1, encO t2]), some (.tup [v1, v2]), some (.str coll), some a1, some a2, some u1, some u2, none] σ (fun _ σ' => Q .none σ') Q (fun _ _ => False) := by
  intro a1 a2 u1 u2 w1 w2 e
  unfold Zek
  rw [Y0, e_sComp]
  refine ⟨fun i hi => (List.not_mem_nil hi).elim, ?_⟩
  rw [Zhq]
  show _ ≤ 1000 ∧ _
  refine ⟨Nat.le_of_ble_eq_true rfl, ?_⟩
  exact Zhe (n := n) (v1 := v1) (v2 := v2) (a1 := a1) (a2 := a2) ho w1 w2 (fun i hi => hi.elim (fun e => c1 i (Zg8 e)) fun e => c2 _ (Zg5 e) i rfl) e
 unfold pairD at h
 rw [pa_eq a1 a2] at h
 rw [Z1 (F := F_798) rfl rfl]
 dsimp only [F_798, W_798]
 have o : Ev (wIf (tCmp oIsN (w2 gItem (wV 1) (wI 1)) wNone) wNone (wCall 793 [(w2 gItem (wV 1) (wI 1))])) (Cn (n + 2)) [some (.str op), some (.tup [enc t1, encO t2]), some (.tup [v1, v2]), some (.str coll), none, none, none, none, none] σ (affO t2) := by
  cases t2 with
  | none => exact Vo (b := true) (Y2 (d := .none) (Yi (Zn rfl) (by decide) rfl)) Zah
  | some t =>
   have e : isNoneD (enc t) = false := by cases t <;> rfl
   exact Vo (b := false) (by rw [← e]; exact Y2 (Yi (Zn rfl) (by decide) rfl)) (Zy (Zc (Yi (Zn rfl) (by decide) rfl) Zp) fun Q q => affinity (c2 t rfl) q)
 refine Zd6 (Zy (Zc (Yi (Zn rfl) (by decide) rfl) Zp) fun Q q => affinity c1 q) o ?_
 refine s_tup2 (Zn rfl) ?_
 refine Zgh (Kc (ti_isS a1 rfl) (ti_neS a2 rfl)) (fun e => ?_) (fun e => ?_)
 ·rw [if_pos e] at h
  exact Yo (ev_led h2 rfl (by simp [Affs])) (tail _ _ _ _ h1.w (ledW h2) h)
 rw [e, if_neg (by decide)] at h
 refine Zgh (Kc (ti_isS a2 rfl) (ti_neS a1 rfl)) (fun e => ?_) (fun e => ?_)
 ·rw [if_pos e] at h
  exact Yo (ev_led h1 rfl (by simp [Affs])) (tail _ _ _ _ (ledW h1) h2.w h)
 rw [e, if_neg (by decide)] at h
 refine Zgh (Kc (ti_isS a1 rfl) (Y2 (Zn rfl))) (fun e => ?_) (fun e => ?_)
 ·rw [if_pos e] at h
  exact Yo (ev_led h2 rfl (by simp [Affs])) (tail _ _ _ _ h1.w (ledW h2) h)
 rw [e, if_neg (by decide)] at h
 refine Zgh (Kc (ti_isS a2 rfl) (Y2 (Zn rfl))) (fun e => ?_) (fun e => ?_)
 ·rw [if_pos e] at h
  exact Yo (ev_led h1 rfl (by simp [Affs])) (tail _ _ _ _ (ledW h1) h2.w h)
 ·rw [e, if_neg (by decide)] at h
  exact tail _ _ _ _ h1.w h2.w h
set_option maxHeartbeats 400000
theorem Xd (v : D) : IsT (trueD v) := by
 unfold trueD
 split
 ·split
  ·exact .zero
  ·exact .one
 ·exact .none
noncomputable def addD (mul : Bool) (a b : D) : D := match a, b with
 | .int i, .int j => .int (if mul then i * j else i + j)
 | _, _ => .none
noncomputable def laD (op : Str) (a b : D) : D := if op = "and" ∨ op = "or" then eitherD (op == "and") (trueD a) (trueD b) else addD (op == "*") (numD a) (numD b)
noncomputable def LA : List Str := ["and", "or", "+", "*"]
theorem Ux {v : D} (h : IsV v) : numD v = .none ∨ ∃ i : Int, numD v = .int i ∧ i.natAbs < 2 ^ 60 := by
 cases h with
 | none => exact .inl rfl
 | int i h => exact .inr ⟨i, rfl, h⟩
 | @str x h =>
  by_cases e : x = "2"
  ·exact .inr ⟨2, by simp [numD, e], by decide⟩
  ·exact .inr ⟨0, by simp [numD, e], by decide⟩
theorem ev_addN {C : Ora} {ρ : Loc} {σ : Sto} {o : Str} {v1 v2 : D} (hp : (o == "+") = true ∨ (o == "+") = false ∧ (o == "*") = true) (h1 : IsV v1) (h2 : IsV v2) (h0 : nth ρ 0 = some (.str o)) (h4 : nth ρ 4 = some (numD v1)) (h5 : nth ρ 5 = some (numD v2)) (hn : (isNoneD (numD v1) || isNoneD (numD v2)) = false) :
  Ev (wIf (tCmp oEq (wV 0) (wS "+")) (w2 oAdd (wV 4) (wV 5)) (w2 oMul (wV 4) (wV 5))) C ρ σ (addD (o == "*") (numD v1) (numD v2)) := by
 rcases Ux h1 with e1 | ⟨i, e1, b1⟩
 ·rw [e1] at hn; cases hn
 rcases Ux h2 with e2 | ⟨j, e2, b2⟩
 ·rw [e2, Bool.or_comm] at hn; cases hn
 rw [e1, e2]
 rw [e1] at h4
 rw [e2] at h5
 refine Uo (ti_vs h0) (fun e => ?_) (fun e => ?_)
 ·have e' : (o == "*") = false := by rw [beq_iff_eq.mp e]; rfl
  rw [e']
  exact fun Q q => by rw [Zhr]; exact Zn h4 _ (Zn h5 _ q)
 ·rcases hp with hp | hp
  ·rw [e] at hp; cases hp
  rw [hp.2]
  exact fun Q q => by rw [Zhr]; exact Zn h4 _ (Zn h5 _ ⟨.inl ⟨by lia, by lia⟩, q⟩)
theorem Zc1 {n : Nat} {op : Str} {ts v1 v2 c : D} {σ : Sto} {Q : D → Sto → Prop} (ho : op ∈ LA) (h1 : IsV v1) (h2 : IsV v2) (h : Q (laD op v1 v2) σ) : Cn (n + 3) 831 [.str op, ts, .tup [v1, v2], c] σ Q := by
 rw [Z1 (F := F_831) rfl rfl]
 dsimp only [F_831, W_831]
 by_cases hl : op = "and" ∨ op = "or"
 ·have e : ((Str.ofString "and" == op) || ((Str.ofString "or" == op) || false)) = true := by rcases hl with rfl | rfl <;> simp
  unfold laD at h
  rw [if_pos hl] at h
  refine Vf (X6 e (Zc3 rfl)) ?_
  exact Yj (Zy (Zc (Zn rfl) (Zc (Zy (Zc (Yi (Zn rfl) (by decide) rfl) Zp) fun Q q => Kg h1 q) (Zc (Zy (Zc (Yi (Zn rfl) (by decide) rfl) Zp) fun Q q => Kg h2 q) Zp))) fun Q q => either (Xd _) (Xd _) q) h
 ·have hp : op = "+" ∨ op = "*" := by
   simp only [LA, List.mem_cons, List.not_mem_nil, or_false] at ho
   rcases ho with e | e | e | e
   ·exact absurd (.inl e) hl
   ·exact absurd (.inr e) hl
   ·exact .inl e
   ·exact .inr e
  have e : ((Str.ofString "and" == op) || ((Str.ofString "or" == op) || false)) = false := by rcases hp with rfl | rfl <;> simp
  have e2 : ((Str.ofString "+" == op) || ((Str.ofString "*" == op) || false)) = true := by rcases hp with rfl | rfl <;> simp
  have e3 : (op == "+") = true ∨ (op == "+") = false ∧ (op == "*") = true := by rcases hp with rfl | rfl <;> simp
  unfold laD at h
  rw [if_neg hl] at h
  refine Y4 (X6 e (Zc3 rfl)) (Vf (X6 e2 (Zc3 rfl)) ?_)
  refine Zd6 (Zy (Zc (Yi (Zn rfl) (by decide) rfl) Zp) fun Q q => number h1 q) (Zy (Zc (Yi (Zn rfl) (by decide) rfl) Zp) fun Q q => number h2 q) ?_
  refine Za2 (Zbd (Y2 (Zn rfl)) fun _ => Y2 (Zn rfl)) (fun e => Yj Zah ?_) (fun e => Yj (ev_addN e3 h1 h2 rfl rfl rfl e) h)
  have : addD (op == "*") (numD v1) (numD v2) = .none := by
   rcases Ux h1 with e1 | ⟨i, e1, _⟩
   ·rw [e1]; rfl
   rcases Ux h2 with e2 | ⟨j, e2, _⟩
   ·rw [e1, e2]; rfl
   rw [e1, e2] at e; cases e
  rw [this] at h; exact h
theorem Zgr {n : Nat} {op : Str} {t1 t2 : Tr} {v1 v2 : D} {coll : Str} {σ : Sto} {Q : D → Sto → Prop} (ho : op ∈ Ops) (h1 : IsV v1) (h2 : IsV v2) (c1 : ∀ i, t1 = .col i → Cols i) (c2 : ∀ i, t2 = .col i → Cols i)
  (h : Q (pairD op t1 (some t2) v1 v2 coll) σ) : Cn (n + 4) 831 [.str op, .tup [enc t1, enc t2], .tup [v1, v2], .str coll] σ Q := by
 rw [Z1 (F := F_831) rfl rfl]
 dsimp only [F_831, W_831]
 have e1 := (by decide : ∀ o ∈ Ops, (Str.ofString "and" == o || (Str.ofString "or" == o || false)) = false) op ho
 have e2 := (by decide : ∀ o ∈ Ops, (Str.ofString "+" == o || (Str.ofString "*" == o || false)) = false) op ho
 refine Y4 (X6 e1 (Zc3 rfl)) (Y4 (X6 e2 (Zc3 rfl)) ?_)
 exact Yj (Zy (Zc (Zn rfl) (Zc (Zn rfl) (Zc (Zn rfl) (Zc (Zn rfl) Zp)))) fun Q q => pair (t2 := some t2) ho h1 h2 c1 (fun t et i ei => by cases et; exact c2 i ei) q) h
set_option maxHeartbeats 4000000
noncomputable def Tr.dep : Tr → Nat
 | .col _ | .val _ => 0
 | .un _ t => t.dep + 1
 | .nul t _ => t.dep + 1
 | .bin _ a b => max a.dep b.dep + 1
 | .inn0 t _ => t.dep + 1
 | .inn1 t a _ => max t.dep a.dep + 1
 | .inn2 t a b _ => max t.dep (max a.dep b.dep) + 1
 | .btw a b c _ => max a.dep (max b.dep c.dep) + 1
 | .cas1 _ w t => max w.dep t.dep + 1
 | .cas2 _ w t o => max w.dep (max t.dep o.dep) + 1
noncomputable def negD (v : D) : D := match numD v with | .int i => .int (0 - i) | _ => .none
noncomputable def amongD (l : List D) : D := if l.any (fun d => match d with | .int i => i == 1 | _ => false) then .int 1 else if l.any isNoneD then .none else .int 0
noncomputable def isOne (v : D) : Bool := match v with | .int i => i == 1 | _ => false
section
variable (coll : Str) (r : Int → D)
noncomputable def fv : Tr → D
 | .col i => r i
 | .val v => v
 | .un op t => if op = "not" then oppD (trueD (fv t)) true else negD (fv t)
 | .nul t n => .int (if isNoneD (fv t) != n then 1 else 0)
 | .bin op a b => if op ∈ LA then laD op (fv a) (fv b) else pairD op a (some b) (fv a) (fv b) coll
 | .inn0 t n => oppD (amongD []) n
 | .inn1 t a n => oppD (amongD [pairD "=" t none (fv t) (fv a) coll]) n
 | .inn2 t a b n => oppD (amongD [pairD "=" t none (fv t) (fv a) coll, pairD "=" t none (fv t) (fv b) coll]) n
 | .btw a b c n => oppD (eitherD true (pairD ">=" a (some b) (fv a) (fv b) coll) (pairD "<=" a (some c) (fv a) (fv c) coll)) n
 | .cas1 base w t => if isOne (match base with | none => trueD (fv w) | some i => pairD "=" (.col i) (some w) (r i) (fv w) coll) then fv t else .none
 | .cas2 base w t o => if isOne (match base with | none => trueD (fv w) | some i => pairD "=" (.col i) (some w) (r i) (fv w) coll) then fv t else fv o
noncomputable def Ok : Tr → Prop
 | .col i => Cols i ∧ IsV (r i)
 | .val v => IsV v
 | .un op t => (op = "not" ∨ op = "-") ∧ Ok t
 | .nul t n => Ok t
 | .bin op a b => (op ∈ LA ∨ op ∈ Ops) ∧ Ok a ∧ Ok b ∧ IsV (fv coll r (.bin op a b))
 | .inn0 t n => Ok t
 | .inn1 t a n => Ok t ∧ Ok a
 | .inn2 t a b n => Ok t ∧ Ok a ∧ Ok b
 | .btw a b c n => Ok a ∧ Ok b ∧ Ok c
 | .cas1 base w t => (∀ i, base = some i → Cols i ∧ IsV (r i)) ∧ Ok w ∧ Ok t
 | .cas2 base w t o => (∀ i, base = some i → Cols i ∧ IsV (r i)) ∧ Ok w ∧ Ok t ∧ Ok o
end
theorem IsT.cases {v : D} (h : IsT v) : v = .none ∨ v = .int 0 ∨ v = .int 1 := by
 cases h <;> simp
theorem IsT.v {v : D} (h : IsT v) : IsV v := by
 cases h with
 | none => exact .none
 | zero => exact .int 0 (by decide)
 | one => exact .int 1 (by decide)
theorem Kv {v : D} (h : IsT v) (n : Bool) : IsT (oppD v n) := by
 cases h <;> cases n <;> first | exact .none | exact .zero | exact .one
theorem J8 {b : Bool} {x y : D} (hx : IsT x) (hy : IsT y) : IsT (eitherD b x y) := by
 cases b <;> cases hx <;> cases hy <;> first | exact .none | exact .zero | exact .one
theorem b01_T (b : Bool) : IsT (b01 b) := by cases b <;> constructor
theorem cmpD_T (op : Str) (a b : D) (c : Str) : IsT (cmpD op a b c) := by
 unfold cmpD
 split
 ·split
  ·exact .one
  ·exact .zero
 ·split
  ·exact .none
  ·exact b01_T _
theorem Xq (op : Str) (t : Tr) (o : Option Tr) (a b : D) (c : Str) : IsT (pairD op t o a b c) := cmpD_T ..
theorem U7 (l : List D) : IsT (amongD l) := by
 unfold amongD
 split
 ·exact .one
 ·split
  ·exact .none
  ·exact .zero
theorem negD_V {v : D} (h : IsV v) : IsV (negD v) := by
 unfold negD
 rcases Ux h with e | ⟨i, e, b⟩ <;> rw [e]
 ·exact .none
 ·exact .int _ (by rw [Int.zero_sub, Int.natAbs_neg]; exact b)
theorem ite_V {b : Bool} {x y : D} (hx : IsV x) (hy : IsV y) : IsV (if b = true then x else y) := by cases b <;> assumption
theorem ite_VP {p : Prop} [Decidable p] {x y : D} (hx : IsV x) (hy : IsV y) : IsV (if p then x else y) := by split <;> assumption
theorem Zac {coll : Str} {r : Int → D} (op : Str) (a b : Tr) : fv coll r (.bin op a b) = if op ∈ LA then laD op (fv coll r a) (fv coll r b) else pairD op a (some b) (fv coll r a) (fv coll r b) coll := rfl
theorem Uy {coll : Str} {r : Int → D} : ∀ {t : Tr}, Ok coll r t → IsV (fv coll r t)
 | .col i, h => h.2
 | .val v, h => h
 | .un op t, h => ite_VP (p := op = "not") (Kv (Xd _) _).v (negD_V (Uy h.2))
 | .nul t n, h => by
  show IsV (.int (if (isNoneD (fv coll r t) != n) = true then 1 else 0))
  split <;> exact .int _ (by decide)
 | .bin op a b, h => h.2.2.2
 | .inn0 t n, h => (Kv (U7 _) _).v
 | .inn1 t a n, h => (Kv (U7 _) _).v
 | .inn2 t a b n, h => (Kv (U7 _) _).v
 | .btw a b c n, h => (Kv (J8 (Xq ..) (Xq ..)) _).v
 | .cas1 base w t, h => ite_VP (Uy h.2.2) .none
 | .cas2 base w t o, h => ite_VP (Uy h.2.2.1) (Uy h.2.2.2)
theorem Ok.cols {coll : Str} {r : Int → D} {t : Tr} (h : Ok coll r t) : ∀ i, t = .col i → Cols i := fun i e => by subst e; exact h.1
noncomputable def rowD (a b c d : D) : D := .tup [a, b, c, d]
noncomputable def rowF (a b c d : D) (i : Int) : D := if i = 0 then a else if i = 1 then b else if i = 2 then c else d
theorem pick42 (x y z u : D) : tPick [x, y, z, u] (some 2) none = [z, u] := by
 unfold tPick
 have e : (([x, y, z, u] : List D).length : Int) = 4 := rfl
 have e2 : Builtin.Slice.sliceAdjust (some 2) none 1 4 = (2, 4) := by decide
 have e3 : Builtin.Slice.slicePlaces 2 4 1 = 2 := by decide
 rw [e, e2]
 dsimp only
 rw [e3]
 rfl
section
variable {n : Nat} {C : Ora} {ρ : Loc} {σ : Sto} {N Kk : Loc → Sto → Prop} {R : D → Sto → Prop} {Q : D → Sto → Prop} {x y z : WS} {e f : WE} {d : D} {i : Nat}
inductive Evs (e : WE) (C : Ora) (fs : Loc) (σ : Sto) : List D → List D → Prop
 | nil : Evs e C fs σ [] []
 | cons {d v ds vs} : Ev e C (some d :: fs) σ v → Evs e C fs σ ds vs → Evs e C fs σ (d :: ds) (v :: vs)
theorem Zeu {fs : Loc} {Q : List D → Sto → Prop} {ds vs : List D} (h : Evs e C fs σ ds vs) : ∀ acc, Q (acc ++ vs) σ → cEach (tEnd true) e C fs (fun _ => True) Q ds acc σ := by
 induction h with
 | nil => intro acc q; rw [List.append_nil] at q; exact ⟨trivial, q⟩
 | @cons d v ds vs h1 h2 ih =>
  intro acc q
  rw [e_Each1, e_tEnd]
  refine ⟨trivial, ?_⟩
  rw [if_pos rfl]
  refine h1 _ (ih _ ?_)
  rwa [List.append_assoc, List.singleton_append]
theorem s_comp {fr : List Nat} {ds vs : List D} (hk : known ρ fr) (h : Ev e C ρ σ (.lst ds)) (hl : ds.length ≤ 1000) (hv : Evs f C (fr.map (nth ρ)) σ ds vs) (k : z C (put ρ i (.lst vs)) σ N R Kk) : sSeq (sComp e fr (tEnd true) f i) z C ρ σ N R Kk := by
 rw [Y0, e_sComp]
 refine ⟨hk, h _ ⟨hl, Zeu hv [] ?_⟩⟩
 exact k
theorem Zhm {v : D} (h : isNoneD v = true) : negD v = .none := by cases v <;> first | rfl | cases h
theorem ev_known {v : D} {i : Nat} (hv : IsV v) (h : nth ρ i = some v) : Ev (wIf (tCmp oIsN (wV i) wNone) wNone (w2 oSub (wI 0) (wCall 758 [(wV i)]))) (Cn (n + 1)) ρ σ (negD v) := by
 refine Uo (Y2 (Zn h)) (fun e => ?_) (fun e Q q => ?_)
 ·rw [Zhm e]; exact Zah
 ·rw [Zhr, e_I]
  refine Zy (Zc (Zn h) Zp) (fun Q q => number hv q) _ ?_
  rcases Ux hv with e1 | ⟨i, e1, _⟩
  ·exfalso
   cases hv with
   | none => cases e
   | int i h => cases e1
   | @str x h => by_cases e : x = "2" <;> simp [numD, e] at e1
  ·rw [e1]
   unfold negD at q
   rw [e1] at q
   exact q
theorem ev_among {vs : List D} (hvs : vs = [] ∨ (∃ p, IsT p ∧ vs = [p]) ∨ ∃ p q, IsT p ∧ IsT q ∧ vs = [p, q]) (h : nth ρ i = some (.lst vs)) : Ev (wIf (tCmp gIn (wI 1) (wV i)) (wI 1) (wIf (tCmp gIn wNone (wV i)) wNone (wI 0))) C ρ σ (amongD vs) := fun Q q => by
 rw [e_If, Ys, e_I, Zhq, h]
 rcases hvs with rfl | ⟨p, hp, rfl⟩ | ⟨p, p', hp, hp', rfl⟩
 ·refine ⟨by decide, ?_⟩
  rw [e_If, Ys, e_none, Zhq, h]
  exact ⟨by decide, q⟩
 ·cases hp
  ·refine ⟨by decide, ?_⟩
   rw [e_If, Ys, e_none, Zhq, h]
   exact ⟨by decide, q⟩
  ·refine ⟨by decide, ?_⟩
   rw [e_If, Ys, e_none, Zhq, h]
   exact ⟨by decide, q⟩
  ·exact ⟨by decide, q⟩
 ·cases hp <;> cases hp'
  all_goals first
   | exact ⟨by decide, q⟩
   | (refine ⟨by decide, ?_⟩; rw [e_If, Ys, e_none, Zhq, h]; exact ⟨by decide, q⟩)
theorem en_824 {a b c : D} : Cn (n + 1) 824 [a, b, c] σ Q = W_824 (Cn n) [some a, some b, some c, none, none, none, none, none, none, none, none, none, none] σ (fun _ σ' => Q .none σ') Q (fun _ _ => False) := Z1 (F := F_824) (full := [a, b, c]) rfl rfl
end
theorem Kd (t : Tr) : isNoneD (enc t) = false := by cases t <;> rfl
section
variable {a b c d : D} {coll : Str} {σ : Sto} {n : Nat} {ρ : Loc}
noncomputable def Fo (a b c d : D) (coll : Str) (σ : Sto) (t : Tr) (n : Nat) : Prop := ∀ Q : D → Sto → Prop, Q (fv coll (rowF a b c d) t) σ → Cn n 824 [enc t, rowD a b c d, .str coll] σ Q
theorem Za9 {u : Tr} {k : Int} {l : List D} (x : Fo a b c d coll σ u n) (h0 : nth ρ 0 = some (.tup l)) (h1 : nth ρ 1 = some (rowD a b c d)) (h2 : nth ρ 2 = some (.str coll)) (hk : -(2 ^ 63) ≤ k ∧ k < 2 ^ 63) (hu : idx l k = some (enc u)) : Ev (wCall 824 [(w2 gItem (wV 0) (wI k)), (wV 1), (wV 2)]) (Cn n) ρ σ (fv coll (rowF a b c d) u) :=
 Zy (Zc (Yi (Zn h0) hk hu) (Zc (Zn h1) (Zc (Zn h2) Zp))) x
theorem fo_col {i : Int} (ho : Ok coll (rowF a b c d) (.col i)) : Fo a b c d coll σ (.col i) (n + 1) := fun Q q => by
 refine en_824.mpr ?_
 refine Yo (Yi (Zn rfl) (by decide) rfl) ?_
 refine Vf (Yk rfl rfl) ?_
 rcases ho.1 with rfl | rfl | rfl | rfl
 all_goals exact Yj (ev_ti (Zn rfl) (Yi (Zn rfl) (by decide) rfl) (by decide) rfl) q
theorem fo_in {t : Tr} {tr : Tr} {ng : Bool} {ds : List Tr} {vs : List D} (he : enc tr = .tup [.str "in", enc t, .lst (ds.map enc), .bool ng]) (ht : Fo a b c d coll σ t (n + 1)) (hl : ds.length ≤ 1000)
  (hvs : vs = [] ∨ (∃ p, IsT p ∧ vs = [p]) ∨ ∃ p q, IsT p ∧ IsT q ∧ vs = [p, q]) (hev : Evs (wCall 798 [(wS "="), (wTup [(w2 gItem (wV 4) (wI 1)), wNone]), (wTup [(wV 2), (wCall 824 [(wV 0), (wV 3), (wV 1)])]), (wV 1)]) (Cn (n + 1)) [some (.str coll), some (fv coll (rowF a b c d) t), some (rowD a b c d), some (enc tr)] σ (ds.map enc) vs)
  (hfv : fv coll (rowF a b c d) tr = oppD (amongD vs) ng) : Fo a b c d coll σ tr (n + 2) := fun Q q => by
 rw [en_824, he]
 rw [he] at hev
 refine Yo (Yi (Zn rfl) (by decide) rfl) ?_
 refine Y4 (Yk rfl rfl) (Y4 (Yk rfl rfl) (Y4 (Yk rfl rfl) (Y4 (Yk rfl rfl) (Y4 (Yk rfl rfl) ?_))))
 have nn : (!isNoneD (enc t)) = true := by rw [Kd]; rfl
 refine Yo (Uo (b := !isNoneD (enc t)) (V4 (Yi (Zn rfl) (by decide) rfl)) (fun _ => Za9 ht rfl rfl rfl (by decide) rfl) (fun e => by rw [nn] at e; cases e)) ?_
 refine Vf (Yk rfl rfl) ?_
 refine s_comp (ds := ds.map enc) (vs := vs) (fun i hi => ?_) (Yi (Zn rfl) (by decide) rfl) (by simpa using hl) hev ?_
 ·simp only [List.mem_cons, List.not_mem_nil, or_false] at hi
  rcases hi with rfl | rfl | rfl | rfl <;> exact fun e => nomatch e
 refine Yo (ev_among hvs rfl) ?_
 rw [hfv] at q
 exact Yj (Zy (Zc (Zn rfl) (Zc (Yi (Zn rfl) (by decide) rfl) Zp)) fun Q q => opposite (U7 _) q) q
theorem ev_item {t u : Tr} {tr : Tr} {l : List D} (he : enc tr = .tup (.str "in" :: enc t :: l)) (ht : Ok coll (rowF a b c d) t) (hu : Ok coll (rowF a b c d) u) (xu : Fo a b c d coll σ u (n + 3)) :
  Ev (wCall 798 [(wS "="), (wTup [(w2 gItem (wV 4) (wI 1)), wNone]), (wTup [(wV 2), (wCall 824 [(wV 0), (wV 3), (wV 1)])]), (wV 1)]) (Cn (n + 3)) [some (enc u), some (.str coll), some (fv coll (rowF a b c d) t), some (rowD a b c d), some (enc tr)] σ (pairD "=" t none (fv coll (rowF a b c d) t) (fv coll (rowF a b c d) u) coll) := by
 rw [he]
 exact Zy (Zc Y3 (Zc (Xp (Zc (Yi (Zn rfl) (by decide) rfl) (Zc Zah Zp))) (Zc (Xp (Zc (Zn rfl) (Zc (Zy (Zc (Zn rfl) (Zc (Zn rfl) (Zc (Zn rfl) Zp))) xu) Zp))) (Zc (Zn rfl) Zp)))) fun Q q => pair (t2 := none) (by simp [Ops]) (Uy ht) (Uy hu) ht.cols (fun _ e => by cases e) q
theorem fo_cas {base : Option Int} {u t : Tr} {od : D} {tr : Tr} {vo : D} (he : enc tr = .tup [.str "case", baseD base, enc u, enc t, od]) (hb : ∀ i, base = some i → Cols i ∧ IsV (rowF a b c d i)) (hu : Ok coll (rowF a b c d) u) (xu : Fo a b c d coll σ u (n + 4)) (xt : Fo a b c d coll σ t (n + 4))
  (hod : ∀ ρ : Loc, nth ρ 0 = some (.tup [.str "case", baseD base, enc u, enc t, od]) → nth ρ 1 = some (rowD a b c d) → nth ρ 2 = some (.str coll) → Ev (wIf (tCmp oIsN (w2 gItem (wV 0) (wI 4)) wNone) wNone (wCall 824 [(w2 gItem (wV 0) (wI 4)), (wV 1), (wV 2)])) (Cn (n + 4)) ρ σ vo)
  (hfv : fv coll (rowF a b c d) tr = if isOne (match base with | none => trueD (fv coll (rowF a b c d) u) | some i => pairD "=" (.col i) (some u) (rowF a b c d i) (fv coll (rowF a b c d) u) coll) then fv coll (rowF a b c d) t else vo) : Fo a b c d coll σ tr (n + 5) := fun Q q => by
 rw [en_824, he]
 rw [hfv] at q
 have last : ∀ (p : D) (ρ : Loc), IsT p → nth ρ 0 = some (.tup [.str "case", baseD base, enc u, enc t, od]) → nth ρ 1 = some (rowD a b c d) → nth ρ 2 = some (.str coll) → nth ρ 12 = some p → Q (if isOne p then fv coll (rowF a b c d) t else vo) σ → Zdx (Cn (n + 4)) ρ σ (fun _ σ' => Q .none σ') Q (fun _ _ => False) := by
  intro p ρ hp h0 h1 h2 h12 q
  have te : Ti (tCmp oEq (wV 12) (wI 1)) (Cn (n + 4)) ρ σ (isOne p) := fun T k => by
   rw [Ys, Zhq, h12]
   cases hp <;> exact ⟨Nat.zero_le _, Nat.zero_le _, k⟩
  refine Zgh te (fun e => ?_) (fun e => ?_)
  ·rw [e] at q; exact Yj (Za9 xt h0 h1 h2 (by decide) rfl) q
  ·rw [e] at q
   refine Xx ?_
   exact Yj (hod ρ h0 h1 h2) q
 refine Yo (Yi (Zn rfl) (by decide) rfl) ?_
 refine Y4 (Yk rfl rfl) (Y4 (Yk rfl rfl) (Y4 (Yk rfl rfl) (Y4 (Yk rfl rfl) (Y4 (Yk rfl rfl) ?_))))
 cases base with
 | none =>
  refine Yo (d := .none) (Uo (b := false) (V4 (d := .none) (Yi (Zn rfl) (by decide) rfl)) (fun e => nomatch e) (fun _ => Zah)) ?_
  refine Y4 (Yk rfl rfl) (Y4 (Yk rfl rfl) ?_)
  refine Yo (Za9 xu rfl rfl rfl (by decide) rfl) ?_
  refine Yo (Uo (b := true) (Y2 (d := .none) (Yi (Zn rfl) (by decide) rfl)) (fun _ => Zy (Zc (Zn rfl) Zp) fun Q q => Kg (Uy hu) q) (fun e => nomatch e)) ?_
  exact last _ _ (Xd _) rfl rfl rfl rfl q
 | some i =>
  obtain ⟨hi, hv⟩ := hb i rfl
  have hcol : Ok coll (rowF a b c d) (.col i) := ⟨hi, hv⟩
  have xi : Fo a b c d coll σ (.col i) (n + 4) := fo_col hcol
  refine Yo (Uo (b := true) (V4 (d := colD i) (Yi (Zn rfl) (by decide) rfl)) (fun _ => Za9 xi rfl rfl rfl (by decide) rfl) (fun e => nomatch e)) ?_
  refine Y4 (Yk rfl rfl) (Y4 (Yk rfl rfl) ?_)
  refine Yo (Za9 xu rfl rfl rfl (by decide) rfl) ?_
  refine Yo (Uo (b := false) (Y2 (d := colD i) (Yi (Zn rfl) (by decide) rfl)) (fun e => nomatch e) (fun _ => Zy (Zc Y3 (Zc (Xp (Zc (Yi (Zn rfl) (by decide) rfl) (Zc (Yi (Zn rfl) (by decide) rfl) Zp))) (Zc (Xp (Zc (Zn rfl) (Zc (Zn rfl) Zp))) (Zc (Zn rfl) Zp)))) fun Q q => pair (t1 := .col i) (t2 := some u) (n := n + 1) (by simp [Ops]) hv (Uy hu) hcol.cols (fun _ e => by cases e; exact hu.cols) q)) ?_
  exact last _ _ (Xq ..) rfl rfl rfl rfl q
end
theorem q0 {a n : Nat} (h : a + 1 + 5 ≤ n + 1) : a + 5 ≤ n := Nat.le_of_succ_le_succ h
theorem qa {a b n : Nat} (h : max a b + 1 + 5 ≤ n + 1) : a + 5 ≤ n := Nat.le_trans (Nat.add_le_add_right (Nat.le_max_left a b) 5) (q0 h)
theorem qb {a b n : Nat} (h : max a b + 1 + 5 ≤ n + 1) : b + 5 ≤ n := Nat.le_trans (Nat.add_le_add_right (Nat.le_max_right a b) 5) (q0 h)
theorem q3b {a b c n : Nat} (h : max a (max b c) + 1 + 5 ≤ n + 1) : b + 5 ≤ n := Nat.le_trans (Nat.add_le_add_right (Nat.le_trans (Nat.le_max_left b c) (Nat.le_max_right a _)) 5) (q0 h)
theorem q3c {a b c n : Nat} (h : max a (max b c) + 1 + 5 ≤ n + 1) : c + 5 ≤ n := Nat.le_trans (Nat.add_le_add_right (Nat.le_trans (Nat.le_max_right b c) (Nat.le_max_right a _)) 5) (q0 h)
theorem found {a b c d : D} {coll : Str} {σ : Sto} : ∀ (t : Tr) (n : Nat) (Q : D → Sto → Prop), t.dep + 5 ≤ n → Ok coll (rowF a b c d) t → Q (fv coll (rowF a b c d) t) σ → Cn n 824 [enc t, rowD a b c d, .str coll] σ Q := by
 intro t
 induction t with
 | col i =>
  intro n Q hn ho h
  obtain ⟨m, rfl⟩ : ∃ m, n = m + 1 := ⟨n - 1, by lia⟩
  exact fo_col ho Q h
 | val v =>
  intro n Q hn ho h
  obtain ⟨m, rfl⟩ : ∃ m, n = m + 1 := ⟨n - 1, by lia⟩
  refine en_824.mpr ?_
  refine Yo (Yi (Zn rfl) (by decide) rfl) ?_
  refine Y4 (Yk rfl rfl) (Vf (Yk rfl rfl) ?_)
  exact Yj (Yi (Zn rfl) (by decide) rfl) h
 | nul t ng ih =>
  intro n Q hn ho h
  simp only [Tr.dep] at hn
  obtain ⟨m, rfl⟩ : ∃ m, n = m + 1 := ⟨n - 1, by lia⟩
  have x : Fo a b c d coll σ t m := fun Q q => ih m Q (q0 hn) ho q
  refine en_824.mpr ?_
  refine Yo (Yi (Zn rfl) (by decide) rfl) ?_
  refine Y4 (Yk rfl rfl) (Y4 (Yk rfl rfl) (Vf (Yk rfl rfl) ?_))
  exact Yj (Zbw (ev_nebb (ev_isn (Za9 x rfl rfl rfl (by decide) rfl)) (Yi (Zn rfl) (by decide) rfl))) h
 | un op t ih =>
  intro n Q hn ho h
  simp only [Tr.dep] at hn
  obtain ⟨m, rfl⟩ : ∃ m, n = m + 3 := ⟨n - 3, by lia⟩
  have x : Fo a b c d coll σ t (m + 2) := fun Q q => ih _ Q (q0 hn) ho.2 q
  have hv := Uy ho.2
  refine en_824.mpr ?_
  refine Yo (Yi (Zn rfl) (by decide) rfl) ?_
  refine Y4 (Yk rfl rfl) (Y4 (Yk rfl rfl) (Y4 (Yk rfl rfl) (Vf (Yk rfl rfl) ?_)))
  refine Yo (Za9 x rfl rfl rfl (by decide) rfl) ?_
  rcases ho.1 with rfl | rfl
  ·refine Vf (Zbm (Yi (Zn rfl) (by decide) rfl) rfl) ?_
   exact Yj (Zy (Zc (Zy (Zc (Zn rfl) Zp) fun Q q => Kg hv q) (Zc ev_B Zp)) fun Q q => opposite (Xd _) q) h
  ·refine Y4 (Zbm (Yi (Zn rfl) (by decide) rfl) rfl) ?_
   exact Yj (ev_known hv rfl) h
 | bin op x y ihx ihy =>
  intro n Q hn ho h
  simp only [Tr.dep] at hn
  obtain ⟨m, rfl⟩ : ∃ m, n = m + 5 := ⟨n - 5, by lia⟩
  obtain ⟨hop, hx, hy, hv⟩ := ho
  have xx : Fo a b c d coll σ x (m + 4) := fun Q q => ihx _ Q (qa hn) hx q
  have xy : Fo a b c d coll σ y (m + 4) := fun Q q => ihy _ Q (qb hn) hy q
  refine en_824.mpr ?_
  refine Yo (Yi (Zn rfl) (by decide) rfl) ?_
  refine Y4 (Yk rfl rfl) (Y4 (Yk rfl rfl) (Y4 (Yk rfl rfl) (Y4 (Yk rfl rfl) (Vf (Yk rfl rfl) ?_))))
  refine s_tup2 (Xp (Zc (Za9 xx rfl rfl rfl (by decide) rfl) (Zc (Za9 xy rfl rfl rfl (by decide) rfl) Zp))) ?_
  have evs : ∀ ρ : Loc, nth ρ 0 = some (enc (.bin op x y)) → Ev (wSlice (wV 0) (wI 2) wNone) (Cn (m + 4)) ρ σ (.tup [enc x, enc y]) := fun ρ q0 Q q => by
   rw [e_Slice, Zhq, q0, ← pick42 (.str "binary") (.str op) (enc x) (enc y)] at *
   exact ⟨Nat.le_of_ble_eq_true rfl, q⟩
  refine Yj (d := fv coll (rowF a b c d) (.bin op x y)) (Zy (Zc (Yi (Zn rfl) (by decide) rfl) (Zc (evs _ rfl) (Zc (Xp (Zc (Zn rfl) (Zc (Zn rfl) Zp))) (Zc (Zn rfl) Zp)))) fun Q q => ?_) h
  by_cases hl : op ∈ LA
  ·rw [Zac, if_pos hl] at q
   exact Zc1 hl (Uy hx) (Uy hy) q
  ·rw [Zac, if_neg hl] at q
   exact Zgr (hop.resolve_left hl) (Uy hx) (Uy hy) hx.cols hy.cols q
 | inn0 t ng ih =>
  intro n Q hn ho h
  simp only [Tr.dep] at hn
  obtain ⟨m, rfl⟩ : ∃ m, n = m + 5 := ⟨n - 5, by lia⟩
  exact fo_in (ds := []) rfl (fun Q q => ih _ Q (q0 hn) ho q) (by decide) (.inl rfl) .nil rfl Q h
 | inn1 t x ng ih ihx =>
  intro n Q hn ho h
  simp only [Tr.dep] at hn
  obtain ⟨m, rfl⟩ : ∃ m, n = m + 5 := ⟨n - 5, by lia⟩
  obtain ⟨ht, hx⟩ := ho
  exact fo_in (n := m + 3) (ds := [x]) rfl (fun Q q => ih _ Q (qa hn) ht q) (by simp) (.inr (.inl ⟨_, Xq .., rfl⟩)) (.cons (ev_item (n := m + 1) rfl ht hx fun Q q => ihx _ Q (qb hn) hx q) .nil) rfl Q h
 | inn2 t x y ng ih ihx ihy =>
  intro n Q hn ho h
  simp only [Tr.dep] at hn
  obtain ⟨m, rfl⟩ : ∃ m, n = m + 5 := ⟨n - 5, by lia⟩
  obtain ⟨ht, hx, hy⟩ := ho
  exact fo_in (n := m + 3) (ds := [x, y]) rfl (fun Q q => ih _ Q (qa hn) ht q) (by simp) (.inr (.inr ⟨_, _, Xq .., Xq .., rfl⟩)) (.cons (ev_item (n := m + 1) rfl ht hx fun Q q => ihx _ Q (q3b hn) hx q) (.cons (ev_item (n := m + 1) rfl ht hy fun Q q => ihy _ Q (q3c hn) hy q) .nil)) rfl Q h
 | btw x y z ng ihx ihy ihz =>
  intro n Q hn ho h
  simp only [Tr.dep] at hn
  obtain ⟨m, rfl⟩ : ∃ m, n = m + 5 := ⟨n - 5, by lia⟩
  obtain ⟨hx, hy, hz⟩ := ho
  have xx : Fo a b c d coll σ x (m + 4) := fun Q q => ihx _ Q (qa hn) hx q
  have xy : Fo a b c d coll σ y (m + 4) := fun Q q => ihy _ Q (q3b hn) hy q
  have xz : Fo a b c d coll σ z (m + 4) := fun Q q => ihz _ Q (q3c hn) hz q
  have nn : (!isNoneD (enc x)) = true := by rw [Kd]; rfl
  refine en_824.mpr ?_
  refine Yo (Yi (Zn rfl) (by decide) rfl) ?_
  refine Y4 (Yk rfl rfl) (Y4 (Yk rfl rfl) (Y4 (Yk rfl rfl) (Y4 (Yk rfl rfl) (Y4 (Yk rfl rfl) ?_))))
  refine Yo (Uo (b := !isNoneD (enc x)) (V4 (Yi (Zn rfl) (by decide) rfl)) (fun _ => Za9 xx rfl rfl rfl (by decide) rfl) (fun e => by rw [nn] at e; cases e)) ?_
  refine Y4 (Yk rfl rfl) (Vf (Yk rfl rfl) ?_)
  refine Yo (Jv (Zc (Za9 xy rfl rfl rfl (by decide) rfl) (Zc (Za9 xz rfl rfl rfl (by decide) rfl) Zp))) ?_
  refine Yo (Zy (Zc Y3 (Zc (Xp (Zc (Yi (Zn rfl) (by decide) rfl) (Zc (Yi (Zn rfl) (by decide) rfl) Zp))) (Zc (Xp (Zc (Zn rfl) (Zc (Zbc (Zn rfl) Yw (by decide) rfl) Zp))) (Zc (Zn rfl) Zp)))) fun Q q => pair (t1 := x) (t2 := some y) (n := m + 1) (by simp [Ops]) (Uy hx) (Uy hy) hx.cols (fun _ e => by cases e; exact hy.cols) q) ?_
  refine Yo (Zy (Zc Y3 (Zc (Xp (Zc (Yi (Zn rfl) (by decide) rfl) (Zc (Yi (Zn rfl) (by decide) rfl) Zp))) (Zc (Xp (Zc (Zn rfl) (Zc (Zbc (Zn rfl) Yw (by decide) rfl) Zp))) (Zc (Zn rfl) Zp)))) fun Q q => pair (t1 := x) (t2 := some z) (n := m + 1) (by simp [Ops]) (Uy hx) (Uy hz) hx.cols (fun _ e => by cases e; exact hz.cols) q) ?_
  exact Yj (Zy (Zc (Zy (Zc Y3 (Zc (Zn rfl) (Zc (Zn rfl) Zp))) fun Q q => either (Xq ..) (Xq ..) q) (Zc (Yi (Zn rfl) (by decide) rfl) Zp)) fun Q q => opposite (J8 (Xq ..) (Xq ..)) q) h
 | cas1 base u t ihu iht =>
  intro n Q hn ho h
  simp only [Tr.dep] at hn
  obtain ⟨m, rfl⟩ : ∃ m, n = m + 5 := ⟨n - 5, by lia⟩
  obtain ⟨hb, hu, ht⟩ := ho
  exact fo_cas (vo := .none) (od := .none) (u := u) (t := t) rfl hb hu (fun Q q => ihu _ Q (qa hn) hu q) (fun Q q => iht _ Q (qb hn) ht q)
   (fun ρ h0 h1 h2 => Uo (b := true) (Y2 (d := .none) (Yi (Zn h0) (by decide) rfl)) (fun _ => Zah) (fun e => nomatch e)) rfl Q h
 | cas2 base u t o ihu iht iho =>
  intro n Q hn ho h
  simp only [Tr.dep] at hn
  obtain ⟨m, rfl⟩ : ∃ m, n = m + 5 := ⟨n - 5, by lia⟩
  obtain ⟨hb, hu, ht, hoo⟩ := ho
  exact fo_cas (vo := fv coll (rowF a b c d) o) (od := enc o) (u := u) (t := t) rfl hb hu (fun Q q => ihu _ Q (qa hn) hu q) (fun Q q => iht _ Q (q3b hn) ht q)
   (fun ρ h0 h1 h2 => Uo (b := isNoneD (enc o)) (Y2 (Yi (Zn h0) (by decide) rfl)) (fun e => by rw [Kd] at e; cases e) (fun _ => Za9 (fun Q q => iho _ Q (q3c hn) hoo q) h0 h1 h2 (by decide) rfl)) rfl Q h
noncomputable def SrcAt (a : Addr) (σ : Sto) : Prop := ∃ b m : Int, σ a = some (.list [.int b, .int m]) ∧ 0 ≤ b ∧ 0 ≤ m ∧ m < 2147483647
noncomputable def But (a : Addr) (σ σ' : Sto) : Prop := ∀ x, x ≠ a → σ' x = σ x
section
variable {C : Ora} {ρ : Loc} {σ : Sto} {N Kk : Loc → Sto → Prop} {R : D → Sto → Prop} {z : WS} {e f : WE} {i : Nat} {x y k : Int} {d : D} {a : Addr} {l : List D}
theorem ev_mi (h : nth ρ i = some (.mlst a)) (ha : σ a = some (.list l)) (hk : -(2 ^ 63) ≤ k ∧ k < 2 ^ 63) (hd : idx l k = some d) : Ev (w2 gItem (wV i) (wI k)) C ρ σ d := fun Q q => by
 rw [Zhr, Zhq, h]
 refine ⟨hk, ?_⟩
 rw [ha]
 dsimp only
 rw [hd]; exact q
theorem ti_gt (h1 : Ev e C ρ σ (.int x)) (h2 : Ev f C ρ σ (.int y)) : Ti (tCmp oGt e f) C ρ σ (decide (y < x)) := fun T t => by
 rw [Ys]; exact h1 _ (h2 _ t)
theorem Zdk (h1 : Ev e C ρ σ (.int x)) (h2 : Ev f C ρ σ (.int y)) (hy : y ≠ 0) : Ev (w2 oMod e f) C ρ σ (.int (Int.fmod x y)) := fun Q q => by
 rw [Zhr]; exact h1 _ (h2 _ ⟨hy, q⟩)
theorem ev_floor (h1 : Ev e C ρ σ (.int x)) (h2 : Ev f C ρ σ (.int y)) (hy : y ≠ 0 ∧ y.natAbs < 1073741824) : Ev (w2 oFloor e f) C ρ σ (.int (Int.fdiv x y)) := fun Q q => by
 rw [Zhr]; exact h1 _ (h2 _ ⟨hy, q⟩)
theorem Zcq (h1 : Ev e C ρ σ (.int x)) (h2 : Ev f C ρ σ (.int y)) (hy : (-(2 ^ 64) < x ∧ x < 2 ^ 64) ∨ (-(2 ^ 64) < y ∧ y < 2 ^ 64)) : Ev (w2 oMul e f) C ρ σ (.int (x * y)) := fun Q q => by
 rw [Zhr]; exact h1 _ (h2 _ ⟨hy, q⟩)
theorem Zbu (h1 : Ev e C ρ σ (.int x)) : Ev (wBi bInt [e]) C ρ σ (.int x) := fun Q q => by
 rw [Zfy]; exact Zc h1 Zp _ q
theorem s_subL {k : Nat} (h1 : Ev e C ρ σ d) (h : nth ρ i = some (.mlst a)) (ha : σ a = some (.list l)) (hk : k < l.length) (hl : l.length ≤ 100000) (q : z C ρ (up σ a (some (.list (l.set k d)))) N R Kk) : sSeq (sAsg e (aSub (wV i) (wI k))) z C ρ σ N R Kk := by
 rw [Y0, V1]
 refine h1 _ ?_
 rw [Zfd, Zhq, h]
 dsimp only
 rw [e_I]
 dsimp only
 rw [ha]
 exact ⟨⟨Int.natCast_nonneg k, Int.ofNat_lt.mpr hk, hl⟩, q⟩
end
theorem take {n : Nat} {a : Addr} {top : Int} {σ : Sto} {Q : D → Sto → Prop} (hs : SrcAt a σ) (h1 : 1 ≤ top) (h2 : top ≤ 1000) (h : ∀ r σ', 0 ≤ r → r < top → SrcAt a σ' → But a σ σ' → Q (.int r) σ') : Cn (n + 1) 725 [.mlst a, .int top] σ Q := by
 obtain ⟨b, m, hσ, hb, hm, hm2⟩ := hs
 rw [Z1 (F := F_725) rfl rfl]
 dsimp only [F_725, W_725]
 have t0 : top ≠ 0 := by lia
 have t1 : 0 < top := by lia
 have t2 : top.natAbs < 1073741824 := by lia
 have self : ∀ x, up σ a x a = x := fun x => if_pos rfl
 refine Za2 (ti_gt (ev_mi rfl hσ (by decide) rfl) Yw) (fun _ => ?_) (fun _ => ?_)
 ·refine Yo (Zdk (Zbu (ev_mi rfl hσ (by decide) rfl)) (Zn rfl) t0) ?_
  refine s_subL (k := 0) (ev_floor (ev_mi rfl hσ (by decide) rfl) (Zn rfl) ⟨t0, t2⟩) rfl hσ (Nat.le_of_ble_eq_true rfl) (Nat.le_of_ble_eq_true rfl) ?_
  exact Yj (Zn rfl) (h _ _ (Int.fmod_nonneg_of_pos _ t1) (Int.fmod_lt_of_pos _ t1) ⟨Int.fdiv b top, m, self _, Int.fdiv_nonneg hb (Int.le_of_lt t1), hm, hm2⟩ fun x hx => Z4 _ _ hx)
 ·generalize hM : Int.fmod (m * 39373 + 7) 2147483647 = M
  have e0 : 0 ≤ M := hM ▸ Int.fmod_nonneg_of_pos _ (by decide)
  have e1 : M < 2147483647 := hM ▸ Int.fmod_lt_of_pos _ (by decide)
  refine s_subL (k := 1) (d := .int M) (by rw [← hM]; exact Zdk (Zbu (K3 (Zcq (ev_mi rfl hσ (by decide) rfl) Yw (.inr ⟨by decide, by decide⟩)))) Yw (by decide)) rfl hσ (Nat.le_of_ble_eq_true rfl) (Nat.le_of_ble_eq_true rfl) ?_
  refine Yj (Zdk (Zbu (ev_floor (Zdk (Zbu (Zcq (ev_mi rfl (self _) (by decide) rfl) (ev_mi rfl (self _) (by decide) rfl) (.inl ⟨?_, ?_⟩))) Yw (by decide)) Yw (by decide))) (Zn rfl) t0) (h _ _ (Int.fmod_nonneg_of_pos _ t1) (Int.fmod_lt_of_pos _ t1) ⟨b, M, self _, hb, e0, e1⟩ fun x hx => Z4 _ _ hx)
  ·exact Int.lt_of_lt_of_le (by decide) e0
  ·exact Int.lt_trans e1 (by decide)
theorem en_732 {n : Nat} {x y : D} {σ : Sto} {Q : D → Sto → Prop} : Cn (n + 1) 732 [x, y] σ Q = W_732 (Cn n) [some x, some y] σ (fun _ σ' => Q .none σ') Q (fun _ _ => False) := Z1 (F := F_732) (full := [x, y]) rfl rfl
theorem one {n : Nat} {a : Addr} {l : List D} {σ : Sto} {Q : D → Sto → Prop} (hs : SrcAt a σ) (h1 : l ≠ []) (h2 : l.length ≤ 1000) (h : ∀ d σ', d ∈ l → SrcAt a σ' → But a σ σ' → Q d σ') : Cn (n + 2) 732 [.mlst a, .lst l] σ Q := by
 have hl : 0 < l.length := List.length_pos_iff.mpr h1
 refine en_732.mpr (s_retk ?_)
 rw [Zhr]
 refine Zn (d := .lst l) rfl _ ?_
 rw [e_Call]
 refine Zc (Zn rfl) (Zc (d := .int l.length) (fun Q q => ?_) Zp) _ (take hs (by lia) (by lia) fun r σ' h0 h3 hs' hb => ?_)
 ·rw [Zfy]
  refine Zc (Zn (d := .lst l) rfl) Zp _ ?_
  exact ⟨Nat.le_trans h2 (Nat.le_of_ble_eq_true rfl), q⟩
 rw [gItem_l]
 refine ⟨⟨by lia, by lia⟩, ?_⟩
 unfold idx
 rw [if_pos h0]
 have hlt : r.toNat < l.length := by lia
 rw [List.getElem?_eq_getElem hlt]
 exact h _ _ (List.getElem_mem hlt) hs' hb
noncomputable def Vals : List D := [.none, .none, .int 0, .int 1, .int 1, .int 2, .int 3, .int (-1), .str "", .str "a", .str "2", .str "A", .str "b"]
theorem en_739 {n : Nat} {a : D} {σ : Sto} {Q : D → Sto → Prop} : Cn (n + 1) 739 [a] σ Q = W_739 (Cn n) [some a] σ (fun _ σ' => Q .none σ') Q (fun _ _ => False) := Z1 (F := F_739) (full := [a]) rfl rfl
theorem value {n : Nat} {a : Addr} {σ : Sto} {Q : D → Sto → Prop} (hs : SrcAt a σ) (h : ∀ d σ', d ∈ Vals → SrcAt a σ' → But a σ σ' → Q d σ') : Cn (n + 3) 739 [.mlst a] σ Q :=
 en_739.mpr (s_retk (e_Call.mpr (Zc (Zn rfl) (Zc (Jv (Zc Zah (Zc Zah (Zc Yw (Zc Yw (Zc Yw (Zc Yw (Zc Yw (Zc (fun Q q => q) (Zc Y3 (Zc Y3 (Zc Y3 (Zc Y3 (Zc Y3 Zp)))))))))))))) Zp) _ (one hs (List.cons_ne_nil _ _) (Nat.le_of_ble_eq_true rfl) h))))
theorem But.trans {a : Addr} {σ σ' σ'' : Sto} (x : But a σ σ') (y : But a σ' σ'') : But a σ σ'' := fun z hz => (y z hz).trans (x z hz)
noncomputable def Wf : Tr → Prop
 | .col i => Cols i
 | .val v => v ∈ Vals
 | .un op t => (op = "not" ∨ op = "-") ∧ Wf t
 | .nul t n => Wf t
 | .bin op a b => (op ∈ LA ∨ op ∈ Ops) ∧ Wf a ∧ Wf b
 | .inn0 t n => Wf t
 | .inn1 t a n => Wf t ∧ Wf a
 | .inn2 t a b n => Wf t ∧ Wf a ∧ Wf b
 | .btw a b c n => Wf a ∧ Wf b ∧ Wf c
 | .cas1 base w t => (∀ i, base = some i → Cols i) ∧ Wf w ∧ Wf t
 | .cas2 base w t o => (∀ i, base = some i → Cols i) ∧ Wf w ∧ Wf t ∧ Wf o
theorem pick_0 (x y : D) : lPick [x, y] none (some 0) = [] := rfl
theorem pick_1 (x y : D) : lPick [x, y] none (some 1) = [x] := rfl
theorem pick_2 (x y : D) : lPick [x, y] none (some 2) = [x, y] := rfl
section
variable {C : Ora} {ρ : Loc} {σ : Sto} {N Kk : Loc → Sto → Prop} {R : D → Sto → Prop} {z : WS} {Q : List D → Sto → Prop} {e : WE} {d : D} {g : Addr} {as bs : List WE} {ds : List D} {j : Nat} {x y : Int}
theorem w_0 (k : Q [] σ) : wL [] C ρ σ Q := k
theorem Zhs (h : Ev e C ρ σ d) (k : wL as C ρ σ fun ds σ2 => Q (d :: ds) σ2) : wL (e :: as) C ρ σ Q := by rw [Zc5]; exact h _ k
theorem w_c (h : EvL bs C ρ σ ds) (k : C g ds σ fun d σ1 => wL as C ρ σ1 fun ds σ2 => Q (d :: ds) σ2) : wL (wCall g bs :: as) C ρ σ Q := by rw [Zc5, e_Call]; exact h _ k
theorem w_eqc (h : EvL bs C ρ σ ds) (k : C g ds σ fun d σ1 => oEq d (.int x) σ1 fun b => wL as C ρ σ1 fun ds σ2 => Q (.bool b :: ds) σ2) : wL (wCmp oEq (wCall g bs) (wI x) :: as) C ρ σ Q := by rw [Zc5, J5, e_Call]; exact h _ k
theorem w_lst (k : wL bs C ρ σ fun xs σ1 => wL as C ρ σ1 fun ds σ2 => Q (.lst xs :: ds) σ2) : wL (wLst bs :: as) C ρ σ Q := by rw [Zc5, e_Lst]; exact k
theorem w_tup (k : wL bs C ρ σ fun xs σ1 => wL as C ρ σ1 fun ds σ2 => Q (.tup xs :: ds) σ2) : wL (wTup bs :: as) C ρ σ Q := by rw [Zc5, e_Tup]; exact k
theorem w_call (k : wL bs C ρ σ fun xs σ1 => C g xs σ1 fun d σ2 => wL as C ρ σ2 fun ds σ3 => Q (d :: ds) σ3) : wL (wCall g bs :: as) C ρ σ Q := by rw [Zc5, e_Call]; exact k
theorem i_eqi {q : Bool → Prop} (k : q (x == y)) : oEq (.int x) (.int y) σ q := ⟨Nat.zero_le _, Nat.zero_le _, k⟩
theorem Zdo (k : wL as C ρ σ fun ds σ1 => R (.tup ds) σ1) : sSeq (sRet (wTup as)) z C ρ σ N R Kk := by rw [Y0, Zfe, e_Tup]; exact k
theorem s_rcall (k : wL bs C ρ σ fun ds σ1 => C g ds σ1 R) : sSeq (sRet (wCall g bs)) z C ρ σ N R Kk := by rw [Y0, Zfe, e_Call]; exact k
theorem Za8 (h : EvL bs C ρ σ ds) (k : C g ds σ fun d σ1 => z C (put ρ j d) σ1 N R Kk) : sSeq (sAsg (wCall g bs) (aName j)) z C ρ σ N R Kk := by rw [Y0, V1, e_Call]; exact h _ k
theorem ti_lt {e f : WE} (h1 : Ev e C ρ σ (.int x)) (h2 : Ev f C ρ σ (.int y)) : Ti (tCmp oLt e f) C ρ σ (decide (x < y)) := fun T t => by
 rw [Ys]; exact h1 _ (h2 _ t)
theorem ev_neg (h : Ev e C ρ σ (.int x)) : Ev (wNeg e) C ρ σ (.int (-x)) := fun Q q => by rw [e_Neg]; exact h _ q
end
theorem leaf_mem {d d' : D} (hd : d ∈ Vals) (h : d' ∈ [enc (.col 0), enc (.col 1), enc (.col 2), enc (.col (-1)), enc (.val d)]) : ∃ t, Wf t ∧ t.dep = 0 ∧ d' = enc t := by
 simp only [List.mem_cons, List.not_mem_nil, or_false] at h
 rcases h with h | h | h | h | h
 ·exact ⟨.col 0, .inl rfl, rfl, h⟩
 ·exact ⟨.col 1, .inr (.inl rfl), rfl, h⟩
 ·exact ⟨.col 2, .inr (.inr (.inl rfl)), rfl, h⟩
 ·exact ⟨.col (-1), .inr (.inr (.inr rfl)), rfl, h⟩
 ·exact ⟨.val d, hd, rfl, h⟩
theorem un_mem {d' : D} (h : d' ∈ [.str "not", .str "not", .str "-"]) : ∃ op : Str, (op = "not" ∨ op = "-") ∧ d' = .str op := by
 simp only [List.mem_cons, List.not_mem_nil, or_false] at h
 rcases h with h | h | h
 ·exact ⟨_, .inl rfl, h⟩
 ·exact ⟨_, .inl rfl, h⟩
 ·exact ⟨_, .inr rfl, h⟩
theorem str_mem {l : List Str} {d' : D} (h : d' ∈ l.map .str) : ∃ op, op ∈ l ∧ d' = .str op := by
 obtain ⟨op, h1, h2⟩ := List.mem_map.mp h
 exact ⟨op, h1, h2.symm⟩
theorem la_of {op : Str} (h : op ∈ [("and" : Str), "or"] ∨ op ∈ [("+" : Str), "*"]) : op ∈ LA ∨ op ∈ Ops := .inl (by
 simp only [List.mem_cons, List.not_mem_nil, or_false] at h
 rcases h with (rfl | rfl) | (rfl | rfl) <;> decide)
theorem cas_mem {t1 t2 t3 : Tr} {i : Int} {d d' : D} {k : Nat} (hi : Cols i) (w1 : Wf t1) (w2 : Wf t2) (w3 : Wf t3) (k1 : max t1.dep t2.dep + 1 ≤ k) (k2 : max t1.dep (max t2.dep t3.dep) + 1 ≤ k) (h : d ∈ [.none, .tup [.str "column", .int i]]) (h' : d' ∈ [.none, enc t3]) : ∃ t, Wf t ∧ t.dep ≤ k ∧ .tup [.str "case", d, enc t1, enc t2, d'] = enc t := by
 simp only [List.mem_cons, List.not_mem_nil, or_false] at h h'
 rcases h with rfl | rfl <;> rcases h' with rfl | rfl
 ·exact ⟨.cas1 none t1 t2, ⟨(fun i e => nomatch e), w1, w2⟩, k1, rfl⟩
 ·exact ⟨.cas2 none t1 t2 t3, ⟨(fun i e => nomatch e), w1, w2, w3⟩, k2, rfl⟩
 ·exact ⟨.cas1 (some i) t1 t2, ⟨fun i e => by cases e; exact hi, w1, w2⟩, k1, rfl⟩
 ·exact ⟨.cas2 (some i) t1 t2 t3, ⟨fun i e => by cases e; exact hi, w1, w2, w3⟩, k2, rfl⟩
theorem inn_mem {t1 t2 t3 : Tr} {i : Int} {g : Bool} {k : Nat} (h0 : 0 ≤ i) (h3 : i < 3) (w1 : Wf t1) (w2 : Wf t2) (w3 : Wf t3) (k0 : t1.dep + 1 ≤ k) (k1 : max t1.dep t2.dep + 1 ≤ k) (k2 : max t1.dep (max t2.dep t3.dep) + 1 ≤ k) : ∃ t, Wf t ∧ t.dep ≤ k ∧ .tup [.str "in", enc t1, .lst (lPick [enc t2, enc t3] none (some i)), .bool g] = enc t := by
 have : i = 0 ∨ i = 1 ∨ i = 2 := by lia
 rcases this with rfl | rfl | rfl
 ·exact ⟨.inn0 t1 g, w1, k0, rfl⟩
 ·exact ⟨.inn1 t1 t2 g, ⟨w1, w2⟩, k1, rfl⟩
 ·exact ⟨.inn2 t1 t2 t3 g, ⟨w1, w2, w3⟩, k2, rfl⟩
section
variable {a : Addr} {m : Nat} {σ : Sto} {ρ : Loc} {N Kk : Loc → Sto → Prop} {Q : D → Sto → Prop} {z : WS}
theorem leaf (hv : nth ρ 0 = some (.mlst a)) (hs : SrcAt a σ) (h : ∀ t σ', Wf t → t.dep = 0 → SrcAt a σ' → But a σ σ' → Q (enc t) σ') :
  sSeq (sRet (wCall 732 [(wV 0), (wLst [(wTup [(wS "column"), (wI 0)]), (wTup [(wS "column"), (wI 1)]), (wTup [(wS "column"), (wI 2)]), (wTup [(wS "column"), (wNeg (wI 1))]), (wTup [(wS "value"), (wCall 739 [(wV 0)])])])])) z (Cn (m + 3)) ρ σ N Q Kk := by
 refine s_rcall (Zhs (Zn hv) (w_lst (Zhs (Xp (Zc Y3 (Zc Yw Zp))) (Zhs (Xp (Zc Y3 (Zc Yw Zp))) (Zhs (Xp (Zc Y3 (Zc Yw Zp))) (Zhs (Xp (Zc Y3 (Zc (ev_neg Yw) Zp))) (w_tup (Zhs Y3 (w_c (Zc (Zn hv) Zp) (value hs fun d σ2 hd h2 b2 => ?_))))))))))
 refine w_0 (w_0 (w_0 (one h2 (List.cons_ne_nil _ _) (Nat.le_of_ble_eq_true rfl) fun d' σ3 hd' h3 b3 => ?_)))
 obtain ⟨t, w, e, rfl⟩ := leaf_mem hd hd'
 exact h t _ w e h3 (b2.trans b3)
theorem w_pick {as : List WE} {d1 d2 : D} {i1 i2 i3 : Nat} {Q : List D → Sto → Prop} (h0 : nth ρ i3 = some (.mlst a)) (h1 : nth ρ i1 = some d1) (h2 : nth ρ i2 = some d2) (hs : SrcAt a σ) (k : ∀ r σ', 0 ≤ r → r < 3 → SrcAt a σ' → But a σ σ' → wL as (Cn (m + 1)) ρ σ' fun ds σ2 => Q (.lst (lPick [d1, d2] none (some r)) :: ds) σ2) :
  wL (wSlice (wLst [(wV i1), (wV i2)]) wNone (wCall 725 [(wV i3), (wI 3)]) :: as) (Cn (m + 1)) ρ σ Q := by
 rw [Zc5, e_Slice]
 refine Jv (Zc (Zn h1) (Zc (Zn h2) Zp)) _ (Zah _ ?_)
 rw [e_Call]
 exact Zc (Zn h0) (Zc Yw Zp) _ (take hs (by decide) (by decide) fun r σ1 r0 r1 s1 b1 => ⟨Nat.le_of_ble_eq_true rfl, k r σ1 r0 r1 s1 b1⟩)
theorem w_bit {as : List WE} {Q : List D → Sto → Prop} {i : Nat} (h0 : nth ρ i = some (.mlst a)) (hs : SrcAt a σ) (k : ∀ g σ', SrcAt a σ' → But a σ σ' → wL as (Cn (m + 1)) ρ σ' fun ds σ2 => Q (.bool g :: ds) σ2) :
  wL (wCmp oEq (wCall 725 [(wV i), (wI 2)]) (wI 1) :: as) (Cn (m + 1)) ρ σ Q :=
 w_eqc (Zc (Zn h0) (Zc Yw Zp)) (take hs (by decide) (by decide) fun r σ1 _ _ s1 b1 => i_eqi (k _ _ s1 b1))
theorem s_bin {ops : List WE} {l : List Str} {t1 t2 : Tr} {k : Nat} (ho : EvL ops (Cn (m + 2)) ρ σ (l.map .str)) (hl : l.map D.str ≠ []) (hl2 : (l.map D.str).length ≤ 1000) (hop : ∀ op ∈ l, op ∈ LA ∨ op ∈ Ops) (h0 : nth ρ 0 = some (.mlst a)) (h1 : nth ρ 3 = some (enc t1)) (h2 : nth ρ 4 = some (enc t2)) (hs : SrcAt a σ) (w1 : Wf t1) (w2 : Wf t2) (d : max t1.dep t2.dep + 1 ≤ k)
  (h : ∀ t σ', Wf t → t.dep ≤ k → SrcAt a σ' → But a σ σ' → Q (enc t) σ') : sSeq (sRet (wTup [(wS "binary"), (wCall 732 [(wV 0), (wLst ops)]), (wV 3), (wV 4)])) z (Cn (m + 2)) ρ σ N Q Kk := by
 refine Zdo (Zhs Y3 (w_c (Zc (Zn h0) (Zc (Jv ho) Zp)) (one hs hl hl2 fun d' σ3 hd' h3 b3 => Zhs (Zn h1) (Zhs (Zn h2) (w_0 ?_)))))
 obtain ⟨op, hm, rfl⟩ := str_mem hd'
 exact h (.bin op t1 t2) _ ⟨hop op hm, w1, w2⟩ d h3 b3
end
theorem en_746 {n : Nat} {σ : Sto} {a b : D} {Q : D → Sto → Prop} : Cn (n + 1) 746 [a, b] σ Q = W_746 (Cn n) [some a, some b, none, none, none, none] σ (fun _ σ' => Q .none σ') Q (fun _ _ => False) := Z1 (F := F_746) (full := [a, b]) rfl rfl
theorem ti_or_t {C : Ora} {ρ : Loc} {σ : Sto} {p q : WT} (h : Ti p C ρ σ true) : Ti (tOr p q) C ρ σ true := fun T t => h _ t
theorem tree {a : Addr} : ∀ (k n : Nat) (σ : Sto) (Q : D → Sto → Prop), k + 4 ≤ n → SrcAt a σ → (∀ t σ', Wf t → t.dep ≤ k → SrcAt a σ' → But a σ σ' → Q (enc t) σ') → Cn n 746 [.mlst a, .int k] σ Q := by
 intro k
 induction k with
 | zero =>
  intro n σ Q hn hs h
  obtain ⟨m, rfl⟩ : ∃ m, n = m + 4 := ⟨n - 4, by lia⟩
  refine en_746.mpr ?_
  refine Za8 (Zc (Zn rfl) (Zc Yw Zp)) (take hs (by decide) (by decide) fun r σ1 _ _ h1 b1 => ?_)
  refine Vf (ti_or_t (X6 (b1 := ((0 : Nat) : Int) == 0) rfl (Zar (Zn rfl) Yw))) (leaf rfl h1 fun t σ' w e s b => ?_)
  exact h t _ w (Nat.le_of_eq e) s (b1.trans b)
 | succ k ih =>
  intro n σ Q hn hs h
  obtain ⟨m, rfl⟩ : ∃ m, n = m + 5 := ⟨n - 5, by lia⟩
  have hm : k + 4 ≤ m + 4 := by lia
  have ek2 : ((k + 1 : Nat) : Int) - 1 = k := by lia
  refine en_746.mpr ?_
  refine Za8 (Zc (Zn rfl) (Zc Yw Zp)) (take hs (by decide) (by decide) fun r σ1 _ _ h1 b1 => ?_)
  refine Za2 (Zbd (Zar (Zn rfl) Yw) fun _ => ti_lt (Zn rfl) Yw) (fun _ => leaf rfl h1 fun t σ' w e s b => h t _ w (e ▸ Nat.zero_le _) s (b1.trans b)) fun _ => ?_
  refine Za8 (Zc (Zn rfl) (Zc (Zcx (Zn rfl) ek2) Zp)) (ih (m + 4) _ _ hm h1 fun t1 σ2 w1 d1 h2 b2 => ?_)
  have b12 := b1.trans b2
  refine Za2 (Zar (Zn rfl) Yw) (fun _ => Zdo (Zhs Y3 (w_c (Zc (Zn rfl) (Zc (Jv (Zc Y3 (Zc Y3 (Zc Y3 Zp)))) Zp)) (one h2 (List.cons_ne_nil _ _) (Nat.le_of_ble_eq_true rfl) fun d' σ3 hd' h3 b3 => Zhs (Zn rfl) (w_0 ?_))))) fun _ => ?_
  ·obtain ⟨op, ho, rfl⟩ := un_mem hd'
   exact h (.un op t1) _ ⟨ho, w1⟩ (Nat.succ_le_succ d1) h3 (b12.trans b3)
  refine Za2 (Zar (Zn rfl) Yw) (fun _ => Zdo (Zhs Y3 (Zhs (Zn rfl) (w_bit rfl h2 fun g σ3 h3 b3 => w_0 (h (.nul t1 g) _ w1 (Nat.succ_le_succ d1) h3 (b12.trans b3)))))) fun _ => ?_
  refine Za8 (Zc (Zn rfl) (Zc (Zcx (Zn rfl) ek2) Zp)) (ih (m + 4) _ _ hm h2 fun t2 σ3 w2 d2 h3 b3 => ?_)
  have b13 := b12.trans b3
  have d12 : max t1.dep t2.dep + 1 ≤ k + 1 := Nat.succ_le_succ (Nat.max_le.mpr ⟨d1, d2⟩)
  have H : ∀ t σ', Wf t → t.dep ≤ k + 1 → SrcAt a σ' → But a σ3 σ' → Q (enc t) σ' := fun t σ' w d s b => h t _ w d s (b13.trans b)
  refine Za2 (ti_lt (Zn rfl) Yw) (fun _ => s_bin (m := m + 2) (l := Ops) (Zc Y3 (Zc Y3 (Zc Y3 (Zc Y3 (Zc Y3 (Zc Y3 (Zc Y3 (Zc Y3 Zp)))))))) (List.cons_ne_nil _ _) (Nat.le_of_ble_eq_true rfl) (fun _ => .inr) rfl rfl rfl h3 w1 w2 d12 H) fun _ => ?_
  refine Za2 (ti_lt (Zn rfl) Yw) (fun _ => s_bin (m := m + 2) (l := ["and", "or"]) (Zc Y3 (Zc Y3 Zp)) (List.cons_ne_nil _ _) (Nat.le_of_ble_eq_true rfl) (fun _ e => la_of (.inl e)) rfl rfl rfl h3 w1 w2 d12 H) fun _ => ?_
  refine Za2 (Zar (Zn rfl) Yw) (fun _ => s_bin (m := m + 2) (l := ["+", "*"]) (Zc Y3 (Zc Y3 Zp)) (List.cons_ne_nil _ _) (Nat.le_of_ble_eq_true rfl) (fun _ e => la_of (.inr e)) rfl rfl rfl h3 w1 w2 d12 H) fun _ => ?_
  refine Za8 (Zc (Zn rfl) (Zc (Zcx (Zn rfl) ek2) Zp)) (ih (m + 4) _ _ hm h3 fun t3 σ4 w3 d3 h4 b4 => ?_)
  have d123 : max t1.dep (max t2.dep t3.dep) + 1 ≤ k + 1 := Nat.succ_le_succ (Nat.max_le.mpr ⟨d1, Nat.max_le.mpr ⟨d2, d3⟩⟩)
  refine Za2 (Zar (Zn rfl) Yw) (fun _ => Zdo (Zhs Y3 (Zhs (Zn rfl) (w_pick rfl rfl rfl h4 fun r' σ5 r0' r1' h5 b5 => w_bit rfl h5 fun g σ6 h6 b6 => w_0 ?_)))) fun _ => ?_
  ·obtain ⟨t, w, d, e⟩ := inn_mem (g := g) r0' r1' w1 w2 w3 (Nat.succ_le_succ d1) d12 d123
   have := H t _ w d h6 ((b4.trans b5).trans b6)
   rw [← e] at this
   exact this
  refine Za2 (Zar (Zn rfl) Yw) (fun _ => Zdo (Zhs Y3 (Zhs (Zn rfl) (Zhs (Zn rfl) (Zhs (Zn rfl) (w_bit rfl h4 fun g σ6 h6 b6 => w_0 (H (.btw t1 t2 t3 g) _ ⟨w1, w2, w3⟩ d123 h6 (b4.trans b6)))))))) fun _ => ?_
  refine Zdo (Zhs Y3 (w_call (Zhs (Zn rfl) (w_lst (Zhs Zah (w_tup (Zhs Y3 (w_c (Zc (Zn rfl) (Zc Yw Zp)) (take h4 (by decide) (by decide) fun r' σ5 r0' r1' h5 b5 => ?_)))))))))
  refine w_0 (w_0 (w_0 (one h5 (List.cons_ne_nil _ _) (Nat.le_of_ble_eq_true rfl) fun d' σ6 hd' h6 b6 => ?_)))
  refine Zhs (Zn rfl) (Zhs (Zn rfl) (w_c (Zc (Zn rfl) (Zc (Jv (Zc Zah (Zc (Zn rfl) Zp))) Zp)) (one h6 (List.cons_ne_nil _ _) (Nat.le_of_ble_eq_true rfl) fun d'' σ7 hd'' h7 b7 => w_0 ?_)))
  obtain ⟨t, w, d, e⟩ := cas_mem (by unfold Cols; lia) w1 w2 w3 d12 d123 hd' hd''
  have := H t _ w d h7 (((b4.trans b5).trans b6).trans b7)
  rw [← e] at this
  exact this
theorem vs_e : Vs "" := by unfold Vs; decide +kernel
theorem vs_a : Vs "a" := by unfold Vs; decide +kernel
theorem vs_2 : Vs "2" := by unfold Vs; decide +kernel
theorem vs_A : Vs "A" := by unfold Vs; decide +kernel
theorem vs_b : Vs "b" := by unfold Vs; decide +kernel
theorem vals_b {d : D} (h : d ∈ Vals) : Vb 3 d := by
 simp only [Vals, List.mem_cons, List.not_mem_nil, or_false] at h
 rcases h with rfl | rfl | rfl | rfl | rfl | rfl | rfl | rfl | rfl | rfl | rfl | rfl | rfl
 all_goals first | exact .none | exact .int _ (by decide) | exact .str vs_e | exact .str vs_a | exact .str vs_2 | exact .str vs_A | exact .str vs_b
noncomputable def bd : Nat → Nat
 | 0 => 3
 | k + 1 => bd k * bd k
theorem bd_3 : ∀ k, 3 ≤ bd k
 | 0 => Nat.le_refl _
 | k + 1 => Nat.le_trans (bd_3 k) (Nat.le_mul_of_pos_left _ (by have := bd_3 k; lia))
theorem bd_s (k : Nat) : bd k ≤ bd (k + 1) := Nat.le_mul_of_pos_left _ (by have := bd_3 k; lia)
theorem bd_m {k l : Nat} (h : k ≤ l) : bd k ≤ bd l := by
 induction h with
 | refl => exact Nat.le_refl _
 | step _ ih => exact Nat.le_trans ih (bd_s _)
theorem bd_2 (k : Nat) : bd k + bd k ≤ bd (k + 1) := by
 show bd k + bd k ≤ bd k * bd k
 have := Nat.mul_le_mul_right (bd k) (bd_3 k)
 lia
theorem IsT.b {v : D} (h : IsT v) (k : Nat) : Vb (bd k) v := by
 have := bd_3 k
 cases h with
 | none => exact .none
 | zero => exact .int 0 (by show 0 ≤ _; lia)
 | one => exact .int 1 (by show 1 ≤ _; lia)
theorem numD_b {v : D} {k : Nat} (h : Vb (bd k) v) : numD v = .none ∨ ∃ i : Int, numD v = .int i ∧ i.natAbs ≤ bd k := by
 have := bd_3 k
 cases h with
 | none => exact .inl rfl
 | int i h => exact .inr ⟨i, rfl, h⟩
 | @str x h =>
  by_cases e : x = "2"
  ·exact .inr ⟨2, by simp [numD, e], by show 2 ≤ _; lia⟩
  ·exact .inr ⟨0, by simp [numD, e], by show 0 ≤ _; lia⟩
theorem ite_b {b : Bool} {x y : D} {m : Nat} (hx : Vb m x) (hy : Vb m y) : Vb m (if b = true then x else y) := by cases b <;> assumption
theorem ite_bP {p : Prop} [Decidable p] {x y : D} {m : Nat} (hx : Vb m x) (hy : Vb m y) : Vb m (if p then x else y) := by split <;> assumption
theorem neg_b {i : Int} {k : Nat} (b : i.natAbs ≤ bd k) : (0 - i).natAbs ≤ bd (k + 1) := by
 rw [Int.zero_sub, Int.natAbs_neg]; exact Nat.le_trans b (bd_s k)
theorem sum_b {i j : Int} {k : Nat} (c1 : i.natAbs ≤ bd k) (c2 : j.natAbs ≤ bd k) : (i + j).natAbs ≤ bd (k + 1) := Nat.le_trans (Int.natAbs_add_le i j) (Nat.le_trans (Nat.add_le_add c1 c2) (bd_2 k))
theorem ar_b {a b : D} {k : Nat} {op : Str} (ha : Vb (bd k) a) (hb : Vb (bd k) b) : Vb (bd (k + 1)) (laD op a b) := by
 unfold laD
 split
 ·exact (J8 (Xd _) (Xd _)).b _
 ·rcases numD_b ha with e1 | ⟨i, e1, c1⟩ <;> rcases numD_b hb with e2 | ⟨j, e2, c2⟩ <;> rw [e1, e2]
  ·exact .none
  ·exact .none
  ·exact .none
  ·refine .int _ ?_
   split
   ·rw [Int.natAbs_mul]; exact Nat.mul_le_mul c1 c2
   ·exact sum_b c1 c2
theorem fv_b {coll : Str} {r : Int → D} (hr : ∀ i, Cols i → Vb 3 (r i)) : ∀ {t : Tr}, Wf t → Vb (bd t.dep) (fv coll r t)
 | .col i, h => hr i h
 | .val v, h => vals_b h
 | .un op t, h => by
  refine ite_bP (p := op = "not") ((Kv (Xd _) _).b _) ?_
  unfold negD
  rcases numD_b (fv_b hr h.2) with e | ⟨i, e, b⟩ <;> rw [e]
  ·exact .none
  ·exact .int _ (neg_b b)
 | .nul t n, h => by
  have := bd_3 (Tr.dep (.nul t n))
  show Vb _ (.int (if (isNoneD (fv coll r t) != n) = true then 1 else 0))
  split
  ·exact .int 1 (Nat.le_trans (by decide) this)
  ·exact .int 0 (Nat.zero_le _)
 | .bin op x y, h => ite_bP (p := op ∈ LA) (ar_b ((fv_b (coll := coll) hr h.2.1).mono (bd_m (Nat.le_max_left x.dep y.dep))) ((fv_b (coll := coll) hr h.2.2).mono (bd_m (Nat.le_max_right x.dep y.dep)))) ((Xq ..).b _)
 | .inn0 t n, h => (Kv (U7 _) _).b _
 | .inn1 t a n, h => (Kv (U7 _) _).b _
 | .inn2 t a b n, h => (Kv (U7 _) _).b _
 | .btw a b c n, h => (Kv (J8 (Xq ..) (Xq ..)) _).b _
 | .cas1 base w t, h => ite_bP ((fv_b hr h.2.2).mono (bd_m (Nat.le_succ_of_le (Nat.le_max_right w.dep t.dep)))) .none
 | .cas2 base w t o, h => ite_bP ((fv_b hr h.2.2.1).mono (bd_m (Nat.le_succ_of_le (Nat.le_trans (Nat.le_max_left _ _) (Nat.le_max_right w.dep _))))) ((fv_b hr h.2.2.2).mono (bd_m (Nat.le_succ_of_le (Nat.le_trans (Nat.le_max_right _ _) (Nat.le_max_right w.dep _)))))
theorem bd_small {k : Nat} (h : k ≤ 3) : bd k < 2 ^ 60 := Nat.lt_of_le_of_lt (bd_m h) (by decide)
theorem Js {coll : Str} {r : Int → D} (hr : ∀ i, Cols i → Vb 3 (r i)) : ∀ {t : Tr}, Wf t → t.dep ≤ 3 → Ok coll r t
 | .col i, h, _ => ⟨h, (hr i h).isV (by decide)⟩
 | .val v, h, _ => (vals_b h).isV (by decide)
 | .un op t, h, d => ⟨h.1, Js hr h.2 (by simp only [Tr.dep] at d; lia)⟩
 | .nul t n, h, d => Js (t := t) hr h (by simp only [Tr.dep] at d; lia)
 | .bin op x y, h, d => ⟨h.1, Js hr h.2.1 (by simp only [Tr.dep] at d; lia), Js hr h.2.2 (by simp only [Tr.dep] at d; lia), (fv_b hr h).isV (bd_small d)⟩
 | .inn0 t n, h, d => Js (t := t) hr h (by simp only [Tr.dep] at d; lia)
 | .inn1 t a n, h, d => ⟨Js hr h.1 (by simp only [Tr.dep] at d; lia), Js hr h.2 (by simp only [Tr.dep] at d; lia)⟩
 | .inn2 t a b n, h, d => ⟨Js hr h.1 (by simp only [Tr.dep] at d; lia), Js hr h.2.1 (by simp only [Tr.dep] at d; lia), Js hr h.2.2 (by simp only [Tr.dep] at d; lia)⟩
 | .btw a b c n, h, d => ⟨Js hr h.1 (by simp only [Tr.dep] at d; lia), Js hr h.2.1 (by simp only [Tr.dep] at d; lia), Js hr h.2.2 (by simp only [Tr.dep] at d; lia)⟩
 | .cas1 base w t, h, d => ⟨fun i e => ⟨h.1 i e, (hr i (h.1 i e)).isV (by decide)⟩, Js hr h.2.1 (by simp only [Tr.dep] at d; lia), Js hr h.2.2 (by simp only [Tr.dep] at d; lia)⟩
 | .cas2 base w t o, h, d => ⟨fun i e => ⟨h.1 i e, (hr i (h.1 i e)).isV (by decide)⟩, Js hr h.2.1 (by simp only [Tr.dep] at d; lia), Js hr h.2.2.1 (by simp only [Tr.dep] at d; lia), Js hr h.2.2.2 (by simp only [Tr.dep] at d; lia)⟩
@[simp] theorem up_up (σ : Sto) (a : Addr) (x y : Option MObj) : up (up σ a x) a y = up σ a y := by
 funext b; simp only [up_of]; split <;> rfl
theorem up_none {σ : Sto} {a : Addr} (h : σ a = none) : up σ a none = σ := by
 funext b; simp only [up_of]; split
 ·rename_i e; rw [e, h]
 ·rfl
noncomputable def nodB (coll : Str) (i : Int) : D := .obj 148 [("table", .none), ("column", .str "c"), ("source", .int 4), ("place", .int i), ("depth", .int 0), ("affinity", affI i), ("collation", .str (if i = 1 then coll else "binary"))]
noncomputable def nodO (coll : Str) : Option Int → D
 | none => .none
 | some i => nodB coll i
noncomputable def nod (coll : Str) : Tr → D
 | .col i => nodB coll i
 | .val v => .obj 122 [("value", v)]
 | .un op t => .obj 200 [("op", .str op), ("operand", nod coll t)]
 | .nul t n => .obj 406 [("value", nod coll t), ("negated", .bool n)]
 | .bin op a b => .obj 226 [("op", .str op), ("left", nod coll a), ("right", nod coll b)]
 | .inn0 t n => .obj 278 [("value", nod coll t), ("items", .lst []), ("negated", .bool n)]
 | .inn1 t a n => .obj 278 [("value", nod coll t), ("items", .lst [nod coll a]), ("negated", .bool n)]
 | .inn2 t a b n => .obj 278 [("value", nod coll t), ("items", .lst [nod coll a, nod coll b]), ("negated", .bool n)]
 | .btw a b c n => .obj 252 [("value", nod coll a), ("low", nod coll b), ("high", nod coll c), ("negated", .bool n)]
 | .cas1 base w t => .obj 328 [("base", nodO coll base), ("whens", .lst [.tup [nod coll w, nod coll t]]), ("other", .none)]
 | .cas2 base w t o => .obj 328 [("base", nodO coll base), ("whens", .lst [.tup [nod coll w, nod coll t]]), ("other", nod coll o)]
section
variable {n : Nat} {C : Ora} {ρ : Loc} {σ : Sto} {N Kk : Loc → Sto → Prop} {R : D → Sto → Prop} {z : WS} {e f : WE} {d d1 d2 : D} {c a : Addr} {fs fs' : List (Str × D)} {nm nm1 : Str} {i j : Nat} {as : List WE} {ds vs : List D} {fr : List Nat}
theorem X3 (he : Ev e C ρ (up σ a (some (.attrs fs))) d) (hj : nth ρ j = some (.inst c a)) (hl : fs.length ≤ 900) (k : z C ρ (up σ a (some (.attrs (setF nm d fs)))) N R Kk) : sSeq (sAsg e (aAttr c nm (wV j))) z C ρ (up σ a (some (.attrs fs))) N R Kk := by
 rw [Y0, V1]
 refine he _ ?_
 rw [Za1, Zhq, hj]
 simp [hl]; exact k
theorem s_attr2 (he : Ev e C ρ (up σ a (some (.attrs fs))) (.tup [d1, d2])) (hj : nth ρ j = some (.inst c a)) (hl : fs.length ≤ 800) (hl2 : (setF nm d1 fs).length ≤ 900) (k : z C ρ (up σ a (some (.attrs (setF nm1 d2 (setF nm d1 fs))))) N R Kk) : sSeq (sAsg e (aTup [aAttr c nm (wV j), aAttr c nm1 (wV j)])) z C ρ (up σ a (some (.attrs fs))) N R Kk := by
 rw [Y0, V1]
 refine he _ ?_
 rw [Zds]
 refine ⟨rfl, ?_⟩
 rw [Uc, Za1, Zhq, hj]
 have : fs.length ≤ 900 := Nat.le_trans hl (by decide)
 simp [this, hj, hl2]; exact k
noncomputable def Ini (n : Nat) (f c : Addr) (ds : List D) (fs : List (Str × D)) : Prop := ∀ (d : Addr) (σ : Sto) (Q : D → Sto → Prop), Q .none (up σ d (some (.attrs fs))) → Cn n f (.inst c d :: ds) (up σ d (some (.attrs []))) Q
theorem Zcn {f : Addr} (h : EvL as (Cn n) ρ σ ds) (k : Ini n f c ds fs) : Ev (wFrz (wNew c f as)) (Cn n) ρ σ (.obj c fs) := fun Q q => by
 rw [e_Frz, e_New]
 refine h _ fun d hd => k d σ _ ?_
 simp [up_none hd]; exact q
theorem s_new {f : Addr} (h : EvL as (Cn n) ρ σ ds) (k : Ini n f c ds fs) (q : ∀ d, σ d = none → z (Cn n) (put ρ j (.inst c d)) (up σ d (some (.attrs fs))) N R Kk) : sSeq (sAsg (wNew c f as) (aName j)) z (Cn n) ρ σ N R Kk := by
 rw [Y0, V1, e_New]
 exact h _ fun d hd => k d σ _ (q d hd)
theorem s_frz (hj : nth ρ j = some (.inst c a)) (ha : σ a = none) (q : R (.obj c fs) σ) : sSeq (sRet (wFrz (wV j))) z C ρ (up σ a (some (.attrs fs))) N R Kk := by
 rw [Y0, Zfe, e_Frz, Zhq, hj]
 simp [up_none ha]; exact q
theorem ev_comp (hk : known ρ fr) (h : Ev e C ρ σ d) (hd : itemsD d = some ds) (hl : ds.length ≤ 1000) (hv : Evs f C (fr.map (nth ρ)) σ ds vs) : Ev (wComp e fr (tEnd true) f) C ρ σ (.lst vs) := fun Q q => by
 rw [e_Comp]
 refine ⟨hk, h _ ?_⟩
 rw [hd]
 exact ⟨hl, Zeu hv [] q⟩
theorem s_compD (hk : known ρ fr) (h : Ev e C ρ σ d) (hd : itemsD d = some ds) (hl : ds.length ≤ 1000) (hv : Evs f C (fr.map (nth ρ)) σ ds vs) (k : z C (put ρ i (.lst vs)) σ N R Kk) : sSeq (sComp e fr (tEnd true) f i) z C ρ σ N R Kk := by
 rw [Y0, e_sComp]
 refine ⟨hk, h _ ?_⟩
 rw [hd]
 exact ⟨hl, Zeu hv [] k⟩
theorem Zeg {l : List D} {lo hi : D} {u v : Option Int} (h : Ev e C ρ σ (.tup l)) {e1 e2 : WE} (h1 : Ev e1 C ρ σ lo) (h2 : Ev e2 C ρ σ hi) (hu : partOf lo = some u) (hv : partOf hi = some v) (hl : l.length ≤ 1000) : Ev (wSlice e e1 e2) C ρ σ (.tup (tPick l u v)) := fun Q q => by
 rw [e_Slice]
 refine h _ (h1 _ (h2 _ ?_))
 unfold gSlice
 rw [hu, hv]
 exact ⟨hl, q⟩
theorem known1 {d : D} (h : nth ρ i = some d) : known ρ [i] := fun k hk => by
 simp only [List.mem_cons, List.not_mem_nil, or_false] at hk
 subst hk; rw [h]; exact fun e => nomatch e
end
section
variable {n : Nat}
theorem ini_112 {x0 : D} : Ini (n + 1) 112 122 [x0] [("value", x0)] := fun d σ Q h => by
 rw [Z1 (F := F_112) rfl rfl]
 dsimp only [F_112, W_112]
 refine X3 (Zn rfl) rfl (by simp) ?_
 simpa [setF] using h
theorem ini_190 {x0 x1 : D} : Ini (n + 1) 190 200 [x0, x1] [("op", x0), ("operand", x1)] := fun d σ Q h => by
 rw [Z1 (F := F_190) rfl rfl]
 dsimp only [F_190, W_190]
 refine X3 (Zn rfl) rfl (by simp) ?_
 refine X3 (Zn rfl) rfl (by simp [setF]) ?_
 simpa [setF] using h
theorem ini_216 {x0 x1 x2 : D} : Ini (n + 1) 216 226 [x0, x1, x2] [("op", x0), ("left", x1), ("right", x2)] := fun d σ Q h => by
 rw [Z1 (F := F_216) rfl rfl]
 dsimp only [F_216, W_216]
 refine X3 (Zn rfl) rfl (by simp) ?_
 refine X3 (Zn rfl) rfl (by simp [setF]) ?_
 refine X3 (Zn rfl) rfl (by simp [setF]) ?_
 simpa [setF] using h
theorem ini_242 {x0 x1 x2 x3 : D} : Ini (n + 1) 242 252 [x0, x1, x2, x3] [("value", x0), ("low", x1), ("high", x2), ("negated", x3)] := fun d σ Q h => by
 rw [Z1 (F := F_242) rfl rfl]
 dsimp only [F_242, W_242]
 refine X3 (Zn rfl) rfl (by simp) ?_
 refine X3 (Zn rfl) rfl (by simp [setF]) ?_
 refine X3 (Zn rfl) rfl (by simp [setF]) ?_
 refine X3 (Zn rfl) rfl (by simp [setF]) ?_
 simpa [setF] using h
theorem ini_268 {x0 x1 x2 : D} : Ini (n + 1) 268 278 [x0, x1, x2] [("value", x0), ("items", x1), ("negated", x2)] := fun d σ Q h => by
 rw [Z1 (F := F_268) rfl rfl]
 dsimp only [F_268, W_268]
 refine X3 (Zn rfl) rfl (by simp) ?_
 refine X3 (Zn rfl) rfl (by simp [setF]) ?_
 refine X3 (Zn rfl) rfl (by simp [setF]) ?_
 simpa [setF] using h
theorem ini_320 {x0 x1 x2 : D} : Ini (n + 1) 320 328 [x0, x1, x2] [("base", x0), ("whens", x1), ("other", x2)] := fun d σ Q h => by
 rw [Z1 (F := F_320) rfl rfl]
 dsimp only [F_320, W_320]
 refine X3 (Zn rfl) rfl (by simp) ?_
 refine X3 (Zn rfl) rfl (by simp [setF]) ?_
 refine X3 (Zn rfl) rfl (by simp [setF]) ?_
 simpa [setF] using h
theorem ini_396 {x0 x1 : D} : Ini (n + 1) 396 406 [x0, x1] [("value", x0), ("negated", x1)] := fun d σ Q h => by
 rw [Z1 (F := F_396) rfl rfl]
 dsimp only [F_396, W_396]
 refine X3 (Zn rfl) rfl (by simp) ?_
 refine X3 (Zn rfl) rfl (by simp [setF]) ?_
 simpa [setF] using h
theorem ini_138 {x0 x1 : D} : Ini (n + 1) 138 148 [x0, x1] [("table", x0), ("column", x1), ("source", .none), ("place", .none), ("depth", .int 0)] := fun d σ Q h => by
 rw [Z1 (F := F_138) rfl rfl]
 dsimp only [F_138, W_138]
 refine X3 (Zn rfl) rfl (by simp) ?_
 refine X3 (Zn rfl) rfl (by simp [setF]) ?_
 refine X3 Zah rfl (by simp [setF]) ?_
 refine X3 Zah rfl (by simp [setF]) ?_
 refine X3 Yw rfl (by simp [setF]) ?_
 simpa [setF] using h
end
theorem pick_14 (x y z u v : D) : tPick [x, y, z, u, v] (some 1) (some 4) = [y, z, u] := by
 unfold tPick
 have e : (([x, y, z, u, v] : List D).length : Int) = 5 := rfl
 have e2 : Builtin.Slice.sliceAdjust (some 1) (some 4) 1 5 = (1, 4) := by decide
 have e3 : Builtin.Slice.slicePlaces 1 4 1 = 3 := by decide
 rw [e, e2]
 dsimp only
 rw [e3]
 rfl
theorem pick_1n (x y z u v : D) : tPick [x, y, z, u, v] (some 1) none = [y, z, u, v] := by
 unfold tPick
 have e : (([x, y, z, u, v] : List D).length : Int) = 5 := rfl
 have e2 : Builtin.Slice.sliceAdjust (some 1) none 1 5 = (1, 5) := by decide
 have e3 : Builtin.Slice.slicePlaces 1 5 1 = 4 := by decide
 rw [e, e2]
 dsimp only
 rw [e3]
 rfl
section
variable {coll : Str} {σ : Sto} {n : Nat} {ρ : Loc}
noncomputable def Nd (coll : Str) (σ : Sto) (n : Nat) (v d : D) : Prop := ∀ Q : D → Sto → Prop, Q d σ → Cn n 751 [v, .str coll] σ Q
theorem en_751 {v : D} {Q : D → Sto → Prop} : Cn (n + 1) 751 [v, .str coll] σ Q = W_751 (Cn n) [some v, some (.str coll), none, none, none] σ (fun _ σ' => Q .none σ') Q (fun _ _ => False) := Z1 (F := F_751) (full := [v, .str coll]) rfl rfl
theorem ev_nd {v d : D} {k : Int} {l : List D} (x : Nd coll σ n v d) (h0 : nth ρ 0 = some (.tup l)) (h1 : nth ρ 1 = some (.str coll)) (hk : -(2 ^ 63) ≤ k ∧ k < 2 ^ 63) (hu : idx l k = some v) : Ev (wCall 751 [(w2 gItem (wV 0) (wI k)), (wV 1)]) (Cn n) ρ σ d :=
 Zy (Zc (Yi (Zn h0) hk hu) (Zc (Zn h1) Zp)) x
theorem Zcw {v d : D} (x : Nd coll σ n v d) (h0 : nth ρ 0 = some v) (h1 : nth ρ 1 = some (.str coll)) : Ev (wCall 751 [(wV 0), (wV 1)]) (Cn n) ρ σ d :=
 Zy (Zc (Zn h0) (Zc (Zn h1) Zp)) x
theorem node_col' {i : Int} (hi : Cols i) : Nd coll σ (n + 2) (colD i) (nodB coll i) := fun Q h => by
 refine en_751.mpr ?_
 refine Yo (Yi (Zn rfl) (by decide) rfl) (Vf (Yk rfl rfl) ?_)
 refine s_new (Zc Zah (Zc Y3 Zp)) ini_138 fun d hd => ?_
 refine s_attr2 (Xp (Zc Yw (Zc (Yi (Zn rfl) (by decide) rfl) Zp))) rfl (by decide) (by decide) ?_
 have last : ∀ a : D, a = affI i → Q (.obj 148 [("table", .none), ("column", .str "c"), ("source", .int 4), ("place", .int i), ("depth", .int 0), ("affinity", a), ("collation", .str (if i = 1 then coll else "binary"))]) σ := fun a e => by rw [e]; exact h
 rcases hi with rfl | rfl | rfl | rfl
 all_goals
  refine X3 (Zbc (Jv (Zc Y3 (Zc Y3 (Zc Y3 (Zc Y3 Zp))))) (Yi (Zn rfl) (by decide) rfl) (by decide) rfl) rfl (by decide) ?_
  refine X3 (Vo (Zar (Yi (Zn rfl) (by decide) rfl) Yw) (by first | exact Zn rfl | exact Y3)) rfl (by decide) ?_
  exact s_frz rfl hd (last _ rfl)
theorem node_val {v : D} : Nd coll σ (n + 2) (enc (.val v)) (nod coll (.val v)) := fun Q h => by
 refine en_751.mpr ?_
 refine Yo (Yi (Zn rfl) (by decide) rfl) (Y4 (Yk rfl rfl) (Vf (Yk rfl rfl) ?_))
 exact Yj (Zcn (Zc (Yi (Zn rfl) (by decide) rfl) Zp) ini_112) h
theorem node_un {op : Str} {t : Tr} (x : Nd coll σ (n + 1) (enc t) (nod coll t)) : Nd coll σ (n + 2) (enc (.un op t)) (nod coll (.un op t)) := fun Q h => by
 refine en_751.mpr ?_
 refine Yo (Yi (Zn rfl) (by decide) rfl) (Y4 (Yk rfl rfl) (Y4 (Yk rfl rfl) (Vf (Yk rfl rfl) ?_)))
 exact Yj (Zcn (Zc (Yi (Zn rfl) (by decide) rfl) (Zc (ev_nd x rfl rfl (by decide) rfl) Zp)) ini_190) h
theorem node_nul {ng : Bool} {t : Tr} (x : Nd coll σ (n + 1) (enc t) (nod coll t)) : Nd coll σ (n + 2) (enc (.nul t ng)) (nod coll (.nul t ng)) := fun Q h => by
 refine en_751.mpr ?_
 refine Yo (Yi (Zn rfl) (by decide) rfl) (Y4 (Yk rfl rfl) (Y4 (Yk rfl rfl) (Y4 (Yk rfl rfl) (Vf (Yk rfl rfl) ?_))))
 exact Yj (Zcn (Zc (ev_nd x rfl rfl (by decide) rfl) (Zc (Yi (Zn rfl) (by decide) rfl) Zp)) ini_396) h
theorem node_bin {op : Str} {t u : Tr} (x : Nd coll σ (n + 1) (enc t) (nod coll t)) (y : Nd coll σ (n + 1) (enc u) (nod coll u)) : Nd coll σ (n + 2) (enc (.bin op t u)) (nod coll (.bin op t u)) := fun Q h => by
 refine en_751.mpr ?_
 refine Yo (Yi (Zn rfl) (by decide) rfl) (Y4 (Yk rfl rfl) (Y4 (Yk rfl rfl) (Y4 (Yk rfl rfl) (Y4 (Yk rfl rfl) (Vf (Yk rfl rfl) ?_)))))
 exact Yj (Zcn (Zc (Yi (Zn rfl) (by decide) rfl) (Zc (ev_nd x rfl rfl (by decide) rfl) (Zc (ev_nd y rfl rfl (by decide) rfl) Zp))) ini_216) h
theorem node_in {t tr : Tr} {ng : Bool} {ds vs : List D} (he : enc tr = .tup [.str "in", enc t, .lst ds, .bool ng]) (hd : nod coll tr = .obj 278 [("value", nod coll t), ("items", .lst vs), ("negated", .bool ng)]) (hl : ds.length ≤ 1000) (x : Nd coll σ (n + 1) (enc t) (nod coll t))
  (hv : Evs (wCall 751 [(wV 0), (wV 1)]) (Cn (n + 1)) [some (.str coll)] σ ds vs) : Nd coll σ (n + 2) (enc tr) (nod coll tr) := fun Q h => by
 rw [en_751, he]
 rw [hd] at h
 refine Yo (Yi (Zn rfl) (by decide) rfl) (Y4 (Yk rfl rfl) (Y4 (Yk rfl rfl) (Y4 (Yk rfl rfl) (Y4 (Yk rfl rfl) (Y4 (Yk rfl rfl) (Vf (Yk rfl rfl) ?_))))))
 exact Yj (Zcn (Zc (ev_nd x rfl rfl (by decide) rfl) (Zc (ev_comp (known1 rfl) (Yi (Zn rfl) (by decide) rfl) rfl hl hv) (Zc (Yi (Zn rfl) (by decide) rfl) Zp))) ini_268) h
theorem node_btw {ng : Bool} {t u w : Tr} (x : Nd coll σ (n + 1) (enc t) (nod coll t)) (y : Nd coll σ (n + 1) (enc u) (nod coll u)) (v : Nd coll σ (n + 1) (enc w) (nod coll w)) : Nd coll σ (n + 2) (enc (.btw t u w ng)) (nod coll (.btw t u w ng)) := fun Q h => by
 refine en_751.mpr ?_
 refine Yo (Yi (Zn rfl) (by decide) rfl) (Y4 (Yk rfl rfl) (Y4 (Yk rfl rfl) (Y4 (Yk rfl rfl) (Y4 (Yk rfl rfl) (Y4 (Yk rfl rfl) (Y4 (Yk rfl rfl) (Vf (Yk rfl rfl) ?_)))))))
 refine s_compD (ds := [enc t, enc u, enc w]) (known1 rfl) (Zeg (Zn rfl) Yw Yw rfl rfl (Nat.le_of_ble_eq_true rfl)) (by rw [pick_14]; rfl) (Nat.le_of_ble_eq_true rfl) (.cons (Zcw x rfl rfl) (.cons (Zcw y rfl rfl) (.cons (Zcw v rfl rfl) .nil))) ?_
 exact Yj (Zcn (Zc (Zbc (Zn rfl) Yw (by decide) rfl) (Zc (Zbc (Zn rfl) Yw (by decide) rfl) (Zc (Zbc (Zn rfl) Yw (by decide) rfl) (Zc (Yi (Zn rfl) (by decide) rfl) Zp)))) ini_242) h
theorem ev_ndo {v d : D} {ρ : Loc} (hd : v = .none ∧ d = .none ∨ isNoneD v = false ∧ Nd coll σ n v d) (h0 : nth ρ 0 = some v) (h1 : nth ρ 1 = some (.str coll)) : Ev (wIf (tCmp oIsN (wV 0) wNone) wNone (wCall 751 [(wV 0), (wV 1)])) (Cn n) ρ σ d := by
 rcases hd with ⟨rfl, rfl⟩ | ⟨e, x⟩
 ·exact Vo (b := true) (Y2 (d := .none) (Zn h0)) Zah
 ·exact Vo (b := false) (by rw [← e]; exact Y2 (Zn h0)) (Zcw x h0 h1)
theorem node_cas {tr : Tr} {b u t o db du dt d0 : D} (he : enc tr = .tup [.str "case", b, u, t, o]) (hd : nod coll tr = .obj 328 [("base", db), ("whens", .lst [.tup [du, dt]]), ("other", d0)])
  (hb : b = .none ∧ db = .none ∨ isNoneD b = false ∧ Nd coll σ (n + 1) b db) (hu : isNoneD u = false ∧ Nd coll σ (n + 1) u du) (ht : isNoneD t = false ∧ Nd coll σ (n + 1) t dt) (ho : o = .none ∧ d0 = .none ∨ isNoneD o = false ∧ Nd coll σ (n + 1) o d0) : Nd coll σ (n + 2) (enc tr) (nod coll tr) := fun Q h => by
 rw [en_751, he]
 rw [hd] at h
 refine Yo (Yi (Zn rfl) (by decide) rfl) (Y4 (Yk rfl rfl) (Y4 (Yk rfl rfl) (Y4 (Yk rfl rfl) (Y4 (Yk rfl rfl) (Y4 (Yk rfl rfl) (Y4 (Yk rfl rfl) (Y4 (Yk rfl rfl) ?_)))))))
 refine s_compD (ds := [b, u, t, o]) (known1 rfl) (Zeg (Zn rfl) Yw Zah rfl rfl (Nat.le_of_ble_eq_true rfl)) (by rw [pick_1n]; rfl) (Nat.le_of_ble_eq_true rfl) (.cons (ev_ndo hb rfl rfl) (.cons (ev_ndo (.inr hu) rfl rfl) (.cons (ev_ndo (.inr ht) rfl rfl) (.cons (ev_ndo ho rfl rfl) .nil)))) ?_
 exact Yj (Zcn (Zc (Zbc (Zn rfl) Yw (by decide) rfl) (Zc (Jv (Zc (Xp (Zc (Zbc (Zn rfl) Yw (by decide) rfl) (Zc (Zbc (Zn rfl) Yw (by decide) rfl) Zp))) Zp)) (Zc (Zbc (Zn rfl) Yw (by decide) rfl) Zp))) ini_320) h
theorem base_nd {base : Option Int} (h : ∀ i, base = some i → Cols i) : baseD base = .none ∧ nodO coll base = .none ∨ isNoneD (baseD base) = false ∧ Nd coll σ (n + 2) (baseD base) (nodO coll base) := by
 cases base with
 | none => exact .inl ⟨rfl, rfl⟩
 | some i => exact .inr ⟨rfl, node_col' (h i rfl)⟩
end
theorem dp1 {a k n : Nat} (h : a + 1 + k ≤ n + 1) : a + k ≤ n := by
 rw [Nat.add_right_comm] at h; exact Nat.le_of_succ_le_succ h
theorem dp2a {a b k n : Nat} (h : max a b + 1 + k ≤ n + 1) : a + k ≤ n := Nat.le_trans (Nat.add_le_add_right (Nat.le_max_left a b) k) (dp1 h)
theorem dp2b {a b k n : Nat} (h : max a b + 1 + k ≤ n + 1) : b + k ≤ n := Nat.le_trans (Nat.add_le_add_right (Nat.le_max_right a b) k) (dp1 h)
theorem dp3b {a b c k n : Nat} (h : max a (max b c) + 1 + k ≤ n + 1) : b + k ≤ n := Nat.le_trans (Nat.add_le_add_right (Nat.le_trans (Nat.le_max_left b c) (Nat.le_max_right a _)) k) (dp1 h)
theorem dp3c {a b c k n : Nat} (h : max a (max b c) + 1 + k ≤ n + 1) : c + k ≤ n := Nat.le_trans (Nat.add_le_add_right (Nat.le_trans (Nat.le_max_right b c) (Nat.le_max_right a _)) k) (dp1 h)
theorem dpx {a k n : Nat} (h : a + 1 + k ≤ n) : ∃ m, n = m + 1 + k := by
 obtain ⟨j, e⟩ := Nat.exists_eq_add_of_le h
 exact ⟨a + j, by rw [e, Nat.add_right_comm a j 1, Nat.add_right_comm (a + 1) j k]⟩
theorem node' {coll : Str} {σ : Sto} (t : Tr) : ∀ n : Nat, t.dep + 2 ≤ n → Wf t → Nd coll σ n (enc t) (nod coll t) := by
 induction t with
 | col i =>
  intro n hn hw
  obtain ⟨m, rfl⟩ : ∃ m, n = m + 2 := ⟨n - 2, (Nat.sub_add_cancel (Nat.le_trans (Nat.le_add_left 2 _) hn)).symm⟩
  exact node_col' hw
 | val v =>
  intro n hn hw
  obtain ⟨m, rfl⟩ : ∃ m, n = m + 2 := ⟨n - 2, (Nat.sub_add_cancel (Nat.le_trans (Nat.le_add_left 2 _) hn)).symm⟩
  exact node_val
 | un op t ih =>
  intro n hn hw
  obtain ⟨m, rfl⟩ := dpx hn
  exact node_un (ih _ (dp1 hn) hw.2)
 | nul t ng ih =>
  intro n hn hw
  obtain ⟨m, rfl⟩ := dpx hn
  exact node_nul (ih _ (dp1 hn) hw)
 | bin op x y ihx ihy =>
  intro n hn hw
  obtain ⟨m, rfl⟩ := dpx hn
  exact node_bin (ihx _ (dp2a hn) hw.2.1) (ihy _ (dp2b hn) hw.2.2)
 | inn0 t ng ih =>
  intro n hn hw
  obtain ⟨m, rfl⟩ := dpx hn
  exact node_in rfl rfl (by decide) (ih _ (dp1 hn) hw) .nil
 | inn1 t x ng ih ihx =>
  intro n hn hw
  obtain ⟨m, rfl⟩ := dpx hn
  exact node_in (ds := [enc x]) rfl rfl (Nat.le_of_ble_eq_true rfl) (ih _ (dp2a hn) hw.1) (.cons (Zcw (ihx _ (dp2b hn) hw.2) rfl rfl) .nil)
 | inn2 t x y ng ih ihx ihy =>
  intro n hn hw
  obtain ⟨m, rfl⟩ := dpx hn
  exact node_in (ds := [enc x, enc y]) rfl rfl (Nat.le_of_ble_eq_true rfl) (ih _ (dp2a hn) hw.1) (.cons (Zcw (ihx _ (dp3b hn) hw.2.1) rfl rfl) (.cons (Zcw (ihy _ (dp3c hn) hw.2.2) rfl rfl) .nil))
 | btw x y z ng ihx ihy ihz =>
  intro n hn hw
  obtain ⟨m, rfl⟩ := dpx hn
  exact node_btw (ihx _ (dp2a hn) hw.1) (ihy _ (dp3b hn) hw.2.1) (ihz _ (dp3c hn) hw.2.2)
 | cas1 base u t ihu iht =>
  intro n hn hw
  obtain ⟨m, rfl⟩ := dpx hn
  exact node_cas rfl rfl (base_nd hw.1) ⟨Kd u, ihu _ (dp2a hn) hw.2.1⟩ ⟨Kd t, iht _ (dp2b hn) hw.2.2⟩ (.inl ⟨rfl, rfl⟩)
 | cas2 base u t o ihu iht iho =>
  intro n hn hw
  obtain ⟨m, rfl⟩ := dpx hn
  exact node_cas rfl rfl (base_nd hw.1) ⟨Kd u, ihu _ (dp2a hn) hw.2.1⟩ ⟨Kd t, iht _ (dp3b hn) hw.2.2.1⟩ (.inr ⟨Kd o, iho _ (dp3c hn) hw.2.2.2⟩)
theorem node {coll : Str} {σ : Sto} (t : Tr) (n : Nat) (Q : D → Sto → Prop) (hn : t.dep + 2 ≤ n) (hw : Wf t) (h : Q (nod coll t) σ) : Cn n 751 [enc t, .str coll] σ Q := node' t n hn hw Q h
inductive Ins where
 | value (d : Int) (v : D)
 | null (d : Int)
 | copy (s d : Int)
 | una (s d : Int) (op : Str)
 | cmp (a b d : Int) (op coll : Str) (f g : D)
 | log (a b d : Int) (op : Str)
 | ari (a b d : Int) (op : Str)
 | goto (l : Int)
 | isn (s l : Int)
 | non (s l : Int)
 | jif (s l : Int) (nulls : Bool)
 | jun (s l : Int) (nulls : Bool)
 | cmpj (a l b : Int) (op coll : Str) (f g : D) (nulls : Bool)
 | halt
noncomputable def insD : Ins → List D
 | .value d v => [.str "Value", .int 0, .int d, .int 0, v]
 | .null d => [.str "Null", .int 0, .int d, .int 1, .none]
 | .copy s d => [.str "Copy", .int s, .int d, .int 1, .none]
 | .una s d op => [.str "Unary", .int s, .int d, .int 0, .str op]
 | .cmp a b d op coll f g => [.str "Compare", .int a, .int b, .int d, .tup [.str op, .str coll, .tup [f, g]]]
 | .log a b d op => [.str "Logic", .int a, .int b, .int d, .str op]
 | .ari a b d op => [.str "Arith", .int a, .int b, .int d, .str op]
 | .goto l => [.str "Goto", .int 0, .int l, .int 0, .none]
 | .isn s l => [.str "IsNull", .int s, .int l, .int 0, .none]
 | .non s l => [.str "NotNull", .int s, .int l, .int 0, .none]
 | .jif s l nulls => [.str "If", .int s, .int l, .int (if nulls then 1 else 0), .none]
 | .jun s l nulls => [.str "IfNot", .int s, .int l, .int (if nulls then 1 else 0), .none]
 | .cmpj a l b op coll f g nulls => [.str "CompareJump", .int a, .int l, .int b, .tup [.str op, .str coll, .tup [f, g], .bool nulls]]
 | .halt => [.str "Halt", .int 0, .int 0, .int 0, .none]
noncomputable def labOf : Ins → Option Int
 | .goto l | .isn _ l | .non _ l | .jif _ l _ | .jun _ l _ | .cmpj _ l _ _ _ _ _ _ => some l
 | _ => none
noncomputable def setLab (k : Int) : Ins → Ins
 | .goto _ => .goto k
 | .isn s _ => .isn s k
 | .non s _ => .non s k
 | .jif s _ u => .jif s k u
 | .jun s _ u => .jun s k u
 | .cmpj a _ b op coll f g u => .cmpj a k b op coll f g u
 | i => i
noncomputable abbrev H := Int → D
noncomputable def hput (h : H) (k : Int) (d : D) : H := fun j => if j = k then d else h j
@[simp] theorem Yx (h : H) (k : Int) (d : D) : hput h k d k = d := if_pos rfl
theorem X2 (h : H) {k j : Int} (d : D) (e : j ≠ k) : hput h k d j = h j := if_neg e
noncomputable def tru (v : D) (one nulls : Bool) : Bool := match v with
 | .int i => i == (if one then 1 else 0)
 | _ => nulls
noncomputable def nxt (lb : Int → Nat) (pc : Nat) (h : H) : Ins → Nat × H
 | .value d v => (pc + 1, hput h d v)
 | .null d => (pc + 1, hput h d .none)
 | .copy s d => (pc + 1, hput h d (h s))
 | .una s d op => (pc + 1, hput h d (if op = "not" then oppD (trueD (h s)) true else negD (h s)))
 | .cmp a b d op coll f g => (pc + 1, hput h d (cmpD op (ledD (h a) f) (ledD (h b) g) coll))
 | .log a b d op => (pc + 1, hput h d (laD op (h a) (h b)))
 | .ari a b d op => (pc + 1, hput h d (laD op (h a) (h b)))
 | .goto l => (lb l, h)
 | .isn s l => (if isNoneD (h s) then lb l else pc + 1, h)
 | .non s l => (if isNoneD (h s) then pc + 1 else lb l, h)
 | .jif s l u => (if tru (trueD (h s)) true u then lb l else pc + 1, h)
 | .jun s l u => (if tru (trueD (h s)) false u then lb l else pc + 1, h)
 | .cmpj a l b op coll f g u => (if tru (cmpD op (ledD (h a) f) (ledD (h b) g) coll) true u then lb l else pc + 1, h)
 | .halt => (pc, h)
noncomputable def Rd (h : H) : Ins → Prop
 | .una s _ op => IsV (h s) ∧ (op = "not" ∨ op = "-")
 | .cmp a b _ op coll f g => IsV (h a) ∧ IsV (h b) ∧ op ∈ Ops ∧ f ∈ Affs ∧ g ∈ Affs
 | .cmpj a _ b op coll f g _ => IsV (h a) ∧ IsV (h b) ∧ op ∈ Ops ∧ f ∈ Affs ∧ g ∈ Affs
 | .log a b _ op => IsV (h a) ∧ IsV (h b) ∧ op ∈ LA
 | .ari a b _ op => IsV (h a) ∧ IsV (h b) ∧ op ∈ LA
 | .jif s _ _ => IsV (h s)
 | .jun s _ _ => IsV (h s)
 | .halt => False
 | _ => True
inductive Path (code : List Ins) (lb : Int → Nat) : Nat → H → Nat → H → Prop
 | nil {pc h} : Path code lb pc h pc h
 | cons {pc h i pc' h'} : code[pc]? = some i → Rd h i → pc < (nxt lb pc h i).1 → Path code lb (nxt lb pc h i).1 (nxt lb pc h i).2 pc' h' → Path code lb pc h pc' h'
theorem Path.trans {code lb pc h pc1 h1 pc2 h2} (x : Path code lb pc h pc1 h1) (y : Path code lb pc1 h1 pc2 h2) : Path code lb pc h pc2 h2 := by
 induction x with
 | nil => exact y
 | cons a b c _ ih => exact .cons a b c (ih y)
theorem Path.one {code lb pc h i pc' h'} (a : code[pc]? = some i) (b : Rd h i) (e : nxt lb pc h i = (pc', h')) (c : pc < pc') : Path code lb pc h pc' h' := by
 have := Path.cons (pc' := (nxt lb pc h i).1) (h' := (nxt lb pc h i).2) a b (by rw [e]; exact c) .nil
 rw [e] at this; exact this
structure PSt where
 ops : List Ins
 regs : Int
 labs : List (Int × Nat)
 nl : Int
noncomputable def PSt.add (ps : PSt) (i : Ins) : PSt := { ps with ops := ps.ops ++ [i] }
noncomputable def PSt.reg (ps : PSt) : PSt := { ps with regs := ps.regs + 1 }
noncomputable def PSt.lbl (ps : PSt) : PSt := { ps with nl := ps.nl - 1 }
noncomputable def PSt.plc (ps : PSt) (l : Int) : PSt := { ps with labs := ps.labs ++ [(l, ps.ops.length)] }
noncomputable def PSt.len (ps : PSt) : Nat := ps.ops.length
noncomputable def PSt.sz (ps : PSt) : Nat := ps.ops.length + ps.labs.length
noncomputable def lk : List (Int × Nat) → Int → Option Nat
 | [], _ => none
 | f :: r, x => if f.1 = x then some f.2 else lk r x
theorem lk_snoc (l : List (Int × Nat)) (k : Int) (v : Nat) (x : Int) : lk (l ++ [(k, v)]) x = (lk l x).or (if k = x then some v else none) := by
 induction l with
 | nil => simp [lk]
 | cons f l ih =>
  simp only [List.cons_append, lk]
  split
  ·rfl
  ·exact ih
theorem lk_new {l : List (Int × Nat)} {k : Int} {v : Nat} (h : lk l k = none) : lk (l ++ [(k, v)]) k = some v := by rw [lk_snoc, h]; simp
theorem lk_old {l : List (Int × Nat)} {k x : Int} {v u : Nat} (h : lk l x = some u) : lk (l ++ [(k, v)]) x = some u := by rw [lk_snoc, h]; rfl
theorem lk_ne {l : List (Int × Nat)} {k x : Int} {v : Nat} (h : k ≠ x) : lk (l ++ [(k, v)]) x = lk l x := by rw [lk_snoc, if_neg h]; simp
@[simp] theorem add_len (ps : PSt) (i : Ins) : (ps.add i).len = ps.len + 1 := by simp [PSt.add, PSt.len]
@[simp] theorem reg_len (ps : PSt) : ps.reg.len = ps.len := rfl
@[simp] theorem lbl_len (ps : PSt) : ps.lbl.len = ps.len := rfl
@[simp] theorem plc_len (ps : PSt) (l : Int) : (ps.plc l).len = ps.len := rfl
@[simp] theorem add_regs (ps : PSt) (i : Ins) : (ps.add i).regs = ps.regs := rfl
@[simp] theorem reg_regs (ps : PSt) : ps.reg.regs = ps.regs + 1 := rfl
@[simp] theorem lbl_regs (ps : PSt) : ps.lbl.regs = ps.regs := rfl
@[simp] theorem plc_regs (ps : PSt) (l : Int) : (ps.plc l).regs = ps.regs := rfl
@[simp] theorem add_nl (ps : PSt) (i : Ins) : (ps.add i).nl = ps.nl := rfl
@[simp] theorem reg_nl (ps : PSt) : ps.reg.nl = ps.nl := rfl
@[simp] theorem lbl_nl (ps : PSt) : ps.lbl.nl = ps.nl - 1 := rfl
@[simp] theorem plc_nl (ps : PSt) (l : Int) : (ps.plc l).nl = ps.nl := rfl
@[simp] theorem add_labs (ps : PSt) (i : Ins) : (ps.add i).labs = ps.labs := rfl
@[simp] theorem reg_labs (ps : PSt) : ps.reg.labs = ps.labs := rfl
@[simp] theorem lbl_labs (ps : PSt) : ps.lbl.labs = ps.labs := rfl
@[simp] theorem Zca (ps : PSt) (l : Int) : (ps.plc l).labs = ps.labs ++ [(l, ps.len)] := rfl
@[simp] theorem add_sz (ps : PSt) (i : Ins) : (ps.add i).sz = ps.sz + 1 := by simp [PSt.add, PSt.sz]; lia
@[simp] theorem reg_sz (ps : PSt) : ps.reg.sz = ps.sz := rfl
@[simp] theorem lbl_sz (ps : PSt) : ps.lbl.sz = ps.sz := rfl
@[simp] theorem plc_sz (ps : PSt) (l : Int) : (ps.plc l).sz = ps.sz + 1 := by simp [PSt.plc, PSt.sz]; lia
structure WfP (ps : PSt) : Prop where
 nl : ps.nl < 0
 regs : 5 ≤ ps.regs
 labs : ∀ k v, lk ps.labs k = some v → ps.nl < k
noncomputable def JOk (labs : List (Int × Nat)) (L : List Int) (i : Ins) : Prop := ∀ l, labOf i = some l → l < 0 ∧ ((lk labs l).isSome = true ∨ l ∈ L)
structure Seg (L : List Int) (z : Nat) (ps ps' : PSt) : Prop where
 ops : ∃ s, ps'.ops = ps.ops ++ s ∧ ∀ i ∈ s, JOk ps'.labs L i
 sz : ps'.sz ≤ ps.sz + z
 regs : ps.regs ≤ ps'.regs
 nl : ps'.nl ≤ ps.nl
 old : ∀ k v, lk ps.labs k = some v → lk ps'.labs k = some v
 new : ∀ k v, lk ps'.labs k = some v → lk ps.labs k = some v ∨ (ps'.nl < k ∧ k ≤ ps.nl)
theorem JOk.mono {labs labs' : List (Int × Nat)} {L L' : List Int} {i : Ins} (h : JOk labs L i) (k : ∀ l v, lk labs l = some v → lk labs' l = some v) (m : ∀ l ∈ L, (lk labs' l).isSome = true ∨ l ∈ L') : JOk labs' L' i := fun l e => by
 obtain ⟨h1, h2⟩ := h l e
 refine ⟨h1, ?_⟩
 rcases h2 with h2 | h2
 ·obtain ⟨v, hv⟩ := Option.isSome_iff_exists.mp h2
  exact .inl (by rw [k l v hv]; rfl)
 ·exact m l h2
theorem Seg.refl (L : List Int) (ps : PSt) : Seg L 0 ps ps := ⟨⟨[], by simp, by simp⟩, Nat.le_refl _, Int.le_refl _, Int.le_refl _, fun _ _ h => h, fun _ _ h => .inl h⟩
theorem Seg.trans {L : List Int} {y z : Nat} {a b c : PSt} (p : Seg L y a b) (q : Seg L z b c) : Seg L (y + z) a c := by
 obtain ⟨s, es, hs⟩ := p.ops
 obtain ⟨t, et, ht⟩ := q.ops
 refine ⟨⟨s ++ t, by rw [et, es, List.append_assoc], fun i hi => ?_⟩, ?_, Int.le_trans p.regs q.regs, Int.le_trans q.nl p.nl, fun k v h => q.old k v (p.old k v h), fun k v h => ?_⟩
 ·rcases List.mem_append.mp hi with hi | hi
  ·exact (hs i hi).mono q.old fun l hl => .inr hl
  ·exact ht i hi
 ·have := p.sz; have := q.sz; lia
 ·have := p.nl
  have := q.nl
  rcases q.new k v h with h | h
  ·rcases p.new k v h with h | h
   ·exact .inl h
   ·exact .inr ⟨by lia, h.2⟩
  ·exact .inr ⟨h.1, by lia⟩
theorem Seg.to {L L' : List Int} {y z : Nat} {a b : PSt} (p : Seg L y a b) (hz : y ≤ z) (hL : ∀ l ∈ L, l ∈ L') : Seg L' z a b := by
 obtain ⟨s, es, hs⟩ := p.ops
 exact ⟨⟨s, es, fun i hi => (hs i hi).mono (fun _ _ h => h) fun l hl => .inr (hL l hl)⟩, Nat.le_trans p.sz (by lia), p.regs, p.nl, p.old, p.new⟩
theorem Seg.reg (L : List Int) (ps : PSt) : Seg L 0 ps ps.reg := ⟨⟨[], by simp [PSt.reg], by simp⟩, by simp, by simp; lia, by simp, fun _ _ h => h, fun _ _ h => .inl h⟩
theorem Seg.lbl (L : List Int) (ps : PSt) : Seg L 0 ps ps.lbl := ⟨⟨[], by simp [PSt.lbl], by simp⟩, by simp, by simp, by simp; lia, fun _ _ h => h, fun _ _ h => .inl h⟩
theorem Seg.add {L : List Int} {ps : PSt} {i : Ins} (h : ∀ l, labOf i = some l → l < 0 ∧ l ∈ L) : Seg L 1 ps (ps.add i) :=
 ⟨⟨[i], by simp [PSt.add], fun j hj => by
  simp at hj; subst hj; intro l e; exact ⟨(h l e).1, .inr (h l e).2⟩⟩, by simp, by simp, by simp, fun _ _ h => h, fun _ _ h => .inl h⟩
theorem Seg.close {l : Int} {L : List Int} {z : Nat} {a b : PSt} (p : Seg (l :: L) z a b) (h0 : lk b.labs l = none) (h1 : b.nl < l) (h2 : l ≤ a.nl) : Seg L (z + 1) a (b.plc l) := by
 obtain ⟨s, es, hs⟩ := p.ops
 refine ⟨⟨s, es, fun i hi => (hs i hi).mono (fun k v h => lk_old h) fun k hk => ?_⟩, ?_, p.regs, p.nl, fun k v h => lk_old (p.old k v h), fun k v h => ?_⟩
 ·rcases List.mem_cons.mp hk with e | hk
  ·subst e; exact .inl (by rw [Zca, lk_new h0]; rfl)
  ·exact .inr hk
 ·have := p.sz; simp; lia
 ·rw [Zca] at h
  by_cases e : l = k
  ·subst e; exact .inr ⟨h1, h2⟩
  ·rw [lk_ne e] at h; exact p.new k v h
theorem Seg.wf {L : List Int} {z : Nat} {a b : PSt} (p : Seg L z a b) (w : WfP a) : WfP b := by
 have h1 := p.nl
 have h2 := p.regs
 have h3 := w.nl
 have h4 := w.regs
 refine ⟨by lia, by lia, fun k v h => ?_⟩
 rcases p.new k v h with h | h
 ·have := w.labs k v h; lia
 ·exact h.1
theorem Seg.fresh {L : List Int} {z : Nat} {a b : PSt} (p : Seg L z a.lbl b) (w : WfP a) : lk b.labs a.nl = none := by
 cases e : lk b.labs a.nl with
 | none => rfl
 | some v =>
  exfalso
  rcases p.new _ _ e with h | h
  ·exact absurd (w.labs _ _ h) (by lia)
  ·have := h.2; simp at this; lia
theorem Seg.below {L : List Int} {z : Nat} {a b : PSt} (p : Seg L z a.lbl b) : b.nl < a.nl := by have := p.nl; simp at this; lia
structure Fin (code : List Ins) (lb : Int → Nat) (ps : PSt) : Prop where
 ops : ∃ rest, code = ps.ops ++ rest
 labs : ∀ k v, lk ps.labs k = some v → lb k = v
theorem Seg.fin {L : List Int} {z : Nat} {a b : PSt} {code lb} (p : Seg L z a b) (f : Fin code lb b) : Fin code lb a := by
 obtain ⟨s, es, _⟩ := p.ops
 obtain ⟨t, et⟩ := f.ops
 exact ⟨⟨s ++ t, by rw [et, es, List.append_assoc]⟩, fun k v h => f.labs k v (p.old k v h)⟩
theorem Seg.le {L : List Int} {z : Nat} {a b : PSt} (p : Seg L z a b) : a.len ≤ b.len := by
 obtain ⟨s, es, _⟩ := p.ops
 unfold PSt.len; rw [es]; simp
theorem Fin.get {code lb} {ps : PSt} {i : Ins} (f : Fin code lb (ps.add i)) : code[ps.len]? = some i := by
 obtain ⟨t, et⟩ := f.ops
 rw [et]
 simp [PSt.add, PSt.len]
theorem Fin.plc {code lb} {ps : PSt} {l : Int} (f : Fin code lb (ps.plc l)) : Fin code lb ps := ⟨f.ops, fun k v h => f.labs k v (lk_old h)⟩
theorem Fin.lab {code lb} {ps : PSt} {l : Int} (f : Fin code lb (ps.plc l)) (h : lk ps.labs l = none) : lb l = ps.len := f.labs l _ (lk_new h)
noncomputable def RowOk (r : Int → D) (h : H) : Prop := ∀ i, Cols i → h (i + 2) = r i
theorem RowOk.keep {r : Int → D} {h h' : H} {n tg : Int} (x : RowOk r h) (k : ∀ x, x < n → x ≠ tg → h' x = h x) (hn : 5 ≤ n) (ht : 5 ≤ tg) : RowOk r h' := fun i hi => by
 rw [k (i + 2) (by unfold Cols at hi; lia) (by unfold Cols at hi; lia)]; exact x i hi
theorem RowOk.keep' {r : Int → D} {h h' : H} {n : Int} (x : RowOk r h) (k : ∀ x, x < n → h' x = h x) (hn : 5 ≤ n) : RowOk r h' := fun i hi => by
 rw [k (i + 2) (by unfold Cols at hi; lia)]; exact x i hi
structure ExOk (r : Int → D) (v : D) (tg : Int) (z : Nat) (ps ps' : PSt) : Prop where
 sg : Seg [] z ps ps'
 run : ∀ code lb h, Fin code lb ps' → RowOk r h → ∃ h', Path code lb ps.len h ps'.len h' ∧ h' tg = v ∧ ∀ x, x < ps.regs → x ≠ tg → h' x = h x
structure JmpOk (r : Int → D) (j : Bool) (l : Int) (z : Nat) (ps ps' : PSt) : Prop where
 sg : Seg [l] z ps ps'
 run : ∀ code lb h, Fin code lb ps' → ps'.len ≤ lb l → RowOk r h → ∃ h', Path code lb ps.len h (if j then lb l else ps'.len) h' ∧ ∀ x, x < ps.regs → h' x = h x
structure PA where
 k : Addr
 p : Addr
 o : Addr
 c : Addr
 l : Addr
 b : Addr
noncomputable def pAt (A : PA) (regs nl : Int) : List (Str × D) := [("ops", .mlst A.o), ("columns", .mlst A.c), ("registers", .int regs), ("cursors", .int 0), ("slots", .int 0), ("writes", .bool false), ("labels", .mdic A.l), ("next_label", .int nl)]
noncomputable def kAt (A : PA) : List (Str × D) := [("program", .inst 707 A.p), ("bindings", .mdic A.b)]
noncomputable def labD (l : List (Int × Nat)) : List (Int × D) := l.map fun q => (q.1, .int q.2)
noncomputable def Fits (σ : Sto) : List Addr → List Ins → Prop
 | [], [] => True
 | a :: as, i :: is => σ a = some (.list (insD i)) ∧ Fits σ as is
 | _, _ => False
theorem Fits.len {σ : Sto} {as : List Addr} : ∀ {is}, Fits σ as is → as.length = is.length := by
 induction as with
 | nil => intro is h; cases is with
  | nil => rfl
  | cons i is => exact h.elim
 | cons a as ih => intro is h; cases is with
  | nil => exact h.elim
  | cons i is => exact congrArg (· + 1) (ih h.2)
theorem Fits.mono {σ σ' : Sto} {as : List Addr} : ∀ {is}, Fits σ as is → (∀ a ∈ as, σ' a = σ a) → Fits σ' as is := by
 induction as with
 | nil => intro is h _; cases is with
  | nil => trivial
  | cons i is => exact h.elim
 | cons a as ih => intro is h k; cases is with
  | nil => exact h.elim
  | cons i is => exact ⟨(k a List.mem_cons_self).trans h.1, ih h.2 fun b hb => k b (List.mem_cons_of_mem _ hb)⟩
theorem Fits.snoc {σ : Sto} {a : Addr} {i : Ins} (e : σ a = some (.list (insD i))) {as : List Addr} : ∀ {is}, Fits σ as is → Fits σ (as ++ [a]) (is ++ [i]) := by
 induction as with
 | nil => intro is h; cases is with
  | nil => exact ⟨e, trivial⟩
  | cons i is => exact h.elim
 | cons a as ih => intro is h; cases is with
  | nil => exact h.elim
  | cons i is => exact ⟨h.1, ih h.2⟩
theorem Fits.get {σ : Sto} (as : List Addr) : ∀ (is : List Ins) (j : Nat) (i : Ins), Fits σ as is → is[j]? = some i → ∃ a, as[j]? = some a ∧ σ a = some (.list (insD i)) := by
 induction as with
 | nil =>
  intro is j i h e
  cases is with
  | nil => rw [List.getElem?_nil] at e; cases e
  | cons k is => exact h.elim
 | cons a as ih =>
  intro is j i h e
  cases is with
  | nil => exact h.elim
  | cons k is =>
   cases j with
   | zero =>
    rw [List.getElem?_cons_zero] at e
    have e' := Option.some.inj e
    exact ⟨a, List.getElem?_cons_zero, by rw [← e']; exact h.1⟩
   | succ j =>
    rw [List.getElem?_cons_succ] at e
    rw [List.getElem?_cons_succ]
    exact ih is j i h.2 e
theorem Jg : ∀ (l : List (Int × Nat)) (k : Int), zlook (labD l) k = (lk l k).map fun v => .int v
 | [], _ => rfl
 | f :: r, k => by
  simp only [labD, List.map_cons, zlook, lk]
  split
  ·rfl
  ·exact Jg r k
structure PI (A : PA) (Z : Sto) (ps : PSt) (σ : Sto) : Prop where
 p : σ A.p = some (.attrs (pAt A ps.regs ps.nl))
 l : ∃ e, σ A.l = some (.dict e (labD ps.labs))
 o : ∃ as, σ A.o = some (.list (as.map .mlst)) ∧ Fits σ as ps.ops ∧ as.Nodup ∧ ∀ a ∈ as, Z a = none ∧ a ≠ A.p ∧ a ≠ A.l ∧ a ≠ A.o
 z : ∀ x m, Z x = some m → σ x = some m
 zp : Z A.p = none
 zl : Z A.l = none
 zo : Z A.o = none
 pl : A.p ≠ A.l
 po : A.p ≠ A.o
 lo : A.l ≠ A.o
structure CI (A : PA) (Z : Sto) : Prop where
 k : Z A.k = some (.attrs (kAt A))
 b : ∃ e d, Z A.b = some (.dict e [(4, d)]) ∧ (d = .tup [.str "registers", .int 2] ∨ d = .tup [.str "map", .dici [(-1, .int 1), (0, .int 2), (1, .int 3), (2, .int 4)]])
section
variable {n : Nat} {A : PA} {Z : Sto} {ps : PSt} {σ : Sto} {Q : D → Sto → Prop}
theorem PI.k (h : PI A Z ps σ) (c : CI A Z) : σ A.k = some (.attrs (kAt A)) := h.z _ _ c.k
theorem Zgt {Z : Sto} {a b : Addr} {m : MObj} (ha : Z a = some m) (hb : Z b = none) : a ≠ b := fun e => by subst e; rw [ha] at hb; cases hb
theorem PI.at_p {regs nl : Int} (h : PI A Z ps σ) : PI A Z { ps with regs := regs, nl := nl } (up σ A.p (some (.attrs (pAt A regs nl)))) := by
 obtain ⟨e, hl⟩ := h.l
 obtain ⟨as, h1, h2, h3, h4⟩ := h.o
 refine ⟨Z2 _ _ _, ⟨e, (Z4 _ _ h.pl.symm).trans hl⟩, ⟨as, (Z4 _ _ h.po.symm).trans h1, h2.mono fun a ha => Z4 _ _ (h4 a ha).2.1, h3, h4⟩, fun x m hx => (Z4 _ _ (Zgt hx h.zp)).trans (h.z x m hx), h.zp, h.zl, h.zo, h.pl, h.po, h.lo⟩
theorem PI.at_l {e : Nat} {labs : List (Int × Nat)} (h : PI A Z ps σ) : PI A Z { ps with labs := labs } (up σ A.l (some (.dict e (labD labs)))) := by
 obtain ⟨as, h1, h2, h3, h4⟩ := h.o
 refine ⟨(Z4 _ _ h.pl).trans h.p, ⟨e, Z2 _ _ _⟩, ⟨as, (Z4 _ _ h.lo.symm).trans h1, h2.mono fun a ha => Z4 _ _ (h4 a ha).2.2.1, h3, h4⟩, fun x m hx => (Z4 _ _ (Zgt hx h.zl)).trans (h.z x m hx), h.zp, h.zl, h.zo, h.pl, h.po, h.lo⟩
theorem en_668 {x y : D} : Cn (n + 1) 668 [x, y] σ Q = W_668 (Cn n) [some x, some y, none] σ (fun _ σ' => Q .none σ') Q (fun _ _ => False) := Z1 (F := F_668) (full := [x, y]) rfl rfl
theorem en_668' {x : D} : Cn (n + 1) 668 [x] σ Q = W_668 (Cn n) [some x, some (.int 1), none] σ (fun _ σ' => Q .none σ') Q (fun _ _ => False) := Z1 (F := F_668) (full := [x, .int 1]) rfl rfl
theorem en_653 {x : D} : Cn (n + 1) 653 [x] σ Q = W_653 (Cn n) [some x, none] σ (fun _ σ' => Q .none σ') Q (fun _ _ => False) := Z1 (F := F_653) (full := [x]) rfl rfl
theorem en_660 {x y : D} : Cn (n + 1) 660 [x, y] σ Q = W_660 (Cn n) [some x, some y] σ (fun _ σ' => Q .none σ') Q (fun _ _ => False) := Z1 (F := F_660) (full := [x, y]) rfl rfl
theorem register {k : Int} (h : PI A Z ps σ) (q : ∀ σ', PI A Z { ps with regs := ps.regs + k } σ' → Q (.int ps.regs) σ') : Cn (n + 1) 668 [.inst 707 A.p, .int k] σ Q := by
 refine en_668.mpr ?_
 refine Yo (Zcy rfl h.p (by decide) rfl) (s_setA (ev_add (Zn rfl) (Zn rfl)) rfl h.p (Nat.le_of_ble_eq_true rfl) (Yj (Zn rfl) ?_))
 exact q _ (h.at_p (regs := ps.regs + k) (nl := ps.nl))
theorem register1 (h : PI A Z ps σ) (q : ∀ σ', PI A Z ps.reg σ' → Q (.int ps.regs) σ') : Cn (n + 1) 668 [.inst 707 A.p] σ Q :=
 en_668'.mpr (en_668.mp (register (k := 1) h q))
theorem label (h : PI A Z ps σ) (q : ∀ σ', PI A Z ps.lbl σ' → Q (.int ps.nl) σ') : Cn (n + 1) 653 [.inst 707 A.p] σ Q := by
 refine en_653.mpr ?_
 refine Yo (Zcy rfl h.p (by decide) rfl) (s_setA (ev_subI (Zn rfl)) rfl h.p (Nat.le_of_ble_eq_true rfl) (Yj (Zn rfl) ?_))
 exact q _ (h.at_p (regs := ps.regs) (nl := ps.nl - 1))
theorem any_labD (l : List (Int × Nat)) (k : Int) (h : lk l k = none) : (labD l).any (fun kv => kv.1 = k) = false := by
 induction l with
 | nil => rfl
 | cons f l ih =>
  simp only [lk] at h
  split at h
  ·cases h
  ·rename_i hne
   simp only [labD, List.map_cons, List.any_cons, decide_eq_false hne, Bool.false_or]
   exact ih h
theorem Zg9 {l : List (Int × Nat)} {k : Int} {v : Nat} (h : lk l k = none) : zput (labD l) k (.int v) = labD (l ++ [(k, v)]) := by
 unfold zput
 rw [any_labD _ _ h]
 simp [labD]
theorem isS_labD {l : List (Int × Nat)} {k : Int} (h : lk l k = none) : (zlook (labD l) k).isSome = false := by rw [Jg, h]; rfl
theorem place {l : Int} (h : PI A Z ps σ) (h0 : l < 0) (h1 : ps.nl < l) (h2 : lk ps.labs l = none) (h3 : ps.sz ≤ 90000) (q : ∀ σ', PI A Z (ps.plc l) σ' → Q .none σ') : Cn (n + 1) 660 [.inst 707 A.p, .int l] σ Q := by
 obtain ⟨e, hl⟩ := h.l
 obtain ⟨as, ho, hf, _, _⟩ := h.o
 have hlen : (as.map D.mlst).length = ps.ops.length := (List.length_map ..).trans hf.len
 have b3 : ps.ops.length ≤ 100000 := Nat.le_trans (Nat.le_add_right _ _) (Nat.le_trans h3 (Nat.le_of_ble_eq_true rfl))
 have b4 : (labD ps.labs).length ≤ 100000 := (List.length_map ..).symm ▸ Nat.le_trans (Nat.le_add_left _ _) (Nat.le_trans h3 (Nat.le_of_ble_eq_true rfl))
 refine en_660.mpr ?_
 refine Y4 (X6 (b1 := decide ((0 : Int) ≤ l) || decide (l ≤ ps.nl)) ?_ (Zbd (ti_ge (Zn rfl) Yw) fun _ => ti_le (Zn rfl) (Zcy rfl h.p (by decide) rfl))) ?_
 ·rw [decide_eq_false (Int.not_le.mpr h0), decide_eq_false (Int.not_le.mpr h1)]; rfl
 refine Y4 (X6 (isS_labD h2) (ti_ind (Zn rfl) (Zcy rfl h.p (by decide) rfl) hl)) ?_
 refine s_subD (ev_lenL (Zcy rfl h.p (by decide) rfl) ho (hlen ▸ b3)) (Zcy rfl h.p (by decide) rfl) (Zn rfl) hl b4 fun e' => ?_
 rw [hlen, Zg9 h2]
 exact q _ h.at_l
theorem PI.snoc {i : Ins} {a : Addr} {as : List Addr} (h : PI A Z ps σ) (ho : σ A.o = some (.list (as.map .mlst))) (hf : Fits σ as ps.ops) (hn : as.Nodup) (ha : ∀ a ∈ as, Z a = none ∧ a ≠ A.p ∧ a ≠ A.l ∧ a ≠ A.o) (hfr : σ a = none) : a ≠ A.p ∧ PI A Z (ps.add i) (up (up σ a (some (.list (insD i)))) A.o (some (.list (as.map .mlst ++ [.mlst a])))) := by
 obtain ⟨e, hl⟩ := h.l
 have hlen := hf.len
 have ap : a ≠ A.p := fun e => by rw [e, h.p] at hfr; cases hfr
 have al : a ≠ A.l := fun e => by rw [e, hl] at hfr; cases hfr
 have ao : a ≠ A.o := fun e => by rw [e, ho] at hfr; cases hfr
 have az : Z a = none := by
  cases e : Z a with
  | none => rfl
  | some m => rw [h.z a m e] at hfr; cases hfr
 have na : a ∉ as := fun hm => by
  obtain ⟨j, hj⟩ := List.getElem?_of_mem hm
  have hjl := (List.getElem?_eq_some_iff.mp hj).1
  obtain ⟨b, hb, hs⟩ := Fits.get _ _ j _ hf (List.getElem?_eq_getElem (hlen ▸ hjl))
  rw [hj] at hb; cases hb
  rw [hfr] at hs; cases hs
 refine ⟨ap, ?_, ⟨e, ?_⟩, ⟨as ++ [a], ?_, ?_, ?_, ?_⟩, ?_, h.zp, h.zl, h.zo, h.pl, h.po, h.lo⟩
 ·rw [Z4 _ _ h.po, Z4 _ _ ap.symm]; exact h.p
 ·rw [Z4 _ _ h.lo, Z4 _ _ al.symm]; exact hl
 ·rw [Z2, List.map_append]; rfl
 ·refine Fits.snoc ?_ (hf.mono fun b hb => ?_)
  ·rw [Z4 _ _ ao, Z2]
  ·rw [Z4 _ _ (ha b hb).2.2.2, Z4 _ _ (fun e : b = a => na (e ▸ hb))]
 ·refine List.nodup_append.mpr ⟨hn, List.nodup_cons.mpr ⟨List.not_mem_nil, List.nodup_nil⟩, fun x hx y hy => ?_⟩
  exact fun e => na (List.mem_singleton.mp hy ▸ e ▸ hx)
 ·intro b hb
  rcases List.mem_append.mp hb with hb | hb
  ·exact ha b hb
  ·rw [List.mem_singleton.mp hb]; exact ⟨az, ap, al, ao⟩
 ·intro x m hx
  rw [Z4 _ _ (Zgt hx h.zo), Z4 _ _ (Zgt hx az)]; exact h.z x m hx
theorem add_ {i : Ins} {ds : List D} (hd : bindD 6 [.int 0, .int 0, .int 0, .none] ds = some (.inst 707 A.p :: insD i)) (h : PI A Z ps σ) (h3 : ps.sz ≤ 90000) (q : ∀ r σ', PI A Z (ps.add i) σ' → Q r σ') : Cn (n + 1) 639 ds σ Q := by
 obtain ⟨as, ho, hf, hn, ha⟩ := h.o
 have b3 : ps.ops.length ≤ 90000 := Nat.le_trans (Nat.le_add_right _ _) h3
 have b1 : (as.map D.mlst).length ≤ 90000 := (List.length_map ..).symm ▸ hf.len.symm ▸ b3
 have b2 : ∀ a : D, (as.map D.mlst ++ [a]).length ≤ 100000 := fun a => by rw [List.length_append]; exact Nat.le_trans (Nat.add_le_add_right b1 1) (Nat.le_of_ble_eq_true rfl)
 refine (Z1 (F := F_639) rfl hd).mpr ?_
 have K := fun a hfr => h.snoc (i := i) (a := a) ho hf hn ha hfr
 obtain ⟨x0, x1, x2, x3, x4, hi⟩ : ∃ x0 x1 x2 x3 x4, insD i = [x0, x1, x2, x3, x4] := by cases i <;> exact ⟨_, _, _, _, _, rfl⟩
 rw [hi] at K ⊢
 show W_639 (Cn n) [some (.inst 707 A.p), some x0, some x1, some x2, some x3, some x4] σ (fun _ σ' => Q .none σ') Q (fun _ _ => False)
 refine s_app (Zcy rfl h.p (by decide) rfl) ho (Nat.le_trans b1 (Nat.le_of_ble_eq_true rfl)) (Zc (Zn rfl) (Zc (Zn rfl) (Zc (Zn rfl) (Zc (Zn rfl) (Zc (Zn rfl) Zp))))) fun a hfr => ?_
 obtain ⟨ap, key⟩ := K a hfr
 refine Yj (d := .int ((as.map D.mlst ++ [D.mlst a]).length - 1)) ?_ (q _ _ key)
 exact ev_subI (ev_lenL (Zcy rfl key.p (by decide) rfl) (Z2 _ _ _) (b2 _))
end
section
variable {n : Nat} {σ : Sto} {Q : D → Sto → Prop} {a b : D}
theorem en_443 : Cn (n + 1) 443 [a] σ Q = W_443 (Cn n) [some a, some .none] σ (fun _ σ' => Q .none σ') Q (fun _ _ => False) := Z1 (F := F_443) (full := [a, .none]) rfl rfl
theorem en_430 : Cn (n + 1) 430 [a, b] σ Q = W_430 (Cn n) [some a, some b] σ (fun _ σ' => Q .none σ') Q (fun _ _ => False) := Z1 (F := F_430) (full := [a, b]) rfl rfl
theorem en_450 : Cn (n + 1) 450 [a] σ Q = W_450 (Cn n) [some a] σ (fun _ σ' => Q .none σ') Q (fun _ _ => False) := Z1 (F := F_450) (full := [a]) rfl rfl
theorem en_457 : Cn (n + 1) 457 [a] σ Q = W_457 (Cn n) [some a] σ (fun _ σ' => Q .none σ') Q (fun _ _ => False) := Z1 (F := F_457) (full := [a]) rfl rfl
theorem en_465 : Cn (n + 1) 465 [a] σ Q = W_465 (Cn n) [some a, some .none] σ (fun _ σ' => Q .none σ') Q (fun _ _ => False) := Z1 (F := F_465) (full := [a, .none]) rfl rfl
theorem en_472 : Cn (n + 1) 472 [a, b] σ Q = W_472 (Cn n) [some a, some b, none] σ (fun _ σ' => Q .none σ') Q (fun _ _ => False) := Z1 (F := F_472) (full := [a, b]) rfl rfl
theorem en_479 : Cn (n + 1) 479 [a] σ Q = W_479 (Cn n) [some a] σ (fun _ σ' => Q .none σ') Q (fun _ _ => False) := Z1 (F := F_479) (full := [a]) rfl rfl
theorem en_486 : Cn (n + 1) 486 [a] σ Q = W_486 (Cn n) [some a] σ (fun _ σ' => Q .none σ') Q (fun _ _ => False) := Z1 (F := F_486) (full := [a]) rfl rfl
noncomputable def cls : Tr → Addr
 | .col _ => 148
 | .val _ => 122
 | .un _ _ => 200
 | .nul _ _ => 406
 | .bin _ _ _ => 226
 | .inn0 _ _ | .inn1 _ _ _ | .inn2 _ _ _ _ => 278
 | .btw _ _ _ _ => 252
 | .cas1 _ _ _ | .cas2 _ _ _ _ => 328
noncomputable def fld (coll : Str) : Tr → List (Str × D)
 | .col i => [("table", .none), ("column", .str "c"), ("source", .int 4), ("place", .int i), ("depth", .int 0), ("affinity", affI i), ("collation", .str (if i = 1 then coll else "binary"))]
 | .val v => [("value", v)]
 | .un op t => [("op", .str op), ("operand", nod coll t)]
 | .nul t n => [("value", nod coll t), ("negated", .bool n)]
 | .bin op a b => [("op", .str op), ("left", nod coll a), ("right", nod coll b)]
 | .inn0 t n => [("value", nod coll t), ("items", .lst []), ("negated", .bool n)]
 | .inn1 t a n => [("value", nod coll t), ("items", .lst [nod coll a]), ("negated", .bool n)]
 | .inn2 t a b n => [("value", nod coll t), ("items", .lst [nod coll a, nod coll b]), ("negated", .bool n)]
 | .btw a b c n => [("value", nod coll a), ("low", nod coll b), ("high", nod coll c), ("negated", .bool n)]
 | .cas1 base w t => [("base", nodO coll base), ("whens", .lst [.tup [nod coll w, nod coll t]]), ("other", .none)]
 | .cas2 base w t o => [("base", nodO coll base), ("whens", .lst [.tup [nod coll w, nod coll t]]), ("other", nod coll o)]
theorem Ky (coll : Str) (t : Tr) : nod coll t = .obj (cls t) (fld coll t) := by cases t <;> rfl
theorem Zhp (f : Str) (d : D) (l : List (Str × D)) : slook ((f, d) :: l) f = some d := by simp [slook]
noncomputable def clss : List Addr := [122, 200, 406, 226, 278, 252, 328]
theorem col_or (t : Tr) : (∃ i, t = .col i) ∨ (colT t = none ∧ cls t ∈ clss ∧ affT t = .none) := by
 cases t <;> first | exact .inl ⟨_, rfl⟩ | exact .inr ⟨rfl, List.contains_iff_mem.mp rfl, rfl⟩
theorem affinity_of {coll : Str} {t : Tr} (h : Q (affT t) σ) : Cn (n + 1) 443 [nod coll t] σ Q := by
 refine en_443.mpr ?_
 rw [Ky]
 rcases col_or t with ⟨i, e⟩ | ⟨_, e, ha⟩
 ·rw [e] at h ⊢
  exact Vf (Y1 (c := 148) rfl (List.contains_iff_mem.mp rfl)) (Yj (Yr (c := 148) rfl (List.contains_iff_mem.mp rfl) rfl) h)
 ·rw [ha] at h
  exact Y4 (Yb rfl ((by decide : ∀ c ∈ clss, c ∈ K2) _ e)) (Y4 (Yb rfl ((by decide : ∀ c ∈ clss, c ∈ K8) _ e)) (Y4 (Yb rfl ((by decide : ∀ c ∈ clss, c ∈ Uu) _ e)) (Y4 (Yb rfl ((by decide : ∀ c ∈ clss, c ∈ J2) _ e)) h)))
noncomputable def numA : D → Bool
 | .str x => x == "integer"
 | _ => false
noncomputable def txtA : D → Bool
 | .str x => x == "text"
 | _ => false
noncomputable def paN (a b : D) : D × D :=
 if numA a && !numA b then (.none, .str "numeric") else if numA b && !numA a then (.str "numeric", .none) else if txtA a && isNoneD b then (.none, .str "text") else if txtA b && isNoneD a then (.str "text", .none) else (.none, .none)
section
variable {C : Ora} {ρ : Loc} {N Kk : Loc → Sto → Prop} {R : D → Sto → Prop} {x y z : WS} {p q : WT} {b1 b2 : Bool} {i : Nat}
theorem gin_num (ha : AffV a) : ∀ q : Bool → Prop, q (numA a) → gIn a Ye σ q := by
 refine AffV.all ha ?_ ?_ ?_ ?_ <;> exact fun q k => ⟨Nat.zero_le _, k⟩
theorem ti_num (ha : AffV a) (h : nth ρ i = some a) : Ti (tCmp gIn (wV i) (wGlob Ye)) C ρ σ (numA a) := fun T k => by
 rw [Ys, Zhq, h]; exact gin_num (σ := σ) ha (fun b => T b σ) k
theorem ti_nnum (ha : AffV a) (h : nth ρ i = some a) : Ti (tCmp gNotIn (wV i) (wGlob Ye)) C ρ σ (!numA a) := fun T k => by
 rw [Ys, Zhq, h]; exact gin_num (σ := σ) ha (fun b => T (!b) σ) k
theorem eq_text (ha : AffV a) : ∀ q : Bool → Prop, q (txtA a) → oEq a (.str "text") σ q := by
 refine AffV.all ha ?_ ?_ ?_ ?_ <;> exact fun q k => ⟨Nat.zero_le _, Nat.zero_le _, k⟩
theorem ti_text (ha : AffV a) (h : nth ρ i = some a) : Ti (tCmp oEq (wV i) (wS "text")) C ρ σ (txtA a) := fun T k => by
 rw [Ys, Zhq, h]; exact eq_text (σ := σ) ha (fun b => T b σ) k
theorem ti_nn (h : nth ρ i = some a) : Ti (tCmp oIsN (wV i) wNone) C ρ σ (isNoneD a) := fun T k => by
 rw [Ys, Zhq, h]
 exact ⟨rfl, k⟩
end
theorem Zb6 (ha : AffV a) (hb : AffV b) (h : Q (.tup [(paN a b).1, (paN a b).2]) σ) : Cn (n + 1) 430 [a, b] σ Q := by
 refine en_430.mpr ?_
 unfold paN at h
 refine Zgh (Kc (ti_num ha rfl) (ti_nnum hb rfl)) (fun e => ?_) (fun e => ?_)
 ·rw [e] at h; exact h
 ·rw [e] at h
  refine Zgh (Kc (ti_num hb rfl) (ti_nnum ha rfl)) (fun e => ?_) (fun e => ?_)
  ·rw [e] at h; exact h
  ·rw [e] at h
   refine Zgh (Kc (ti_text ha rfl) (ti_nn rfl)) (fun e => ?_) (fun e => ?_)
   ·rw [e] at h; exact h
   ·rw [e] at h
    refine Zgh (Kc (ti_text hb rfl) (ti_nn rfl)) (fun e => ?_) (fun e => ?_)
    ·rw [e] at h; exact h
    ·rw [e] at h; exact h
noncomputable def inA : D → Bool
 | .none => true
 | .str s => [("integer" : Str), "text", "blob", "numeric"].contains s
 | _ => false
theorem affs_of : ∀ {d : D}, inA d = true → d ∈ Affs
 | .none, _ => .head _
 | .str s, h => .tail _ (by
  have := List.contains_iff_mem.mp h
  exact List.mem_map_of_mem (f := D.str) this)
theorem paN_ok {a b : D} (ha : AffV a) (hb : AffV b) : (paN a b).1 ∈ Affs ∧ (paN a b).2 ∈ Affs := by
 refine AffV.all ha ?_ ?_ ?_ ?_ <;> refine AffV.all hb ?_ ?_ ?_ ?_ <;> exact ⟨affs_of rfl, affs_of rfl⟩
theorem paN_led {a b : D} (ha : AffV a) (hb : AffV b) (v w : D) : ledD v (paN a b).1 = ledD v (pa a b).1 ∧ ledD w (paN a b).2 = ledD w (pa a b).2 := by
 refine AffV.all ha ?_ ?_ ?_ ?_ <;> refine AffV.all hb ?_ ?_ ?_ ?_ <;> exact ⟨rfl, rfl⟩
section
variable {C : Ora} {ρ : Loc} {N Kk : Loc → Sto → Prop} {R : D → Sto → Prop} {x z : WS} {e f : WE} {d : D} {j : Nat} {as : List WE} {ds : List D} {inv : Sto → Prop}
theorem Zde (h : Ev e C ρ σ .none) (k : Ev f C ρ σ d) : Ev (wOr oTr e f) C ρ σ d := fun Q q => by
 rw [e_Or]; exact h _ (k _ q)
theorem s_forT {t : WA} (h : EvL as C ρ σ ds) (k : sLoop t x (fun _ => True) C (fun ρ1 σ1 => z C ρ1 σ1 N R Kk) R ds ρ σ) : sSeq (sFor (wTup as) t x) z C ρ σ N R Kk := by
 rw [Y0, e_For]; exact Xp h _ k
theorem l_1 (k : x C (put ρ j d) σ (fun ρ2 σ2 => sLoop (aName j) x (fun _ => True) C N R ds ρ2 σ2) R N) : sLoop (aName j) x (fun _ => True) C N R (d :: ds) ρ σ := ⟨trivial, k⟩
theorem l_0 {t : WA} (k : N ρ σ) : sLoop t x (fun _ => True) C N R [] ρ σ := ⟨trivial, k⟩
end
theorem explicit {coll : Str} : ∀ (t : Tr) (n : Nat) (Q : D → Sto → Prop), t.dep + 1 ≤ n → Q .none σ → Cn n 450 [nod coll t] σ Q := by
 intro t
 induction t with
 | un op t ih =>
  intro n Q hn h
  obtain ⟨m, rfl⟩ : ∃ m, n = m + 1 := ⟨n - 1, by lia⟩
  refine en_450.mpr ?_
  exact Y4 (Yb rfl (by decide)) (Vf (Y1 rfl (by decide)) (Yj (Zy (Zc (Yr rfl (by decide) rfl) Zp) fun Q q => ih _ _ (Nat.le_of_succ_le_succ hn) q) h))
 | bin op x y ihx ihy =>
  intro n Q hn h
  obtain ⟨m, rfl⟩ : ∃ m, n = m + 1 := ⟨n - 1, by lia⟩
  have h2 := Nat.le_of_succ_le_succ hn
  have h3 : x.dep + 1 ≤ m := Nat.le_trans (Nat.succ_le_succ (Nat.le_max_left _ _)) h2
  have h4 : y.dep + 1 ≤ m := Nat.le_trans (Nat.succ_le_succ (Nat.le_max_right _ _)) h2
  refine en_450.mpr ?_
  exact Y4 (Yb rfl (by decide)) (Y4 (Yb rfl (by decide)) (Y4 (Yb rfl (by decide)) (Vf (Y1 rfl (by decide)) (Yj (Zde (Zy (Zc (Yr rfl (by decide) rfl) Zp) fun Q q => ihx _ _ h3 q) (Zy (Zc (Yr rfl (by decide) rfl) Zp) fun Q q => ihy _ _ h4 q)) h))))
 | _ =>
  intro n Q hn h
  obtain ⟨m, rfl⟩ : ∃ m, n = m + 1 := ⟨n - 1, by lia⟩
  refine en_450.mpr ?_
  exact Y4 (Yb rfl (by decide)) (Y4 (Yb rfl (by decide)) (Y4 (Yb rfl (by decide)) (Y4 (Yb rfl (by decide)) h)))
noncomputable def ccT (coll : Str) : Tr → D
 | .col i => .str (if i = 1 then coll else "binary")
 | _ => .none
theorem coll_n {c : Option Int} {coll : Str} : collP none c coll = collP c none coll := by cases c <;> rfl
theorem ccT_none {coll : Str} {t : Tr} (h : colT t = none) : ccT coll t = .none := by cases t <;> first | rfl | cases h
theorem Zd7 {coll : Str} {t : Tr} (hw : Wf t) (h : Q (ccT coll t) σ) : Cn (n + 1) 457 [nod coll t] σ Q := by
 refine en_457.mpr ?_
 cases t with
 | col i => exact Vf (Y1 rfl (by decide)) (Yj (Yr rfl (by decide) rfl) h)
 | un op t =>
  refine Y4 (Yb rfl (by decide)) (Y4 (Yb rfl (by decide)) (Y4 (Xh (Y1 rfl (by decide)) (ti_eq (t := op) rfl (by decide) rfl ?_)) h))
  rcases hw.1 with rfl | rfl <;> rfl
 | _ => exact Y4 (Yb rfl (by decide)) (Y4 (Yb rfl (by decide)) (Y4 (Z3 (Yb rfl (by decide))) h))
noncomputable def CollOk (coll : Str) : Prop := coll = "binary" ∨ coll = "nocase"
theorem coll_len {coll : Str} (h : CollOk coll) : (coll.length : Int) < 9223372036854775808 ∧ ((coll.length : Int) != 0) = true := by
 rcases h with rfl | rfl <;> decide +kernel
theorem Zfo {coll : Str} {t : Tr} {C : Ora} {ρ : Loc} {v : WE} (hc : CollOk coll) (h : Ev v C ρ σ (ccT coll t)) : Ev (wOr oTr v (wS "binary")) C ρ σ (.str (collP (colT t) none coll)) := fun Q k => by
 rw [e_Or]
 refine h _ ?_
 cases t with
 | col i =>
  have e : CollOk (if i = 1 then coll else "binary") := by split <;> first | exact hc | exact .inl rfl
  have := coll_len e
  refine ⟨this.1, ?_⟩
  rw [this.2]; exact k
 | _ => exact k
theorem coll_of {coll : Str} {t : Tr} (hc : CollOk coll) (hn : t.dep + 1 ≤ n) (hw : Wf t) (h : Q (.str (collP (colT t) none coll)) σ) : Cn (n + 1) 465 [nod coll t] σ Q := by
 obtain ⟨m, rfl⟩ : ∃ m, n = m + 1 := ⟨n - 1, by lia⟩
 refine en_465.mpr ?_
 exact Yj (Zde (Zy (Zc (Zn rfl) Zp) fun Q q => explicit t _ _ hn q) (Zfo hc (Zy (Zc (Zn rfl) Zp) fun Q q => Zd7 hw q))) h
theorem Zcp {coll : Str} {t u : Tr} (hc : CollOk coll) (hn : max t.dep u.dep + 1 ≤ n) (ht : Wf t) (hu : Wf u) (h : Q (.str (collP (colT t) (colT u) coll)) σ) : Cn (n + 1) 472 [nod coll t, nod coll u] σ Q := by
 obtain ⟨m, rfl⟩ : ∃ m, n = m + 1 := ⟨n - 1, by lia⟩
 have n1 : t.dep + 1 ≤ m + 1 := Nat.le_trans (Nat.succ_le_succ (Nat.le_max_left _ _)) hn
 have n2 : u.dep + 1 ≤ m + 1 := Nat.le_trans (Nat.succ_le_succ (Nat.le_max_right _ _)) hn
 refine en_472.mpr ?_
 refine s_forT (Zc (Zy (Zc (Zn rfl) Zp) fun Q q => explicit t _ _ n1 q) (Zc (Zy (Zc (Zn rfl) Zp) fun Q q => explicit u _ _ n2 q) (Zc (Zy (Zc (Zn rfl) Zp) fun Q q => Zd7 ht q) Zp))) ?_
 refine l_1 (Y4 (V4 (d := .none) (Zn rfl)) (Xx (l_1 (Y4 (V4 (d := .none) (Zn rfl)) (Xx (l_1 ?_))))))
 rcases col_or t with ⟨i, e⟩ | ⟨e, _, _⟩
 ·subst e
  exact Vf (V4 (d := ccT coll (.col i)) (Zn rfl)) (Yj (Zn rfl) h)
 ·rw [e] at h
  rw [ccT_none e]
  refine Y4 (V4 (d := .none) (Zn rfl)) (Xx (l_0 (Yj (Zfo hc (Zy (Zc (Zn rfl) Zp) fun Q q => Zd7 hu q)) ?_)))
  exact coll_n ▸ h
noncomputable def isC (op : Str) : Bool := Str.ofString "=" == op || (Str.ofString "<>" == op || (Str.ofString "<" == op || (Str.ofString "<=" == op || (Str.ofString ">" == op || (Str.ofString ">=" == op || (Str.ofString "is" == op || (Str.ofString "is not" == op || false)))))))
theorem isC_of {op : Str} {b : Bool} (ho : (b = true ∧ op ∈ Ops) ∨ (b = false ∧ op ∈ LA)) : isC op = b := by
 rcases ho with ⟨rfl, ho⟩ | ⟨rfl, ho⟩
 ·exact (by decide : ∀ op ∈ Ops, isC op = true) op ho
 ·exact (by decide : ∀ op ∈ LA, isC op = false) op ho
theorem Zbh {op : Str} {b : Bool} (ho : (b = true ∧ op ∈ Ops) ∨ (b = false ∧ op ∈ LA)) (h : Q (.bool b) σ) : Cn (n + 1) 479 [.str op] σ Q := by
 refine en_479.mpr (Yj (d := .bool (isC op)) (fun Q q => ?_) ((isC_of ho).symm ▸ h))
 rw [J5]
 refine Zn (d := .str op) rfl _ (Xp (Zc Y3 (Zc Y3 (Zc Y3 (Zc Y3 (Zc Y3 (Zc Y3 (Zc Y3 (Zc Y3 Zp)))))))) _ ?_)
 exact ⟨Nat.zero_le _, q⟩
noncomputable def oppO (op : Str) : Str := if op = "=" then "<>" else if op = "<>" then "=" else if op = "<" then ">=" else if op = "<=" then ">" else if op = ">" then "<=" else if op = ">=" then "<" else if op = "is" then "is not" else "is"
noncomputable def oppL : List (Str × D) := [("=", .str "<>"), ("<>", .str "="), ("<", .str ">="), ("<=", .str ">"), (">", .str "<="), (">=", .str "<"), ("is", .str "is not"), ("is not", .str "is")]
theorem Zhd {op : Str} (ho : op ∈ Ops) : slook oppL op = some (.str (oppO op)) := by
 refine Ops.all ho ?_ ?_ ?_ ?_ ?_ ?_ ?_ ?_ <;> rfl
theorem Zf5 {op : Str} (ho : op ∈ Ops) (h : Q (.str (oppO op)) σ) : Cn (n + 1) 486 [.str op] σ Q := by
 refine en_486.mpr (Yj (d := .str (oppO op)) (fun Q q => ?_) h)
 rw [Zhr]
 show (List.map (·.1) oppL).Nodup ∧ (match slook oppL op with | some d => Q d σ | none => False)
 rw [Zhd ho]
 exact ⟨by decide, q⟩
theorem oppO_mem {op : Str} (ho : op ∈ Ops) : oppO op ∈ Ops := (by decide : ∀ op ∈ Ops, oppO op ∈ Ops) op ho
theorem ordI_3 (coll : Str) (a b : D) : ordI coll a b = 0 ∨ ordI coll a b = 1 ∨ ordI coll a b = -1 := by
 unfold ordI
 generalize ord3 true _ _ _ _ _ _ = x
 generalize ord3 false _ _ _ _ _ _ = y
 cases x <;> cases y <;> decide
theorem cmpD_o {op : Str} {a b : D} {coll : Str} (h : (op == "is" || op == "is not") = false) : cmpD op a b coll = (if isN a || isN b then .none else b01 ((ordsOf op).contains (ordI coll a b))) := if_neg fun e => by
 rcases e with rfl | rfl <;> cases h
theorem Zdd {op op' : Str} {a b : D} {coll : Str} (h1 : (op == "is" || op == "is not") = false) (h2 : (op' == "is" || op' == "is not") = false) (hl : ∀ o ∈ [(0 : Int), 1, -1], (ordsOf op').contains o = !(ordsOf op).contains o) : cmpD op' a b coll = oppD (cmpD op a b coll) true := by
 rw [cmpD_o h1, cmpD_o h2, hl (ordI coll a b) (by rcases ordI_3 coll a b with e | e | e <;> rw [e] <;> decide)]
 cases isN a || isN b <;> cases (ordsOf op).contains (ordI coll a b) <;> rfl
theorem cmpD_is {a b : D} {coll : Str} : cmpD "is" a b coll = b01 (tEq coll a b) := (if_pos (.inl rfl)).trans (by cases tEq coll a b <;> rfl)
theorem cmpD_isn {a b : D} {coll : Str} : cmpD "is not" a b coll = b01 (!tEq coll a b) := (if_pos (.inr rfl)).trans (by cases tEq coll a b <;> rfl)
theorem cmpD_opp {op : Str} (ho : op ∈ Ops) (a b : D) (coll : Str) : cmpD (oppO op) a b coll = oppD (cmpD op a b coll) true := by
 refine Ops.all ho (Zdd rfl rfl (by decide)) (Zdd rfl rfl (by decide)) (Zdd rfl rfl (by decide)) (Zdd rfl rfl (by decide)) (Zdd rfl rfl (by decide)) (Zdd rfl rfl (by decide)) ?_ ?_
 ·show cmpD "is not" a b coll = oppD (cmpD "is" a b coll) true
  rw [cmpD_is, cmpD_isn]; cases tEq coll a b <;> rfl
 ·show cmpD "is" a b coll = oppD (cmpD "is not" a b coll) true
  rw [cmpD_is, cmpD_isn]; cases tEq coll a b <;> rfl
end
section
variable {C : Ora} {ρ : Loc} {σ : Sto} {N Kk : Loc → Sto → Prop} {R : D → Sto → Prop} {x y z : WS} {p q : WT} {b : Bool} {e f : WE} {d : D} {i : Nat}
end
noncomputable def Cmd (A : PA) (Z : Sto) (ps : PSt) (ρ : Loc) (σ : Sto) : Prop := nth ρ 0 = some (.inst 611 A.k) ∧ PI A Z ps σ ∧ CI A Z
section
variable {n : Nat} {A : PA} {Z : Sto} {ps : PSt} {C : Ora} {ρ : Loc} {σ : Sto} {N Kk : Loc → Sto → Prop} {R : D → Sto → Prop} {z : WS} {Q : D → Sto → Prop} {as : List WE} {ds : List D}
theorem prog_at (h : Cmd A Z ps ρ σ) : Ev (wAttr Zo "program" (wV 0)) C ρ σ (.inst 707 A.p) := fun Q q => by
 exact Zcy h.1 (h.2.1.k h.2.2) (by decide) rfl _ q
theorem Zfn {f : Addr} {name : Str} (h : Cmd A Z ps ρ σ) (hs : ∀ r l, slook (pAt A r l) name = none) (ha : EvL as C ρ σ ds) (k : C f (.inst 707 A.p :: ds) σ Q) : wMeth 707 f name (wAttr Zo "program" (wV 0)) as C ρ σ Q := by
 rw [Zcz]
 refine prog_at h _ ?_
 refine ⟨rfl, ?_⟩
 rw [h.2.1.p]
 exact ⟨hs _ _, ha _ k⟩
theorem X4 {f : Addr} {name : Str} (h : Cmd A Z ps ρ σ) (hs : slook (kAt A) name = none) (ha : EvL as C ρ σ ds) (k : C f (.inst 611 A.k :: ds) σ Q) : wMeth 611 f name (wV 0) as C ρ σ Q := by
 rw [Zcz, Zhq, h.1]
 refine ⟨rfl, ?_⟩
 rw [h.2.1.k h.2.2]
 exact ⟨hs, ha _ k⟩
theorem s_reg {j : Nat} (h : Cmd A Z ps ρ σ) (k : ∀ σ', PI A Z ps.reg σ' → z (Cn (n + 1)) (put ρ j (.int ps.regs)) σ' N R Kk) : sSeq (sAsg (wMeth 707 668 "register" (wAttr Zo "program" (wV 0)) []) (aName j)) z (Cn (n + 1)) ρ σ N R Kk := by
 rw [Y0, V1]
 exact Zfn h (fun _ _ => rfl) Zp (register1 h.2.1 k)
theorem Zfq {j : Nat} (h : Cmd A Z ps ρ σ) (k : ∀ σ', PI A Z ps.lbl σ' → z (Cn (n + 1)) (put ρ j (.int ps.nl)) σ' N R Kk) : sSeq (sAsg (wMeth 707 653 "label" (wAttr Zo "program" (wV 0)) []) (aName j)) z (Cn (n + 1)) ρ σ N R Kk := by
 rw [Y0, V1]
 exact Zfn h (fun _ _ => rfl) Zp (label h.2.1 k)
theorem Zfz {i : Nat} {l : Int} (h : Cmd A Z ps ρ σ) (hi : nth ρ i = some (.int l)) (h0 : l < 0) (h1 : ps.nl < l) (h2 : lk ps.labs l = none) (h3 : ps.sz ≤ 90000) (k : ∀ σ', PI A Z (ps.plc l) σ' → z (Cn (n + 1)) ρ σ' N R Kk) : sSeq (sExpr (wMeth 707 660 "place" (wAttr Zo "program" (wV 0)) [(wV i)])) z (Cn (n + 1)) ρ σ N R Kk := by
 refine Xc ?_
 exact Zfn h (fun _ _ => rfl) (Zc (Zn hi) Zp) (place h.2.1 h0 h1 h2 h3 k)
theorem V5 {i : Ins} (h : Cmd A Z ps ρ σ) (ha : EvL as (Cn (n + 1)) ρ σ ds) (hd : bindD 6 [.int 0, .int 0, .int 0, .none] (.inst 707 A.p :: ds) = some (.inst 707 A.p :: insD i)) (h3 : ps.sz ≤ 90000) (k : ∀ σ', PI A Z (ps.add i) σ' → z (Cn (n + 1)) ρ σ' N R Kk) : sSeq (sExpr (wMeth 707 639 "add" (wAttr Zo "program" (wV 0)) as)) z (Cn (n + 1)) ρ σ N R Kk := by
 refine Xc ?_
 exact Zfn h (fun _ _ => rfl) ha (add_ hd h.2.1 h3 fun r σ' h' => k σ' h')
end
noncomputable def zz : Nat → Nat
 | 0 => 1
 | k + 1 => 3 * zz k + 30
theorem zz_1 : ∀ k, 1 ≤ zz k
 | 0 => Nat.le_refl _
 | k + 1 => by simp only [zz]; lia
theorem zz_s (k : Nat) : zz k ≤ zz (k + 1) := by simp only [zz]; lia
theorem Kq {k l : Nat} (h : k ≤ l) : zz k ≤ zz l := by
 induction h with
 | refl => exact Nat.le_refl _
 | step _ ih => exact Nat.le_trans ih (zz_s _)
section
variable (A : PA) (Z : Sto) (coll : Str) (r : Int → D)
noncomputable def ExS (t : Tr) (n : Nat) : Prop := ∀ (ps : PSt) (σ : Sto) (Q : D → Sto → Prop), PI A Z ps σ → WfP ps → ps.sz + zz t.dep ≤ 5000 →
 (∀ ps' σ', PI A Z ps' σ' → ExOk r (fv coll r t) ps.regs (zz t.dep) ps.reg ps' → Q (.int ps.regs) σ') → Cn n 508 [.inst 611 A.k, nod coll t] σ Q
noncomputable def ExI (t : Tr) (n : Nat) : Prop := ∀ (g : Int) (ps : PSt) (σ : Sto) (Q : D → Sto → Prop), PI A Z ps σ → WfP ps → ps.sz + zz t.dep ≤ 5000 → 5 ≤ g → g < ps.regs →
 (∀ ps' σ', PI A Z ps' σ' → ExOk r (fv coll r t) g (zz t.dep) ps ps' → Q (.int g) σ') → Cn n 508 [.inst 611 A.k, nod coll t, .int g] σ Q
noncomputable def ExB (t : Tr) (n : Nat) : Prop := ∀ (into : D) (g : Int) (ps : PSt) (σ : Sto) (N Kk : Loc → Sto → Prop) (Q : D → Sto → Prop), PI A Z ps σ → WfP ps → ps.sz + zz t.dep ≤ 5000 → 5 ≤ g → g < ps.regs →
 (∀ ps' σ', PI A Z ps' σ' → ExOk r (fv coll r t) g (zz t.dep) ps ps' → Q (.int g) σ') → Zck (Cn n) [some (.inst 611 A.k), some (nod coll t), some into, some (.int g), none] σ N Q Kk
noncomputable def JiS (t : Tr) (n : Nat) : Prop := ∀ (l : Int) (u : Bool) (ps : PSt) (σ : Sto) (Q : D → Sto → Prop), PI A Z ps σ → WfP ps → ps.sz + zz t.dep + 1 ≤ 5000 → l < 0 →
 (∀ ps' σ', PI A Z ps' σ' → JmpOk r (tru (trueD (fv coll r t)) true u) l (zz t.dep + 1) ps ps' → Q .none σ') → Cn n 586 [.inst 611 A.k, nod coll t, .int l, .bool u] σ Q
noncomputable def JuS (t : Tr) (n : Nat) : Prop := ∀ (l : Int) (u : Bool) (ps : PSt) (σ : Sto) (Q : D → Sto → Prop), PI A Z ps σ → WfP ps → ps.sz + zz t.dep + 1 ≤ 5000 → l < 0 →
 (∀ ps' σ', PI A Z ps' σ' → JmpOk r (tru (trueD (fv coll r t)) false u) l (zz t.dep + 1) ps ps' → Q .none σ') → Cn n 594 [.inst 611 A.k, nod coll t, .int l, .bool u] σ Q
end
section
variable {n : Nat} {σ : Sto} {Q : D → Sto → Prop} {a b c d e : D} {k : Addr}
theorem en_508 : Cn (n + 1) 508 [.inst 611 k, a] σ Q = Zf7 (Cn n) [some (.inst 611 k), some a, some .none, none, none] σ (fun _ σ' => Q .none σ') Q (fun _ _ => False) := Z1 (F := F_508) (full := [.inst 611 k, a, .none]) rfl rfl
theorem en_508i : Cn (n + 1) 508 [.inst 611 k, a, b] σ Q = Zf7 (Cn n) [some (.inst 611 k), some a, some b, none, none] σ (fun _ σ' => Q .none σ') Q (fun _ _ => False) := Z1 (F := F_508) (full := [.inst 611 k, a, b]) rfl rfl
theorem en_529 : Cn (n + 1) 529 [.inst 611 k, a, b, c] σ Q = W_529 (Cn n) [some (.inst 611 k), some a, some b, some c, none, none] σ (fun _ σ' => Q .none σ') Q (fun _ _ => False) := Z1 (F := F_529) (full := [.inst 611 k, a, b, c]) rfl rfl
theorem en_536 : Cn (n + 1) 536 [.inst 611 k, a, b] σ Q = W_536 (Cn n) [some (.inst 611 k), some a, some b, none, none, none, none] σ (fun _ σ' => Q .none σ') Q (fun _ _ => False) := Z1 (F := F_536) (full := [.inst 611 k, a, b]) rfl rfl
theorem en_543 : Cn (n + 1) 543 [.inst 611 k, a, b, c, d, e] σ Q = W_543 (Cn n) [some (.inst 611 k), some a, some b, some c, some d, some e, none, none, none] σ (fun _ σ' => Q .none σ') Q (fun _ _ => False) := Z1 (F := F_543) (full := [.inst 611 k, a, b, c, d, e]) rfl rfl
theorem en_550 : Cn (n + 1) 550 [.inst 611 k, a, b] σ Q = W_550 (Cn n) [some (.inst 611 k), some a, some b, none, none, none] σ (fun _ σ' => Q .none σ') Q (fun _ _ => False) := Z1 (F := F_550) (full := [.inst 611 k, a, b]) rfl rfl
theorem en_557 : Cn (n + 1) 557 [.inst 611 k, a, b] σ Q = W_557 (Cn n) [some (.inst 611 k), some a, some b] σ (fun _ σ' => Q .none σ') Q (fun _ _ => False) := Z1 (F := F_557) (full := [.inst 611 k, a, b]) rfl rfl
theorem en_564 : Cn (n + 1) 564 [.inst 611 k, a, b] σ Q = W_564 (Cn n) [some (.inst 611 k), some a, some b, none, none] σ (fun _ σ' => Q .none σ') Q (fun _ _ => False) := Z1 (F := F_564) (full := [.inst 611 k, a, b]) rfl rfl
theorem en_571 : Cn (n + 1) 571 [.inst 611 k, a, b] σ Q = W_571 (Cn n) [some (.inst 611 k), some a, some b, none, none, none, none, none, none] σ (fun _ σ' => Q .none σ') Q (fun _ _ => False) := Z1 (F := F_571) (full := [.inst 611 k, a, b]) rfl rfl
theorem en_578 : Cn (n + 1) 578 [.inst 611 k, a, b] σ Q = W_578 (Cn n) [some (.inst 611 k), some a, some b, none, none, none, none, none, none, none, none] σ (fun _ σ' => Q .none σ') Q (fun _ _ => False) := Z1 (F := F_578) (full := [.inst 611 k, a, b]) rfl rfl
theorem en_586 : Cn (n + 1) 586 [.inst 611 k, a, b, c] σ Q = W_586 (Cn n) [some (.inst 611 k), some a, some b, some c, none, none] σ (fun _ σ' => Q .none σ') Q (fun _ _ => False) := Z1 (F := F_586) (full := [.inst 611 k, a, b, c]) rfl rfl
theorem en_594 : Cn (n + 1) 594 [.inst 611 k, a, b, c] σ Q = W_594 (Cn n) [some (.inst 611 k), some a, some b, some c, none, none] σ (fun _ σ' => Q .none σ') Q (fun _ _ => False) := Z1 (F := F_594) (full := [.inst 611 k, a, b, c]) rfl rfl
theorem en_601 : Cn (n + 1) 601 [.inst 611 k, a, b, c, d] σ Q = W_601 (Cn n) [some (.inst 611 k), some a, some b, some c, some d, none, none, none, none] σ (fun _ σ' => Q .none σ') Q (fun _ _ => False) := Z1 (F := F_601) (full := [.inst 611 k, a, b, c, d]) rfl rfl
theorem en_608 : Cn (n + 1) 608 [.inst 611 k, a, b, c] σ Q = W_608 (Cn n) [some (.inst 611 k), some a, some b, some c, none] σ (fun _ σ' => Q .none σ') Q (fun _ _ => False) := Z1 (F := F_608) (full := [.inst 611 k, a, b, c]) rfl rfl
end
section
variable {n : Nat} {A : PA} {Z : Sto} {ps : PSt} {ρ : Loc} {σ : Sto} {N Kk : Loc → Sto → Prop} {R : D → Sto → Prop} {z : WS} {Q : D → Sto → Prop} {coll : Str} {r : Int → D} {t : Tr}
theorem Zgv {j : Nat} {e : WE} (h : Cmd A Z ps ρ σ) (he : Ev e (Cn n) ρ σ (nod coll t)) (x : ExS A Z coll r t n) (w : WfP ps) (hb : ps.sz + zz t.dep ≤ 5000) (k : ∀ ps' σ', PI A Z ps' σ' → ExOk r (fv coll r t) ps.regs (zz t.dep) ps.reg ps' → z (Cn n) (put ρ j (.int ps.regs)) σ' N R Kk) : sSeq (sAsg (wMeth 611 508 "expression" (wV 0) [e]) (aName j)) z (Cn n) ρ σ N R Kk := by
 rw [Y0, V1]
 exact X4 h rfl (Zc he Zp) (x ps σ _ h.2.1 w hb k)
theorem s_exi {g : Int} {e f : WE} (h : Cmd A Z ps ρ σ) (he : Ev e (Cn n) ρ σ (nod coll t)) (hf : Ev f (Cn n) ρ σ (.int g)) (x : ExI A Z coll r t n) (w : WfP ps) (hb : ps.sz + zz t.dep ≤ 5000) (h1 : 5 ≤ g) (h2 : g < ps.regs) (k : ∀ ps' σ', PI A Z ps' σ' → ExOk r (fv coll r t) g (zz t.dep) ps ps' → z (Cn n) ρ σ' N R Kk) : sSeq (sExpr (wMeth 611 508 "expression" (wV 0) [e, f])) z (Cn n) ρ σ N R Kk := by
 refine Xc ?_
 exact X4 h rfl (Zc he (Zc hf Zp)) (x g ps σ _ h.2.1 w hb h1 h2 k)
theorem ExB.s (c : CI A Z) (x : ExB A Z coll r t (n + 1)) : ExS A Z coll r t (n + 2) := fun ps σ Q h w hb k => by
 refine en_508.mpr ?_
 have w' := (Seg.reg [] ps).wf w
 rw [Zf7, Y0, V1]
 refine (Y2 (Zn rfl) : Ti _ (Cn (n + 1)) _ σ (isNoneD .none)) _ ?_
 refine Zfn ⟨rfl, h, c⟩ (fun _ _ => rfl) Zp (register1 h fun σ' h' => ?_)
 exact x .none ps.regs ps.reg σ' _ _ _ h' w' hb w.regs (by simp; lia) k
theorem ExB.i (x : ExB A Z coll r t (n + 1)) : ExI A Z coll r t (n + 2) := fun g ps σ Q h w hb h1 h2 k => by
 refine en_508i.mpr ?_
 rw [Zf7, Y0, V1]
 refine (Y2 (Zn rfl) : Ti _ (Cn (n + 1)) _ σ (isNoneD (.int g))) _ ?_
 exact x (.int g) g ps σ _ _ _ h w hb h1 h2 k
end
theorem Fin.of_add {code lb} {ps : PSt} {i : Ins} (f : Fin code lb (ps.add i)) : Fin code lb ps := by
 obtain ⟨t, et⟩ := f.ops
 exact ⟨⟨i :: t, by rw [et]; simp [PSt.add]⟩, f.labs⟩
theorem Fin.of_reg {code lb} {ps : PSt} (f : Fin code lb ps.reg) : Fin code lb ps := ⟨f.ops, f.labs⟩
theorem Fin.of_lbl {code lb} {ps : PSt} (f : Fin code lb ps.lbl) : Fin code lb ps := ⟨f.ops, f.labs⟩
theorem Fin.step {code lb} {ps : PSt} {i : Ins} {h h' : H} (f : Fin code lb (ps.add i)) (hr : Rd h i) (e : nxt lb ps.len h i = (ps.len + 1, h')) : Path code lb ps.len h (ps.add i).len h' := by
 rw [add_len]; exact Path.one f.get hr e (Nat.lt_succ_self _)
theorem Fin.jump {code lb} {ps : PSt} {i : Ins} {h h' : H} {pc' : Nat} (f : Fin code lb (ps.add i)) (hr : Rd h i) (e : nxt lb ps.len h i = (pc', h')) (lt : ps.len < pc') : Path code lb ps.len h pc' h' := Path.one f.get hr e lt
theorem Seg.addN {L : List Int} {ps : PSt} {i : Ins} (h : labOf i = none) : Seg L 1 ps (ps.add i) := Seg.add fun l e => by rw [h] at e; cases e
theorem Kp {v : D} (h : IsT v) : trueD v = v := by cases h <;> rfl
section
variable {n : Nat} {A : PA} {Z : Sto} {σ : Sto} {Q : D → Sto → Prop} {coll : Str} {r : Int → D} {ps : PSt}
theorem J6 {C : Ora} {ρ : Loc} {N Kk : Loc → Sto → Prop} {g : Int} (h3 : nth ρ 3 = some (.int g)) (k : Q (.int g) σ) : W_508_2 C ρ σ N Q Kk := Yj (Zn h3) k
theorem ex_val {v : D} (c : CI A Z) : ExB A Z coll r (.val v) (n + 1) := fun into g ps σ N Kk Q h w hb h1 h2 k => by
 refine Vf (Y1 rfl (by decide)) ?_
 refine V5 ⟨rfl, h, c⟩ (i := .value g v) (Zc Y3 (Zc Yw (Zc (Zn rfl) (Zc Yw (Zc (Yr rfl (by decide) rfl) Zp))))) rfl (by lia) fun σ' h' => ?_
 simp only [Jj]
 refine J6 rfl (k _ _ h' ⟨Seg.addN rfl, fun code lb hh F hr => ?_⟩)
 exact ⟨_, F.step trivial rfl, Yx .., fun x _ hx => X2 _ _ hx⟩
theorem pick_02 (x y : D) : tPick [x, y] none (some 2) = [x, y] := by
 unfold tPick
 have e : (([x, y] : List D).length : Int) = 2 := rfl
 have e2 : Builtin.Slice.sliceAdjust none (some 2) 1 2 = (0, 2) := by decide
 have e3 : Builtin.Slice.slicePlaces 0 2 1 = 2 := by decide
 rw [e, e2]
 dsimp only
 rw [e3]
 rfl
theorem ev_md {C : Ora} {ρ : Loc} {e f : WE} {a : Addr} {g : Nat} {l : List (Int × D)} {x : Int} {d : D} (h : Ev e C ρ σ (.mdic a)) (h2 : Ev f C ρ σ (.int x)) (hs : σ a = some (.dict g l)) (hz : zlook l x = some d) : Ev (w2 gItem e f) C ρ σ d := fun Q q => by
 rw [Zhr]
 refine h _ (h2 _ ?_)
 show (match σ a with | some (.dict _ l) => (match zlook l x with | some d => Q d σ | none => False) | _ => False)
 rw [hs]; dsimp only; rw [hz]; exact q
theorem ev_dici {C : Ora} {ρ : Loc} {e f : WE} {l : List (Int × D)} {x : Int} {d : D} (h : Ev e C ρ σ (.dici l)) (h2 : Ev f C ρ σ (.int x)) (hz : zlook l x = some d) : Ev (w2 gItem e f) C ρ σ d := fun Q q => by
 rw [Zhr]
 refine h _ (h2 _ ?_)
 show (match zlook l x with | some d => Q d σ | none => False)
 rw [hz]; exact q
theorem ti_nin {C : Ora} {ρ : Loc} {e f : WE} {b : Bool} (h : Ti (tCmp gIn e f) C ρ σ b) : Ti (tCmp gNotIn e f) C ρ σ (!b) := fun T k => by
 have := h (fun b σ => T (!b) σ) k
 rw [Ys] at this ⊢
 exact this
theorem column {i g : Int} (c : CI A Z) (h : PI A Z ps σ) (hi : Cols i) (hb : ps.sz ≤ 5000) (k : ∀ σ', PI A Z (ps.add (.copy (i + 2) g)) σ' → Q .none σ') : Cn (n + 2) 529 [.inst 611 A.k, .int 4, .int i, .int g] σ Q := by
 obtain ⟨e, d, hB, hd⟩ := c.b
 refine en_529.mpr ?_
 have fin : ∀ x y : D, d = .tup [x, y] → Ev (wIf (tCmp oEq (wV 4) (wS "map")) (w2 gItem (wV 5) (wV 2)) (w2 oAdd (wV 5) (wV 2))) (Cn (n + 1)) (put (put [some (.inst 611 A.k), some (.int 4), some (.int i), some (.int g), none, none] 4 x) 5 y) σ (.int (i + 2)) →
   W_529 (Cn (n + 1)) [some (.inst 611 A.k), some (.int 4), some (.int i), some (.int g), none, none] σ (fun _ σ' => Q .none σ') Q (fun _ _ => False) := fun x y ed ha => by
  have B : Ev (w2 gItem (wAttr Ve "bindings" (wV 0)) (wV 1)) (Cn (n + 1)) [some (.inst 611 A.k), some (.int 4), some (.int i), some (.int g), none, none] σ (.tup [x, y]) := ev_md (Zcy rfl (h.k c) (by decide) rfl) (Zn rfl) (h.z _ _ hB) (congrArg some ed)
  have S := Zeg B Zah (Yw (k := 2)) rfl rfl (Nat.le_of_ble_eq_true rfl)
  rw [pick_02] at S
  exact s_tup2 S (V5 ⟨rfl, h, c⟩ (i := .copy (i + 2) g) (Zc Y3 (Zc ha (Zc (Zn rfl) (Zc Yw Zp)))) rfl (Nat.le_trans hb (Nat.le_of_ble_eq_true rfl)) fun σ' h' => k _ h')
 rcases hd with rfl | rfl
 ·exact fin _ _ rfl (Vo (b := false) (Yk rfl (by decide)) (Int.add_comm 2 i ▸ ev_add (Zn rfl) (Zn rfl)))
 ·refine fin _ _ rfl (Vo (b := true) (Yk rfl (by decide)) (ev_dici (Zn rfl) (Zn rfl) ?_))
  rcases hi with rfl | rfl | rfl | rfl <;> rfl
theorem ex_col {i : Int} (c : CI A Z) (hi : Cols i) : ExB A Z coll r (.col i) (n + 2) := fun into g ps σ N Kk Q h w hb h1 h2 k => by
 refine Yg (Yb rfl (by decide)) ?_
 refine Yg (Yb rfl (by decide)) ?_
 refine Vf (Y1 rfl (by decide)) ?_
 obtain ⟨e, d, hB, hd⟩ := c.b
 have hB' := h.z _ _ hB
 refine Y4 (X6 rfl (ti_nin (ti_ind (Yr (d := .int 4) rfl (by decide) rfl) (Zcy rfl (h.k c) (by decide) rfl) hB'))) ?_
 refine Xc ?_
 refine X4 ⟨rfl, h, c⟩ rfl (Zc (Yr (d := .int 4) rfl (by decide) rfl) (Zc (Yr (d := .int i) rfl (by decide) rfl) (Zc (Zn rfl) Zp))) ?_
 refine column c h hi (by lia) fun σ' h' => ?_
 simp only [Jj]
 refine J6 rfl (k _ _ h' ⟨Seg.addN rfl, fun code lb hh F hr => ?_⟩)
 exact ⟨_, F.step trivial rfl, (Yx ..).trans (hr i hi), fun x _ hx => X2 _ _ hx⟩
theorem ex_un {op : Str} {t : Tr} (c : CI A Z) (ho : op = "not" ∨ op = "-") (hv : IsV (fv coll r t)) (x : ExS A Z coll r t (n + 1)) : ExB A Z coll r (.un op t) (n + 1) := fun into g ps σ N Kk Q h w hb h1 h2 k => by
 simp only [Tr.dep, zz] at hb k
 refine Yg (Yb rfl (by decide)) ?_
 refine Yg (Yb rfl (by decide)) ?_
 refine Yg (Yb rfl (by decide)) ?_
 refine Vf (Y1 rfl (by decide)) ?_
 refine Zgv ⟨rfl, h, c⟩ (Yr rfl (by decide) rfl) x w (by lia) fun ps1 σ1 g1 x1 => ?_
 have z1 := x1.sg.sz
 simp at z1
 refine V5 ⟨rfl, g1, c⟩ (i := .una ps.regs g op) (Zc Y3 (Zc (Zn rfl) (Zc (Zn rfl) (Zc Yw (Zc (Yr rfl (by decide) rfl) Zp))))) rfl (by lia) fun σ' h' => ?_
 simp only [Jj]
 refine J6 rfl (k _ _ h' ⟨((Seg.reg [] ps).trans (x1.sg.trans (Seg.addN rfl))).to (by lia) fun _ h => h, fun code lb hh F hr => ?_⟩)
 obtain ⟨h1', p1, e1, k1⟩ := x1.run code lb hh F.of_add hr
 refine ⟨_, p1.trans (F.step ⟨by rw [e1]; exact hv, ho⟩ rfl), ?_, fun y hy hn => ?_⟩
 ·rw [Yx, e1]; rfl
 ·rw [X2 _ _ hn]; exact k1 y (by simp; lia) (by lia)
end
noncomputable def PSt.neg (ps : PSt) (g : Int) (b : Bool) : PSt := if b then ps.add (.una g g "not") else ps
theorem Zeo (L : List Int) (ps : PSt) (g : Int) (b : Bool) : Seg L 1 ps (ps.neg g b) := by
 cases b
 ·exact (Seg.refl L ps).to (by decide) fun _ h => h
 ·exact Seg.addN rfl
theorem neg_run {code lb} {ps : PSt} {g : Int} {b : Bool} {h : H} (F : Fin code lb (ps.neg g b)) (ht : IsT (h g)) : ∃ h', Path code lb ps.len h (ps.neg g b).len h' ∧ h' g = oppD (h g) b ∧ ∀ x, x ≠ g → h' x = h x := by
 cases b
 ·exact ⟨h, .nil, rfl, fun _ _ => rfl⟩
 ·refine ⟨_, F.step ⟨ht.v, .inl rfl⟩ rfl, ?_, fun x hx => X2 _ _ hx⟩
  rw [Yx, if_pos rfl, Kp ht]
section
variable {n : Nat} {A : PA} {Z : Sto} {σ : Sto} {Q : D → Sto → Prop} {coll : Str} {r : Int → D} {ps : PSt}
theorem negate {g : Int} {b : Bool} (c : CI A Z) (h : PI A Z ps σ) (hb : ps.sz ≤ 5010) (k : ∀ σ', PI A Z (ps.neg g b) σ' → Q .none σ') : Cn (n + 2) 557 [.inst 611 A.k, .int g, .bool b] σ Q := by
 refine en_557.mpr ?_
 cases b
 ·refine Y4 (X9 (Zn rfl)) ?_
  exact k _ h
 ·refine Vf (X9 (Zn rfl)) ?_
  refine V5 ⟨rfl, h, c⟩ (i := .una g g "not") (Zc Y3 (Zc (Zn rfl) (Zc (Zn rfl) (Zc Yw (Zc Y3 Zp))))) rfl (by lia) fun σ' h' => ?_
  exact k _ h'
structure CmpOk (r : Int → D) (v : D → D) (s tg : Int) (z : Nat) (ps ps' : PSt) : Prop where
 sg : Seg [] z ps ps'
 run : ∀ code lb h, Fin code lb ps' → RowOk r h → IsV (h s) → ∃ h', Path code lb ps.len h ps'.len h' ∧ h' tg = v (h s) ∧ ∀ x, x < ps.regs → x ≠ tg → h' x = h x
theorem Wf.cols {t : Tr} (h : Wf t) : ∀ i, t = .col i → Cols i := fun i e => by subst e; exact h
theorem pair_eq {op : Str} {t u : Tr} {v w : D} (ht : Wf t) (hu : Wf u) : cmpD op (ledD v (paN (affT t) (affT u)).1) (ledD w (paN (affT t) (affT u)).2) (collP (colT t) (colT u) coll) = pairD op t (some u) v w coll := by
 have := paN_led (Xy ht.cols) (Xy hu.cols) v w
 unfold pairD
 rw [this.1, this.2]; rfl
theorem ev_affs {ρ : Loc} {i j : Nat} {t u : Tr} (ht : Wf t) (hu : Wf u) (h1 : nth ρ i = some (nod coll t)) (h2 : nth ρ j = some (nod coll u)) : Ev (wCall 430 [(wCall 443 [(wV i)]), (wCall 443 [(wV j)])]) (Cn (n + 1)) ρ σ (.tup [(paN (affT t) (affT u)).1, (paN (affT t) (affT u)).2]) :=
 Zy (Zc (Zy (Zc (Zn h1) Zp) fun Q q => affinity_of q) (Zc (Zy (Zc (Zn h2) Zp) fun Q q => affinity_of q) Zp)) fun Q q => Zb6 (Xy ht.cols) (Xy hu.cols) q
theorem Zcr {op : Str} {t u : Tr} {s tg : Int} (c : CI A Z) (hc : CollOk coll) (hn : max t.dep u.dep + 3 ≤ n) (ht : Wf t) (hu : Wf u) (ho : op ∈ Ops) (hv : IsV (fv coll r u)) (x : ExS A Z coll r u n) (h : PI A Z ps σ) (w : WfP ps) (hb : ps.sz + zz u.dep + 1 ≤ 5000) (h1 : s < ps.regs) (h2 : 5 ≤ tg) (h3 : tg < ps.regs)
  (k : ∀ ps' σ', PI A Z ps' σ' → CmpOk r (fun v => pairD op t (some u) v (fv coll r u) coll) s tg (zz u.dep + 1) ps ps' → Q .none σ') : Cn (n + 1) 543 [.inst 611 A.k, .str op, nod coll t, .int s, nod coll u, .int tg] σ Q := by
 obtain ⟨m, rfl⟩ : ∃ m, n = m + 1 := ⟨n - 1, by lia⟩
 refine en_543.mpr ?_
 refine Zgv ⟨rfl, h, c⟩ (Zn rfl) x w (by lia) fun ps1 σ1 g1 x1 => ?_
 have z1 := x1.sg.sz
 simp at z1
 refine Yo (ev_affs ht hu rfl rfl) ?_
 refine Yo (Xp (Zc (Zn rfl) (Zc (Zy (Zc (Zn rfl) (Zc (Zn rfl) Zp)) fun Q q => Zcp hc (by lia) ht hu q) (Zc (Zn rfl) Zp)))) ?_
 refine V5 ⟨rfl, g1, c⟩ (i := .cmp s ps.regs tg op (collP (colT t) (colT u) coll) (paN (affT t) (affT u)).1 (paN (affT t) (affT u)).2) (Zc Y3 (Zc (Zn rfl) (Zc (Zn rfl) (Zc (Zn rfl) (Zc (Zn rfl) Zp))))) rfl (by lia) fun σ' h' => ?_
 refine k _ _ h' ⟨((Seg.reg [] ps).trans (x1.sg.trans (Seg.addN rfl))).to (by lia) fun _ h => h, fun code lb hh F hr hs => ?_⟩
 obtain ⟨h1', p1, e1, k1⟩ := x1.run code lb hh F.of_add hr
 have es : h1' s = hh s := k1 s (by simp; lia) (by lia)
 have hp := paN_ok (Xy ht.cols) (Xy hu.cols)
 refine ⟨_, p1.trans (F.step ⟨by rw [es]; exact hs, by rw [e1]; exact hv, ho, hp.1, hp.2⟩ rfl), ?_, fun y hy hn => ?_⟩
 ·rw [Yx, e1, es]; exact pair_eq ht hu
 ·rw [X2 _ _ hn]; exact k1 y (by simp; lia) (by lia)
theorem ex_nul {t : Tr} {ng : Bool} (c : CI A Z) (x : ExS A Z coll r t (n + 1)) : ExB A Z coll r (.nul t ng) (n + 2) := fun into g ps σ N Kk Q h w hb h1 h2 k => by
 simp only [Tr.dep, zz] at hb k
 refine Yg (Yb rfl (by decide)) ?_
 refine Yg (Yb rfl (by decide)) ?_
 refine Yg (Yb rfl (by decide)) ?_
 refine Yg (Yb rfl (by decide)) ?_
 refine Yg (Yb rfl (by decide)) ?_
 refine Yg (Yb rfl (by decide)) ?_
 refine Yg (Yb rfl (by decide)) ?_
 refine Vf (Y1 rfl (by decide)) ?_
 refine Xc ?_
 refine X4 ⟨rfl, h, c⟩ rfl (Zc (Zn rfl) (Zc (Zn rfl) Zp)) ?_
 refine en_564.mpr ?_
 refine Zgv ⟨rfl, h, c⟩ (Yr rfl (by decide) rfl) x w (by lia) fun ps1 σ1 g1 x1 => ?_
 have z1 := x1.sg.sz
 simp at z1
 have w1 := x1.sg.wf ((Seg.reg [] ps).wf w)
 refine Zfq ⟨rfl, g1, c⟩ fun σ2 g2 => ?_
 have neg_at : ∀ (ρ : Loc) (σ : Sto), nth ρ 1 = some (nod coll (.nul t ng)) → Ti (tOf oTr (wAttr Vh "negated" (wV 1))) (Cn (n + 1)) ρ σ ng := fun ρ σ e => X9 (Yr e (by decide) rfl)
 have iv1 : ∀ (b : Bool), (if b then wI 0 else wI 1) = wI (if b then 0 else 1) := fun b => by cases b <;> rfl
 have iv2 : ∀ (b : Bool), (if b then wI 1 else wI 0) = wI (if b then 1 else 0) := fun b => by cases b <;> rfl
 refine V5 ⟨rfl, g2, c⟩ (i := .value g (.int (if ng then 0 else 1))) (Zc Y3 (Zc Yw (Zc (Zn rfl) (Zc Yw (Zc (Vo (neg_at _ _ rfl) (by rw [iv1]; exact Yw)) Zp))))) rfl (by simp; lia) fun σ3 g3 => ?_
 refine V5 ⟨rfl, g3, c⟩ (i := .isn ps.regs ps1.nl) (Zc Y3 (Zc (Zn rfl) (Zc (Zn rfl) Zp))) rfl (by simp; lia) fun σ4 g4 => ?_
 refine V5 ⟨rfl, g4, c⟩ (i := .value g (.int (if ng then 1 else 0))) (Zc Y3 (Zc Yw (Zc (Zn rfl) (Zc Yw (Zc (Vo (neg_at _ _ rfl) (by rw [iv2]; exact Yw)) Zp))))) rfl (by simp; lia) fun σ5 g5 => ?_
 have sg : Seg [ps1.nl] 3 ps1.lbl (((ps1.lbl.add (.value g (.int (if ng then 0 else 1)))).add (.isn ps.regs ps1.nl)).add (.value g (.int (if ng then 1 else 0)))) :=
  (Seg.addN rfl).trans ((Seg.add (fun l e => by cases e; exact ⟨w1.nl, by simp⟩)).trans (Seg.addN rfl))
 have fr := sg.fresh w1
 refine Zfz ⟨rfl, g5, c⟩ rfl w1.nl sg.below fr (by simp; lia) fun σ6 g6 => ?_
 simp only [Jj]
 have sg2 := (((Seg.lbl [ps1.nl] ps1).trans sg).close fr sg.below (Int.le_refl _))
 refine J6 rfl (k _ _ g6 ⟨((Seg.reg [] ps).trans (x1.sg.trans sg2)).to (by lia) fun _ h => h, fun code lb hh F hr => ?_⟩)
 have F3 := F.plc
 obtain ⟨h1', p1, e1, k1⟩ := x1.run code lb hh F3.of_add.of_add.of_add.of_lbl hr
 have el := F.lab fr
 have keep : ∀ (d : D) (y : Int), y < ps.regs → y ≠ g → hput h1' g d y = hh y := fun d y hy hn => by
  rw [X2 _ _ hn]; exact k1 y (by simp; lia) (by lia)
 have q1 := p1.trans (F3.of_add.of_add.step (h' := hput h1' g (.int (if ng then 0 else 1))) trivial rfl)
 have ev : hput h1' g (.int (if ng then 0 else 1)) ps.regs = fv coll r t := by rw [X2 _ _ (by lia)]; exact e1
 cases hn : isNoneD (fv coll r t) with
 | true =>
  have q2 := q1.trans (F3.of_add.jump (h' := hput h1' g (.int (if ng then 0 else 1))) (pc' := lb ps1.nl) trivial (by simp [nxt, ev, hn]) (by rw [el]; simp))
  rw [el] at q2
  refine ⟨_, q2, ?_, keep _⟩
  ·rw [Yx]
   show _ = D.int (if (isNoneD (fv coll r t) != ng) = true then 1 else 0)
   rw [hn]; cases ng <;> rfl
 | false =>
  have q2 := q1.trans (F3.of_add.step (h' := hput h1' g (.int (if ng then 0 else 1))) trivial (by simp [nxt, ev, hn]))
  refine ⟨_, q2.trans (F3.step trivial rfl), ?_, fun y hy hne => ?_⟩
  ·rw [Yx]
   show _ = D.int (if (isNoneD (fv coll r t) != ng) = true then 1 else 0)
   rw [hn]; cases ng <;> rfl
  ·rw [X2 _ _ hne]; exact keep _ y hy hne
end
section
variable {n : Nat} {A : PA} {Z : Sto} {σ : Sto} {Q : D → Sto → Prop} {coll : Str} {r : Int → D} {ps : PSt}
noncomputable def isLg (op : Str) : Bool := op == "and" || op == "or"
theorem ti_lg {op : Str} {C : Ora} {ρ : Loc} {i : Nat} {fs : List (Str × D)} (h : nth ρ i = some (.obj 226 fs)) (hf : slook fs "op" = some (.str op)) : Ti (tCmp gIn (wAttr U5 "op" (wV i)) (wTup [(wS "and"), (wS "or")])) C ρ σ (isLg op) := fun T k => by
 rw [Ys]
 refine Yr (d := .str op) h (by decide) hf _ ?_
 have e : isLg op = (Str.ofString "and" == op || (Str.ofString "or" == op || false)) := by
  unfold isLg
  rw [Bool.beq_comm (a := Str.ofString "and"), Bool.beq_comm (a := Str.ofString "or"), Bool.or_false]
 rw [e] at k
 exact ⟨Nat.zero_le _, k⟩
theorem op_cases {op : Str} (h : op ∈ LA ∨ op ∈ Ops) : (isLg op = true ∧ op ∈ LA) ∨ (isLg op = false ∧ op ∈ Ops ∧ ¬ op ∈ LA) ∨ (isLg op = false ∧ op ∈ LA) := by
 rcases h with h | h
 ·exact (by decide : ∀ op ∈ LA, (isLg op = true ∧ op ∈ LA) ∨ (isLg op = false ∧ op ∈ Ops ∧ ¬ op ∈ LA) ∨ (isLg op = false ∧ op ∈ LA)) op h
 ·exact (by decide : ∀ op ∈ Ops, (isLg op = true ∧ op ∈ LA) ∨ (isLg op = false ∧ op ∈ Ops ∧ ¬ op ∈ LA) ∨ (isLg op = false ∧ op ∈ LA)) op h
theorem ex_bin {op : Str} {a b : Tr} (c : CI A Z) (hc : CollOk coll) (ho : op ∈ LA ∨ op ∈ Ops) (ha : Wf a) (hb' : Wf b) (va : IsV (fv coll r a)) (vb : IsV (fv coll r b)) (hn : max a.dep b.dep + 3 ≤ n) (xa : ExS A Z coll r a n) (xb : ExS A Z coll r b n) : ExB A Z coll r (.bin op a b) (n + 1) := fun into g ps σ N Kk Q h w hb h1 h2 k => by
 obtain ⟨m, rfl⟩ : ∃ m, n = m + 1 := ⟨n - 1, by lia⟩
 simp only [Tr.dep, zz] at hb k
 have za := Kq (Nat.le_max_left a.dep b.dep)
 have zb := Kq (Nat.le_max_right a.dep b.dep)
 refine Yg (Yb rfl (by decide)) ?_
 refine Yg (Yb rfl (by decide)) ?_
 refine Yg (Yb rfl (by decide)) ?_
 refine Yg (Yb rfl (by decide)) ?_
 refine Vf (Y1 rfl (by decide)) ?_
 refine Xc ?_
 refine X4 ⟨rfl, h, c⟩ rfl (Zc (Zn rfl) (Zc (Zn rfl) Zp)) ?_
 refine en_536.mpr ?_
 refine Zgv ⟨rfl, h, c⟩ (Yr rfl (by decide) rfl) xa w (by lia) fun ps1 σ1 g1 x1 => ?_
 have z1 := x1.sg.sz
 simp at z1
 have w1 := x1.sg.wf ((Seg.reg [] ps).wf w)
 refine Zgv ⟨rfl, g1, c⟩ (Yr rfl (by decide) rfl) xb w1 (by lia) fun ps2 σ2 g2 x2 => ?_
 have z2 := x2.sg.sz
 simp at z2
 have r1 := x1.sg.regs
 simp at r1
 have sg : ∀ i, labOf i = none → Seg [] (3 * zz (max a.dep b.dep) + 30) ps (ps2.add i) := fun i hi =>
  ((Seg.reg [] ps).trans (x1.sg.trans ((Seg.reg [] ps1).trans (x2.sg.trans (Seg.addN hi))))).to (by lia) fun _ h => h
 have run : ∀ code lb hh, Fin code lb ps2 → RowOk r hh → ∃ h', Path code lb ps.len hh ps2.len h' ∧ h' ps.regs = fv coll r a ∧ h' ps1.regs = fv coll r b ∧ ∀ y, y < ps.regs → y ≠ g → h' y = hh y := fun code lb hh F hr => by
  obtain ⟨h1', p1, e1, k1⟩ := x1.run code lb hh (x2.sg.fin F).of_reg hr
  have w0 := w.regs
  obtain ⟨h2', p2, e2, k2⟩ := x2.run code lb h1' F (hr.keep k1 (by simp; lia) (by lia))
  refine ⟨h2', p1.trans p2, ?_, e2, fun y hy hne => ?_⟩
  ·rw [k2 ps.regs (by simp; lia) (by lia)]; exact e1
  ·rw [k2 y (by simp; lia) (by lia)]; exact k1 y (by simp; lia) (by lia)
 rcases op_cases ho with ⟨hl, ho'⟩ | ⟨hl, ho', hnl⟩ | ⟨hl, ho'⟩
 ·refine Vf (by rw [← hl]; exact ti_lg rfl rfl) ?_
  refine V5 ⟨rfl, g2, c⟩ (i := .log ps.regs ps1.regs g op) (Zc Y3 (Zc (Zn rfl) (Zc (Zn rfl) (Zc (Zn rfl) (Zc (Yr rfl (by decide) rfl) Zp))))) rfl (by lia) fun σ' h' => ?_
  simp only [Jj]
  refine J6 rfl (k _ _ h' ⟨sg _ rfl, fun code lb hh F hr => ?_⟩)
  obtain ⟨h2', p, e1, e2, kk⟩ := run code lb hh F.of_add hr
  refine ⟨_, p.trans (F.step ⟨by rw [e1]; exact va, by rw [e2]; exact vb, ho'⟩ rfl), ?_, fun y hy hne => (X2 _ _ hne).trans (kk y hy hne)⟩
  rw [Yx, e1, e2]; rw [Zac, if_pos ho']
 ·refine Yg (by rw [← hl]; exact ti_lg rfl rfl) ?_
  refine Vf (X9 (Zy (Zc (Yr rfl (by decide) rfl) Zp) fun Q q => Zbh (.inl ⟨rfl, ho'⟩) q)) ?_
  refine Yo (Zy (Zc (Zy (Zc (Yr rfl (by decide) rfl) Zp) fun Q q => affinity_of (coll := coll) (t := a) q) (Zc (Zy (Zc (Yr rfl (by decide) rfl) Zp) fun Q q => affinity_of (coll := coll) (t := b) q) Zp)) fun Q q => Zb6 (Xy ha.cols) (Xy hb'.cols) q) ?_
  refine Yo (Zy (Zc (Yr rfl (by decide) rfl) (Zc (Yr rfl (by decide) rfl) Zp)) fun Q q => Zcp (coll := coll) (t := a) (u := b) hc (by lia) ha hb' q) ?_
  refine V5 ⟨rfl, g2, c⟩ (i := .cmp ps.regs ps1.regs g op (collP (colT a) (colT b) coll) (paN (affT a) (affT b)).1 (paN (affT a) (affT b)).2) (Zc Y3 (Zc (Zn rfl) (Zc (Zn rfl) (Zc (Zn rfl) (Zc (Xp (Zc (Yr rfl (by decide) rfl) (Zc (Zn rfl) (Zc (Zn rfl) Zp)))) Zp))))) rfl (by lia) fun σ' h' => ?_
  simp only [Jj]
  refine J6 rfl (k _ _ h' ⟨sg _ rfl, fun code lb hh F hr => ?_⟩)
  obtain ⟨h2', p, e1, e2, kk⟩ := run code lb hh F.of_add hr
  have hp := paN_ok (Xy ha.cols) (Xy hb'.cols)
  refine ⟨_, p.trans (F.step ⟨by rw [e1]; exact va, by rw [e2]; exact vb, ho', hp.1, hp.2⟩ rfl), ?_, fun y hy hne => (X2 _ _ hne).trans (kk y hy hne)⟩
  rw [Yx, e1, e2, pair_eq ha hb']; rw [Zac, if_neg hnl]
 ·refine Yg (by rw [← hl]; exact ti_lg rfl rfl) ?_
  refine Yg (X9 (Zy (Zc (Yr rfl (by decide) rfl) Zp) fun Q q => Zbh (.inr ⟨rfl, ho'⟩) q)) ?_
  refine V5 ⟨rfl, g2, c⟩ (i := .ari ps.regs ps1.regs g op) (Zc Y3 (Zc (Zn rfl) (Zc (Zn rfl) (Zc (Zn rfl) (Zc (Yr rfl (by decide) rfl) Zp))))) rfl (by lia) fun σ' h' => ?_
  simp only [Jj]
  refine J6 rfl (k _ _ h' ⟨sg _ rfl, fun code lb hh F hr => ?_⟩)
  obtain ⟨h2', p, e1, e2, kk⟩ := run code lb hh F.of_add hr
  refine ⟨_, p.trans (F.step ⟨by rw [e1]; exact va, by rw [e2]; exact vb, ho'⟩ rfl), ?_, fun y hy hne => (X2 _ _ hne).trans (kk y hy hne)⟩
  rw [Yx, e1, e2]; rw [Zac, if_pos ho']
theorem ex_btw {a b d : Tr} {ng : Bool} (c : CI A Z) (hc : CollOk coll) (ha : Wf a) (hb' : Wf b) (hd : Wf d) (va : IsV (fv coll r a)) (vb : IsV (fv coll r b)) (vd : IsV (fv coll r d)) (hn : max a.dep (max b.dep d.dep) + 3 ≤ n) (xa : ExS A Z coll r a (n + 1)) (xb : ExS A Z coll r b n) (xd : ExS A Z coll r d n) : ExB A Z coll r (.btw a b d ng) (n + 2) := fun into g ps σ N Kk Q h w hb h1 h2 k => by
 obtain ⟨m, rfl⟩ : ∃ m, n = m + 1 := ⟨n - 1, by lia⟩
 simp only [Tr.dep, zz] at hb k
 have za : zz a.dep ≤ zz (max a.dep (max b.dep d.dep)) := Kq (by lia)
 have zb : zz b.dep ≤ zz (max a.dep (max b.dep d.dep)) := Kq (by lia)
 have zd : zz d.dep ≤ zz (max a.dep (max b.dep d.dep)) := Kq (by lia)
 refine Yg (Yb rfl (by decide)) ?_
 refine Yg (Yb rfl (by decide)) ?_
 refine Yg (Yb rfl (by decide)) ?_
 refine Yg (Yb rfl (by decide)) ?_
 refine Yg (Yb rfl (by decide)) ?_
 refine Vf (Y1 rfl (by decide)) ?_
 refine Xc ?_
 refine X4 ⟨rfl, h, c⟩ rfl (Zc (Zn rfl) (Zc (Zn rfl) Zp)) ?_
 refine en_550.mpr ?_
 refine Zgv ⟨rfl, h, c⟩ (Yr rfl (by decide) rfl) xa w (by lia) fun ps1 σ1 g1 x1 => ?_
 have z1 := x1.sg.sz
 simp at z1
 have w1 := x1.sg.wf ((Seg.reg [] ps).wf w)
 have r1 := x1.sg.regs
 simp at r1
 have w0 := w.regs
 refine s_reg ⟨rfl, g1, c⟩ fun σ2 g2 => ?_
 refine s_reg ⟨rfl, g2, c⟩ fun σ3 g3 => ?_
 have w3 := (Seg.reg [] _).wf ((Seg.reg [] _).wf w1)
 refine Xc ?_
 refine X4 ⟨rfl, g3, c⟩ rfl (Zc Y3 (Zc (Yr rfl (by decide) rfl) (Zc (Zn rfl) (Zc (Yr (d := nod coll b) rfl (by decide) rfl) (Zc (Zn rfl) Zp))))) ?_
 refine Zcr c hc (by lia) ha hb' (by simp [Ops]) vb xb g3 w3 (by simp; lia) (by simp; lia) (by lia) (by simp; lia) fun ps4 σ4 g4 x4 => ?_
 have z4 := x4.sg.sz
 simp at z4
 have w4 := x4.sg.wf w3
 have r4 := x4.sg.regs
 simp at r4
 refine Xc ?_
 refine X4 ⟨rfl, g4, c⟩ rfl (Zc Y3 (Zc (Yr rfl (by decide) rfl) (Zc (Zn rfl) (Zc (Yr (d := nod coll d) rfl (by decide) rfl) (Zc (Zn rfl) Zp))))) ?_
 refine Zcr c hc (by lia) ha hd (by simp [Ops]) vd xd g4 w4 (by lia) (by lia) (by simp; lia) (by simp; lia) fun ps5 σ5 g5 x5 => ?_
 have z5 := x5.sg.sz
 refine V5 ⟨rfl, g5, c⟩ (i := .log ps1.regs ps1.reg.regs g "and") (Zc Y3 (Zc (Zn rfl) (Zc (Zn rfl) (Zc (Zn rfl) (Zc Y3 Zp))))) rfl (by lia) fun σ6 g6 => ?_
 refine Xc ?_
 refine X4 ⟨rfl, g6, c⟩ rfl (Zc (Zn rfl) (Zc (Yr (d := .bool ng) rfl (by decide) rfl) Zp)) ?_
 refine negate c g6 (by simp; lia) fun σ7 g7 => ?_
 simp only [Jj]
 refine J6 rfl (k _ _ g7 ⟨((Seg.reg [] ps).trans (x1.sg.trans ((Seg.reg [] ps1).trans ((Seg.reg [] _).trans (x4.sg.trans (x5.sg.trans ((Seg.addN rfl).trans (Zeo [] _ _ _)))))))).to (by lia) fun _ h => h, fun code lb hh F hr => ?_⟩)
 have F6 := (Zeo [] _ _ _).fin F
 have F5 := F6.of_add
 have F4 := x5.sg.fin F5
 have F1 := (x4.sg.fin F4).of_reg.of_reg
 obtain ⟨h1', p1, e1, k1⟩ := x1.run code lb hh F1 hr
 have hr1 := hr.keep k1 (by simp; lia) (by lia)
 have v1 : IsV (h1' ps.regs) := by rw [e1]; exact va
 obtain ⟨h4', p4, e4, k4⟩ := x4.run code lb h1' F4 hr1 v1
 have hr4 := hr1.keep k4 (by simp; lia) (by lia)
 have ev4 : h4' ps.regs = fv coll r a := by rw [k4 _ (by simp; lia) (by lia)]; exact e1
 obtain ⟨h5', p5, e5, k5⟩ := x5.run code lb h4' F5 hr4 (by rw [ev4]; exact va)
 rw [ev4] at e5
 rw [e1] at e4
 have elo : h5' ps1.regs = pairD ">=" a (some b) (fv coll r a) (fv coll r b) coll := by rw [k5 _ (by lia) (by simp; lia)]; exact e4
 have t1 := Xq ">=" a (some b) (fv coll r a) (fv coll r b) coll
 have t2 := Xq "<=" a (some d) (fv coll r a) (fv coll r d) coll
 have p6 := F6.step (h := h5') ⟨by rw [elo]; exact t1.v, by rw [e5]; exact t2.v, by simp [LA]⟩ rfl
 have ela : laD "and" (h5' ps1.regs) (h5' ps1.reg.regs) = eitherD true (pairD ">=" a (some b) (fv coll r a) (fv coll r b) coll) (pairD "<=" a (some d) (fv coll r a) (fv coll r d) coll) := by
  rw [elo, e5]; unfold laD; rw [if_pos (.inl rfl), Kp t1, Kp t2]; simp
 obtain ⟨h7', p7, e7, k7⟩ := neg_run F (h := hput h5' g (laD "and" (h5' ps1.regs) (h5' ps1.reg.regs))) (by rw [Yx, ela]; exact J8 t1 t2)
 refine ⟨h7', p1.trans (p4.trans (p5.trans (p6.trans p7))), ?_, fun y hy hne => ?_⟩
 ·rw [e7, Yx, ela]; rfl
 ·rw [k7 y hne, X2 _ _ hne, k5 y (by lia) (by simp; lia), k4 y (by simp; lia) (by lia)]
  exact k1 y (by simp; lia) (by lia)
end
section
variable {C : Ora} {ρ : Loc} {σ : Sto} {N Kk : Loc → Sto → Prop} {R : D → Sto → Prop} {z x : WS} {e : WE} {t : WA} {d1 d2 : D}
theorem s_for0 (h : Ev e C ρ σ (.lst [])) (k : z C ρ σ N R Kk) : sSeq (sFor e t x) z C ρ σ N R Kk := by
 rw [Y0, e_For]
 exact h _ ⟨trivial, k⟩
theorem s_for1 (h : Ev e C ρ σ (.lst [d1])) (k : t C ρ σ d1 fun ρ1 σ1 => x C ρ1 σ1 (fun ρ2 σ2 => z C ρ2 σ2 N R Kk) R (fun ρ2 σ2 => z C ρ2 σ2 N R Kk)) : sSeq (sFor e t x) z C ρ σ N R Kk := by
 rw [Y0, e_For]
 refine h _ ⟨trivial, ?_⟩
 have : (fun ρ2 σ2 => sLoop t x (srcInv (.lst [d1]) σ) C (fun ρ1 σ1 => z C ρ1 σ1 N R Kk) R [] ρ2 σ2) = (fun ρ2 σ2 => z C ρ2 σ2 N R Kk) := by
  funext ρ2 σ2
  show (True ∧ _) = _
  simp
 rw [this]
 exact k
theorem s_for2 (h : Ev e C ρ σ (.lst [d1, d2])) (k : t C ρ σ d1 fun ρ1 σ1 => x C ρ1 σ1 (fun ρ2 σ2 => t C ρ2 σ2 d2 fun ρ3 σ3 => x C ρ3 σ3 (fun ρ4 σ4 => z C ρ4 σ4 N R Kk) R (fun ρ4 σ4 => z C ρ4 σ4 N R Kk)) R (fun ρ4 σ4 => z C ρ4 σ4 N R Kk)) : sSeq (sFor e t x) z C ρ σ N R Kk := by
 rw [Y0, e_For]
 refine h _ ⟨trivial, ?_⟩
 have : (fun ρ2 σ2 => sLoop t x (srcInv (.lst [d1, d2]) σ) C (fun ρ1 σ1 => z C ρ1 σ1 N R Kk) R [d2] ρ2 σ2) = (fun ρ2 σ2 => t C ρ2 σ2 d2 fun ρ3 σ3 => x C ρ3 σ3 (fun ρ4 σ4 => z C ρ4 σ4 N R Kk) R (fun ρ4 σ4 => z C ρ4 σ4 N R Kk)) := by
  funext ρ2 σ2
  rw [Zcu]
  show (True ∧ _) = _
  simp [srcInv]
 rw [this]
 exact k
end
structure ItOk (r : Int → D) (p : D → D) (s tg hit : Int) (z : Nat) (ps ps' : PSt) : Prop where
 sg : Seg [hit] z ps ps'
 run : ∀ code lb h, Fin code lb ps' → ps'.len ≤ lb hit → RowOk r h → IsV (h s) → ∃ h', Path code lb ps.len h (if isOne (p (h s)) then lb hit else ps'.len) h' ∧ (isOne (p (h s)) = false → h' tg = if isNoneD (p (h s)) then .none else h tg) ∧ ∀ x, x < ps.regs → x ≠ tg → h' x = h x
noncomputable def W_it : WS := (sSeq (sAsg (wMeth 707 653 "label" (wAttr Zo "program" (wV 0)) []) (aName 8)) (sSeq (sAsg (wMeth 611 508 "expression" (wV 0) [(wV 7)]) (aName 9)) (sSeq (sAsg (wMeth 707 668 "register" (wAttr Zo "program" (wV 0)) []) (aName 10)) (sSeq (sExpr (wMeth 707 639 "add" (wAttr Zo "program" (wV 0)) [(wS "Compare"), (wV 3), (wV 9), (wV 10), (wV 6)])) (sSeq (sExpr (wMeth 707 639 "add" (wAttr Zo "program" (wV 0)) [(wS "If"), (wV 10), (wV 4), (wI 0)])) (sSeq (sExpr (wMeth 707 639 "add" (wAttr Zo "program" (wV 0)) [(wS "NotNull"), (wV 10), (wV 8)])) (sSeq (sExpr (wMeth 707 639 "add" (wAttr Zo "program" (wV 0)) [(wS "Null"), (wI 0), (wV 2), (wI 1)])) (sSeq (sExpr (wMeth 707 660 "place" (wAttr Zo "program" (wV 0)) [(wV 8)])) sNil))))))))
noncomputable def inTold (coll : Str) (t : Tr) : D := .tup [.str "=", .str (collP (colT t) none coll), .tup [(paN (affT t) .none).1, (paN (affT t) .none).2]]
section
variable {n : Nat} {A : PA} {Z : Sto} {σ : Sto} {Q : D → Sto → Prop} {coll : Str} {r : Int → D} {ps : PSt}
theorem pair_eq0 {t : Tr} {v w : D} (ht : Wf t) : cmpD "=" (ledD v (paN (affT t) .none).1) (ledD w (paN (affT t) .none).2) (collP (colT t) none coll) = pairD "=" t none v w coll := by
 have := paN_led (Xy ht.cols) (.inl rfl : AffV .none) v w
 unfold pairD
 rw [this.1, this.2]; rfl
theorem inLoc (ps : PSt) (a b c d e f g h i j k : D) : True := trivial
theorem item {t u : Tr} {N Kk : Loc → Sto → Prop} {R : D → Sto → Prop} {nodeD : D} {s tg hit endl : Int} {x8 x9 x10 : Option D} (c : CI A Z) (ht : Wf t) (hv : IsV (fv coll r u)) (x : ExS A Z coll r u (n + 1)) (h : PI A Z ps σ) (w : WfP ps) (hb : ps.sz + zz u.dep + 5 ≤ 5000) (h1 : s < ps.regs) (h2 : 5 ≤ tg) (h3 : tg < ps.regs) (h4 : s ≠ tg) (hh0 : hit < 0)
  (k : ∀ ps' σ' y8 y9 y10, PI A Z ps' σ' → ItOk r (fun v => pairD "=" t none v (fv coll r u) coll) s tg hit (zz u.dep + 5) ps ps' → N [some (.inst 611 A.k), some nodeD, some (.int tg), some (.int s), some (.int hit), some (.int endl), some (inTold coll t), some (nod coll u), y8, y9, y10] σ') :
  W_it (Cn (n + 1)) [some (.inst 611 A.k), some nodeD, some (.int tg), some (.int s), some (.int hit), some (.int endl), some (inTold coll t), some (nod coll u), x8, x9, x10] σ N R Kk := by
 refine Zfq ⟨rfl, h, c⟩ fun σ1 g1 => ?_
 have w1 := (Seg.lbl [] ps).wf w
 have w0 := w.regs
 refine Zgv ⟨rfl, g1, c⟩ (Zn rfl) x w1 (by simp; lia) fun ps2 σ2 g2 x2 => ?_
 have z2 := x2.sg.sz
 simp at z2
 have r2 := x2.sg.regs
 simp at r2
 refine s_reg ⟨rfl, g2, c⟩ fun σ3 g3 => ?_
 refine V5 ⟨rfl, g3, c⟩ (i := .cmp s ps.regs ps2.regs "=" (collP (colT t) none coll) (paN (affT t) .none).1 (paN (affT t) .none).2) (Zc Y3 (Zc (Zn rfl) (Zc (Zn rfl) (Zc (Zn rfl) (Zc (Zn rfl) Zp))))) rfl (by simp; lia) fun σ4 g4 => ?_
 refine V5 ⟨rfl, g4, c⟩ (i := .jif ps2.regs hit false) (Zc Y3 (Zc (Zn rfl) (Zc (Zn rfl) (Zc Yw Zp)))) rfl (by simp; lia) fun σ5 g5 => ?_
 refine V5 ⟨rfl, g5, c⟩ (i := .non ps2.regs ps.nl) (Zc Y3 (Zc (Zn rfl) (Zc (Zn rfl) Zp))) rfl (by simp; lia) fun σ6 g6 => ?_
 refine V5 ⟨rfl, g6, c⟩ (i := .null tg) (Zc Y3 (Zc Yw (Zc (Zn rfl) (Zc Yw Zp)))) rfl (by simp; lia) fun σ7 g7 => ?_
 have sgA : Seg [ps.nl, hit] (zz u.dep) ps.lbl.reg ps2 := x2.sg.to (Nat.le_refl _) (fun _ h => by simp at h)
 have sgB : Seg [ps.nl, hit] 4 ps2 ((((ps2.reg.add (.cmp s ps.regs ps2.regs "=" (collP (colT t) none coll) (paN (affT t) .none).1 (paN (affT t) .none).2)).add (.jif ps2.regs hit false)).add (.non ps2.regs ps.nl)).add (.null tg)) :=
  ((Seg.reg _ ps2).trans ((Seg.addN rfl).trans ((Seg.add (fun l e => by cases e; exact ⟨hh0, by simp⟩)).trans ((Seg.add (fun l e => by cases e; exact ⟨w.nl, by simp⟩)).trans (Seg.addN rfl))))).to (by lia) fun _ h => h
 have sg := (Seg.reg [ps.nl, hit] ps.lbl).trans (sgA.trans sgB)
 have fr := sg.fresh w
 refine Zfz ⟨rfl, g7, c⟩ rfl w.nl sg.below fr (by simp; lia) fun σ8 g8 => ?_
 have sg2 := (((Seg.lbl [ps.nl, hit] ps).trans sg).close fr sg.below (Int.le_refl _))
 refine k _ _ _ _ _ g8 ⟨sg2.to (by lia) fun _ h => h, fun code lb hh F hl hr hs => ?_⟩
 have F7 := F.plc
 have el := F.lab fr
 obtain ⟨h2', p2, e2, k2⟩ := x2.run code lb hh F7.of_add.of_add.of_add.of_add.of_reg hr
 have es : h2' s = hh s := k2 s (by simp; lia) (by simp; lia)
 have hp := paN_ok (Xy ht.cols) (.inl rfl : AffV .none)
 have p3 := p2.trans (F7.of_add.of_add.of_add.step (h := h2') ⟨by rw [es]; exact hs, by show IsV (h2' ps.lbl.regs); rw [e2]; exact hv, by simp [Ops], hp.1, hp.2⟩ rfl)
 have epair : cmpD "=" (ledD (h2' s) (paN (affT t) .none).1) (ledD (h2' ps.regs) (paN (affT t) .none).2) (collP (colT t) none coll) = pairD "=" t none (hh s) (fv coll r u) coll := by
  rw [es, show h2' ps.regs = fv coll r u from e2]; exact pair_eq0 ht
 rw [epair] at p3
 have tp := Xq "=" t none (hh s) (fv coll r u) coll
 generalize pairD "=" t none (hh s) (fv coll r u) coll = p at p3 tp ⊢
 have keep : ∀ (d : D) (y : Int), y < ps.regs → hput h2' ps2.regs d y = hh y := fun d y hy => by
  rw [X2 _ _ (by lia)]; exact k2 y (by simp; lia) (by simp; lia)
 have vt : hput h2' ps2.regs p ps2.regs = p := Yx ..
 have rd : IsV (hput h2' ps2.regs p ps2.regs) := by rw [vt]; exact tp.v
 cases tp with
 | one =>
  have p4 := p3.trans (F7.of_add.of_add.jump (h' := hput h2' ps2.regs (.int 1)) (pc' := lb hit) rd (by simp [nxt, tru, trueD, numD]) (by simp at hl ⊢; lia))
  exact ⟨_, p4, fun e => by simp [isOne] at e, fun y hy _ => keep _ y hy⟩
 | zero =>
  have p4 := p3.trans (F7.of_add.of_add.step (h' := hput h2' ps2.regs (.int 0)) rd (by simp [nxt, tru, trueD, numD]))
  have p5 := p4.trans (F7.of_add.jump (h' := hput h2' ps2.regs (.int 0)) (pc' := lb ps.nl) trivial (by simp [nxt]) (by rw [el]; simp))
  rw [el] at p5
  exact ⟨_, p5, fun _ => keep _ _ h3, fun y hy _ => keep _ y hy⟩
 | none =>
  have p4 := p3.trans (F7.of_add.of_add.step (h' := hput h2' ps2.regs .none) rd (by simp [nxt, tru, trueD, numD]))
  have p5 := p4.trans (F7.of_add.step (h' := hput h2' ps2.regs .none) trivial (by simp [nxt]))
  have p6 := p5.trans (F7.step trivial rfl)
  exact ⟨_, p6, fun _ => Yx .., fun y hy hne => by rw [X2 _ _ hne]; exact keep _ y hy⟩
end
structure ItsOk (r : Int → D) (vs : D → List D) (s tg hit : Int) (z : Nat) (ps ps' : PSt) : Prop where
 sg : Seg [hit] z ps ps'
 run : ∀ code lb h, Fin code lb ps' → ps'.len ≤ lb hit → RowOk r h → IsV (h s) → h tg = .int 0 → ∃ h', Path code lb ps.len h (if (vs (h s)).any isOne then lb hit else ps'.len) h' ∧ ((vs (h s)).any isOne = false → h' tg = if (vs (h s)).any isNoneD then .none else .int 0) ∧ ∀ x, x < ps.regs → x ≠ tg → h' x = h x
theorem ItsOk.zero {r : Int → D} {s tg hit : Int} {ps : PSt} : ItsOk r (fun _ => []) s tg hit 0 ps ps :=
 ⟨Seg.refl _ _, fun code lb h F hl hr hs h0 => ⟨h, .nil, fun _ => h0, fun _ _ _ => rfl⟩⟩
theorem ItOk.one {r : Int → D} {p : D → D} {s tg hit : Int} {z : Nat} {ps ps' : PSt} (x : ItOk r p s tg hit z ps ps') : ItsOk r (fun v => [p v]) s tg hit z ps ps' :=
 ⟨x.sg, fun code lb h F hl hr hs h0 => by
  obtain ⟨h', p1, e1, k1⟩ := x.run code lb h F hl hr hs
  refine ⟨h', ?_, fun e => ?_, k1⟩
  ·simpa using p1
  ·have := e1 (by simpa using e)
   rw [h0] at this
   simpa using this⟩
theorem ItsOk.more {r : Int → D} {vs : D → List D} {p : D → D} {s tg hit : Int} {y z : Nat} {ps ps1 ps2 : PSt} (x1 : ItsOk r vs s tg hit y ps ps1) (x2 : ItOk r p s tg hit z ps1 ps2) (w : WfP ps) (hs : s < ps.regs) (hne : s ≠ tg) (ht : 5 ≤ tg) (ht2 : tg < ps.regs) : ItsOk r (fun v => vs v ++ [p v]) s tg hit (y + z) ps ps2 :=
 ⟨x1.sg.trans x2.sg, fun code lb h F hl hr hv h0 => by
  have le2 := x2.sg.le
  have rg := x1.sg.regs
  obtain ⟨h1, p1, e1, k1⟩ := x1.run code lb h (x2.sg.fin F) (by lia) hr hv h0
  have es := k1 s hs hne
  cases a1 : (vs (h s)).any isOne with
  | true =>
   rw [a1, if_pos rfl] at p1
   refine ⟨h1, ?_, fun e => ?_, k1⟩
   ·simpa [a1] using p1
   ·simp [a1] at e
  | false =>
   rw [a1, if_neg (by decide)] at p1
   obtain ⟨h2, p2, e2, k2⟩ := x2.run code lb h1 F hl (hr.keep k1 w.regs ht) (by rw [es]; exact hv)
   rw [es] at p2 e2
   refine ⟨h2, ?_, fun e => ?_, fun y hy hn => (k2 y (by lia) hn).trans (k1 y hy hn)⟩
   ·simpa [a1] using p1.trans p2
   ·have i2 : isOne (p (h s)) = false := by simpa [a1] using e
    rw [e2 i2, e1 a1]
    cases n1 : (vs (h s)).any isNoneD <;> cases n2 : isNoneD (p (h s)) <;> simp [n1, n2]⟩
theorem Zg4 (l : List D) : amongD l = if l.any isOne then .int 1 else if l.any isNoneD then .none else .int 0 := rfl
section
variable {n : Nat} {A : PA} {Z : Sto} {σ : Sto} {Q : D → Sto → Prop} {coll : Str} {r : Int → D} {ps ps1 : PSt}
theorem in_tail {ng : Bool} {vs : D → List D} {tr : Tr} {v : D} {g : Int} {zi zv : Nat} {ps5 : PSt} {x6 x7 x8 x9 x10 : Option D} {Kk : Loc → Sto → Prop} (c : CI A Z) (hneg : slook (fld coll tr) "negated" = some (.bool ng)) (hcl : cls tr = 278) (w : WfP ps) (h1 : 5 ≤ g) (h2 : g < ps.regs) (hv : IsV v)
  (x1 : ExOk r v ps.regs zv ps.reg ps1) (x5 : ItsOk r vs ps.regs g ps1.nl zi (ps1.lbl.lbl.add (.value g (.int 0))) ps5) (hz : ps.sz + zv + zi + 10 ≤ 5000) (h : PI A Z ps5 σ)
  (k : ∀ ps' σ', PI A Z ps' σ' → ExOk r (oppD (amongD (vs v)) ng) g (zv + zi + 10) ps ps' → Q .none σ') :
  Zev (Cn (n + 2)) [some (.inst 611 A.k), some (nod coll tr), some (.int g), some (.int ps.regs), some (.int ps1.nl), some (.int (ps1.nl - 1)), x6, x7, x8, x9, x10] σ (fun _ σ' => Q .none σ') Q Kk := by
 have w1 := x1.sg.wf ((Seg.reg [] ps).wf w)
 have z1 := x1.sg.sz
 have z5 := x5.sg.sz
 simp at z1 z5
 have hn0 := w1.nl
 have nod1 : nth [some (.inst 611 A.k), some (nod coll tr), some (.int g), some (.int ps.regs), some (.int ps1.nl), some (.int (ps1.nl - 1)), x6, x7, x8, x9, x10] 1 = some (.obj 278 (fld coll tr)) := by
  rw [← hcl, ← Ky]; rfl
 refine V5 ⟨rfl, h, c⟩ (i := .goto (ps1.nl - 1)) (Zc Y3 (Zc Yw (Zc (Zn rfl) Zp))) rfl (by lia) fun σ6 g6 => ?_
 have sgI : Seg [ps1.nl, ps1.nl - 1] (1 + (zi + 1)) ps1.lbl.lbl (ps5.add (.goto (ps1.nl - 1))) :=
  (Seg.addN rfl).trans ((x5.sg.to (Nat.le_refl _) fun l hl => by simp at hl; simp [hl]).trans (Seg.add fun l e => by cases e; exact ⟨by lia, by simp⟩))
 have sgE := (Seg.lbl [ps1.nl, ps1.nl - 1] ps1.lbl).trans sgI
 have frH := sgE.fresh w1
 have frE : lk (ps5.add (.goto (ps1.nl - 1))).labs (ps1.nl - 1) = none := sgI.fresh ((Seg.lbl [] ps1).wf w1)
 have blE : (ps5.add (.goto (ps1.nl - 1))).nl < ps1.nl - 1 := sgI.below
 refine Zfz ⟨rfl, g6, c⟩ rfl hn0 (by lia) frH (by simp; lia) fun σ7 g7 => ?_
 have sgH := ((Seg.lbl [ps1.nl, ps1.nl - 1] ps1).trans sgE).close frH (by lia) (Int.le_refl _)
 refine V5 ⟨rfl, g7, c⟩ (i := .value g (.int 1)) (Zc Y3 (Zc Yw (Zc (Zn rfl) (Zc Yw (Zc Yw Zp))))) rfl (by simp; lia) fun σ8 g8 => ?_
 have sg8 := sgH.trans (Seg.addN (i := .value g (.int 1)) rfl)
 have frE' : lk (((ps5.add (.goto (ps1.nl - 1))).plc ps1.nl).add (.value g (.int 1))).labs (ps1.nl - 1) = none := by
  rw [add_labs, Zca, lk_ne (by lia)]; exact frE
 refine Zfz ⟨rfl, g8, c⟩ rfl (by lia) (by simpa using blE) frE' (by simp; lia) fun σ9 g9 => ?_
 have sg9 := sg8.close frE' (by simpa using blE) (by lia)
 refine Xc ?_
 refine X4 ⟨rfl, g9, c⟩ rfl (Zc (Zn rfl) (Zc (Yr (d := .bool ng) nod1 (by decide) hneg) Zp)) ?_
 refine negate c g9 (by simp; lia) fun σ10 g10 => ?_
 refine k _ _ g10 ⟨((Seg.reg [] ps).trans (x1.sg.trans (sg9.trans (Zeo [] _ _ _)))).to (by lia) fun _ h => h, fun code lb hh F hr => ?_⟩
 have F9 := (Zeo [] _ _ _).fin F
 have F8 := F9.plc
 have F7 := F8.of_add
 have F6 := F7.plc
 have F5 := F6.of_add
 have F4 := x5.sg.fin F5
 have elH := F7.lab frH
 have elE := F9.lab frE'
 obtain ⟨h1', p1, e1, k1⟩ := x1.run code lb hh F4.of_add.of_lbl.of_lbl hr
 have w0 := w.regs
 have r1 := x1.sg.regs
 simp at r1
 have hr1 := hr.keep k1 (by simp; lia) (by lia)
 have p4 := p1.trans (F4.step (h := h1') (h' := hput h1' g (.int 0)) trivial rfl)
 have hr4 : RowOk r (hput h1' g (.int 0)) := hr1.keep (fun y _ hy => X2 _ _ hy) (n := 100) (by decide) h1
 have es : hput h1' g (.int 0) ps.regs = v := by rw [X2 _ _ (by lia)]; exact e1
 obtain ⟨h5', p5, e5, k5⟩ := x5.run code lb _ F5 (by rw [elH]; simp) hr4 (by rw [es]; exact hv) (Yx ..)
 rw [es] at p5 e5
 have key : ∃ h8, Path code lb ps.len hh ((((ps5.add (.goto (ps1.nl - 1))).plc ps1.nl).add (.value g (.int 1))).plc (ps1.nl - 1)).len h8 ∧ h8 g = amongD (vs v) ∧ ∀ y, y < ps.regs → y ≠ g → h8 y = hh y := by
  have kk : ∀ y, y < ps.regs → y ≠ g → h5' y = hh y := fun y hy hn => by
   rw [k5 y (by simp; lia) hn, X2 _ _ hn]; exact k1 y (by simp; lia) (by lia)
  rw [Zg4]
  cases a1 : (vs v).any isOne with
  | true =>
   rw [a1, if_pos rfl, elH] at p5
   exact ⟨_, p4.trans (p5.trans (F8.step (h := h5') (h' := hput h5' g (.int 1)) trivial rfl)), Yx .., fun y hy hn => (X2 _ _ hn).trans (kk y hy hn)⟩
  | false =>
   rw [a1, if_neg (by decide)] at p5
   have p6 := F6.jump (h := h5') (h' := h5') (pc' := lb (ps1.nl - 1)) trivial rfl (by rw [elE]; simp; lia)
   rw [elE] at p6
   exact ⟨_, p4.trans (p5.trans p6), e5 a1, kk⟩
 obtain ⟨h8, p8, e8, k8⟩ := key
 obtain ⟨h10, p10, e10, k10⟩ := neg_run F (h := h8) (by rw [e8]; exact U7 _)
 exact ⟨h10, p8.trans p10, by rw [e10, e8], fun y hy hn => (k10 y hn).trans (k8 y hy hn)⟩
theorem in_list {vs : D → List D} {t tr : Tr} {ng : Bool} {ni : Nat} {g : Int} (c : CI A Z) (hc : CollOk coll) (ht : Wf t) (hv : IsV (fv coll r t)) (hn : t.dep + 3 ≤ n) (xt : ExS A Z coll r t (n + 1))
  (hval : slook (fld coll tr) "value" = some (nod coll t)) (hneg : slook (fld coll tr) "negated" = some (.bool ng)) (hcl : cls tr = 278)
  (h : PI A Z ps σ) (w : WfP ps) (hb : ps.sz + zz t.dep + ni + 10 ≤ 5000) (h1 : 5 ≤ g) (h2 : g < ps.regs)
  (items : ∀ (ps4 : PSt) (σ4 : Sto) (s hit : Int) (R : D → Sto → Prop), PI A Z ps4 σ4 → WfP ps4 → ps4.sz + ni ≤ 5000 → s < ps4.regs → 5 ≤ g → g < ps4.regs → s ≠ g → hit < 0 →
   (∀ ps5 σ5 y7 y8 y9 y10, PI A Z ps5 σ5 → ItsOk r vs s g hit ni ps4 ps5 → Zev (Cn (n + 1)) [some (.inst 611 A.k), some (nod coll tr), some (.int g), some (.int s), some (.int hit), some (.int (hit - 1)), some (inTold coll t), y7, y8, y9, y10] σ5 (fun _ σ' => R .none σ') R (fun _ _ => False)) →
   W_578_5 (Cn (n + 1)) [some (.inst 611 A.k), some (nod coll tr), some (.int g), some (.int s), some (.int hit), some (.int (hit - 1)), some (inTold coll t), none, none, none, none] σ4 (fun _ σ' => R .none σ') R (fun _ _ => False))
  (k : ∀ ps' σ', PI A Z ps' σ' → ExOk r (oppD (amongD (vs (fv coll r t))) ng) g (zz t.dep + ni + 10) ps ps' → Q .none σ') : Cn (n + 2) 578 [.inst 611 A.k, nod coll tr, .int g] σ Q := by
 obtain ⟨m, rfl⟩ : ∃ m, n = m + 1 := ⟨n - 1, by lia⟩
 have nod1 : ∀ ρ : Loc, nth ρ 1 = some (nod coll tr) → nth ρ 1 = some (.obj 278 (fld coll tr)) := fun ρ e => by
  rw [← hcl, ← Ky]; exact e
 refine en_578.mpr ?_
 refine Zgv ⟨rfl, h, c⟩ (Yr (nod1 _ rfl) (by decide) hval) xt w (by lia) fun ps1 σ1 g1 x1 => ?_
 have z1 := x1.sg.sz
 simp at z1
 have w1 := x1.sg.wf ((Seg.reg [] ps).wf w)
 have r1 := x1.sg.regs
 simp at r1
 refine Zfq ⟨rfl, g1, c⟩ fun σ2 g2 => ?_
 refine Zfq ⟨rfl, g2, c⟩ fun σ3 g3 => ?_
 refine V5 ⟨rfl, g3, c⟩ (i := .value g (.int 0)) (Zc Y3 (Zc Yw (Zc (Zn rfl) (Zc Yw (Zc Yw Zp))))) rfl (by simp; lia) fun σ4 g4 => ?_
 refine Yo (Xp (Zc Y3 (Zc (Zy (Zc (Yr (nod1 _ rfl) (by decide) hval) Zp) fun Q q => coll_of (coll := coll) (t := t) hc (by lia) ht q) (Zc (Zy (Zc (Zy (Zc (Yr (nod1 _ rfl) (by decide) hval) Zp) fun Q q => affinity_of (coll := coll) (t := t) q) (Zc Zah Zp)) fun Q q => Zb6 (Xy ht.cols) (.inl rfl) q) Zp)))) ?_
 have w4 := (Seg.addN (L := []) (i := .value g (.int 0)) rfl).wf ((Seg.lbl [] _).wf ((Seg.lbl [] _).wf w1))
 refine items _ _ ps.regs ps1.nl _ g4 w4 (by simp; lia) (by simp; lia) h1 (by simp; lia) (by lia) w1.nl fun ps5 σ5 y7 y8 y9 y10 g5 x5 => ?_
 exact in_tail c hneg hcl w h1 h2 hv x1 x5 (by lia) g5 k
theorem to_in {tr : Tr} {g : Int} {into : D} {N Kk : Loc → Sto → Prop} (c : CI A Z) (h : PI A Z ps σ) (hcl : cls tr = 278)
  (k : Cn n 578 [.inst 611 A.k, nod coll tr, .int g] σ fun _ σ' => Q (.int g) σ') : Zck (Cn n) [some (.inst 611 A.k), some (nod coll tr), some into, some (.int g), none] σ N Q Kk := by
 have nod1 : nth [some (.inst 611 A.k), some (nod coll tr), some into, some (.int g), none] 1 = some (.obj 278 (fld coll tr)) := by
  rw [← hcl, ← Ky]; rfl
 refine Yg (Yb nod1 (by decide)) ?_
 refine Yg (Yb nod1 (by decide)) ?_
 refine Yg (Yb nod1 (by decide)) ?_
 refine Yg (Yb nod1 (by decide)) ?_
 refine Yg (Yb nod1 (by decide)) ?_
 refine Yg (Yb nod1 (by decide)) ?_
 refine Yg (Yb nod1 (by decide)) ?_
 refine Yg (Yb nod1 (by decide)) ?_
 refine Vf (Y1 nod1 (by decide)) ?_
 refine Xc ?_
 refine X4 ⟨rfl, h, c⟩ rfl (Zc (Zn rfl) (Zc (Zn rfl) Zp)) ?_
 exact k
theorem ex_inn0 {t : Tr} {ng : Bool} (c : CI A Z) (hc : CollOk coll) (ht : Wf t) (hv : IsV (fv coll r t)) (hn : t.dep + 3 ≤ n) (xt : ExS A Z coll r t (n + 1)) : ExB A Z coll r (.inn0 t ng) (n + 2) := fun into g ps σ N Kk Q h w hb h1 h2 k => by
 simp only [Tr.dep, zz] at hb k
 refine to_in c h rfl ?_
 refine in_list (vs := fun _ => []) (t := t) (ng := ng) (ni := 0) c hc ht hv hn xt rfl rfl rfl h w (by lia) h1 h2 (fun ps4 σ4 s hit R g4 w4 b4 hs _ hg hne hh0 kk => ?_) fun ps' σ' h' x => k _ _ h' ⟨x.sg.to (by lia) fun _ h => h, x.run⟩
 refine s_for0 (Yr rfl (by decide) rfl) ?_
 exact kk _ _ _ _ _ _ g4 .zero
theorem ex_inn1 {t a : Tr} {ng : Bool} (c : CI A Z) (hc : CollOk coll) (ht : Wf t) (hv : IsV (fv coll r t)) (va : IsV (fv coll r a)) (hn : t.dep + 3 ≤ n) (xt : ExS A Z coll r t (n + 1)) (xa : ExS A Z coll r a (n + 1)) : ExB A Z coll r (.inn1 t a ng) (n + 2) := fun into g ps σ N Kk Q h w hb h1 h2 k => by
 simp only [Tr.dep, zz] at hb k
 have z1 : zz t.dep ≤ zz (max t.dep a.dep) := Kq (by lia)
 have z2 : zz a.dep ≤ zz (max t.dep a.dep) := Kq (by lia)
 refine to_in c h rfl ?_
 refine in_list (vs := fun v => [pairD "=" t none v (fv coll r a) coll]) (t := t) (ng := ng) (ni := zz a.dep + 5) c hc ht hv hn xt rfl rfl rfl h w (by lia) h1 h2 (fun ps4 σ4 s hit R g4 w4 b4 hs _ hg hne hh0 kk => ?_) fun ps' σ' h' x => k _ _ h' ⟨x.sg.to (by lia) fun _ h => h, x.run⟩
 refine s_for1 (d1 := nod coll a) (Yr rfl (by decide) rfl) ?_
 rw [Xv]
 refine item (t := t) (u := a) (n := n) c ht va xa g4 w4 (by lia) hs h1 hg hne hh0 fun ps5 σ5 y8 y9 y10 g5 x5 => ?_
 exact kk _ _ _ _ _ _ g5 x5.one
theorem ex_inn2 {t a b : Tr} {ng : Bool} (c : CI A Z) (hc : CollOk coll) (ht : Wf t) (hv : IsV (fv coll r t)) (va : IsV (fv coll r a)) (vb : IsV (fv coll r b)) (hn : t.dep + 3 ≤ n) (xt : ExS A Z coll r t (n + 1)) (xa : ExS A Z coll r a (n + 1)) (xb : ExS A Z coll r b (n + 1)) : ExB A Z coll r (.inn2 t a b ng) (n + 2) := fun into g ps σ N Kk Q h w hb h1 h2 k => by
 simp only [Tr.dep, zz] at hb k
 have z1 : zz t.dep ≤ zz (max t.dep (max a.dep b.dep)) := Kq (by lia)
 have z2 : zz a.dep ≤ zz (max t.dep (max a.dep b.dep)) := Kq (by lia)
 have z3 : zz b.dep ≤ zz (max t.dep (max a.dep b.dep)) := Kq (by lia)
 refine to_in c h rfl ?_
 refine in_list (vs := fun v => [pairD "=" t none v (fv coll r a) coll, pairD "=" t none v (fv coll r b) coll]) (t := t) (ng := ng) (ni := zz a.dep + 5 + (zz b.dep + 5)) c hc ht hv hn xt rfl rfl rfl h w (by lia) h1 h2 (fun ps4 σ4 s hit R g4 w4 b4 hs _ hg hne hh0 kk => ?_) fun ps' σ' h' x => k _ _ h' ⟨x.sg.to (by lia) fun _ h => h, x.run⟩
 refine s_for2 (d1 := nod coll a) (d2 := nod coll b) (Yr rfl (by decide) rfl) ?_
 rw [Xv]
 refine item (t := t) (u := a) (n := n) c ht va xa g4 w4 (by lia) hs h1 hg hne hh0 fun ps5 σ5 y8 y9 y10 g5 x5 => ?_
 have w5 := x5.sg.wf w4
 have z5 := x5.sg.sz
 have r5 := x5.sg.regs
 rw [Xv]
 refine item (t := t) (u := b) (n := n) c ht vb xb g5 w5 (by lia) (by lia) h1 (by lia) hne hh0 fun ps6 σ6 y8 y9 y10 g6 x6 => ?_
 exact kk _ _ _ _ _ _ g6 (x5.one.more x6 w4 hs hne h1 hg)
end
theorem JmpOk.to {r : Int → D} {j j' : Bool} {l : Int} {y z : Nat} {a b : PSt} (x : JmpOk r j l y a b) (e : j = j') (h : y ≤ z) : JmpOk r j' l z a b := by
 subst e; exact ⟨x.sg.to h fun _ h => h, x.run⟩
theorem JmpOk.or {r : Int → D} {i j : Bool} {l : Int} {y z : Nat} {a b c : PSt} (w : WfP a) (p : JmpOk r i l y a b) (q : JmpOk r j l z b c) : JmpOk r (i || j) l (y + z) a c :=
 ⟨p.sg.trans q.sg, fun code lb h F hl hr => by
  have le2 := q.sg.le
  have rg := p.sg.regs
  obtain ⟨h1, p1, k1⟩ := p.run code lb h (q.sg.fin F) (by lia) hr
  cases i with
  | true => exact ⟨h1, p1, k1⟩
  | false =>
   obtain ⟨h2, p2, k2⟩ := q.run code lb h1 F hl (hr.keep' k1 w.regs)
   exact ⟨h2, p1.trans p2, fun x hx => (k2 x (by lia)).trans (k1 x hx)⟩⟩
theorem JmpOk.past {r : Int → D} {i j : Bool} {l : Int} {y z : Nat} {a b c : PSt} (w : WfP a) (hl0 : l < 0) (p : JmpOk r i a.nl y a.lbl b) (q : JmpOk r j l z b c) : JmpOk r (!i && j) l (y + z + 1) a (c.plc a.nl) := by
 have sg : Seg [a.nl, l] (y + z) a.lbl c := (p.sg.to (Nat.le_refl _) fun _ h => by simp at h; simp [h]).trans (q.sg.to (Nat.le_refl _) fun _ h => by simp at h; simp [h])
 have fr := sg.fresh w
 refine ⟨(((Seg.lbl [a.nl, l] a).trans sg).close fr sg.below (Int.le_refl _)).to (by lia) fun _ h => h, fun code lb h F hl hr => ?_⟩
 have F2 := F.plc
 have el := F.lab fr
 have le2 := q.sg.le
 have rg := p.sg.regs
 simp at rg hl
 obtain ⟨h1, p1, k1⟩ := p.run code lb h (q.sg.fin F2) (by lia) hr
 cases i with
 | true =>
  rw [if_pos rfl, el] at p1
  exact ⟨h1, p1, k1⟩
 | false =>
  obtain ⟨h2, p2, k2⟩ := q.run code lb h1 F2 hl (hr.keep' k1 w.regs)
  exact ⟨h2, p1.trans p2, fun x hx => (k2 x (by lia)).trans (k1 x hx)⟩
section
variable {n : Nat} {A : PA} {Z : Sto} {σ : Sto} {Q : D → Sto → Prop} {coll : Str} {r : Int → D} {ps : PSt}
theorem jmp_of {t : Tr} {i : Ins} {l : Int} {j : Bool} {ps1 : PSt} (w : WfP ps) (hl0 : l < 0) (x1 : ExOk r (fv coll r t) ps.regs (zz t.dep) ps.reg ps1) (hi : labOf i = some l) (hrd : ∀ h : H, h ps.regs = fv coll r t → Rd h i) (hx : ∀ (lb : Int → Nat) (pc : Nat) (h : H), h ps.regs = fv coll r t → nxt lb pc h i = (if j then lb l else pc + 1, h)) : JmpOk r j l (zz t.dep + 1) ps (ps1.add i) := by
 refine ⟨((Seg.reg _ ps).trans ((x1.sg.to (Nat.le_refl _) (fun _ h => by simp at h)).trans (Seg.add fun l' e => by rw [hi] at e; cases e; exact ⟨hl0, by simp⟩))).to (by lia) fun _ h => h, fun code lb h F hl hr => ?_⟩
 obtain ⟨h1, p1, e1, k1⟩ := x1.run code lb h F.of_add hr
 simp at hl
 refine ⟨h1, p1.trans ?_, fun x hx => k1 x (by simp; lia) (by lia)⟩
 cases j with
 | true => exact F.jump (hrd h1 e1) (hx lb _ h1 e1) (by simp; lia)
 | false => exact F.step (hrd h1 e1) (hx lb _ h1 e1)
theorem iv01 (b : Bool) : (if b then wI 1 else wI 0) = wI (if b then 1 else 0) := by cases b <;> rfl
theorem ji_last {t : Tr} {l : Int} {u : Bool} {N Kk : Loc → Sto → Prop} (c : CI A Z) (hl0 : l < 0) (x : ExS A Z coll r t (n + 1)) (hv : IsV (fv coll r t)) (h : PI A Z ps σ) (w : WfP ps) (hb : ps.sz + zz t.dep + 1 ≤ 5000) (k : ∀ ps' σ' ρ', PI A Z ps' σ' → JmpOk r (tru (trueD (fv coll r t)) true u) l (zz t.dep + 1) ps ps' → N ρ' σ') :
  (sSeq (sAsg (wMeth 611 508 "expression" (wV 0) [(wV 1)]) (aName 5)) (sSeq (sExpr (wMeth 707 639 "add" (wAttr Zo "program" (wV 0)) [(wS "If"), (wV 5), (wV 2), (wIf (tOf oTr (wV 3)) (wI 1) (wI 0))])) sNil)) (Cn (n + 1)) [some (.inst 611 A.k), some (nod coll t), some (.int l), some (.bool u), none, none] σ N Q Kk := by
 refine Zgv ⟨rfl, h, c⟩ (Zn rfl) x w (by lia) fun ps1 σ1 g1 x1 => ?_
 have z1 := x1.sg.sz
 simp at z1
 refine V5 ⟨rfl, g1, c⟩ (i := .jif ps.regs l u) (Zc Y3 (Zc (Zn rfl) (Zc (Zn rfl) (Zc (Vo (X9 (Zn rfl)) (by rw [iv01]; exact Yw)) Zp)))) rfl (by lia) fun σ' h' => ?_
 exact k _ _ _ h' (jmp_of w hl0 x1 rfl (fun h e => by show IsV _; rw [e]; exact hv) fun lb pc h e => by simp only [nxt, e])
theorem ju_last {t : Tr} {l : Int} {u : Bool} {N Kk : Loc → Sto → Prop} (c : CI A Z) (hl0 : l < 0) (x : ExS A Z coll r t (n + 1)) (hv : IsV (fv coll r t)) (h : PI A Z ps σ) (w : WfP ps) (hb : ps.sz + zz t.dep + 1 ≤ 5000) (k : ∀ ps' σ' ρ', PI A Z ps' σ' → JmpOk r (tru (trueD (fv coll r t)) false u) l (zz t.dep + 1) ps ps' → N ρ' σ') :
  (sSeq (sAsg (wMeth 611 508 "expression" (wV 0) [(wV 1)]) (aName 5)) (sSeq (sExpr (wMeth 707 639 "add" (wAttr Zo "program" (wV 0)) [(wS "IfNot"), (wV 5), (wV 2), (wIf (tOf oTr (wV 3)) (wI 1) (wI 0))])) sNil)) (Cn (n + 1)) [some (.inst 611 A.k), some (nod coll t), some (.int l), some (.bool u), none, none] σ N Q Kk := by
 refine Zgv ⟨rfl, h, c⟩ (Zn rfl) x w (by lia) fun ps1 σ1 g1 x1 => ?_
 have z1 := x1.sg.sz
 simp at z1
 refine V5 ⟨rfl, g1, c⟩ (i := .jun ps.regs l u) (Zc Y3 (Zc (Zn rfl) (Zc (Zn rfl) (Zc (Vo (X9 (Zn rfl)) (by rw [iv01]; exact Yw)) Zp)))) rfl (by lia) fun σ' h' => ?_
 exact k _ _ _ h' (jmp_of w hl0 x1 rfl (fun h e => by show IsV _; rw [e]; exact hv) fun lb pc h e => by simp only [nxt, e])
inductive Lst : Tr → Prop
 | col (i) : Lst (.col i)
 | val (v) : Lst (.val v)
 | neg (t) : Lst (.un "-" t)
 | ari (op : Str) (a b) : (op = "+" ∨ op = "*") → Lst (.bin op a b)
 | inn0 (t n) : Lst (.inn0 t n)
 | inn1 (t a n) : Lst (.inn1 t a n)
 | inn2 (t a b n) : Lst (.inn2 t a b n)
 | btw (a b c n) : Lst (.btw a b c n)
 | cas1 (b w t) : Lst (.cas1 b w t)
 | cas2 (b w t o) : Lst (.cas2 b w t o)
theorem J1 {op : Str} {s : String} {C : Ora} {ρ : Loc} {i : Nat} {c : Addr} {fs : List (Str × D)} {b : Bool} (h : nth ρ i = some (.obj c fs)) (hc : c ∈ U5) (hf : slook fs "op" = some (.str op)) (e : (op == s) = b) : Ti (tCmp oEq (wAttr U5 "op" (wV i)) (wS s)) C ρ σ b := ti_eq h hc hf e
theorem ji_lst {t : Tr} (c : CI A Z) (hL : Lst t) (hv : IsV (fv coll r t)) (x : ExS A Z coll r t (n + 1)) : JiS A Z coll r t (n + 2) := fun l u ps σ Q h w hb hl0 k => by
 refine en_586.mpr ?_
 cases hL with
 | neg t =>
  refine Yg (Z3 (Yb rfl (by decide))) ?_
  refine Yg (Z3 (Yb rfl (by decide))) ?_
  refine Yg (Xh (Y1 rfl (by decide)) (J1 (op := "-") rfl (by decide) rfl (by simp))) ?_
  refine Yg (Z3 (Yb rfl (by decide))) ?_
  refine Yg (Yb rfl (by decide)) ?_
  refine ji_last c hl0 x hv h w (by lia) fun ps' σ' ρ' h' j => ?_
  simp only [Jj]; exact k _ _ h' j
 | ari op a b ho =>
  have e1 : (op == Str.ofString "and") = false := by rcases ho with rfl | rfl <;> simp
  have e2 : (op == Str.ofString "or") = false := by rcases ho with rfl | rfl <;> simp
  have e3 : op ∈ LA := by rcases ho with rfl | rfl <;> simp [LA]
  refine Yg (Xh (Y1 rfl (by decide)) (J1 (op := op) rfl (by decide) rfl e1)) ?_
  refine Yg (Xh (Y1 rfl (by decide)) (J1 (op := op) rfl (by decide) rfl e2)) ?_
  refine Yg (Z3 (Yb rfl (by decide))) ?_
  refine Yg (Xh (Y1 rfl (by decide)) (X9 (Zy (Zc (Yr rfl (by decide) rfl) Zp) fun Q q => Zbh (.inr ⟨rfl, e3⟩) q))) ?_
  refine Yg (Yb rfl (by decide)) ?_
  refine ji_last c hl0 x hv h w (by lia) fun ps' σ' ρ' h' j => ?_
  simp only [Jj]; exact k _ _ h' j
 | _ =>
  refine Yg (Z3 (Yb rfl (by decide))) ?_
  refine Yg (Z3 (Yb rfl (by decide))) ?_
  refine Yg (Z3 (Yb rfl (by decide))) ?_
  refine Yg (Z3 (Yb rfl (by decide))) ?_
  refine Yg (Yb rfl (by decide)) ?_
  refine ji_last c hl0 x hv h w (by lia) fun ps' σ' ρ' h' j => ?_
  simp only [Jj]; exact k _ _ h' j
theorem ju_lst {t : Tr} (c : CI A Z) (hL : Lst t) (hv : IsV (fv coll r t)) (x : ExS A Z coll r t (n + 1)) : JuS A Z coll r t (n + 2) := fun l u ps σ Q h w hb hl0 k => by
 refine en_594.mpr ?_
 cases hL with
 | neg t =>
  refine Yg (Z3 (Yb rfl (by decide))) ?_
  refine Yg (Z3 (Yb rfl (by decide))) ?_
  refine Yg (Xh (Y1 rfl (by decide)) (J1 (op := "-") rfl (by decide) rfl (by simp))) ?_
  refine Yg (Z3 (Yb rfl (by decide))) ?_
  refine Yg (Yb rfl (by decide)) ?_
  refine ju_last c hl0 x hv h w (by lia) fun ps' σ' ρ' h' j => ?_
  simp only [Jj]; exact k _ _ h' j
 | ari op a b ho =>
  have e1 : (op == Str.ofString "and") = false := by rcases ho with rfl | rfl <;> simp
  have e2 : (op == Str.ofString "or") = false := by rcases ho with rfl | rfl <;> simp
  have e3 : op ∈ LA := by rcases ho with rfl | rfl <;> simp [LA]
  refine Yg (Xh (Y1 rfl (by decide)) (J1 (op := op) rfl (by decide) rfl e2)) ?_
  refine Yg (Xh (Y1 rfl (by decide)) (J1 (op := op) rfl (by decide) rfl e1)) ?_
  refine Yg (Z3 (Yb rfl (by decide))) ?_
  refine Yg (Xh (Y1 rfl (by decide)) (X9 (Zy (Zc (Yr rfl (by decide) rfl) Zp) fun Q q => Zbh (.inr ⟨rfl, e3⟩) q))) ?_
  refine Yg (Yb rfl (by decide)) ?_
  refine ju_last c hl0 x hv h w (by lia) fun ps' σ' ρ' h' j => ?_
  simp only [Jj]; exact k _ _ h' j
 | _ =>
  refine Yg (Z3 (Yb rfl (by decide))) ?_
  refine Yg (Z3 (Yb rfl (by decide))) ?_
  refine Yg (Z3 (Yb rfl (by decide))) ?_
  refine Yg (Z3 (Yb rfl (by decide))) ?_
  refine Yg (Yb rfl (by decide)) ?_
  refine ju_last c hl0 x hv h w (by lia) fun ps' σ' ρ' h' j => ?_
  simp only [Jj]; exact k _ _ h' j
end
theorem tru_not {v : D} (h : IsT v) (u : Bool) : tru (trueD (oppD v true)) true u = tru v false u ∧ tru (trueD (oppD v true)) false u = tru v true u := by
 cases h <;> simp [oppD, trueD, numD, tru]
theorem tru_and {a b : D} (ha : IsT a) (hb : IsT b) (u : Bool) : tru (trueD (eitherD true a b)) true u = (!(tru a false (!u)) && tru b true u) ∧ tru (trueD (eitherD true a b)) false u = (tru a false u || tru b false u) := by
 cases ha <;> cases hb <;> cases u <;> decide
theorem tru_or {a b : D} (ha : IsT a) (hb : IsT b) (u : Bool) : tru (trueD (eitherD false a b)) false u = (!(tru a true (!u)) && tru b false u) ∧ tru (trueD (eitherD false a b)) true u = (tru a true u || tru b true u) := by
 cases ha <;> cases hb <;> cases u <;> decide
theorem isN_tru {v : D} (ng u : Bool) : tru (trueD (.int (if (isNoneD v != ng) then 1 else 0))) true u = (isNoneD v != ng) ∧ tru (trueD (.int (if (isNoneD v != ng) then 1 else 0))) false u = !(isNoneD v != ng) := by
 cases isNoneD v <;> cases ng <;> cases u <;> decide
section
variable {n : Nat} {A : PA} {Z : Sto} {σ : Sto} {Q : D → Sto → Prop} {coll : Str} {r : Int → D} {ps : PSt}
theorem jmp_null {t : Tr} {tr nd : D} {l : Int} {g : Bool} (c : CI A Z) (hl0 : l < 0) (x : ExS A Z coll r t (n + 1)) (hnd : nd = .obj 406 [("value", nod coll t), ("negated", tr)]) (h : PI A Z ps σ) (w : WfP ps) (hb : ps.sz + zz t.dep + 1 ≤ 5000) (k : ∀ ps' σ', PI A Z ps' σ' → JmpOk r (isNoneD (fv coll r t) != g) l (zz t.dep + 1) ps ps' → Q .none σ') :
  Cn (n + 2) 608 [.inst 611 A.k, nd, .bool g, .int l] σ Q := by
 subst hnd
 refine en_608.mpr ?_
 refine Zgv ⟨rfl, h, c⟩ (Yr rfl (by decide) rfl) x w (by lia) fun ps1 σ1 g1 x1 => ?_
 have z1 := x1.sg.sz
 simp at z1
 cases g with
 | true =>
  refine V5 ⟨rfl, g1, c⟩ (i := .non ps.regs l) (Zc (Vo (X9 (Zn rfl)) Y3) (Zc (Zn rfl) (Zc (Zn rfl) Zp))) rfl (by lia) fun σ' h' => ?_
  refine k _ _ h' (jmp_of w hl0 x1 rfl (fun h e => trivial) fun lb pc h e => ?_)
  simp only [nxt, e]; cases isNoneD (fv coll r t) <;> rfl
 | false =>
  refine V5 ⟨rfl, g1, c⟩ (i := .isn ps.regs l) (Zc (Vo (X9 (Zn rfl)) Y3) (Zc (Zn rfl) (Zc (Zn rfl) Zp))) rfl (by lia) fun σ' h' => ?_
  refine k _ _ h' (jmp_of w hl0 x1 rfl (fun h e => trivial) fun lb pc h e => ?_)
  simp only [nxt, e]; cases isNoneD (fv coll r t) <;> rfl
theorem jmp_cmp {op op' : Str} {a b : Tr} {l : Int} {u : Bool} (c : CI A Z) (hc : CollOk coll) (hl0 : l < 0) (ho' : op' ∈ Ops) (ha : Wf a) (hb' : Wf b) (va : IsV (fv coll r a)) (vb : IsV (fv coll r b)) (hn : max a.dep b.dep + 3 ≤ n) (xa : ExS A Z coll r a n) (xb : ExS A Z coll r b n) (h : PI A Z ps σ) (w : WfP ps) (hb : ps.sz + zz a.dep + zz b.dep + 1 ≤ 5000)
  (k : ∀ ps' σ', PI A Z ps' σ' → JmpOk r (tru (pairD op' a (some b) (fv coll r a) (fv coll r b) coll) true u) l (zz a.dep + zz b.dep + 1) ps ps' → Q .none σ') : Cn (n + 1) 601 [.inst 611 A.k, nod coll (.bin op a b), .str op', .int l, .bool u] σ Q := by
 obtain ⟨m, rfl⟩ : ∃ m, n = m + 1 := ⟨n - 1, by lia⟩
 refine en_601.mpr ?_
 refine Zgv ⟨rfl, h, c⟩ (Yr rfl (by decide) rfl) xa w (by lia) fun ps1 σ1 g1 x1 => ?_
 have z1 := x1.sg.sz
 simp at z1
 have w1 := x1.sg.wf ((Seg.reg [] ps).wf w)
 refine Zgv ⟨rfl, g1, c⟩ (Yr rfl (by decide) rfl) xb w1 (by lia) fun ps2 σ2 g2 x2 => ?_
 have z2 := x2.sg.sz
 simp at z2
 have r1 := x1.sg.regs
 simp at r1
 have w0 := w.regs
 refine Yo (Zy (Zc (Zy (Zc (Yr rfl (by decide) rfl) Zp) fun Q q => affinity_of (coll := coll) (t := a) q) (Zc (Zy (Zc (Yr rfl (by decide) rfl) Zp) fun Q q => affinity_of (coll := coll) (t := b) q) Zp)) fun Q q => Zb6 (Xy ha.cols) (Xy hb'.cols) q) ?_
 refine Yo (Xp (Zc (Zn rfl) (Zc (Zy (Zc (Yr rfl (by decide) rfl) (Zc (Yr rfl (by decide) rfl) Zp)) fun Q q => Zcp (coll := coll) (t := a) (u := b) hc (by lia) ha hb' q) (Zc (Zn rfl) (Zc (Zn rfl) Zp))))) ?_
 refine V5 ⟨rfl, g2, c⟩ (i := .cmpj ps.regs l ps1.regs op' (collP (colT a) (colT b) coll) (paN (affT a) (affT b)).1 (paN (affT a) (affT b)).2 u) (Zc Y3 (Zc (Zn rfl) (Zc (Zn rfl) (Zc (Zn rfl) (Zc (Zn rfl) Zp))))) rfl (by lia) fun σ' h' => ?_
 refine k _ _ h' ⟨((Seg.reg _ ps).trans ((x1.sg.to (Nat.le_refl _) (fun _ h => by simp at h)).trans ((Seg.reg _ ps1).trans ((x2.sg.to (Nat.le_refl _) (fun _ h => by simp at h)).trans (Seg.add fun l' e => by cases e; exact ⟨hl0, by simp⟩))))).to (by lia) fun _ h => h, fun code lb hh F hl hr => ?_⟩
 simp at hl
 obtain ⟨h1', p1, e1, k1⟩ := x1.run code lb hh (x2.sg.fin F.of_add).of_reg hr
 obtain ⟨h2', p2, e2, k2⟩ := x2.run code lb h1' F.of_add (hr.keep k1 (by simp; lia) (by lia))
 have e1' : h2' ps.regs = fv coll r a := by rw [k2 ps.regs (by simp; lia) (by lia)]; exact e1
 have hp := paN_ok (Xy ha.cols) (Xy hb'.cols)
 have rd : Rd h2' (.cmpj ps.regs l ps1.regs op' (collP (colT a) (colT b) coll) (paN (affT a) (affT b)).1 (paN (affT a) (affT b)).2 u) := ⟨by rw [e1']; exact va, by rw [e2]; exact vb, ho', hp.1, hp.2⟩
 have en : ∀ pc, nxt lb pc h2' (.cmpj ps.regs l ps1.regs op' (collP (colT a) (colT b) coll) (paN (affT a) (affT b)).1 (paN (affT a) (affT b)).2 u) = (if tru (pairD op' a (some b) (fv coll r a) (fv coll r b) coll) true u then lb l else pc + 1, h2') := fun pc => by
  simp only [nxt, e1', e2, pair_eq ha hb']
 refine ⟨h2', (p1.trans p2).trans ?_, fun y hy => by rw [k2 y (by simp; lia) (by lia)]; exact k1 y (by simp; lia) (by lia)⟩
 cases j : tru (pairD op' a (some b) (fv coll r a) (fv coll r b) coll) true u with
 | true => exact F.jump rd (by rw [en, j]; rfl) (by simp; lia)
 | false => exact F.step rd (by rw [en, j]; rfl)
theorem ji_nul {t : Tr} {ng : Bool} (c : CI A Z) (x : ExS A Z coll r t (n + 1)) : JiS A Z coll r (.nul t ng) (n + 3) := fun l u ps σ Q h w hb hl0 k => by
 simp only [Tr.dep, zz] at hb k
 refine en_586.mpr ?_
 refine Yg (Z3 (Yb rfl (by decide))) ?_
 refine Yg (Z3 (Yb rfl (by decide))) ?_
 refine Yg (Z3 (Yb rfl (by decide))) ?_
 refine Yg (Z3 (Yb rfl (by decide))) ?_
 refine Vf (Y1 rfl (by decide)) ?_
 refine Xc ?_
 refine X4 ⟨rfl, h, c⟩ rfl (Zc (Zn rfl) (Zc (Yr (d := .bool ng) rfl (by decide) rfl) (Zc (Zn rfl) Zp))) ?_
 refine jmp_null c hl0 x rfl h w (by lia) fun ps' σ' h' j => ?_
 refine Xx ?_
 exact k _ _ h' (j.to (isN_tru ng u).1.symm (by lia))
theorem ju_nul {t : Tr} {ng : Bool} (c : CI A Z) (x : ExS A Z coll r t (n + 1)) : JuS A Z coll r (.nul t ng) (n + 3) := fun l u ps σ Q h w hb hl0 k => by
 simp only [Tr.dep, zz] at hb k
 refine en_594.mpr ?_
 refine Yg (Z3 (Yb rfl (by decide))) ?_
 refine Yg (Z3 (Yb rfl (by decide))) ?_
 refine Yg (Z3 (Yb rfl (by decide))) ?_
 refine Yg (Z3 (Yb rfl (by decide))) ?_
 refine Vf (Y1 rfl (by decide)) ?_
 refine Xc ?_
 refine X4 ⟨rfl, h, c⟩ rfl (Zc (Zn rfl) (Zc (ev_notb (Yr (d := .bool ng) rfl (by decide) rfl)) (Zc (Zn rfl) Zp))) ?_
 refine jmp_null c hl0 x rfl h w (by lia) fun ps' σ' h' j => ?_
 refine Xx ?_
 refine k _ _ h' (j.to ?_ (by lia))
 rw [show fv coll r (.nul t ng) = .int (if isNoneD (fv coll r t) != ng then 1 else 0) from rfl, (isN_tru ng u).2]
 cases isNoneD (fv coll r t) <;> cases ng <;> rfl
theorem ji_not {t : Tr} (c : CI A Z) (x : JuS A Z coll r t n) : JiS A Z coll r (.un "not" t) (n + 1) := fun l u ps σ Q h w hb hl0 k => by
 simp only [Tr.dep, zz] at hb k
 refine en_586.mpr ?_
 refine Yg (Z3 (Yb rfl (by decide))) ?_
 refine Yg (Z3 (Yb rfl (by decide))) ?_
 refine Vf (Xh (Y1 rfl (by decide)) (J1 (op := "not") rfl (by decide) rfl (by simp))) ?_
 refine Xc ?_
 refine X4 ⟨rfl, h, c⟩ rfl (Zc (Yr (d := nod coll t) rfl (by decide) rfl) (Zc (Zn rfl) (Zc (Zn rfl) Zp))) ?_
 refine x l u ps σ _ h w (by lia) hl0 fun ps' σ' h' j => ?_
 refine Xx ?_
 exact k _ _ h' (j.to (tru_not (Xd _) u).1.symm (by lia))
theorem ju_not {t : Tr} (c : CI A Z) (x : JiS A Z coll r t n) : JuS A Z coll r (.un "not" t) (n + 1) := fun l u ps σ Q h w hb hl0 k => by
 simp only [Tr.dep, zz] at hb k
 refine en_594.mpr ?_
 refine Yg (Z3 (Yb rfl (by decide))) ?_
 refine Yg (Z3 (Yb rfl (by decide))) ?_
 refine Vf (Xh (Y1 rfl (by decide)) (J1 (op := "not") rfl (by decide) rfl (by simp))) ?_
 refine Xc ?_
 refine X4 ⟨rfl, h, c⟩ rfl (Zc (Yr (d := nod coll t) rfl (by decide) rfl) (Zc (Zn rfl) (Zc (Zn rfl) Zp))) ?_
 refine x l u ps σ _ h w (by lia) hl0 fun ps' σ' h' j => ?_
 refine Xx ?_
 exact k _ _ h' (j.to (tru_not (Xd _) u).2.symm (by lia))
theorem fv_and (a b : Tr) : fv coll r (.bin "and" a b) = eitherD true (trueD (fv coll r a)) (trueD (fv coll r b)) := by
 rw [Zac, if_pos (by simp [LA])]; unfold laD; simp
theorem fv_or (a b : Tr) : fv coll r (.bin "or" a b) = eitherD false (trueD (fv coll r a)) (trueD (fv coll r b)) := by
 rw [Zac, if_pos (by simp [LA])]; unfold laD; simp
theorem s_past {na nb : Tr} {f1 f2 : Addr} {j1 j2 : Bool} {l : Int} {u : Bool} {op : Str} {name1 name2 : Str} {N Kk : Loc → Sto → Prop} (c : CI A Z) (hn1 : slook (kAt A) name1 = none) (hn2 : slook (kAt A) name2 = none) (hl0 : l < 0) (h : PI A Z ps σ) (w : WfP ps) (hb : ps.sz + zz na.dep + 1 + zz nb.dep + 1 ≤ 5000)
  (xa : ∀ (ps : PSt) (σ : Sto) (l : Int) (Q : D → Sto → Prop), PI A Z ps σ → WfP ps → ps.sz + zz na.dep + 1 ≤ 5000 → l < 0 → (∀ ps' σ', PI A Z ps' σ' → JmpOk r j1 l (zz na.dep + 1) ps ps' → Q .none σ') → Cn (n + 1) f1 [.inst 611 A.k, nod coll na, .int l, .bool !u] σ Q)
  (xb : ∀ (ps : PSt) (σ : Sto) (Q : D → Sto → Prop), PI A Z ps σ → WfP ps → ps.sz + zz nb.dep + 1 ≤ 5000 → (∀ ps' σ', PI A Z ps' σ' → JmpOk r j2 l (zz nb.dep + 1) ps ps' → Q .none σ') → Cn (n + 1) f2 [.inst 611 A.k, nod coll nb, .int l, .bool u] σ Q)
  (k : ∀ ps' σ' ρ', PI A Z ps' σ' → JmpOk r (!j1 && j2) l (zz na.dep + zz nb.dep + 3) ps ps' → N ρ' σ') :
  (sSeq (sAsg (wMeth 707 653 "label" (wAttr Zo "program" (wV 0)) []) (aName 4)) (sSeq (sExpr (wMeth 611 f1 name1 (wV 0) [(wAttr Vv "left" (wV 1)), (wV 4), (wNot oTr (wV 3))])) (sSeq (sExpr (wMeth 611 f2 name2 (wV 0) [(wAttr X0 "right" (wV 1)), (wV 2), (wV 3)])) (sSeq (sExpr (wMeth 707 660 "place" (wAttr Zo "program" (wV 0)) [(wV 4)])) sNil)))) (Cn (n + 1)) [some (.inst 611 A.k), some (nod coll (.bin op na nb)), some (.int l), some (.bool u), none, none] σ N Q Kk := by
 refine Zfq ⟨rfl, h, c⟩ fun σ1 g1 => ?_
 have w1 := (Seg.lbl [] ps).wf w
 refine Xc ?_
 refine X4 ⟨rfl, g1, c⟩ hn1 (Zc (Yr (d := nod coll na) rfl (by decide) rfl) (Zc (Zn rfl) (Zc (ev_notb (Zn rfl)) Zp))) ?_
 refine xa _ _ _ _ g1 w1 (by simp; lia) w.nl fun ps2 σ2 g2 x2 => ?_
 have z2 := x2.sg.sz
 simp at z2
 have w2 := x2.sg.wf w1
 refine Xc ?_
 refine X4 ⟨rfl, g2, c⟩ hn2 (Zc (Yr (d := nod coll nb) rfl (by decide) rfl) (Zc (Zn rfl) (Zc (Zn rfl) Zp))) ?_
 refine xb _ _ _ g2 w2 (by lia) fun ps3 σ3 g3 x3 => ?_
 have z3 := x3.sg.sz
 have J := x2.past w hl0 x3
 have sg : Seg [ps.nl, l] (zz na.dep + 1 + (zz nb.dep + 1)) ps.lbl ps3 := (x2.sg.to (Nat.le_refl _) fun _ h => by simp at h; simp [h]).trans (x3.sg.to (Nat.le_refl _) fun _ h => by simp at h; simp [h])
 refine Zfz ⟨rfl, g3, c⟩ rfl w.nl sg.below (sg.fresh w) (by lia) fun σ4 g4 => ?_
 exact k _ _ _ g4 (J.to rfl (by lia))
theorem s_both {na nb : Tr} {f1 : Addr} {j1 j2 : Bool} {l : Int} {u : Bool} {op : Str} {name1 : Str} {N Kk : Loc → Sto → Prop} {x4 x5 : Option D} (c : CI A Z) (hn1 : slook (kAt A) name1 = none) (hl0 : l < 0) (h : PI A Z ps σ) (w : WfP ps) (hb : ps.sz + zz na.dep + 1 + zz nb.dep + 1 ≤ 5000)
  (xa : ∀ (ps : PSt) (σ : Sto) (Q : D → Sto → Prop), PI A Z ps σ → WfP ps → ps.sz + zz na.dep + 1 ≤ 5000 → (∀ ps' σ', PI A Z ps' σ' → JmpOk r j1 l (zz na.dep + 1) ps ps' → Q .none σ') → Cn (n + 1) f1 [.inst 611 A.k, nod coll na, .int l, .bool u] σ Q)
  (xb : ∀ (ps : PSt) (σ : Sto) (Q : D → Sto → Prop), PI A Z ps σ → WfP ps → ps.sz + zz nb.dep + 1 ≤ 5000 → (∀ ps' σ', PI A Z ps' σ' → JmpOk r j2 l (zz nb.dep + 1) ps ps' → Q .none σ') → Cn (n + 1) f1 [.inst 611 A.k, nod coll nb, .int l, .bool u] σ Q)
  (k : ∀ ps' σ' ρ', PI A Z ps' σ' → JmpOk r (j1 || j2) l (zz na.dep + zz nb.dep + 3) ps ps' → N ρ' σ') :
  (sSeq (sExpr (wMeth 611 f1 name1 (wV 0) [(wAttr Vv "left" (wV 1)), (wV 2), (wV 3)])) (sSeq (sExpr (wMeth 611 f1 name1 (wV 0) [(wAttr X0 "right" (wV 1)), (wV 2), (wV 3)])) sNil)) (Cn (n + 1)) [some (.inst 611 A.k), some (nod coll (.bin op na nb)), some (.int l), some (.bool u), x4, x5] σ N Q Kk := by
 refine Xc ?_
 refine X4 ⟨rfl, h, c⟩ hn1 (Zc (Yr (d := nod coll na) rfl (by decide) rfl) (Zc (Zn rfl) (Zc (Zn rfl) Zp))) ?_
 refine xa _ _ _ h w (by lia) fun ps2 σ2 g2 x2 => ?_
 have z2 := x2.sg.sz
 have w2 := x2.sg.wf w
 refine Xc ?_
 refine X4 ⟨rfl, g2, c⟩ hn1 (Zc (Yr (d := nod coll nb) rfl (by decide) rfl) (Zc (Zn rfl) (Zc (Zn rfl) Zp))) ?_
 refine xb _ _ _ g2 w2 (by lia) fun ps3 σ3 g3 x3 => ?_
 exact k _ _ _ g3 ((x2.or w x3).to rfl (by lia))
theorem ji_and {a b : Tr} (c : CI A Z) (xa : JuS A Z coll r a (n + 1)) (xb : JiS A Z coll r b (n + 1)) : JiS A Z coll r (.bin "and" a b) (n + 2) := fun l u ps σ Q h w hb hl0 k => by
 have z1 : zz a.dep ≤ zz (max a.dep b.dep) := Kq (by lia)
 have z2 : zz b.dep ≤ zz (max a.dep b.dep) := Kq (by lia)
 simp only [Tr.dep, zz] at hb k
 refine en_586.mpr ?_
 refine Vf (Xh (Y1 rfl (by decide)) (J1 (op := "and") rfl (by decide) rfl (by simp))) ?_
 refine s_past (r := r) c rfl rfl hl0 h w (by lia) (fun ps σ l Q h w hb hl k => xa l (!u) ps σ Q h w hb hl k) (fun ps σ Q h w hb k => xb l u ps σ Q h w hb hl0 k) fun ps' σ' ρ' h' j => ?_
 refine Xx ?_
 refine k _ _ h' (j.to ?_ (by lia))
 rw [fv_and]
 exact (tru_and (Xd _) (Xd _) u).1.symm
theorem ju_and {a b : Tr} (c : CI A Z) (xa : JuS A Z coll r a (n + 1)) (xb : JuS A Z coll r b (n + 1)) : JuS A Z coll r (.bin "and" a b) (n + 2) := fun l u ps σ Q h w hb hl0 k => by
 have z1 : zz a.dep ≤ zz (max a.dep b.dep) := Kq (by lia)
 have z2 : zz b.dep ≤ zz (max a.dep b.dep) := Kq (by lia)
 simp only [Tr.dep, zz] at hb k
 refine en_594.mpr ?_
 refine Yg (Xh (Y1 rfl (by decide)) (J1 (op := "and") rfl (by decide) rfl (by simp))) ?_
 refine Vf (Xh (Y1 rfl (by decide)) (J1 (op := "and") rfl (by decide) rfl (by simp))) ?_
 refine s_both (r := r) c rfl hl0 h w (by lia) (fun ps σ Q h w hb k => xa l u ps σ Q h w hb hl0 k) (fun ps σ Q h w hb k => xb l u ps σ Q h w hb hl0 k) fun ps' σ' ρ' h' j => ?_
 refine Xx ?_
 refine k _ _ h' (j.to ?_ (by lia))
 rw [fv_and]
 exact (tru_and (Xd _) (Xd _) u).2.symm
theorem ju_or {a b : Tr} (c : CI A Z) (xa : JiS A Z coll r a (n + 1)) (xb : JuS A Z coll r b (n + 1)) : JuS A Z coll r (.bin "or" a b) (n + 2) := fun l u ps σ Q h w hb hl0 k => by
 have z1 : zz a.dep ≤ zz (max a.dep b.dep) := Kq (by lia)
 have z2 : zz b.dep ≤ zz (max a.dep b.dep) := Kq (by lia)
 simp only [Tr.dep, zz] at hb k
 refine en_594.mpr ?_
 refine Vf (Xh (Y1 rfl (by decide)) (J1 (op := "or") rfl (by decide) rfl (by simp))) ?_
 refine s_past (r := r) c rfl rfl hl0 h w (by lia) (fun ps σ l Q h w hb hl k => xa l (!u) ps σ Q h w hb hl k) (fun ps σ Q h w hb k => xb l u ps σ Q h w hb hl0 k) fun ps' σ' ρ' h' j => ?_
 refine Xx ?_
 refine k _ _ h' (j.to ?_ (by lia))
 rw [fv_or]
 exact (tru_or (Xd _) (Xd _) u).1.symm
theorem ji_or {a b : Tr} (c : CI A Z) (xa : JiS A Z coll r a (n + 1)) (xb : JiS A Z coll r b (n + 1)) : JiS A Z coll r (.bin "or" a b) (n + 2) := fun l u ps σ Q h w hb hl0 k => by
 have z1 : zz a.dep ≤ zz (max a.dep b.dep) := Kq (by lia)
 have z2 : zz b.dep ≤ zz (max a.dep b.dep) := Kq (by lia)
 simp only [Tr.dep, zz] at hb k
 refine en_586.mpr ?_
 refine Yg (Xh (Y1 rfl (by decide)) (J1 (op := "or") rfl (by decide) rfl (by simp))) ?_
 refine Vf (Xh (Y1 rfl (by decide)) (J1 (op := "or") rfl (by decide) rfl (by simp))) ?_
 refine s_both (r := r) c rfl hl0 h w (by lia) (fun ps σ Q h w hb k => xa l u ps σ Q h w hb hl0 k) (fun ps σ Q h w hb k => xb l u ps σ Q h w hb hl0 k) fun ps' σ' ρ' h' j => ?_
 refine Xx ?_
 refine k _ _ h' (j.to ?_ (by lia))
 rw [fv_or]
 exact (tru_or (Xd _) (Xd _) u).2.symm
theorem ops_la {op : Str} (ho : op ∈ Ops) : (op == Str.ofString "and") = false ∧ (op == Str.ofString "or") = false ∧ ¬ op ∈ LA := by
 exact (by decide : ∀ op ∈ Ops, (op == Str.ofString "and") = false ∧ (op == Str.ofString "or") = false ∧ ¬ op ∈ LA) op ho
theorem ji_cmp {op : Str} {a b : Tr} (c : CI A Z) (hc : CollOk coll) (ho : op ∈ Ops) (ha : Wf a) (hb' : Wf b) (va : IsV (fv coll r a)) (vb : IsV (fv coll r b)) (hn : max a.dep b.dep + 3 ≤ n) (xa : ExS A Z coll r a n) (xb : ExS A Z coll r b n) : JiS A Z coll r (.bin op a b) (n + 2) := fun l u ps σ Q h w hb hl0 k => by
 have z1 : zz a.dep ≤ zz (max a.dep b.dep) := Kq (by lia)
 have z2 : zz b.dep ≤ zz (max a.dep b.dep) := Kq (by lia)
 have e := ops_la ho
 simp only [Tr.dep, zz] at hb k
 refine en_586.mpr ?_
 refine Yg (Xh (Y1 rfl (by decide)) (J1 (op := op) rfl (by decide) rfl e.1)) ?_
 refine Yg (Xh (Y1 rfl (by decide)) (J1 (op := op) rfl (by decide) rfl e.2.1)) ?_
 refine Yg (Z3 (Yb rfl (by decide))) ?_
 refine Vf (Xh (Y1 rfl (by decide)) (X9 (Zy (Zc (Yr rfl (by decide) rfl) Zp) fun Q q => Zbh (.inl ⟨rfl, ho⟩) q))) ?_
 refine Xc ?_
 refine X4 ⟨rfl, h, c⟩ rfl (Zc (Zn rfl) (Zc (Yr (d := .str op) rfl (by decide) rfl) (Zc (Zn rfl) (Zc (Zn rfl) Zp)))) ?_
 refine jmp_cmp c hc hl0 ho ha hb' va vb hn xa xb h w (by lia) fun ps' σ' h' j => ?_
 refine Xx ?_
 refine k _ _ h' (j.to ?_ (by lia))
 rw [Zac, if_neg e.2.2, Kp (Xq ..)]
theorem ju_cmp {op : Str} {a b : Tr} (c : CI A Z) (hc : CollOk coll) (ho : op ∈ Ops) (ha : Wf a) (hb' : Wf b) (va : IsV (fv coll r a)) (vb : IsV (fv coll r b)) (hn : max a.dep b.dep + 3 ≤ n) (xa : ExS A Z coll r a n) (xb : ExS A Z coll r b n) : JuS A Z coll r (.bin op a b) (n + 2) := fun l u ps σ Q h w hb hl0 k => by
 have z1 : zz a.dep ≤ zz (max a.dep b.dep) := Kq (by lia)
 have z2 : zz b.dep ≤ zz (max a.dep b.dep) := Kq (by lia)
 have e := ops_la ho
 simp only [Tr.dep, zz] at hb k
 refine en_594.mpr ?_
 refine Yg (Xh (Y1 rfl (by decide)) (J1 (op := op) rfl (by decide) rfl e.2.1)) ?_
 refine Yg (Xh (Y1 rfl (by decide)) (J1 (op := op) rfl (by decide) rfl e.1)) ?_
 refine Yg (Z3 (Yb rfl (by decide))) ?_
 refine Vf (Xh (Y1 rfl (by decide)) (X9 (Zy (Zc (Yr rfl (by decide) rfl) Zp) fun Q q => Zbh (.inl ⟨rfl, ho⟩) q))) ?_
 refine Xc ?_
 refine X4 ⟨rfl, h, c⟩ rfl (Zc (Zn rfl) (Zc (Zy (Zc (Yr (d := .str op) rfl (by decide) rfl) Zp) fun Q q => Zf5 ho q) (Zc (Zn rfl) (Zc (Zn rfl) Zp)))) ?_
 refine jmp_cmp c hc hl0 (oppO_mem ho) ha hb' va vb hn xa xb h w (by lia) fun ps' σ' h' j => ?_
 refine Xx ?_
 refine k _ _ h' (j.to ?_ (by lia))
 rw [Zac, if_neg e.2.2, Kp (Xq ..)]
 have hp := Xq op a (some b) (fv coll r a) (fv coll r b) coll
 have eo : pairD (oppO op) a (some b) (fv coll r a) (fv coll r b) coll = oppD (pairD op a (some b) (fv coll r a) (fv coll r b) coll) true := cmpD_opp ho _ _ _
 rw [eo]
 generalize pairD op a (some b) (fv coll r a) (fv coll r b) coll = p at hp ⊢
 cases hp <;> simp [oppD, tru]
end
theorem Seg.still {L : List Int} {z : Nat} {a b : PSt} {l : Int} (p : Seg L z a b) (h : lk a.labs l = none) (h1 : a.nl < l) : lk b.labs l = none := by
 cases e : lk b.labs l with
 | none => rfl
 | some v =>
  exfalso
  rcases p.new _ _ e with q | q
  ·rw [h] at q; cases q
  ·lia
noncomputable def W_cb : WS := (sSeq (sExpr (wMeth 611 508 "expression" (wV 0) [(wV 6), (wV 2)])) (sSeq (sExpr (wMeth 707 639 "add" (wAttr Zo "program" (wV 0)) [(wS "Goto"), (wI 0), (wV 3)])) (sSeq (sExpr (wMeth 707 660 "place" (wAttr Zo "program" (wV 0)) [(wV 7)])) sNil)))
noncomputable def casL (A : PA) (coll : Str) (tr w t : Tr) (g endl : Int) (x4 : D) (fl : Int) (x8 : Option D) : Loc := [some (.inst 611 A.k), some (nod coll tr), some (.int g), some (.int endl), some x4, some (nod coll w), some (nod coll t), some (.int fl), x8]
theorem Zeh {v : D} (h : IsT v) : isOne v = !tru v false true := by cases h <;> rfl
section
variable {n : Nat} {A : PA} {Z : Sto} {σ : Sto} {Q : D → Sto → Prop} {coll : Str} {r : Int → D} {ps : PSt}
theorem Zb5 {tr u t : Tr} {vo : D} {g fl : Int} {j : Bool} {zh zo : Nat} {ps2 : PSt} {x4 : D} {x8 : Option D} {Kk : Loc → Sto → Prop} (c : CI A Z) (xt : ExI A Z coll r t (n + 1)) (w : WfP ps) (h1 : 5 ≤ g) (h2 : g < ps.regs) (hb : ps.sz + zh + zz t.dep + zo + 10 ≤ 5000)
  (hj : JmpOk r j fl zh ps.lbl ps2) (hf : lk ps2.labs fl = none) (hf1 : ps2.nl < fl) (hf2 : fl ≤ ps.lbl.nl) (h : PI A Z ps2 σ)
  (els : ∀ (ps5 : PSt) (σ5 : Sto), PI A Z ps5 σ5 → WfP ps5 → ps5.sz + zo ≤ 5000 → g < ps5.regs → (∀ ps6 σ6, PI A Z ps6 σ6 → ExOk r vo g zo ps5 ps6 → Zcs (Cn (n + 1)) (casL A coll tr u t g ps.nl x4 fl x8) σ6 (fun _ σ' => Q .none σ') Q Kk) → U2 (Cn (n + 1)) (casL A coll tr u t g ps.nl x4 fl x8) σ5 (fun _ σ' => Q .none σ') Q Kk)
  (k : ∀ ps' σ', PI A Z ps' σ' → ExOk r (if j then vo else fv coll r t) g (zh + zz t.dep + zo + 10) ps ps' → Q .none σ') :
  W_cb (Cn (n + 1)) (casL A coll tr u t g ps.nl x4 fl x8) σ (fun ρ2 σ2 => U2 (Cn (n + 1)) ρ2 σ2 (fun _ σ' => Q .none σ') Q Kk) Q (fun ρ2 σ2 => U2 (Cn (n + 1)) ρ2 σ2 (fun _ σ' => Q .none σ') Q Kk) := by
 have w0 := (Seg.lbl [] ps).wf w
 have w2 := hj.sg.wf w0
 have z2 := hj.sg.sz
 have r2 := hj.sg.regs
 have n2 := hj.sg.nl
 have wn := w.nl
 have wr := w.regs
 simp at z2 r2 n2 hf2
 refine s_exi ⟨rfl, h, c⟩ (Zn rfl) (Zn rfl) xt w2 (by lia) h1 (by lia) fun ps3 σ3 g3 x3 => ?_
 have z3 := x3.sg.sz
 have r3 := x3.sg.regs
 have n3 := x3.sg.nl
 refine V5 ⟨rfl, g3, c⟩ (i := .goto ps.nl) (Zc Y3 (Zc Yw (Zc (Zn rfl) Zp))) rfl (by lia) fun σ4 g4 => ?_
 have f4 : lk (ps3.add (.goto ps.nl)).labs fl = none := x3.sg.still hf hf1
 refine Zfz ⟨rfl, g4, c⟩ rfl (by lia) (by simp; lia) f4 (by simp; lia) fun σ5 g5 => ?_
 refine Xx ?_
 have sg4 : Seg [fl, ps.nl] (zh + (zz t.dep + 1)) ps.lbl (ps3.add (.goto ps.nl)) := (hj.sg.to (Nat.le_refl _) fun _ h => by simp at h; simp [h]).trans ((x3.sg.to (Nat.le_refl _) fun _ h => by simp at h).trans (Seg.add fun l e => by cases e; exact ⟨wn, by simp⟩))
 have sg5 := sg4.close f4 (by simp; lia) (by simpa using hf2)
 have w5 := sg5.wf w0
 refine els _ _ g5 w5 (by simp; lia) (by simp; lia) fun ps6 σ6 g6 x6 => ?_
 have z6 := x6.sg.sz
 simp at z6
 have sg6 : Seg [ps.nl] (zh + (zz t.dep + 1) + 1 + zo) ps.lbl ps6 := sg5.trans (x6.sg.to (Nat.le_refl _) fun _ h => by simp at h)
 have f6 := sg6.fresh w
 refine Zfz ⟨rfl, g6, c⟩ rfl wn sg6.below f6 (by lia) fun σ7 g7 => ?_
 have sg7 := ((Seg.lbl [ps.nl] ps).trans sg6).close f6 sg6.below (Int.le_refl _)
 refine k _ _ g7 ⟨sg7.to (by lia) fun _ h => h, fun code lb hh F hr => ?_⟩
 have F6 := F.plc
 have F5 := x6.sg.fin F6
 have F4 := F5.plc
 have F3 := F4.of_add
 have F2 := x3.sg.fin F3
 have elF := F5.lab f4
 have elE := F.lab f6
 have l3 := x3.sg.le
 have l6 := x6.sg.le
 simp at l6 elF
 obtain ⟨h2', p2, k2⟩ := hj.run code lb hh F2 (by lia) hr
 have hr2 := hr.keep' k2 (by simp; lia)
 cases j with
 | true =>
  rw [if_pos rfl, elF] at p2
  obtain ⟨h6', p6, e6, k6⟩ := x6.run code lb h2' F6 hr2
  simp at p6
  refine ⟨h6', p2.trans p6, e6, fun y hy hn => ?_⟩
  rw [k6 y (by simp; lia) hn]; exact k2 y (by simp; lia)
 | false =>
  rw [if_neg (by decide)] at p2
  obtain ⟨h3', p3, e3, k3⟩ := x3.run code lb h2' F3 hr2
  have p4 := F4.jump (h := h3') (h' := h3') (pc' := lb ps.nl) trivial rfl (by rw [elE]; lia)
  rw [elE] at p4
  refine ⟨h3', p2.trans (p3.trans p4), e3, fun y hy hn => ?_⟩
  rw [k3 y (by lia) hn]; exact k2 y (by simp; lia)
theorem els1 {tr u t : Tr} {g endl fl : Int} {x4 : D} {x8 : Option D} {N Kk : Loc → Sto → Prop} (c : CI A Z) (hcl : cls tr = 328) (ho : slook (fld coll tr) "other" = some .none) (ps5 : PSt) (σ5 : Sto) (h : PI A Z ps5 σ5) (hb : ps5.sz + 1 ≤ 5000) (hg : g < ps5.regs) (k : ∀ ps6 σ6, PI A Z ps6 σ6 → ExOk r .none g 1 ps5 ps6 → Zcs (Cn (n + 1)) (casL A coll tr u t g endl x4 fl x8) σ6 N Q Kk) : U2 (Cn (n + 1)) (casL A coll tr u t g endl x4 fl x8) σ5 N Q Kk := by
 have nod1 : nth (casL A coll tr u t g endl x4 fl x8) 1 = some (.obj 328 (fld coll tr)) := by rw [← hcl, ← Ky]; rfl
 refine Vf (Y2 (d := .none) (Yr nod1 (by decide) ho)) ?_
 refine V5 ⟨rfl, h, c⟩ (i := .null g) (Zc Y3 (Zc Yw (Zc (Zn rfl) (Zc Yw Zp)))) rfl (by lia) fun σ' h' => ?_
 refine Xx ?_
 exact k _ _ h' ⟨Seg.addN rfl, fun code lb hh F hr => ⟨_, F.step trivial rfl, Yx .., fun x _ hx => X2 _ _ hx⟩⟩
theorem els2 {tr u t o : Tr} {g endl fl : Int} {x4 : D} {x8 : Option D} {N Kk : Loc → Sto → Prop} (c : CI A Z) (hcl : cls tr = 328) (ho : slook (fld coll tr) "other" = some (nod coll o)) (xo : ExI A Z coll r o (n + 1)) (ps5 : PSt) (σ5 : Sto) (h : PI A Z ps5 σ5) (w : WfP ps5) (hb : ps5.sz + zz o.dep ≤ 5000) (h1 : 5 ≤ g) (hg : g < ps5.regs) (k : ∀ ps6 σ6, PI A Z ps6 σ6 → ExOk r (fv coll r o) g (zz o.dep) ps5 ps6 → Zcs (Cn (n + 1)) (casL A coll tr u t g endl x4 fl x8) σ6 N Q Kk) : U2 (Cn (n + 1)) (casL A coll tr u t g endl x4 fl x8) σ5 N Q Kk := by
 have nod1 : nth (casL A coll tr u t g endl x4 fl x8) 1 = some (.obj 328 (fld coll tr)) := by rw [← hcl, ← Ky]; rfl
 have nn : isNoneD (nod coll o) = false := by rw [Ky]; rfl
 refine Yg (by rw [← nn]; exact Y2 (Yr nod1 (by decide) ho)) ?_
 refine s_exi ⟨rfl, h, c⟩ (Yr nod1 (by decide) ho) (Zn rfl) xo w hb h1 hg fun ps6 σ6 g6 x6 => ?_
 refine Xx ?_
 exact k _ _ g6 x6
theorem hd0 {tr u t : Tr} {g endl : Int} {N Kk : Loc → Sto → Prop} {ps0 : PSt} (c : CI A Z) (hcl : cls tr = 328) (hba : slook (fld coll tr) "base" = some .none) (hwh : slook (fld coll tr) "whens" = some (.lst [.tup [nod coll u, nod coll t]])) (xu : JuS A Z coll r u (n + 1)) (h : PI A Z ps0 σ) (w : WfP ps0) (hb : ps0.sz + zz u.dep + 1 ≤ 5000)
  (k : ∀ ps2 σ2 fl x4 x8, PI A Z ps2 σ2 → JmpOk r (tru (trueD (fv coll r u)) false true) fl (zz u.dep + 1) ps0 ps2 → lk ps2.labs fl = none → ps2.nl < fl → fl ≤ ps0.nl → W_cb (Cn (n + 1)) (casL A coll tr u t g endl x4 fl x8) σ2 (fun ρ2 σ2 => U2 (Cn (n + 1)) ρ2 σ2 N Q Kk) Q (fun ρ2 σ2 => U2 (Cn (n + 1)) ρ2 σ2 N Q Kk)) :
  Zbi (Cn (n + 1)) [some (.inst 611 A.k), some (nod coll tr), some (.int g), some (.int endl), none, none, none, none, none] σ N Q Kk := by
 have nod1 : ∀ ρ : Loc, nth ρ 1 = some (nod coll tr) → nth ρ 1 = some (.obj 328 (fld coll tr)) := fun ρ e => by
  rw [← hcl, ← Ky]; exact e
 refine Yo (d := .none) (Vo (Y2 (d := .none) (Yr (nod1 _ rfl) (by decide) hba)) Zah) ?_
 refine s_for1 (Yr (nod1 _ rfl) (by decide) hwh) ?_
 rw [Zds]
 refine ⟨rfl, ?_⟩
 rw [Uc, Xv, Uc, Xv, Zb9]
 refine Zfq ⟨rfl, h, c⟩ fun σ1 g1 => ?_
 have w1 := (Seg.lbl [] ps0).wf w
 refine Vf (Y2 (d := .none) (Zn rfl)) ?_
 refine Xc ?_
 refine X4 ⟨rfl, g1, c⟩ rfl (Zc (Zn rfl) (Zc (Zn rfl) (Zc ev_B Zp))) ?_
 refine xu ps0.nl true _ _ _ g1 w1 (by simpa using hb) w.nl fun ps2 σ2 g2 j2 => ?_
 refine Xx ?_
 exact k ps2 σ2 ps0.nl _ _ g2 ⟨((Seg.lbl _ _).trans j2.sg).to (by lia) fun _ h => h, j2.run⟩ (j2.sg.fresh w) j2.sg.below (Int.le_refl _)
theorem hd1 {tr u t : Tr} {i : Int} {g endl : Int} {N Kk : Loc → Sto → Prop} {ps0 : PSt} (c : CI A Z) (hc : CollOk coll) (hcl : cls tr = 328) (hi : Cols i) (hu : Wf u) (hv : IsV (fv coll r u)) (vi : IsV (r i)) (hn : u.dep + 3 ≤ n) (hba : slook (fld coll tr) "base" = some (nod coll (.col i))) (hwh : slook (fld coll tr) "whens" = some (.lst [.tup [nod coll u, nod coll t]])) (xi : ExS A Z coll r (.col i) (n + 1)) (xu : ExS A Z coll r u n) (h : PI A Z ps0 σ) (w : WfP ps0) (hb : ps0.sz + zz u.dep + 10 ≤ 5000)
  (k : ∀ ps2 σ2 fl x4 x8, PI A Z ps2 σ2 → JmpOk r (tru (pairD "=" (.col i) (some u) (r i) (fv coll r u) coll) false true) fl (zz u.dep + 5) ps0 ps2 → lk ps2.labs fl = none → ps2.nl < fl → fl ≤ ps0.nl → W_cb (Cn (n + 1)) (casL A coll tr u t g endl x4 fl x8) σ2 (fun ρ2 σ2 => U2 (Cn (n + 1)) ρ2 σ2 N Q Kk) Q (fun ρ2 σ2 => U2 (Cn (n + 1)) ρ2 σ2 N Q Kk)) :
  Zbi (Cn (n + 1)) [some (.inst 611 A.k), some (nod coll tr), some (.int g), some (.int endl), none, none, none, none, none] σ N Q Kk := by
 obtain ⟨m, rfl⟩ : ∃ m, n = m + 1 := ⟨n - 1, by lia⟩
 have nod1 : ∀ ρ : Loc, nth ρ 1 = some (nod coll tr) → nth ρ 1 = some (.obj 328 (fld coll tr)) := fun ρ e => by
  rw [← hcl, ← Ky]; exact e
 have w0 := w.regs
 rw [Zbi, Y0, V1, e_If]
 refine Y2 (Yr (nod1 _ rfl) (by decide) hba) _ ?_
 refine X4 ⟨rfl, h, c⟩ rfl (Zc (Yr (nod1 _ rfl) (by decide) hba) Zp) ?_
 refine xi ps0 σ _ h w (by simp only [Tr.dep, zz]; lia) fun ps1 σ1 g1 x1 => ?_
 have z1 := x1.sg.sz
 have r1 := x1.sg.regs
 have n1 := x1.sg.nl
 have w1 := x1.sg.wf ((Seg.reg [] _).wf w)
 simp [Tr.dep, zz] at z1 r1 n1
 rw [Xv]
 refine s_for1 (Yr (nod1 _ rfl) (by decide) hwh) ?_
 rw [Zds]
 refine ⟨rfl, ?_⟩
 rw [Uc, Xv, Uc, Xv, Zb9]
 refine Zfq ⟨rfl, g1, c⟩ fun σ2 g2 => ?_
 have w2 := (Seg.lbl [] ps1).wf w1
 refine Yg (Y2 (d := .int ps0.regs) (Zn rfl)) ?_
 refine s_reg ⟨rfl, g2, c⟩ fun σ3 g3 => ?_
 have w3 := (Seg.reg [] _).wf w2
 refine Xc ?_
 refine X4 ⟨rfl, g3, c⟩ rfl (Zc Y3 (Zc (Yr (nod1 _ rfl) (by decide) hba) (Zc (Zn rfl) (Zc (Zn rfl) (Zc (Zn rfl) Zp))))) ?_
 refine Zcr c hc (by simp only [Tr.dep]; lia) (by exact hi : Wf (.col i)) hu (by simp [Ops]) hv xu g3 w3 (by simp; lia) (by simp; lia) (by simp; lia) (by simp; lia) fun ps4 σ4 g4 x4 => ?_
 have z4 := x4.sg.sz
 simp at z4
 refine V5 ⟨rfl, g4, c⟩ (i := .jun ps1.regs ps1.nl true) (Zc Y3 (Zc (Zn rfl) (Zc (Zn rfl) (Zc Yw Zp)))) rfl (by lia) fun σ5 g5 => ?_
 refine Xx ?_
 have sgB : Seg [ps1.nl] (zz u.dep + 2) ps1.lbl (ps4.add (.jun ps1.regs ps1.nl true)) := ((Seg.reg _ _).trans ((x4.sg.to (Nat.le_refl _) fun _ h => by simp at h).trans (Seg.add fun l e => by cases e; exact ⟨w1.nl, by simp⟩))).to (by lia) fun _ h => h
 refine k _ _ ps1.nl _ _ g5 ⟨((Seg.reg _ _).trans ((x1.sg.to (z := 1) (Nat.le_refl _) fun _ h => by simp at h).trans ((Seg.lbl _ _).trans sgB))).to (by lia) fun _ h => h, fun code lb hh F hl hr => ?_⟩ (sgB.fresh w1) sgB.below (by lia)
 simp at hl
 have F4 := F.of_add
 obtain ⟨h1', p1, e1, k1⟩ := x1.run code lb hh (x4.sg.fin F4).of_reg.of_lbl hr
 have hr1 := hr.keep k1 (by simp; lia) (by lia)
 have e1' : h1' ps0.regs = r i := e1
 obtain ⟨h4', p4, e4, k4⟩ := x4.run code lb h1' F4 hr1 (by rw [e1']; exact vi)
 simp only [e1'] at e4
 have e4' : h4' ps1.regs = pairD "=" (.col i) (some u) (r i) (fv coll r u) coll := e4
 have tp := Xq "=" (.col i) (some u) (r i) (fv coll r u) coll
 have rd : IsV (h4' ps1.regs) := by rw [e4']; exact tp.v
 refine ⟨h4', (p1.trans p4).trans ?_, fun y hy => by rw [k4 y (by simp; lia) (by simp; lia)]; exact k1 y (by simp; lia) (by lia)⟩
 have en : ∀ pc, nxt lb pc h4' (.jun ps1.regs ps1.nl true) = (if tru (pairD "=" (.col i) (some u) (r i) (fv coll r u) coll) false true then lb ps1.nl else pc + 1, h4') := fun pc => by
  simp only [nxt, e4', Kp tp]
 cases j : tru (pairD "=" (.col i) (some u) (r i) (fv coll r u) coll) false true with
 | true => exact F.jump rd (by rw [en, j]; rfl) (by simp; lia)
 | false => exact F.step rd (by rw [en, j]; rfl)
theorem to_cas {tr : Tr} {g : Int} {into : D} {N Kk : Loc → Sto → Prop} (c : CI A Z) (h : PI A Z ps σ) (hcl : cls tr = 328)
  (k : ∀ σ', PI A Z ps.lbl σ' → Zbi (Cn (n + 1)) [some (.inst 611 A.k), some (nod coll tr), some (.int g), some (.int ps.nl), none, none, none, none, none] σ' (fun _ σ' => Q (.int g) σ') (fun _ σ' => Q (.int g) σ') (fun _ _ => False)) : Zck (Cn (n + 2)) [some (.inst 611 A.k), some (nod coll tr), some into, some (.int g), none] σ N Q Kk := by
 have nod1 : nth [some (.inst 611 A.k), some (nod coll tr), some into, some (.int g), none] 1 = some (.obj 328 (fld coll tr)) := by
  rw [← hcl, ← Ky]; rfl
 refine Yg (Yb nod1 (by decide)) ?_
 refine Yg (Yb nod1 (by decide)) ?_
 refine Yg (Yb nod1 (by decide)) ?_
 refine Yg (Yb nod1 (by decide)) ?_
 refine Yg (Yb nod1 (by decide)) ?_
 refine Yg (Yb nod1 (by decide)) ?_
 refine Vf (Y1 nod1 (by decide)) ?_
 refine Xc ?_
 refine X4 ⟨rfl, h, c⟩ rfl (Zc (Zn rfl) (Zc (Zn rfl) Zp)) ?_
 refine en_571.mpr ?_
 refine Zfq ⟨rfl, h, c⟩ fun σ1 g1 => ?_
 exact k _ g1
end
section
variable {n : Nat} {A : PA} {Z : Sto} {σ : Sto} {Q : D → Sto → Prop} {coll : Str} {r : Int → D} {ps : PSt}
theorem Zea {b : Bool} {x y : D} : (if (!b) = true then x else y) = (if b = true then y else x) := by cases b <;> rfl
theorem ex_cas1n {u t : Tr} (c : CI A Z) (xu : JuS A Z coll r u (n + 1)) (xt : ExI A Z coll r t (n + 1)) : ExB A Z coll r (.cas1 none u t) (n + 2) := fun into g ps σ N Kk Q h w hb h1 h2 k => by
 have z1 : zz u.dep ≤ zz (max u.dep t.dep) := Kq (by lia)
 have z2 : zz t.dep ≤ zz (max u.dep t.dep) := Kq (by lia)
 simp only [Tr.dep, zz] at hb k
 refine to_cas c h rfl fun σ0 g0 => ?_
 refine hd0 (tr := .cas1 none u t) (u := u) (t := t) c rfl rfl rfl xu g0 ((Seg.lbl [] _).wf w) (by simp; lia) fun ps2 σ2 fl x4 x8 g2 j2 f0 f1 f2 => ?_
 refine Zb5 (Q := fun _ σ' => Q (.int g) σ') (Kk := fun _ _ => False) (tr := .cas1 none u t) (u := u) (t := t) (zo := 1) (vo := .none) c xt w h1 h2 (by lia) j2 f0 f1 f2 g2 (fun ps5 σ5 g5 w5 b5 hg5 kk => els1 (tr := .cas1 none u t) (u := u) (t := t) c rfl rfl ps5 σ5 g5 b5 hg5 kk) fun ps' σ' h' x => k _ _ h' ⟨x.sg.to (by lia) fun _ h => h, ?_⟩
 have := x.run
 rw [← Zea, ← Zeh (Xd _)] at this
 exact this
theorem ex_cas2n {u t o : Tr} (c : CI A Z) (xu : JuS A Z coll r u (n + 1)) (xt : ExI A Z coll r t (n + 1)) (xo : ExI A Z coll r o (n + 1)) : ExB A Z coll r (.cas2 none u t o) (n + 2) := fun into g ps σ N Kk Q h w hb h1 h2 k => by
 have z1 : zz u.dep ≤ zz (max u.dep (max t.dep o.dep)) := Kq (by lia)
 have z2 : zz t.dep ≤ zz (max u.dep (max t.dep o.dep)) := Kq (by lia)
 have z3 : zz o.dep ≤ zz (max u.dep (max t.dep o.dep)) := Kq (by lia)
 simp only [Tr.dep, zz] at hb k
 refine to_cas c h rfl fun σ0 g0 => ?_
 refine hd0 (tr := .cas2 none u t o) (u := u) (t := t) c rfl rfl rfl xu g0 ((Seg.lbl [] _).wf w) (by simp; lia) fun ps2 σ2 fl x4 x8 g2 j2 f0 f1 f2 => ?_
 refine Zb5 (Q := fun _ σ' => Q (.int g) σ') (Kk := fun _ _ => False) (tr := .cas2 none u t o) (u := u) (t := t) (zo := zz o.dep) (vo := fv coll r o) c xt w h1 h2 (by lia) j2 f0 f1 f2 g2 (fun ps5 σ5 g5 w5 b5 hg5 kk => els2 (tr := .cas2 none u t o) (u := u) (t := t) c rfl rfl xo ps5 σ5 g5 w5 b5 h1 hg5 kk) fun ps' σ' h' x => k _ _ h' ⟨x.sg.to (by lia) fun _ h => h, ?_⟩
 have := x.run
 rw [← Zea, ← Zeh (Xd _)] at this
 exact this
theorem ex_cas1s {i : Int} {u t : Tr} (c : CI A Z) (hc : CollOk coll) (hi : Cols i) (hu : Wf u) (hv : IsV (fv coll r u)) (vi : IsV (r i)) (hn : u.dep + 3 ≤ n) (xi : ExS A Z coll r (.col i) (n + 1)) (xu : ExS A Z coll r u n) (xt : ExI A Z coll r t (n + 1)) : ExB A Z coll r (.cas1 (some i) u t) (n + 2) := fun into g ps σ N Kk Q h w hb h1 h2 k => by
 have z1 : zz u.dep ≤ zz (max u.dep t.dep) := Kq (by lia)
 have z2 : zz t.dep ≤ zz (max u.dep t.dep) := Kq (by lia)
 simp only [Tr.dep, zz] at hb k
 refine to_cas c h rfl fun σ0 g0 => ?_
 refine hd1 (tr := .cas1 (some i) u t) (u := u) (t := t) c hc rfl hi hu hv vi hn rfl rfl xi xu g0 ((Seg.lbl [] _).wf w) (by simp; lia) fun ps2 σ2 fl x4 x8 g2 j2 f0 f1 f2 => ?_
 refine Zb5 (Q := fun _ σ' => Q (.int g) σ') (Kk := fun _ _ => False) (tr := .cas1 (some i) u t) (u := u) (t := t) (zo := 1) (vo := .none) c xt w h1 h2 (by lia) j2 f0 f1 f2 g2 (fun ps5 σ5 g5 w5 b5 hg5 kk => els1 (tr := .cas1 (some i) u t) (u := u) (t := t) c rfl rfl ps5 σ5 g5 b5 hg5 kk) fun ps' σ' h' x => k _ _ h' ⟨x.sg.to (by lia) fun _ h => h, ?_⟩
 have := x.run
 rw [← Zea, ← Zeh (Xq ..)] at this
 exact this
theorem ex_cas2s {i : Int} {u t o : Tr} (c : CI A Z) (hc : CollOk coll) (hi : Cols i) (hu : Wf u) (hv : IsV (fv coll r u)) (vi : IsV (r i)) (hn : u.dep + 3 ≤ n) (xi : ExS A Z coll r (.col i) (n + 1)) (xu : ExS A Z coll r u n) (xt : ExI A Z coll r t (n + 1)) (xo : ExI A Z coll r o (n + 1)) : ExB A Z coll r (.cas2 (some i) u t o) (n + 2) := fun into g ps σ N Kk Q h w hb h1 h2 k => by
 have z1 : zz u.dep ≤ zz (max u.dep (max t.dep o.dep)) := Kq (by lia)
 have z2 : zz t.dep ≤ zz (max u.dep (max t.dep o.dep)) := Kq (by lia)
 have z3 : zz o.dep ≤ zz (max u.dep (max t.dep o.dep)) := Kq (by lia)
 simp only [Tr.dep, zz] at hb k
 refine to_cas c h rfl fun σ0 g0 => ?_
 refine hd1 (tr := .cas2 (some i) u t o) (u := u) (t := t) c hc rfl hi hu hv vi hn rfl rfl xi xu g0 ((Seg.lbl [] _).wf w) (by simp; lia) fun ps2 σ2 fl x4 x8 g2 j2 f0 f1 f2 => ?_
 refine Zb5 (Q := fun _ σ' => Q (.int g) σ') (Kk := fun _ _ => False) (tr := .cas2 (some i) u t o) (u := u) (t := t) (zo := zz o.dep) (vo := fv coll r o) c xt w h1 h2 (by lia) j2 f0 f1 f2 g2 (fun ps5 σ5 g5 w5 b5 hg5 kk => els2 (tr := .cas2 (some i) u t o) (u := u) (t := t) c rfl rfl xo ps5 σ5 g5 w5 b5 h1 hg5 kk) fun ps' σ' h' x => k _ _ h' ⟨x.sg.to (by lia) fun _ h => h, ?_⟩
 have := x.run
 rw [← Zea, ← Zeh (Xq ..)] at this
 exact this
theorem f1 {a k n p : Nat} (j : Nat) (h : 4 * (a + 1) + k ≤ n + j) (e : p + j ≤ k + 4) : 4 * a + p ≤ n := by lia
theorem f2a {a b k n p : Nat} (j : Nat) (h : 4 * (max a b + 1) + k ≤ n + j) (e : p + j ≤ k + 4) : 4 * a + p ≤ n := f1 j (Nat.le_trans (Nat.add_le_add_right (Nat.mul_le_mul_left 4 (Nat.succ_le_succ (Nat.le_max_left a b))) k) h) e
theorem f2b {a b k n p : Nat} (j : Nat) (h : 4 * (max a b + 1) + k ≤ n + j) (e : p + j ≤ k + 4) : 4 * b + p ≤ n := f1 j (Nat.le_trans (Nat.add_le_add_right (Nat.mul_le_mul_left 4 (Nat.succ_le_succ (Nat.le_max_right a b))) k) h) e
theorem f3b {a b d k n p : Nat} (j : Nat) (h : 4 * (max a (max b d) + 1) + k ≤ n + j) (e : p + j ≤ k + 4) : 4 * b + p ≤ n := f2a (b := d) j (Nat.le_trans (Nat.add_le_add_right (Nat.mul_le_mul_left 4 (Nat.succ_le_succ (Nat.le_max_right a _))) k) h) e
theorem f3d {a b d k n p : Nat} (j : Nat) (h : 4 * (max a (max b d) + 1) + k ≤ n + j) (e : p + j ≤ k + 4) : 4 * d + p ≤ n := f2b (a := b) j (Nat.le_trans (Nat.add_le_add_right (Nat.mul_le_mul_left 4 (Nat.succ_le_succ (Nat.le_max_right a _))) k) h) e
theorem exm {a k n : Nat} (j : Nat) (h : a + k ≤ n) (e : j ≤ k) : ∃ m, n = m + j := ⟨n - j, by lia⟩
structure All (A : PA) (Z : Sto) (coll : Str) (r : Int → D) (t : Tr) : Prop where
 B : ∀ n, 4 * t.dep + 12 ≤ n → ExB A Z coll r t n
 i : ∀ n, 4 * t.dep + 14 ≤ n → JiS A Z coll r t n
 u : ∀ n, 4 * t.dep + 14 ≤ n → JuS A Z coll r t n
theorem All.S {t : Tr} (c : CI A Z) (x : All A Z coll r t) (n : Nat) (h : 4 * t.dep + 13 ≤ n) : ExS A Z coll r t n := by
 obtain ⟨m, rfl⟩ := exm 2 h (by decide)
 exact (x.B _ (Nat.le_of_succ_le_succ h)).s c
theorem All.I {t : Tr} (x : All A Z coll r t) (n : Nat) (h : 4 * t.dep + 13 ≤ n) : ExI A Z coll r t n := by
 obtain ⟨m, rfl⟩ := exm 2 h (by decide)
 exact (x.B _ (Nat.le_of_succ_le_succ h)).i
theorem All.ofL {t : Tr} (c : CI A Z) (hL : Lst t) (hv : IsV (fv coll r t)) (B : ∀ n, 4 * t.dep + 12 ≤ n → ExB A Z coll r t n) : All A Z coll r t := by
 refine ⟨B, fun n hn => ?_, fun n hn => ?_⟩
 ·obtain ⟨m, rfl⟩ : ∃ m, n = m + 3 := ⟨n - 3, by lia⟩
  exact ji_lst (n := m + 1) c hL hv ((B (m + 1) (by lia)).s c)
 ·obtain ⟨m, rfl⟩ : ∃ m, n = m + 3 := ⟨n - 3, by lia⟩
  exact ju_lst (n := m + 1) c hL hv ((B (m + 1) (by lia)).s c)
theorem LA_cases {op : Str} (h : op ∈ LA) : op = "and" ∨ op = "or" ∨ (op = "+" ∨ op = "*") := by
 simp only [LA, List.mem_cons, List.not_mem_nil, or_false] at h; exact h
theorem coder (c : CI A Z) (hc : CollOk coll) : ∀ t : Tr, Wf t → Ok coll r t → All A Z coll r t := by
 intro t
 induction t with
 | col i =>
  intro hw ho
  refine .ofL c (.col i) (Uy ho) fun n hn => ?_
  obtain ⟨m, rfl⟩ := exm 2 hn (by decide)
  exact ex_col c hw
 | val v =>
  intro hw ho
  refine .ofL c (.val v) (Uy ho) fun n hn => ?_
  obtain ⟨m, rfl⟩ := exm 1 hn (by decide)
  exact ex_val c
 | un op t ih =>
  intro hw ho
  have a := ih hw.2 ho.2
  have hB : ∀ n, 4 * (Tr.un op t).dep + 12 ≤ n → ExB A Z coll r (.un op t) n := fun n hn => by
   simp only [Tr.dep] at hn
   obtain ⟨m, rfl⟩ := exm 1 hn (by decide)
   exact ex_un c hw.1 (Uy ho.2) (a.S c _ (by first | exact f1 0 hn (by decide) | exact f1 1 hn (by decide) | exact f1 2 hn (by decide) | exact f1 3 hn (by decide)))
  rcases hw.1 with e | e
  ·subst e
   refine ⟨hB, fun n hn => ?_, fun n hn => ?_⟩
   ·simp only [Tr.dep] at hn
    obtain ⟨m, rfl⟩ := exm 1 hn (by decide)
    exact ji_not c (a.u _ (by first | exact f1 0 hn (by decide) | exact f1 1 hn (by decide) | exact f1 2 hn (by decide) | exact f1 3 hn (by decide)))
   ·simp only [Tr.dep] at hn
    obtain ⟨m, rfl⟩ := exm 1 hn (by decide)
    exact ju_not c (a.i _ (by first | exact f1 0 hn (by decide) | exact f1 1 hn (by decide) | exact f1 2 hn (by decide) | exact f1 3 hn (by decide)))
  ·subst e
   exact .ofL c (.neg t) (Uy ho) hB
 | nul t ng ih =>
  intro hw ho
  have a := ih hw ho
  refine ⟨fun n hn => ?_, fun n hn => ?_, fun n hn => ?_⟩
  ·simp only [Tr.dep] at hn
   obtain ⟨m, rfl⟩ := exm 2 hn (by decide)
   exact ex_nul c (a.S c _ (by first | exact f1 0 hn (by decide) | exact f1 1 hn (by decide) | exact f1 2 hn (by decide) | exact f1 3 hn (by decide)))
  ·simp only [Tr.dep] at hn
   obtain ⟨m, rfl⟩ := exm 3 hn (by decide)
   exact ji_nul c (a.S c _ (by first | exact f1 0 hn (by decide) | exact f1 1 hn (by decide) | exact f1 2 hn (by decide) | exact f1 3 hn (by decide)))
  ·simp only [Tr.dep] at hn
   obtain ⟨m, rfl⟩ := exm 3 hn (by decide)
   exact ju_nul c (a.S c _ (by first | exact f1 0 hn (by decide) | exact f1 1 hn (by decide) | exact f1 2 hn (by decide) | exact f1 3 hn (by decide)))
 | bin op x y ihx ihy =>
  intro hw ho
  have a := ihx hw.2.1 ho.2.1
  have b := ihy hw.2.2 ho.2.2.1
  have hB : ∀ n, 4 * (Tr.bin op x y).dep + 12 ≤ n → ExB A Z coll r (.bin op x y) n := fun n hn => by
   simp only [Tr.dep] at hn
   obtain ⟨m, rfl⟩ := exm 1 hn (by decide)
   exact ex_bin c hc hw.1 hw.2.1 hw.2.2 (Uy ho.2.1) (Uy ho.2.2.1) (by lia) (a.S c _ (by first | exact f2a 0 hn (by decide) | exact f2a 1 hn (by decide) | exact f2a 2 hn (by decide) | exact f2a 3 hn (by decide))) (b.S c _ (by first | exact f2b 0 hn (by decide) | exact f2b 1 hn (by decide) | exact f2b 2 hn (by decide) | exact f2b 3 hn (by decide)))
  rcases hw.1 with hl | hop
  ·rcases LA_cases hl with e | e | e
   ·subst e
    refine ⟨hB, fun n hn => ?_, fun n hn => ?_⟩
    ·simp only [Tr.dep] at hn
     obtain ⟨m, rfl⟩ := exm 2 hn (by decide)
     exact ji_and c (a.u _ (by first | exact f2a 0 hn (by decide) | exact f2a 1 hn (by decide) | exact f2a 2 hn (by decide) | exact f2a 3 hn (by decide))) (b.i _ (by first | exact f2b 0 hn (by decide) | exact f2b 1 hn (by decide) | exact f2b 2 hn (by decide) | exact f2b 3 hn (by decide)))
    ·simp only [Tr.dep] at hn
     obtain ⟨m, rfl⟩ := exm 2 hn (by decide)
     exact ju_and c (a.u _ (by first | exact f2a 0 hn (by decide) | exact f2a 1 hn (by decide) | exact f2a 2 hn (by decide) | exact f2a 3 hn (by decide))) (b.u _ (by first | exact f2b 0 hn (by decide) | exact f2b 1 hn (by decide) | exact f2b 2 hn (by decide) | exact f2b 3 hn (by decide)))
   ·subst e
    refine ⟨hB, fun n hn => ?_, fun n hn => ?_⟩
    ·simp only [Tr.dep] at hn
     obtain ⟨m, rfl⟩ := exm 2 hn (by decide)
     exact ji_or c (a.i _ (by first | exact f2a 0 hn (by decide) | exact f2a 1 hn (by decide) | exact f2a 2 hn (by decide) | exact f2a 3 hn (by decide))) (b.i _ (by first | exact f2b 0 hn (by decide) | exact f2b 1 hn (by decide) | exact f2b 2 hn (by decide) | exact f2b 3 hn (by decide)))
    ·simp only [Tr.dep] at hn
     obtain ⟨m, rfl⟩ := exm 2 hn (by decide)
     exact ju_or c (a.i _ (by first | exact f2a 0 hn (by decide) | exact f2a 1 hn (by decide) | exact f2a 2 hn (by decide) | exact f2a 3 hn (by decide))) (b.u _ (by first | exact f2b 0 hn (by decide) | exact f2b 1 hn (by decide) | exact f2b 2 hn (by decide) | exact f2b 3 hn (by decide)))
   ·exact .ofL c (.ari op x y e) (Uy ho) hB
  ·refine ⟨hB, fun n hn => ?_, fun n hn => ?_⟩
   ·simp only [Tr.dep] at hn
    obtain ⟨m, rfl⟩ := exm 2 hn (by decide)
    exact ji_cmp c hc hop hw.2.1 hw.2.2 (Uy ho.2.1) (Uy ho.2.2.1) (by lia) (a.S c _ (by first | exact f2a 0 hn (by decide) | exact f2a 1 hn (by decide) | exact f2a 2 hn (by decide) | exact f2a 3 hn (by decide))) (b.S c _ (by first | exact f2b 0 hn (by decide) | exact f2b 1 hn (by decide) | exact f2b 2 hn (by decide) | exact f2b 3 hn (by decide)))
   ·simp only [Tr.dep] at hn
    obtain ⟨m, rfl⟩ := exm 2 hn (by decide)
    exact ju_cmp c hc hop hw.2.1 hw.2.2 (Uy ho.2.1) (Uy ho.2.2.1) (by lia) (a.S c _ (by first | exact f2a 0 hn (by decide) | exact f2a 1 hn (by decide) | exact f2a 2 hn (by decide) | exact f2a 3 hn (by decide))) (b.S c _ (by first | exact f2b 0 hn (by decide) | exact f2b 1 hn (by decide) | exact f2b 2 hn (by decide) | exact f2b 3 hn (by decide)))
 | inn0 t ng ih =>
  intro hw ho
  have a := ih hw ho
  refine .ofL c (.inn0 t ng) (Uy (t := .inn0 t ng) ho) fun n hn => ?_
  simp only [Tr.dep] at hn
  obtain ⟨m, rfl⟩ := exm 2 hn (by decide)
  exact ex_inn0 c hc hw (Uy ho) (by lia) (a.S c _ (by first | exact f1 0 hn (by decide) | exact f1 1 hn (by decide) | exact f1 2 hn (by decide) | exact f1 3 hn (by decide)))
 | inn1 t x ng ih ihx =>
  intro hw ho
  have a := ih hw.1 ho.1
  have b := ihx hw.2 ho.2
  refine .ofL c (.inn1 t x ng) (Uy (t := .inn1 t x ng) ho) fun n hn => ?_
  simp only [Tr.dep] at hn
  obtain ⟨m, rfl⟩ := exm 2 hn (by decide)
  exact ex_inn1 c hc hw.1 (Uy ho.1) (Uy ho.2) (by lia) (a.S c _ (by first | exact f2a 0 hn (by decide) | exact f2a 1 hn (by decide) | exact f2a 2 hn (by decide) | exact f2a 3 hn (by decide))) (b.S c _ (by first | exact f2b 0 hn (by decide) | exact f2b 1 hn (by decide) | exact f2b 2 hn (by decide) | exact f2b 3 hn (by decide)))
 | inn2 t x y ng ih ihx ihy =>
  intro hw ho
  have a := ih hw.1 ho.1
  have b := ihx hw.2.1 ho.2.1
  have d := ihy hw.2.2 ho.2.2
  refine .ofL c (.inn2 t x y ng) (Uy (t := .inn2 t x y ng) ho) fun n hn => ?_
  simp only [Tr.dep] at hn
  obtain ⟨m, rfl⟩ := exm 2 hn (by decide)
  exact ex_inn2 c hc hw.1 (Uy ho.1) (Uy ho.2.1) (Uy ho.2.2) (by lia) (a.S c _ (by first | exact f2a 0 hn (by decide) | exact f2a 1 hn (by decide) | exact f2a 2 hn (by decide) | exact f2a 3 hn (by decide))) (b.S c _ (by first | exact f3b 0 hn (by decide) | exact f3b 1 hn (by decide) | exact f3b 2 hn (by decide) | exact f3b 3 hn (by decide))) (d.S c _ (by first | exact f3d 0 hn (by decide) | exact f3d 1 hn (by decide) | exact f3d 2 hn (by decide) | exact f3d 3 hn (by decide)))
 | btw x y z ng ihx ihy ihz =>
  intro hw ho
  have a := ihx hw.1 ho.1
  have b := ihy hw.2.1 ho.2.1
  have d := ihz hw.2.2 ho.2.2
  refine .ofL c (.btw x y z ng) (Uy (t := .btw x y z ng) ho) fun n hn => ?_
  simp only [Tr.dep] at hn
  obtain ⟨m, rfl⟩ := exm 2 hn (by decide)
  exact ex_btw c hc hw.1 hw.2.1 hw.2.2 (Uy ho.1) (Uy ho.2.1) (Uy ho.2.2) (by lia) (a.S c _ (by first | exact f2a 0 hn (by decide) | exact f2a 1 hn (by decide) | exact f2a 2 hn (by decide) | exact f2a 3 hn (by decide))) (b.S c _ (by first | exact f3b 0 hn (by decide) | exact f3b 1 hn (by decide) | exact f3b 2 hn (by decide) | exact f3b 3 hn (by decide))) (d.S c _ (by first | exact f3d 0 hn (by decide) | exact f3d 1 hn (by decide) | exact f3d 2 hn (by decide) | exact f3d 3 hn (by decide)))
 | cas1 base u t ihu iht =>
  intro hw ho
  have a := ihu hw.2.1 ho.2.1
  have b := iht hw.2.2 ho.2.2
  refine .ofL c (.cas1 base u t) (Uy (t := .cas1 base u t) ho) fun n hn => ?_
  simp only [Tr.dep] at hn
  obtain ⟨m, rfl⟩ := exm 3 hn (by decide)
  cases base with
  | none => exact ex_cas1n (n := m + 1) c (a.u _ (by first | exact f2a 0 hn (by decide) | exact f2a 1 hn (by decide) | exact f2a 2 hn (by decide) | exact f2a 3 hn (by decide))) (b.I _ (by first | exact f2b 0 hn (by decide) | exact f2b 1 hn (by decide) | exact f2b 2 hn (by decide) | exact f2b 3 hn (by decide)))
  | some i => exact ex_cas1s (n := m + 1) c hc (hw.1 i rfl) hw.2.1 (Uy ho.2.1) (ho.1 i rfl).2 (by lia) (by obtain ⟨q, rfl⟩ : ∃ q, m = q + 1 := ⟨m - 1, by lia⟩; exact ExB.s c (ex_col c (hw.1 i rfl))) (a.S c _ (by first | exact f2a 0 hn (by decide) | exact f2a 1 hn (by decide) | exact f2a 2 hn (by decide) | exact f2a 3 hn (by decide))) (b.I _ (by first | exact f2b 0 hn (by decide) | exact f2b 1 hn (by decide) | exact f2b 2 hn (by decide) | exact f2b 3 hn (by decide)))
 | cas2 base u t o ihu iht iho =>
  intro hw ho
  have a := ihu hw.2.1 ho.2.1
  have b := iht hw.2.2.1 ho.2.2.1
  have d := iho hw.2.2.2 ho.2.2.2
  refine .ofL c (.cas2 base u t o) (Uy (t := .cas2 base u t o) ho) fun n hn => ?_
  simp only [Tr.dep] at hn
  obtain ⟨m, rfl⟩ := exm 3 hn (by decide)
  cases base with
  | none => exact ex_cas2n (n := m + 1) c (a.u _ (by first | exact f2a 0 hn (by decide) | exact f2a 1 hn (by decide) | exact f2a 2 hn (by decide) | exact f2a 3 hn (by decide))) (b.I _ (by first | exact f3b 0 hn (by decide) | exact f3b 1 hn (by decide) | exact f3b 2 hn (by decide) | exact f3b 3 hn (by decide))) (d.I _ (by first | exact f3d 0 hn (by decide) | exact f3d 1 hn (by decide) | exact f3d 2 hn (by decide) | exact f3d 3 hn (by decide)))
  | some i => exact ex_cas2s (n := m + 1) c hc (hw.1 i rfl) hw.2.1 (Uy ho.2.1) (ho.1 i rfl).2 (by lia) (by obtain ⟨q, rfl⟩ : ∃ q, m = q + 1 := ⟨m - 1, by lia⟩; exact ExB.s c (ex_col c (hw.1 i rfl))) (a.S c _ (by first | exact f2a 0 hn (by decide) | exact f2a 1 hn (by decide) | exact f2a 2 hn (by decide) | exact f2a 3 hn (by decide))) (b.I _ (by first | exact f3b 0 hn (by decide) | exact f3b 1 hn (by decide) | exact f3b 2 hn (by decide) | exact f3b 3 hn (by decide))) (d.I _ (by first | exact f3d 0 hn (by decide) | exact f3d 1 hn (by decide) | exact f3d 2 hn (by decide) | exact f3d 3 hn (by decide)))
end
noncomputable def res (lb : Int → Nat) (i : Ins) : Ins := match labOf i with | some l => setLab (lb l) i | none => i
structure RegI (hd : Addr) (m : Nat) (h : H) (σ : Sto) : Prop where
 d : ∃ e hl, σ hd = some (.dict e hl) ∧ (∀ x, (zlook hl x).getD .none = h x) ∧ hl.length ≤ m
section
variable {n : Nat} {σ : Sto} {Q : D → Sto → Prop} {C : Ora} {ρ : Loc} {a b : D} {Hd o : Addr} {m : Nat} {h : H}
theorem U1 {i j : Nat} {x : Int} (hI : RegI Hd m h σ) (h1 : nth ρ i = some (.mdic Hd)) (h2 : nth ρ j = some (.int x)) : Ev (wBM rDict mGet (wV i) [(wV j)]) C ρ σ (h x) := fun Q q => by
 obtain ⟨e, hl, hs, hv, _⟩ := hI.d
 rw [e_BM, Zhq, h1]
 refine ⟨?_, Zn h2 _ ?_⟩
 ·exact ⟨_, _, _, rfl, hs⟩
 ·exact ⟨_, _, _, _, rfl, rfl, hs, hv x ▸ q⟩
theorem en_838 : Cn (n + 1) 838 [a, b] σ Q = W_838 (Cn n) [some a, some b, none, none, none, none, none, none, none, none] σ (fun _ σ' => Q .none σ') Q (fun _ _ => False) := Z1 (F := F_838) (full := [a, b]) rfl rfl
theorem en_845 : Cn (n + 1) 845 [a, b] σ Q = W_845 (Cn n) [some a, some b, none, none, none, none, none, none, none] σ (fun _ σ' => Q .none σ') Q (fun _ _ => False) := Z1 (F := F_845) (full := [a, b]) rfl rfl
theorem told {ad : Addr} {nm : String} {p2 p3 : D} {s t : Int} {op coll : Str} {f g : D} {rest : List D} (hI : RegI Hd m h σ) (ha : σ ad = some (.list [.str (Str.ofString nm), .int s, p2, p3, .tup (.str op :: .str coll :: .tup [f, g] :: rest)])) (ht : (nm == "Compare" → p2 = .int t) ∧ ((nm == "Compare") = false → p3 = .int t)) (v1 : IsV (h s)) (v2 : IsV (h t)) (ho : op ∈ Ops) (hf : f ∈ Affs) (hg : g ∈ Affs) (k : Q (cmpD op (ledD (h s) f) (ledD (h t) g) coll) σ) : Cn (n + 3) 838 [.mdic Hd, .mlst ad] σ Q := by
 refine en_838.mpr ?_
 refine Zbk (Zn rfl) ha ?_
 refine Yo (d := .int t) (Vo (Yk rfl rfl) ?_) ?_
 ·cases e : nm == "Compare" with
  | true => exact Zn (by rw [← ht.1 e]; rfl)
  | false => exact Zn (by rw [← ht.2 e]; rfl)
 refine Zd6 (Zy (Zc (U1 hI rfl rfl) (Zc (Yi (Yi (Zn rfl) (by decide) (by rfl)) (by decide) (by rfl)) Zp)) fun Q q => led v1 hf q) (Zy (Zc (U1 hI rfl rfl) (Zc (Yi (Yi (Zn rfl) (by decide) (by rfl)) (by decide) (by rfl)) Zp)) fun Q q => led v2 hg q) ?_
 refine Yj (Zy (Zc (Yi (Zn rfl) (by decide) (by rfl)) (Zc (Zn rfl) (Zc (Zn rfl) (Zc (Yi (Zn rfl) (by decide) (by rfl)) Zp)))) fun Q q => compared ho (ledW v1) (ledW v2) q) k
theorem ev_tru {e f : WE} {i : Nat} {v : D} {u one : Bool} (hv : IsT v) (h : nth ρ i = some v) (he : Ev e C ρ σ (.bool u)) (hf : Ev f C ρ σ (.int (if one then 1 else 0))) : Ev (wIf (tCmp oIsN (wV i) wNone) e (wCmp oEq (wV i) f)) C ρ σ (.bool (tru v one u)) := by
 refine Uo (Y2 (Zn h)) (fun e1 => ?_) (fun e1 => ?_)
 ·cases hv with
  | none => exact he
  | zero => cases e1
  | one => cases e1
 ·cases hv with
  | none => cases e1
  | zero => exact Zec (Zn h) hf
  | one => exact Zec (Zn h) hf
noncomputable def jmpB (h : H) : Ins → Bool
 | .goto _ => true
 | .isn s _ => isNoneD (h s)
 | .non s _ => !isNoneD (h s)
 | .jif s _ u => tru (trueD (h s)) true u
 | .jun s _ u => tru (trueD (h s)) false u
 | .cmpj a _ b op coll f g u => tru (cmpD op (ledD (h a) f) (ledD (h b) g) coll) true u
 | _ => false
theorem jumps {ad : Addr} {i : Ins} {l : Int} (hI : RegI Hd m h σ) (ha : σ ad = some (.list (insD i))) (hl : labOf i = some l) (hr : Rd h i) (k : Q (.bool (jmpB h i)) σ) : Cn (n + 4) 845 [.mdic Hd, .mlst ad] σ Q := by
 refine en_845.mpr ?_
 cases i with
 | goto l =>
  refine Zbk (Zn rfl) ha ?_
  refine Yo (U1 hI rfl rfl) ?_
  refine Vf (Yk rfl rfl) ?_
  exact Yj ev_B k
 | isn s l =>
  refine Zbk (Zn rfl) ha ?_
  refine Yo (U1 hI rfl rfl) ?_
  refine Y4 (Yk rfl rfl) ?_
  refine Vf (Uq rfl rfl) ?_
  refine Yj (ev_eqbb (ev_isn (Zn rfl)) (ev_eqs rfl rfl)) ?_
  rw [show jmpB h (.isn s l) = (isNoneD (h s) == ("IsNull" == "IsNull")) by show isNoneD (h s) = _; cases isNoneD (h s) <;> rfl] at k
  exact k
 | non s l =>
  refine Zbk (Zn rfl) ha ?_
  refine Yo (U1 hI rfl rfl) ?_
  refine Y4 (Yk rfl rfl) ?_
  refine Vf (Uq rfl rfl) ?_
  refine Yj (ev_eqbb (ev_isn (Zn rfl)) (ev_eqs rfl rfl)) ?_
  rw [show jmpB h (.non s l) = (isNoneD (h s) == ("NotNull" == "IsNull")) by show (!isNoneD (h s)) = _; cases isNoneD (h s) <;> rfl] at k
  exact k
 | jif s l u =>
  refine Zbk (Zn rfl) ha ?_
  refine Yo (U1 hI rfl rfl) ?_
  refine Y4 (Yk rfl rfl) ?_
  refine Y4 (Uq rfl rfl) ?_
  refine Y4 (Yk rfl rfl) ?_
  refine Yo (Zy (Zc (Zn rfl) Zp) fun Q q => Kg hr q) ?_
  exact Yj (ev_tru (Xd _) rfl (ev_bi (Zn rfl)) (Zbw (ev_eqs rfl rfl))) k
 | jun s l u =>
  refine Zbk (Zn rfl) ha ?_
  refine Yo (U1 hI rfl rfl) ?_
  refine Y4 (Yk rfl rfl) ?_
  refine Y4 (Uq rfl rfl) ?_
  refine Y4 (Yk rfl rfl) ?_
  refine Yo (Zy (Zc (Zn rfl) Zp) fun Q q => Kg hr q) ?_
  exact Yj (ev_tru (Xd _) rfl (ev_bi (Zn rfl)) (Zbw (ev_eqs rfl rfl))) k
 | cmpj s l t op coll f g u =>
  refine Zbk (Zn rfl) ha ?_
  refine Yo (U1 hI rfl rfl) ?_
  refine Y4 (Yk rfl rfl) ?_
  refine Y4 (Uq rfl rfl) ?_
  refine Vf (Yk rfl rfl) ?_
  refine Yo (Zy (Zc (Zn rfl) (Zc (Zn rfl) Zp)) fun Q q => told hI ha ⟨fun e => by simp at e, fun _ => rfl⟩ hr.1 hr.2.1 hr.2.2.1 hr.2.2.2.1 hr.2.2.2.2 q) ?_
  exact Yj (ev_tru (one := true) (cmpD_T ..) rfl (ev_bb (Yi (Zn rfl) (by decide) (by rfl))) Yw) k
 | _ => cases hl
end
noncomputable def W_rb : WS := (sSeq (sIf (tOr (tCmp oGe (wV 2) (wBi bLen [(wV 0)])) (tOr (tCmp oEq (w2 gItem (w2 gItem (wV 0) (wV 2)) (wI 0)) (wS "Halt")) (tEnd (BoolOp.Or == BoolOp.And))))
 (sSeq (sRet (wB true)) sNil)
 sNil) (sSeq (sAsg (w2 gItem (wV 0) (wV 2)) (aTup [(aName 4), (aName 5), (aName 6), (aName 7), (aName 8)])) (sSeq (sAsg (w2 oAdd (wV 2) (wI 1)) (aName 2)) (sSeq (sIf (tCmp oEq (wV 4) (wS "Value"))
 (sSeq (sAsg (wV 8) (aSub (wV 1) (wV 6))) sNil)
 (sSeq (sIf (tCmp oEq (wV 4) (wS "Null"))
 (sSeq (sAsg wNone (aSub (wV 1) (wV 6))) sNil)
 (sSeq (sIf (tCmp oEq (wV 4) (wS "Copy"))
 (sSeq (sAsg (wBM rDict mGet (wV 1) [(wV 5)]) (aSub (wV 1) (wV 6))) sNil)
 (sSeq (sIf (tCmp oEq (wV 4) (wS "Unary"))
 (sSeq (sAsg (wBM rDict mGet (wV 1) [(wV 5)]) (aName 9)) (sSeq (sAsg (wIf (tCmp oIsN (wV 9) wNone) wNone (w2 oSub (wI 0) (wCall 758 [(wV 9)]))) (aName 10)) (sSeq (sAsg (wIf (tCmp oEq (wV 8) (wS "not")) (wCall 819 [(wCall 765 [(wV 9)]), (wB true)]) (wV 10)) (aSub (wV 1) (wV 6))) sNil)))
 (sSeq (sIf (tCmp oEq (wV 4) (wS "Compare"))
 (sSeq (sAsg (wCall 838 [(wV 1), (w2 gItem (wV 0) (w2 oSub (wV 2) (wI 1)))]) (aSub (wV 1) (wV 7))) sNil)
 (sSeq (sIf (tCmp gIn (wV 4) (wLst [(wS "Logic"), (wS "Arith")]))
 (sSeq (sAsg (wCall 831 [(wV 8), wNone, (wTup [(wBM rDict mGet (wV 1) [(wV 5)]), (wBM rDict mGet (wV 1) [(wV 6)])]), (wS "binary")]) (aSub (wV 1) (wV 7))) sNil)
 (sSeq (sIf (tCmp gNotIn (wV 4) (wLst [(wS "Goto"), (wS "IsNull"), (wS "NotNull"), (wS "CompareJump"), (wS "If"), (wS "IfNot")]))
 (sSeq (sRet (wB false)) sNil)
 (sSeq (sIf (tOf oTr (wCall 845 [(wV 1), (w2 gItem (wV 0) (w2 oSub (wV 2) (wI 1)))]))
 (sSeq (sAsg (wV 6) (aName 2)) sNil)
 sNil) sNil)) sNil)) sNil)) sNil)) sNil)) sNil)) sNil)) sNil))))
structure CodI (o hd : Addr) (code : List Ins) (lb : Int → Nat) (σ : Sto) : Prop where
 od : ∃ as, σ o = some (.list (as.map .mlst)) ∧ Fits σ as (code.map (res lb)) ∧ ∀ a ∈ as, a ≠ hd
 ne : o ≠ hd
 len : code.length ≤ 5000
theorem CodI.move {o hd : Addr} {code : List Ins} {lb : Int → Nat} {σ σ' : Sto} (c : CodI o hd code lb σ) (k : ∀ x, x ≠ hd → σ' x = σ x) : CodI o hd code lb σ' := by
 obtain ⟨as, h1, h2, h3⟩ := c.od
 exact ⟨⟨as, (k _ c.ne).trans h1, h2.mono fun a ha => k a (h3 a ha), h3⟩, c.ne, c.len⟩
theorem CodI.at {o hd : Addr} {code : List Ins} {lb : Int → Nat} {σ : Sto} (c : CodI o hd code lb σ) {pc : Nat} {i : Ins} (e : code[pc]? = some i) : ∃ l a, σ o = some (.list l) ∧ l.length = code.length ∧ l[pc]? = some (.mlst a) ∧ σ a = some (.list (insD (res lb i))) := by
 obtain ⟨as, h1, h2, h3⟩ := c.od
 obtain ⟨a, h4, h5⟩ := Fits.get as _ pc (res lb i) h2 (by rw [List.getElem?_map, e]; rfl)
 have := h2.len
 exact ⟨_, a, h1, by simpa using this, by rw [List.getElem?_map, h4]; rfl, h5⟩
theorem CodI.size {o hd : Addr} {code : List Ins} {lb : Int → Nat} {σ : Sto} (c : CodI o hd code lb σ) : ∃ l, σ o = some (.list l) ∧ l.length = code.length := by
 obtain ⟨as, h1, h2, h3⟩ := c.od
 have := h2.len
 exact ⟨_, h1, by simpa using this⟩
noncomputable def nameOf : Ins → String
 | .value _ _ => "Value"
 | .null _ => "Null"
 | .copy _ _ => "Copy"
 | .una _ _ _ => "Unary"
 | .cmp _ _ _ _ _ _ _ => "Compare"
 | .log _ _ _ _ => "Logic"
 | .ari _ _ _ _ => "Arith"
 | .goto _ => "Goto"
 | .isn _ _ => "IsNull"
 | .non _ _ => "NotNull"
 | .jif _ _ _ => "If"
 | .jun _ _ _ => "IfNot"
 | .cmpj _ _ _ _ _ _ _ _ => "CompareJump"
 | .halt => "Halt"
theorem name_res (lb : Int → Nat) (i : Ins) : nameOf (res lb i) = nameOf i := by cases i <;> rfl
theorem ins_five (i : Ins) : ∃ x1 x2 x3 x4, insD i = [.str (Str.ofString (nameOf i)), x1, x2, x3, x4] := by cases i <;> exact ⟨_, _, _, _, rfl⟩
section
variable {n : Nat} {σ : Sto} {Q : D → Sto → Prop} {C : Ora} {ρ : Loc} {a b : D} {hd o : Addr} {m : Nat} {h : H} {code : List Ins} {lb : Int → Nat}
theorem ev_lenM {i : Nat} {a : Addr} {l : List D} (h : nth ρ i = some (.mlst a)) (hs : σ a = some (.list l)) (hl : l.length ≤ 100000) : Ev (wBi bLen [(wV i)]) C ρ σ (.int l.length) := fun Q q => by
 rw [Zfy]
 refine Zc (Zn h) Zp _ ?_
 show (match σ a with | some (.list l) => l.length ≤ 100000 ∧ Q (.int l.length) σ | _ => False)
 rw [hs]; exact ⟨hl, q⟩
theorem Zdt {e f : WE} {k : Nat} {a : Addr} {l : List D} {d : D} (h : Ev e C ρ σ (.mlst a)) (hf : Ev f C ρ σ (.int k)) (hk : k < 100000) (hs : σ a = some (.list l)) (hd : l[k]? = some d) : Ev (w2 gItem e f) C ρ σ d := fun Q q => by
 rw [Zhr]
 refine h _ (hf _ ?_)
 refine ⟨⟨by lia, by lia⟩, ?_⟩
 have e1 : idx l (k : Int) = some d := by
  have := idx_c (α := D) l k
  rw [← hd]; exact this
 simp only [hs, e1]; exact q
noncomputable def rL (o hd : Addr) (at_ : Int) (x3 x4 x5 x6 x7 x8 x9 x10 : Option D) : Loc := [some (.mlst o), some (.mdic hd), some (.int at_), x3, x4, x5, x6, x7, x8, x9, x10]
theorem Zgm (l : List (Int × D)) (k : Int) (d : D) (x : Int) : zlook (zput l k d) x = if x = k then some d else zlook l x := by
 have mp : ∀ l : List (Int × D), zlook (l.map fun kv => if kv.1 = k then (kv.1, d) else kv) x = if x = k then (if l.any (fun kv => kv.1 = k) then some d else none) else zlook l x := by
  intro l
  induction l with
  | nil => simp [zlook]
  | cons f l ih =>
   simp only [List.map_cons, zlook, List.any_cons]
   by_cases e1 : f.1 = k
   ·by_cases e2 : x = k
    ·subst e2; simp [e1]
    ·have : ¬ k = x := fun e => e2 e.symm
     simp only [e1, if_true, this, if_false, e2]
     rw [ih, if_neg e2]
   ·by_cases e2 : x = k
    ·subst e2
     simp only [e1, if_false, if_true, decide_false, Bool.false_or]
     rw [ih, if_pos rfl]
    ·simp only [e1, if_false, e2]
     rw [ih, if_neg e2]
 have ap : ∀ l : List (Int × D), l.any (fun kv => kv.1 = k) = false → zlook (l ++ [(k, d)]) x = if x = k then some d else zlook l x := by
  intro l
  induction l with
  | nil =>
   intro _
   simp only [List.nil_append, zlook]
   by_cases e : x = k
   ·subst e; simp
   ·have : ¬ k = x := fun q => e q.symm
    simp [e, this]
  | cons f l ih =>
   intro hl
   simp only [List.any_cons, Bool.or_eq_false_iff, decide_eq_false_iff_not] at hl
   simp only [List.cons_append, zlook]
   rw [ih hl.2]
   by_cases e2 : x = k
   ·subst e2; simp [hl.1]
   ·simp [e2]
 unfold zput
 cases e : l.any (fun kv => kv.1 = k) with
 | true => rw [if_pos rfl, mp, e]; simp
 | false => rw [if_neg (by decide)]; exact ap l e
theorem zput_len (l : List (Int × D)) (k : Int) (d : D) : (zput l k d).length ≤ l.length + 1 := by
 unfold zput; split <;> simp
theorem Zfv {j : Nat} {k : Int} {e : WE} {d : D} {z : WS} {N Kk : Loc → Sto → Prop} {R : D → Sto → Prop} (hI : RegI hd m h σ) (hm : m ≤ 90000) (h1 : nth ρ 1 = some (.mdic hd)) (h2 : nth ρ j = some (.int k)) (he : Ev e C ρ σ d) (kk : ∀ σ', RegI hd (m + 1) (hput h k d) σ' → (∀ x, x ≠ hd → σ' x = σ x) → z C ρ σ' N R Kk) : sSeq (sAsg e (aSub (wV 1) (wV j))) z C ρ σ N R Kk := by
 obtain ⟨ep, hl, hs, hv, hlen⟩ := hI.d
 rw [Y0, V1]
 refine he _ ?_
 rw [Zfd]
 refine Zn h1 _ (Zn h2 _ ?_)
 simp only [hs]
 refine ⟨by lia, fun ep' => kk _ ⟨⟨ep', _, Z2 _ _ _, fun x => ?_, ?_⟩⟩ fun x hx => Z4 _ _ hx⟩
 ·rw [Zgm]
  unfold hput
  split
  ·rfl
  ·exact hv x
 ·have := zput_len hl k d; lia
end
section
variable {n : Nat} {σ : Sto} {Q : D → Sto → Prop} {C : Ora} {ρ : Loc} {a b : D} {hd o : Addr} {m : Nat} {h : H} {code : List Ins} {lb : Int → Nat} {pc : Nat} {x3 x4 x5 x6 x7 x8 x9 x10 : Option D} {N Kk : Loc → Sto → Prop} {R : D → Sto → Prop} {z : WS}
theorem V3 {i : Ins} {y1 y2 y3 y4 : D} {nm : String} (c : CodI o hd code lb σ) (e : code[pc]? = some i) (hi : insD (res lb i) = [.str (Str.ofString nm), y1, y2, y3, y4]) (hh : (nm == "Halt") = false)
  (k : z C (rL o hd ((pc + 1 : Nat) : Int) x3 (some (.str (Str.ofString nm))) (some y1) (some y2) (some y3) (some y4) x9 x10) σ N R Kk) :
  (sSeq (sIf (tOr (tCmp oGe (wV 2) (wBi bLen [(wV 0)])) (tOr (tCmp oEq (w2 gItem (w2 gItem (wV 0) (wV 2)) (wI 0)) (wS "Halt")) (tEnd (BoolOp.Or == BoolOp.And))))
 (sSeq (sRet (wB true)) sNil)
 sNil) (sSeq (sAsg (w2 gItem (wV 0) (wV 2)) (aTup [(aName 4), (aName 5), (aName 6), (aName 7), (aName 8)])) (sSeq (sAsg (w2 oAdd (wV 2) (wI 1)) (aName 2)) z))) C (rL o hd (pc : Int) x3 x4 x5 x6 x7 x8 x9 x10) σ N R Kk := by
 obtain ⟨l, ad, h1, h2, h3, h4⟩ := c.at e
 have hl := c.len
 have hp : pc < code.length := (List.getElem?_eq_some_iff.mp e).1
 have hb : decide ((l.length : Int) ≤ (pc : Int)) = false := decide_eq_false (by lia)
 have evop : ∀ (ρ : Loc), nth ρ 0 = some (.mlst o) → nth ρ 2 = some (.int (pc : Int)) → Ev (w2 gItem (wV 0) (wV 2)) C ρ σ (.mlst ad) := fun ρ q0 q2 => Zdt (Zn q0) (Zn q2) (by lia) h1 h3
 rw [hi] at h4
 have t : Ti (tOr (tCmp oGe (wV 2) (wBi bLen [(wV 0)])) (tOr (tCmp oEq (w2 gItem (w2 gItem (wV 0) (wV 2)) (wI 0)) (wS "Halt")) (tEnd (BoolOp.Or == BoolOp.And)))) C (rL o hd (pc : Int) x3 x4 x5 x6 x7 x8 x9 x10) σ (decide ((l.length : Int) ≤ (pc : Int)) || false) :=
  Zbd (ti_ge (Zn rfl) (ev_lenM rfl h1 (by lia))) fun _ => Zbm (Zdt (k := 0) (evop _ rfl rfl) Yw (by decide) h4 rfl) hh
 rw [hb] at t
 refine Y4 t ?_
 refine Zbk (evop _ rfl rfl) h4 ?_
 refine Yo (ev_add_ (y := ((pc + 1 : Nat) : Int)) (Zn rfl) (by lia)) ?_
 exact k
theorem run_end (c : CodI o hd code lb σ) (e : code.length ≤ pc ∨ code[pc]? = some .halt) (k : R (.bool true) σ) (hpc : pc ≤ 5000) : W_rb C (rL o hd (pc : Int) x3 x4 x5 x6 x7 x8 x9 x10) σ N R Kk := by
 have hl := c.len
 rcases e with e | e
 ·obtain ⟨l, h1, h2⟩ := c.size
  have hb : decide ((l.length : Int) ≤ (pc : Int)) = true := decide_eq_true (by lia)
  have t : Ti (tOr (tCmp oGe (wV 2) (wBi bLen [(wV 0)])) (tOr (tCmp oEq (w2 gItem (w2 gItem (wV 0) (wV 2)) (wI 0)) (wS "Halt")) (tEnd (BoolOp.Or == BoolOp.And)))) C (rL o hd (pc : Int) x3 x4 x5 x6 x7 x8 x9 x10) σ (decide ((l.length : Int) ≤ (pc : Int)) || true) :=
   Zbd (ti_ge (Zn rfl) (ev_lenM rfl h1 (by lia))) fun e => by rw [hb] at e; cases e
  rw [hb] at t
  exact Vf t (Yj ev_B k)
 ·obtain ⟨l, ad, h1, h2, h3, h4⟩ := c.at e
  have hp : pc < code.length := (List.getElem?_eq_some_iff.mp e).1
  have hb : decide ((l.length : Int) ≤ (pc : Int)) = false := decide_eq_false (by lia)
  have evop : ∀ (ρ : Loc), nth ρ 0 = some (.mlst o) → nth ρ 2 = some (.int (pc : Int)) → Ev (w2 gItem (wV 0) (wV 2)) C ρ σ (.mlst ad) := fun ρ q0 q2 => Zdt (Zn q0) (Zn q2) (by lia) h1 h3
  have t : Ti (tOr (tCmp oGe (wV 2) (wBi bLen [(wV 0)])) (tOr (tCmp oEq (w2 gItem (w2 gItem (wV 0) (wV 2)) (wI 0)) (wS "Halt")) (tEnd (BoolOp.Or == BoolOp.And)))) C (rL o hd (pc : Int) x3 x4 x5 x6 x7 x8 x9 x10) σ (decide ((l.length : Int) ≤ (pc : Int)) || true) :=
   Zbd (ti_ge (Zn rfl) (ev_lenM rfl h1 (by lia))) fun _ => Zbm (Zdt (k := 0) (evop _ rfl rfl) Yw (by decide) h4 rfl) rfl
  rw [hb] at t
  exact Vf t (Yj ev_B k)
theorem ti_jn {i : Nat} {t : String} (h : nth ρ i = some (.str (Str.ofString t))) (e : (t == "Goto" || t == "IsNull" || t == "NotNull" || t == "CompareJump" || t == "If" || t == "IfNot") = true) : Ti (tCmp gNotIn (wV i) (wLst [(wS "Goto"), (wS "IsNull"), (wS "NotNull"), (wS "CompareJump"), (wS "If"), (wS "IfNot")])) C ρ σ false := fun T k => by
 rw [Ys, Zhq, h]
 have : (Str.ofString "Goto" == Str.ofString t || (Str.ofString "IsNull" == Str.ofString t || (Str.ofString "NotNull" == Str.ofString t || (Str.ofString "CompareJump" == Str.ofString t || (Str.ofString "If" == Str.ofString t || (Str.ofString "IfNot" == Str.ofString t || false)))))) = true := by
  rw [Uz, Uz, Uz, Uz, Uz, Uz, Bool.or_false]
  revert e
  rw [Bool.beq_comm (a := t), Bool.beq_comm (a := t), Bool.beq_comm (a := t), Bool.beq_comm (a := t), Bool.beq_comm (a := t), Bool.beq_comm (a := t), Bool.or_assoc, Bool.or_assoc, Bool.or_assoc, Bool.or_assoc]
  exact id
 have k' : T (!(Str.ofString "Goto" == Str.ofString t || (Str.ofString "IsNull" == Str.ofString t || (Str.ofString "NotNull" == Str.ofString t || (Str.ofString "CompareJump" == Str.ofString t || (Str.ofString "If" == Str.ofString t || (Str.ofString "IfNot" == Str.ofString t || false))))))) σ := by rw [this]; exact k
 exact ⟨Nat.zero_le _, k'⟩
theorem Zbg {i : Ins} {l : Int} {y1 y3 y4 : D} {nm : String} (c : CodI o hd code lb σ) (hI : RegI hd m h σ) (e : code[pc]? = some i) (hl : labOf i = some l) (hr : Rd h i) (hi : insD (res lb i) = [.str (Str.ofString nm), y1, .int (lb l), y3, y4]) (hj : jmpB h (res lb i) = jmpB h i) (hrr : Rd h (res lb i)) (hlr : labOf (res lb i) = some (lb l : Int))
  (k : ∀ x3 x4 x5 x6 x7 x8 x9 x10, N (rL o hd (((if jmpB h i then lb l else pc + 1) : Nat) : Int) x3 x4 x5 x6 x7 x8 x9 x10) σ) :
  (sSeq (sIf (tOf oTr (wCall 845 [(wV 1), (w2 gItem (wV 0) (w2 oSub (wV 2) (wI 1)))]))
 (sSeq (sAsg (wV 6) (aName 2)) sNil)
 sNil) sNil) (Cn (n + 4)) (rL o hd ((pc + 1 : Nat) : Int) x3 (some (.str (Str.ofString nm))) (some y1) (some (.int (lb l))) (some y3) (some y4) x9 x10) σ N R Kk := by
 obtain ⟨ls, ad, h1, h2, h3, h4⟩ := c.at e
 have hcl := c.len
 have hp : pc < code.length := (List.getElem?_eq_some_iff.mp e).1
 have t : Ti (tOf oTr (wCall 845 [(wV 1), (w2 gItem (wV 0) (w2 oSub (wV 2) (wI 1)))])) (Cn (n + 4)) (rL o hd ((pc + 1 : Nat) : Int) x3 (some (.str (Str.ofString nm))) (some y1) (some (.int (lb l))) (some y3) (some y4) x9 x10) σ (jmpB h i) := by
  rw [← hj]
  exact X9 (Zy (Zc (Zn rfl) (Zc (Zdt (Zn rfl) (Zcx (y := (pc : Int)) (Zn rfl) (by lia)) (by lia) h1 h3) Zp)) fun Q q => jumps hI h4 hlr hrr q)
 refine Zgh t (fun e1 => ?_) (fun e1 => ?_)
 ·refine Yo (Zn rfl) ?_
  refine Xx ?_
  have := k x3 (some (.str (Str.ofString nm))) (some y1) (some (.int (lb l))) (some y3) (some y4) x9 x10
  rw [e1, if_pos rfl] at this
  exact this
 ·simp only [Jj]
  have := k x3 (some (.str (Str.ofString nm))) (some y1) (some (.int (lb l))) (some y3) (some y4) x9 x10
  rw [e1, if_neg (by decide)] at this
  exact this
end
section
variable {n : Nat} {σ : Sto} {hd o : Addr} {m : Nat} {h : H} {code : List Ins} {lb : Int → Nat} {pc : Nat} {x3 x4 x5 x6 x7 x8 x9 x10 : Option D} {N Kk : Loc → Sto → Prop} {R : D → Sto → Prop}
theorem run_step {i : Ins} (c : CodI o hd code lb σ) (hI : RegI hd m h σ) (hm : m ≤ 90000) (e : code[pc]? = some i) (hr : Rd h i)
  (k : ∀ σ' x3 x4 x5 x6 x7 x8 x9 x10, RegI hd (m + 1) (nxt lb pc h i).2 σ' → (∀ x, x ≠ hd → σ' x = σ x) → N (rL o hd ((nxt lb pc h i).1 : Int) x3 x4 x5 x6 x7 x8 x9 x10) σ') :
  W_rb (Cn (n + 4)) (rL o hd (pc : Int) x3 x4 x5 x6 x7 x8 x9 x10) σ N R Kk := by
 have hI1 : RegI hd (m + 1) h σ := by
  obtain ⟨a, b, h1, h2, h3⟩ := hI.d
  exact ⟨⟨a, b, h1, h2, Nat.le_succ_of_le h3⟩⟩
 have jmp : ∀ (j : Bool) (l : Int), nxt lb pc h i = (if j then lb l else pc + 1, h) → ∀ x3 x4 x5 x6 x7 x8 x9 x10, N (rL o hd (((if j then lb l else pc + 1) : Nat) : Int) x3 x4 x5 x6 x7 x8 x9 x10) σ := fun j l en x3 x4 x5 x6 x7 x8 x9 x10 => by
  have := k σ x3 x4 x5 x6 x7 x8 x9 x10
  rw [en] at this
  exact this hI1 fun _ _ => rfl
 cases i with
 | value d v =>
  refine V3 c e rfl rfl ?_
  refine Vf (Yk rfl rfl) ?_
  refine Zfv (j := 6) hI hm rfl rfl (Zn rfl) fun σ' g' b' => ?_
  refine Xx ?_
  exact k σ' _ _ _ _ _ _ _ _ g' b'
 | null d =>
  refine V3 c e rfl rfl ?_
  refine Yg (Yk rfl rfl) ?_
  refine Vf (Yk rfl rfl) ?_
  refine Zfv (j := 6) hI hm rfl rfl Zah fun σ' g' b' => ?_
  refine Xx ?_
  exact k σ' _ _ _ _ _ _ _ _ g' b'
 | copy s d =>
  refine V3 c e rfl rfl ?_
  refine Yg (Yk rfl rfl) ?_
  refine Yg (Yk rfl rfl) ?_
  refine Vf (Yk rfl rfl) ?_
  refine Zfv (j := 6) hI hm rfl rfl (U1 hI rfl rfl) fun σ' g' b' => ?_
  refine Xx ?_
  exact k σ' _ _ _ _ _ _ _ _ g' b'
 | una s d op =>
  refine V3 c e rfl rfl ?_
  refine Yg (Yk rfl rfl) ?_
  refine Yg (Yk rfl rfl) ?_
  refine Yg (Yk rfl rfl) ?_
  refine Vf (Yk rfl rfl) ?_
  refine Yo (U1 hI rfl rfl) ?_
  refine Yo (ev_known hr.1 rfl) ?_
  have ev : Ev (wIf (tCmp oEq (wV 8) (wS "not")) (wCall 819 [(wCall 765 [(wV 9)]), (wB true)]) (wV 10)) (Cn (n + 4)) (put (put (rL o hd ((pc + 1 : Nat) : Int) x3 (some (.str "Unary")) (some (.int s)) (some (.int d)) (some (.int 0)) (some (.str op)) x9 x10) 9 (h s)) 10 (negD (h s))) σ (if op = "not" then oppD (trueD (h s)) true else negD (h s)) := by
   rcases hr.2 with rfl | rfl
   ·refine Vo (Yk rfl rfl) ?_
    exact Zy (Zc (Zy (Zc (Zn rfl) Zp) fun Q q => Kg hr.1 q) (Zc ev_B Zp)) fun Q q => opposite (Xd _) q
   ·refine Vo (Yk rfl rfl) ?_
    exact Zn rfl
  refine Zfv (j := 6) hI hm rfl rfl ev fun σ' g' b' => ?_
  refine Xx ?_
  exact k σ' _ _ _ _ _ _ _ _ g' b'
 | cmp s t d op coll f g =>
  refine V3 c e rfl rfl ?_
  refine Yg (Yk rfl rfl) ?_
  refine Yg (Yk rfl rfl) ?_
  refine Yg (Yk rfl rfl) ?_
  refine Yg (Yk rfl rfl) ?_
  refine Vf (Yk rfl rfl) ?_
  obtain ⟨ls, ad, h1, h2, h3, h4⟩ := c.at e
  have hcl := c.len
  have hp : pc < code.length := (List.getElem?_eq_some_iff.mp e).1
  refine Zfv (j := 7) hI hm rfl rfl (Zy (Zc (Zn rfl) (Zc (Zdt (Zn rfl) (Zcx (y := (pc : Int)) (Zn rfl) (by lia)) (by lia) h1 h3) Zp)) fun Q q => told (nm := "Compare") hI h4 ⟨fun _ => rfl, fun e => by simp at e⟩ hr.1 hr.2.1 hr.2.2.1 hr.2.2.2.1 hr.2.2.2.2 q) fun σ' g' b' => ?_
  refine Xx ?_
  exact k σ' _ _ _ _ _ _ _ _ g' b'
 | log s t d op =>
  refine V3 c e rfl rfl ?_
  refine Yg (Yk rfl rfl) ?_
  refine Yg (Yk rfl rfl) ?_
  refine Yg (Yk rfl rfl) ?_
  refine Yg (Yk rfl rfl) ?_
  refine Yg (Yk rfl rfl) ?_
  refine Vf (Uq rfl rfl) ?_
  refine Zfv (j := 7) hI hm rfl rfl (Zy (Zc (Zn rfl) (Zc Zah (Zc (Xp (Zc (U1 hI rfl rfl) (Zc (U1 hI rfl rfl) Zp))) (Zc Y3 Zp)))) fun Q q => Zc1 hr.2.2 hr.1 hr.2.1 q) fun σ' g' b' => ?_
  refine Xx ?_
  exact k σ' _ _ _ _ _ _ _ _ g' b'
 | ari s t d op =>
  refine V3 c e rfl rfl ?_
  refine Yg (Yk rfl rfl) ?_
  refine Yg (Yk rfl rfl) ?_
  refine Yg (Yk rfl rfl) ?_
  refine Yg (Yk rfl rfl) ?_
  refine Yg (Yk rfl rfl) ?_
  refine Vf (Uq rfl rfl) ?_
  refine Zfv (j := 7) hI hm rfl rfl (Zy (Zc (Zn rfl) (Zc Zah (Zc (Xp (Zc (U1 hI rfl rfl) (Zc (U1 hI rfl rfl) Zp))) (Zc Y3 Zp)))) fun Q q => Zc1 hr.2.2 hr.1 hr.2.1 q) fun σ' g' b' => ?_
  refine Xx ?_
  exact k σ' _ _ _ _ _ _ _ _ g' b'
 | goto l =>
  refine V3 c e rfl rfl ?_
  refine Yg (Yk rfl rfl) ?_
  refine Yg (Yk rfl rfl) ?_
  refine Yg (Yk rfl rfl) ?_
  refine Yg (Yk rfl rfl) ?_
  refine Yg (Yk rfl rfl) ?_
  refine Yg (Uq rfl rfl) ?_
  refine Yg (ti_jn rfl rfl) ?_
  refine Zbg (l := l) c hI e rfl hr rfl rfl hr rfl fun y3 y4 y5 y6 y7 y8 y9 y10 => ?_
  refine Xx ?_
  exact jmp _ l rfl _ _ _ _ _ _ _ _
 | isn s l =>
  refine V3 c e rfl rfl ?_
  refine Yg (Yk rfl rfl) ?_
  refine Yg (Yk rfl rfl) ?_
  refine Yg (Yk rfl rfl) ?_
  refine Yg (Yk rfl rfl) ?_
  refine Yg (Yk rfl rfl) ?_
  refine Yg (Uq rfl rfl) ?_
  refine Yg (ti_jn rfl rfl) ?_
  refine Zbg (l := l) c hI e rfl hr rfl rfl hr rfl fun y3 y4 y5 y6 y7 y8 y9 y10 => ?_
  refine Xx ?_
  exact jmp _ l rfl _ _ _ _ _ _ _ _
 | non s l =>
  refine V3 c e rfl rfl ?_
  refine Yg (Yk rfl rfl) ?_
  refine Yg (Yk rfl rfl) ?_
  refine Yg (Yk rfl rfl) ?_
  refine Yg (Yk rfl rfl) ?_
  refine Yg (Yk rfl rfl) ?_
  refine Yg (Uq rfl rfl) ?_
  refine Yg (ti_jn rfl rfl) ?_
  refine Zbg (l := l) c hI e rfl hr rfl rfl hr rfl fun y3 y4 y5 y6 y7 y8 y9 y10 => ?_
  refine Xx ?_
  exact jmp _ l (by show ((if isNoneD (h s) = true then pc + 1 else lb l), h) = ((if (!isNoneD (h s)) = true then lb l else pc + 1), h); cases isNoneD (h s) <;> rfl) _ _ _ _ _ _ _ _
 | jif s l u =>
  refine V3 c e rfl rfl ?_
  refine Yg (Yk rfl rfl) ?_
  refine Yg (Yk rfl rfl) ?_
  refine Yg (Yk rfl rfl) ?_
  refine Yg (Yk rfl rfl) ?_
  refine Yg (Yk rfl rfl) ?_
  refine Yg (Uq rfl rfl) ?_
  refine Yg (ti_jn rfl rfl) ?_
  refine Zbg (l := l) c hI e rfl hr rfl rfl hr rfl fun y3 y4 y5 y6 y7 y8 y9 y10 => ?_
  refine Xx ?_
  exact jmp _ l rfl _ _ _ _ _ _ _ _
 | jun s l u =>
  refine V3 c e rfl rfl ?_
  refine Yg (Yk rfl rfl) ?_
  refine Yg (Yk rfl rfl) ?_
  refine Yg (Yk rfl rfl) ?_
  refine Yg (Yk rfl rfl) ?_
  refine Yg (Yk rfl rfl) ?_
  refine Yg (Uq rfl rfl) ?_
  refine Yg (ti_jn rfl rfl) ?_
  refine Zbg (l := l) c hI e rfl hr rfl rfl hr rfl fun y3 y4 y5 y6 y7 y8 y9 y10 => ?_
  refine Xx ?_
  exact jmp _ l rfl _ _ _ _ _ _ _ _
 | cmpj s l t op coll f g u =>
  refine V3 c e rfl rfl ?_
  refine Yg (Yk rfl rfl) ?_
  refine Yg (Yk rfl rfl) ?_
  refine Yg (Yk rfl rfl) ?_
  refine Yg (Yk rfl rfl) ?_
  refine Yg (Yk rfl rfl) ?_
  refine Yg (Uq rfl rfl) ?_
  refine Yg (ti_jn rfl rfl) ?_
  refine Zbg (l := l) c hI e rfl hr rfl rfl hr rfl fun y3 y4 y5 y6 y7 y8 y9 y10 => ?_
  refine Xx ?_
  exact jmp _ l rfl _ _ _ _ _ _ _ _
 | halt => exact hr.elim
theorem Path.le {pc pc' : Nat} {h h' : H} (p : Path code lb pc h pc' h') : pc ≤ pc' := by
 induction p with
 | nil => exact Nat.le_refl _
 | cons _ _ lt _ ih => lia
theorem run_loop {pc pc' : Nat} {h h' : H} (p : Path code lb pc h pc' h') : ∀ (ds : List D) (σ : Sto) (m : Nat) (x3 x4 x5 x6 x7 x8 x9 x10 : Option D), CodI o hd code lb σ → RegI hd m h σ → code.length < ds.length + pc → m + ds.length ≤ 90000 →
  (code.length ≤ pc' ∨ code[pc']? = some .halt) → pc' ≤ code.length → (∀ m σ', RegI hd m h' σ' → (∀ x, x ≠ hd → σ' x = σ x) → R (.bool true) σ') → sLoop (aName 3) W_rb (fun _ => True) (Cn (n + 4)) N R ds (rL o hd (pc : Int) x3 x4 x5 x6 x7 x8 x9 x10) σ := by
 induction p with
 | nil =>
  intro ds σ m x3 x4 x5 x6 x7 x8 x9 x10 c hI hd1 hm he hp k
  cases ds with
  | nil => simp at hd1; lia
  | cons d ds =>
   rw [Zcu]
   refine ⟨trivial, ?_⟩
   rw [Xv]
   have := c.len
   exact run_end (x3 := some d) c he (k m σ hI fun _ _ => rfl) (by lia)
 | cons a b lt p ih =>
  intro ds σ m x3 x4 x5 x6 x7 x8 x9 x10 c hI hd1 hm he hp k
  have := p.le
  cases ds with
  | nil => simp at hd1; lia
  | cons d ds =>
   simp only [List.length_cons] at hd1 hm
   rw [Zcu]
   refine ⟨trivial, ?_⟩
   rw [Xv]
   refine run_step (x3 := some d) c hI (by lia) a b fun σ' y3 y4 y5 y6 y7 y8 y9 y10 g' b' => ?_
   exact ih ds σ' (m + 1) y3 y4 y5 y6 y7 y8 y9 y10 (c.move b') g' (by lia) (by lia) he hp fun m2 σ2 g2 b2 => k m2 σ2 g2 fun x hx => (b2 x hx).trans (b' x hx)
theorem en_852 {a b : D} {Q : D → Sto → Prop} : Cn (n + 1) 852 [a, b] σ Q = W_852 (Cn n) [some a, some b, none, none, none, none, none, none, none, none, none] σ (fun _ σ' => Q .none σ') Q (fun _ _ => False) := Z1 (F := F_852) (full := [a, b]) rfl rfl
theorem law_run {pc' : Nat} {h h' : H} {m : Nat} {Q : D → Sto → Prop} (c : CodI o hd code lb σ) (hI : RegI hd m h σ) (hm : m ≤ 50000) (hl : code.length < 2000) (p : Path code lb 0 h pc' h') (he : code.length ≤ pc' ∨ code[pc']? = some .halt) (hp : pc' ≤ code.length) (k : ∀ m σ', RegI hd m h' σ' → (∀ x, x ≠ hd → σ' x = σ x) → Q (.bool true) σ') : Cn (n + 5) 852 [.mlst o, .mdic hd] σ Q := by
 refine en_852.mpr ?_
 refine Yo Yw ?_
 rw [W_852_1, Y0, e_Range]
 exact run_loop (pc := 0) p _ σ m none none none none none none none none c hI (by simp; lia) (by simp; lia) he hp k
end
noncomputable def lbOf (labs : List (Int × Nat)) (l : Int) : Nat := (lk labs l).getD 0
noncomputable def jl : List (Str × D) := match Ko with | .dics l => l | _ => []
theorem jl_eq : Ko = .dics jl := rfl
theorem jl_1 : (slook jl "Goto").isSome = true := by decide +kernel
theorem jl_2 : (slook jl "IsNull").isSome = true := by decide +kernel
theorem jl_3 : (slook jl "NotNull").isSome = true := by decide +kernel
theorem jl_4 : (slook jl "If").isSome = true := by decide +kernel
theorem jl_5 : (slook jl "IfNot").isSome = true := by decide +kernel
theorem jl_6 : (slook jl "CompareJump").isSome = true := by decide +kernel
theorem jl_7 : (slook jl "Value").isSome = false := by decide +kernel
theorem jl_8 : (slook jl "Null").isSome = false := by decide +kernel
theorem jl_9 : (slook jl "Copy").isSome = false := by decide +kernel
theorem jl_10 : (slook jl "Unary").isSome = false := by decide +kernel
theorem jl_11 : (slook jl "Compare").isSome = false := by decide +kernel
theorem jl_12 : (slook jl "Logic").isSome = false := by decide +kernel
theorem jl_13 : (slook jl "Arith").isSome = false := by decide +kernel
theorem jl_14 : (slook jl "Halt").isSome = false := by decide +kernel
theorem jl_name (i : Ins) : (slook jl (Str.ofString (nameOf i))).isSome = (labOf i).isSome := by
 cases i <;> first | exact jl_1 | exact jl_2 | exact jl_3 | exact jl_4 | exact jl_5 | exact jl_6 | exact jl_7 | exact jl_8 | exact jl_9 | exact jl_10 | exact jl_11 | exact jl_12 | exact jl_13 | exact jl_14
theorem res_none {lb : Int → Nat} {i : Ins} (h : labOf i = none) : res lb i = i := by unfold res; rw [h]
theorem res_some {lb : Int → Nat} {i : Ins} {l : Int} (h : labOf i = some l) : ∃ x0 x1 x3 x4, insD i = [x0, x1, .int l, x3, x4] ∧ insD (res lb i) = [x0, x1, .int (lb l), x3, x4] := by
 cases i <;> first | (cases h; done) | (cases h; exact ⟨_, _, _, _, rfl, rfl⟩)
section
variable {n : Nat} {A : PA} {Z : Sto} {ps : PSt} {C : Ora} {ρ : Loc} {σ : Sto} {N Kk : Loc → Sto → Prop} {R : D → Sto → Prop} {z : WS} {Q : D → Sto → Prop} {as : List WE} {ds : List D}
theorem ev_p {name : Str} {cs : List Addr} {d : D} (h : PI A Z ps σ) (h0 : nth ρ 0 = some (.inst 707 A.p)) (hc : 707 ∈ cs) (hs : slook (pAt A ps.regs ps.nl) name = some d) : Ev (wAttr cs name (wV 0)) C ρ σ d := fun Q q => by
 rw [Zbt, Zhq, h0]
 refine ⟨hc, ?_⟩
 rw [h.p]
 dsimp only
 rw [hs]
 exact q
theorem m_p {f : Addr} {name : Str} (h : PI A Z ps σ) (h0 : nth ρ 0 = some (.inst 707 A.p)) (hs : ∀ r l, slook (pAt A r l) name = none) (ha : EvL as C ρ σ ds) (k : C f (.inst 707 A.p :: ds) σ Q) : wMeth 707 f name (wV 0) as C ρ σ Q := by
 rw [Zcz, Zhq, h0]
 refine ⟨rfl, ?_⟩
 rw [h.p]
 exact ⟨hs _ _, ha _ k⟩
theorem add_halt (h : PI A Z ps σ) (h3 : ps.sz ≤ 90000) (q : ∀ r σ', PI A Z (ps.add .halt) σ' → Q r σ') : Cn (n + 1) 639 [.inst 707 A.p, .str "Halt"] σ Q := add_ (i := .halt) rfl h h3 q
theorem ti_last (h : PI A Z ps σ) (h0 : nth ρ 0 = some (.inst 707 A.p)) (hsz : ps.sz ≤ 5000) : ∃ b, Ti (tOr (tNot (tOf oTrL (wAttr Vp "ops" (wV 0)))) (tOr (tCmp gNotIn (w2 gItem (w2 gItem (wAttr Vp "ops" (wV 0)) (wNeg (wI 1))) (wI 0)) (wTup [(wS "Halt"), (wS "Goto"), (wS "Return"), (wS "Fail")])) (tEnd (BoolOp.Or == BoolOp.And)))) C ρ σ b := by
 obtain ⟨as, h1, h2, h3, h4⟩ := h.o
 have hlen := h2.len
 by_cases hne : ps.ops = []
 ·have hnil : as = [] := by rw [hne] at hlen; simpa using hlen
  subst hnil
  refine ⟨true, fun T t => ?_⟩
  rw [e_tOr, e_tNot, Zfa]
  refine ev_p (d := .mlst A.o) h h0 (by decide) rfl _ ?_
  show (match σ A.o with | some (.list l) => l.length ≤ 100000 ∧ _ | _ => False)
  rw [h1]; exact ⟨by decide, t⟩
 have hpos : 0 < ps.ops.length := List.length_pos_iff.mpr hne
 have hbz : ps.ops.length ≤ 5000 := by unfold PSt.sz at hsz; lia
 obtain ⟨i, hi⟩ : ∃ i, ps.ops[ps.ops.length - 1]? = some i := ⟨_, List.getElem?_eq_getElem (by lia)⟩
 obtain ⟨a, ha1, ha2⟩ := Fits.get as _ _ i h2 hi
 obtain ⟨x1, x2, x3, x4, hx⟩ := ins_five i
 have evo : Ev (wAttr Vp "ops" (wV 0)) C ρ σ (.mlst A.o) := ev_p h h0 (by decide) rfl
 have e1 : idx (as.map D.mlst) (-1) = some (.mlst a) := by
  unfold idx
  rw [if_neg (by decide), if_pos (by simp; lia)]
  have : (-1 + ((as.map D.mlst).length : Int)).toNat = ps.ops.length - 1 := by simp; lia
  rw [this, List.getElem?_map, ha1]; rfl
 have evl : Ev (w2 gItem (wAttr Vp "ops" (wV 0)) (wNeg (wI 1))) C ρ σ (.mlst a) := fun Q q => by
  rw [Zhr]
  refine evo _ ?_
  rw [e_Neg, e_I]
  refine ⟨by decide, ?_⟩
  simp only [h1, e1]; exact q
 have evn : Ev (w2 gItem (w2 gItem (wAttr Vp "ops" (wV 0)) (wNeg (wI 1))) (wI 0)) C ρ σ (.str (Str.ofString (nameOf i))) := Zdt (k := 0) evl Yw (by decide) (by rw [ha2, hx]) rfl
 refine ⟨!anyEq (.str (Str.ofString (nameOf i))) [.str "Halt", .str "Goto", .str "Return", .str "Fail"], fun T t => ?_⟩
 rw [e_tOr, e_tNot, Zfa]
 refine evo _ ?_
 have e2 : (as.map D.mlst).isEmpty = false := by
  cases as with
  | nil => simp at hlen; lia
  | cons _ _ => rfl
 show (match σ A.o with | some (.list l) => l.length ≤ 100000 ∧ _ | _ => False)
 rw [h1]
 refine ⟨by rw [List.length_map]; lia, ?_⟩
 rw [e2]
 dsimp only
 rw [if_neg (by decide)]
 rw [e_tOr, Ys]
 refine evn _ ?_
 refine ⟨Nat.zero_le _, ?_⟩
 revert t
 generalize anyEq (PyData.str (Str.ofString (nameOf i))) [PyData.str (Str.ofString "Halt"), PyData.str (Str.ofString "Goto"), PyData.str (Str.ofString "Return"), PyData.str (Str.ofString "Fail")] = b
 intro t
 cases b <;> exact t
theorem fin_labs (h0 : nth ρ 0 = some (.inst 707 A.p)) (hsz : ps.sz ≤ 5000) {x : Sto} (k : ∀ ρ' m σ', nth ρ' 0 = some (.inst 707 A.p) → ρ'.length = ρ.length → PI A Z { ps with ops := ps.ops ++ List.replicate m .halt } σ' → m ≤ 1 → N ρ' σ') : ∀ (labs : List (Int × Nat)) (ρ1 : Loc), (∀ q ∈ labs, (lk ps.labs q.1).isSome = true) → PI A Z ps σ → nth ρ1 0 = some (.inst 707 A.p) → 1 < ρ1.length → ρ1.length = ρ.length →
  sLoop (aName 1) (sSeq (sIf (tCmp oEq (w2 gItem (wAttr Xi "labels" (wV 0)) (wV 1)) (wBi bLen [(wAttr Vp "ops" (wV 0))]))
 (sSeq (sExpr (wMeth 707 639 "add" (wV 0) [(wS "Halt")])) (sSeq sBrk sNil))
 sNil) sNil) (srcInv (.mdic A.l) σ) (Cn (n + 1)) N R (labs.map fun q => .int q.1) ρ1 σ := by
 intro labs
 induction labs with
 | nil =>
  intro ρ1 _ h hr0 hr1 hr2
  refine ⟨rfl, ?_⟩
  refine k ρ1 0 σ hr0 hr2 ?_ (by decide)
  have : ({ ps with ops := ps.ops ++ List.replicate 0 .halt } : PSt) = ps := by simp
  rw [this]; exact h
 | cons q labs ih =>
  intro ρ1 hq h hr0 hr1 hr2
  obtain ⟨e, hl⟩ := h.l
  obtain ⟨as, h1, h2, h3, h4⟩ := h.o
  have hlen := h2.len
  obtain ⟨v, hv⟩ := Option.isSome_iff_exists.mp (hq q (by simp))
  have hb : ps.ops.length ≤ 5000 := by unfold PSt.sz at hsz; lia
  rw [List.map_cons, Zcu]
  refine ⟨rfl, ?_⟩
  rw [Xv]
  have r0 : nth (put ρ1 1 (.int q.1)) 0 = some (.inst 707 A.p) := by
   match ρ1, hr0, hr1 with
   | a :: b :: l, h, _ => exact h
  have r1 : nth (put ρ1 1 (.int q.1)) 1 = some (.int q.1) := by
   match ρ1, hr1 with
   | a :: b :: l, _ => rfl
  have rl : (put ρ1 1 (.int q.1)).length = ρ1.length := Jn _ _ _
  have evi : Ev (w2 gItem (wAttr Xi "labels" (wV 0)) (wV 1)) (Cn (n + 1)) (put ρ1 1 (.int q.1)) σ (.int v) := fun Q qq => by
   rw [Zhr]
   refine ev_p (d := .mdic A.l) h r0 (by decide) rfl _ ?_
   refine Zn r1 _ ?_
   show (match σ A.l with | some (.dict _ l) => (match zlook l q.1 with | some d => Q d σ | none => False) | _ => False)
   rw [hl]; dsimp only; rw [Jg, hv]; exact qq
  have evn : Ev (wBi bLen [(wAttr Vp "ops" (wV 0))]) (Cn (n + 1)) (put ρ1 1 (.int q.1)) σ (.int ps.ops.length) := fun Q qq => by
   rw [Zfy]
   refine Zc (ev_p (d := .mlst A.o) h r0 (by decide) rfl) Zp _ ?_
   show (match σ A.o with | some (.list l) => l.length ≤ 100000 ∧ Q (.int l.length) σ | _ => False)
   rw [h1]; dsimp only; rw [List.length_map, hlen]; exact ⟨by lia, qq⟩
  have t : Ti (tCmp oEq (w2 gItem (wAttr Xi "labels" (wV 0)) (wV 1)) (wBi bLen [(wAttr Vp "ops" (wV 0))])) (Cn (n + 1)) (put ρ1 1 (.int q.1)) σ ((v : Int) == (ps.ops.length : Int)) := fun T tt => by
   rw [Ys]
   refine evi _ (evn _ ?_)
   exact ⟨Nat.zero_le _, Nat.zero_le _, tt⟩
  refine Zgh t (fun _ => ?_) (fun _ => ?_)
  ·rw [Y0, e_Expr]
   refine m_p h r0 (fun _ _ => rfl) (Zc Y3 Zp) (add_halt h (by lia) fun r' σ' h' => ?_)
   rw [Y0, e_Brk]
   exact k _ 1 σ' r0 (rl.trans hr2) h' (by decide)
  ·simp only [Jj]
   exact ih _ (fun q' hq' => hq q' (by simp [hq'])) h r0 (by rw [rl]; exact hr1) (rl.trans hr2)
noncomputable def W_fb : WS := (sSeq (sIf (tAnd (tCmp gIn (w2 gItem (wV 2) (wI 0)) (wGlob Ko)) (tAnd (tCmp oLt (w2 gItem (wV 2) (wI 2)) (wI 0)) (tEnd (BoolOp.And == BoolOp.And))))
 (sSeq (sIf (tCmp gNotIn (w2 gItem (wV 2) (wI 2)) (wAttr Xi "labels" (wV 0)))
 (sSeq sNo sNil)
 sNil) (sSeq (sAsg (w2 gItem (wAttr Xi "labels" (wV 0)) (w2 gItem (wV 2) (wI 2))) (aSub (wV 2) (wI 2))) sNil))
 sNil) sNil)
structure FinI (A : PA) (Z : Sto) (regs nl : Int) (labs : List (Int × Nat)) (l0 : List D) (σ : Sto) : Prop where
 p : σ A.p = some (.attrs (pAt A regs nl))
 l : ∃ e, σ A.l = some (.dict e (labD labs))
 o : σ A.o = some (.list l0)
 z : ∀ x m, Z x = some m → σ x = some m
theorem ti_lt0 {e : WE} {x : Int} (h1 : Ev e C ρ σ (.int x)) : Ti (tCmp oLt e (wI 0)) C ρ σ (decide (x < 0)) := fun T t => by
 rw [Ys]; exact h1 _ t
theorem ev_f {regs nl : Int} {labs : List (Int × Nat)} {l0 : List D} {name : Str} {cs : List Addr} {d : D} (h : FinI A Z regs nl labs l0 σ) (h0 : nth ρ 0 = some (.inst 707 A.p)) (hc : 707 ∈ cs) (hs : slook (pAt A regs nl) name = some d) : Ev (wAttr cs name (wV 0)) C ρ σ d := fun Q q => by
 rw [Zbt, Zhq, h0]
 refine ⟨hc, ?_⟩
 rw [h.p]
 dsimp only
 rw [hs]
 exact q
theorem fin_ops {regs nl : Int} {labs : List (Int × Nat)} {l0 : List D} {σ0 : Sto} (hz : Z A.p = none ∧ Z A.l = none ∧ Z A.o = none) (h0 : σ0 A.o = some (.list l0)) :
  ∀ (as2 : List Addr) (is2 : List Ins) (as1 : List Addr) (is1 : List Ins) (ρ1 : Loc) (σ : Sto), FinI A Z regs nl labs l0 σ → Fits σ as1 (is1.map (res (lbOf labs))) → Fits σ as2 is2 → (as1 ++ as2).Nodup → (∀ a ∈ as1 ++ as2, Z a = none ∧ a ≠ A.p ∧ a ≠ A.l ∧ a ≠ A.o) → (∀ i ∈ is2, JOk labs [] i) → nth ρ1 0 = some (.inst 707 A.p) → ρ1.length = 3 →
  (∀ ρ' σ', nth ρ' 0 = some (.inst 707 A.p) → FinI A Z regs nl labs l0 σ' → Fits σ' (as1 ++ as2) ((is1 ++ is2).map (res (lbOf labs))) → N ρ' σ') →
  sLoop (aName 2) W_fb (srcInv (.mlst A.o) σ0) (Cn n) N R (as2.map .mlst) ρ1 σ := by
 intro as2
 induction as2 with
 | nil =>
  intro is2 as1 is1 ρ1 σ hF f1 f2 nd ne hj r0 rl k
  cases is2 with
  | cons _ _ => exact f2.elim
  | nil =>
   refine ⟨hF.o.trans h0.symm, ?_⟩
   refine k ρ1 σ r0 hF ?_
   simpa using f1
 | cons a as2 ih =>
  intro is2 as1 is1 ρ1 σ hF f1 f2 nd ne hj r0 rl k
  cases is2 with
  | nil => exact f2.elim
  | cons i is2 =>
   rw [List.map_cons, Zcu]
   refine ⟨hF.o.trans h0.symm, ?_⟩
   rw [Xv]
   have q0 : nth (put ρ1 2 (.mlst a)) 0 = some (.inst 707 A.p) := by
    match ρ1, r0, rl with
    | x :: y :: w :: l, h, _ => exact h
   have q2 : nth (put ρ1 2 (.mlst a)) 2 = some (.mlst a) := by
    match ρ1, rl with
    | x :: y :: w :: l, _ => rfl
   have ql : (put ρ1 2 (.mlst a)).length = 3 := (Jn _ _ _).trans rl
   have hn := ne a (by simp)
   obtain ⟨x1, x2, x3, x4, hx⟩ := ins_five i
   have hs := f2.1
   have evn : Ev (w2 gItem (wV 2) (wI 0)) (Cn n) (put ρ1 2 (.mlst a)) σ (.str (Str.ofString (nameOf i))) := Zdt (k := 0) (Zn q2) Yw (by decide) hs (by rw [hx]; rfl)
   have t1 : Ti (tCmp gIn (w2 gItem (wV 2) (wI 0)) (wGlob Ko)) (Cn n) (put ρ1 2 (.mlst a)) σ (labOf i).isSome := fun T t => by
    rw [Ys]
    refine evn _ ?_
    rw [e_glob, jl_eq, ← jl_name] at *
    exact t
   have go : ∀ σ', FinI A Z regs nl labs l0 σ' → σ' a = some (.list (insD (res (lbOf labs) i))) → (∀ x, x ≠ a → σ' x = σ x) → sLoop (aName 2) W_fb (srcInv (.mlst A.o) σ0) (Cn n) N R (as2.map .mlst) (put ρ1 2 (.mlst a)) σ' := fun σ' hF' ha hk => by
    have nd' : ∀ b ∈ as1 ++ as2, b ≠ a := fun b hb e => by
     subst e
     rw [List.nodup_append] at nd
     rcases List.mem_append.mp hb with hb | hb
     ·exact nd.2.2 b hb b (by simp) rfl
     ·have := nd.2.1
      rw [List.nodup_cons] at this
      exact this.1 hb
    refine ih is2 (as1 ++ [a]) (is1 ++ [i]) _ σ' hF' ?_ (f2.2.mono fun b hb => hk b (nd' b (by simp [hb]))) (by simpa using nd) (by simpa using ne) (fun j hj' => hj j (by simp [hj'])) q0 ql fun ρ' σ2 p0 hF2 ff => k ρ' σ2 p0 hF2 (by simpa using ff)
    rw [List.map_append]
    exact Fits.snoc ha (f1.mono fun b hb => hk b (nd' b (by simp [hb])))
   cases hl : labOf i with
   | none =>
    rw [hl] at t1
    refine Y4 (Z3 t1) ?_
    refine Xx ?_
    exact go σ hF (by rw [res_none hl]; exact hs) fun _ _ => rfl
   | some l =>
    rw [hl] at t1
    obtain ⟨y0, y1, y3, y4, h5, h6⟩ := res_some (lb := lbOf labs) hl
    obtain ⟨hl0, hlk⟩ := hj i (by simp) l hl
    have hlk' : (lk labs l).isSome = true := hlk.resolve_right (by simp)
    obtain ⟨v, hv⟩ := Option.isSome_iff_exists.mp hlk'
    have elb : lbOf labs l = v := by unfold lbOf; rw [hv]; rfl
    rw [elb] at h6
    obtain ⟨e, hL⟩ := hF.l
    have ev2 : Ev (w2 gItem (wV 2) (wI 2)) (Cn n) (put ρ1 2 (.mlst a)) σ (.int l) := Zdt (k := 2) (Zn q2) Yw (by decide) hs (by rw [h5]; rfl)
    have t2 := ti_lt0 ev2
    rw [decide_eq_true hl0] at t2
    refine Vf (Xh t1 t2) ?_
    have evl : Ev (wAttr Xi "labels" (wV 0)) (Cn n) (put ρ1 2 (.mlst a)) σ (.mdic A.l) := ev_f hF q0 (by decide) rfl
    have t3 : Ti (tCmp gNotIn (w2 gItem (wV 2) (wI 2)) (wAttr Xi "labels" (wV 0))) (Cn n) (put ρ1 2 (.mlst a)) σ false := fun T t => by
     rw [Ys]
     refine ev2 _ (evl _ ?_)
     show (match σ A.l with | some (.dict _ m) => T (!(zlook m l).isSome) σ | _ => False)
     rw [hL]; dsimp only; rw [Jg, hv]; exact t
    refine Y4 t3 ?_
    rw [Y0, V1, Zhr]
    refine evl _ (ev2 _ ?_)
    show (match σ A.l with | some (.dict _ m) => (match zlook m l with | some d => _ | none => False) | _ => False)
    rw [hL]; dsimp only; rw [Jg, hv]
    dsimp only [Option.map]
    rw [Zfd, Zhq, q2]
    dsimp only
    rw [e_I]
    simp only [hs]
    refine ⟨⟨by decide, by rw [h5]; simp, by rw [h5]; simp⟩, ?_⟩
    have e7 : (insD i).set (Int.toNat 2) (.int v) = insD (res (lbOf labs) i) := by rw [h5, h6]; rfl
    rw [e7]
    refine Xx ?_
    refine go _ ⟨(Z4 _ _ hn.2.1.symm).trans hF.p, ⟨e, (Z4 _ _ hn.2.2.1.symm).trans hL⟩, (Z4 _ _ hn.2.2.2.symm).trans hF.o, fun x m hx => (Z4 _ _ (Zgt hx hn.1)).trans (hF.z x m hx)⟩ (Z2 _ _ _) fun x hx => Z4 _ _ hx
theorem en_704 {a : D} : Cn (n + 1) 704 [a] σ Q = W_704 (Cn n) [some a, none, none] σ (fun _ σ' => Q .none σ') Q (fun _ _ => False) := Z1 (F := F_704) (full := [a]) rfl rfl
theorem lk_mem : ∀ {labs : List (Int × Nat)} {q : Int × Nat}, q ∈ labs → (lk labs q.1).isSome = true := by
 intro labs
 induction labs with
 | nil => intro q h; cases h
 | cons f l ih =>
  intro q h
  simp only [lk]
  split
  ·rfl
  ·rcases List.mem_cons.mp h with e | h
   ·subst e; rename_i hn; exact absurd rfl hn
   ·exact ih h
theorem JOk.halt {labs : List (Int × Nat)} {L : List Int} : JOk labs L .halt := fun l e => by cases e
theorem finish {hd : Addr} {md : MObj} (h : PI A Z ps σ) (hsz : ps.sz + 2 ≤ 5000) (hj : ∀ i ∈ ps.ops, JOk ps.labs [] i) (hh : Z hd = some md)
  (k : ∀ m σ', m ≤ 2 → σ' A.p = some (.attrs (pAt A ps.regs ps.nl)) → CodI A.o hd (ps.ops ++ List.replicate m .halt) (lbOf ps.labs) σ' → (∀ x m, Z x = some m → σ' x = some m) → Q (.inst 707 A.p) σ') : Cn (n + 2) 704 [.inst 707 A.p] σ Q := by
 refine en_704.mpr ?_
 obtain ⟨b, tb⟩ := ti_last (C := Cn (n + 1)) (ρ := [some (.inst 707 A.p), none, none]) h rfl (by lia)
 have rest : ∀ (m1 : Nat) (σ1 : Sto) (ρ1 : Loc), m1 ≤ 1 → nth ρ1 0 = some (.inst 707 A.p) → ρ1.length = 3 → PI A Z { ps with ops := ps.ops ++ List.replicate m1 .halt } σ1 → Zd0 (Cn (n + 1)) ρ1 σ1 (fun _ σ' => Q .none σ') Q (fun _ _ => False) := by
  intro m1 σ1 ρ1 hm1 r0 rl h1
  have hs1 : ({ ps with ops := ps.ops ++ List.replicate m1 .halt } : PSt).sz ≤ 5000 := by unfold PSt.sz at hsz ⊢; simp; lia
  obtain ⟨e1, hl1⟩ := h1.l
  rw [Zd0, Y0, e_For]
  refine ev_p (d := .mdic A.l) h1 r0 (by decide) rfl _ ?_
  simp only [srcOf, hl1]
  have emap : (labD ps.labs).map (fun p => D.int p.1) = ps.labs.map fun q => .int q.1 := by simp [labD]
  rw [emap]
  refine fin_labs (ps := { ps with ops := ps.ops ++ List.replicate m1 .halt }) (ρ := ρ1) (x := σ1) r0 hs1 (fun ρ2 m2 σ2 p0 pl h2 hm2 => ?_) ps.labs ρ1 (fun q hq => lk_mem hq) h1 r0 (by lia) rfl
  obtain ⟨as, h3, h4, h5, h6⟩ := h2.o
  rw [W_704_2, Y0, e_For]
  refine ev_p (d := .mlst A.o) h2 p0 (by decide) rfl _ ?_
  simp only [srcOf, h3]
  have eops : ps.ops ++ List.replicate m1 .halt ++ List.replicate m2 .halt = ps.ops ++ List.replicate (m1 + m2) .halt := by
   rw [List.append_assoc, List.replicate_append_replicate]
  refine fin_ops (regs := ps.regs) (nl := ps.nl) (labs := ps.labs) (l0 := as.map .mlst) ⟨h2.zp, h2.zl, h2.zo⟩ h3 as _ [] [] ρ2 σ2 ⟨h2.p, h2.l, h3, h2.z⟩ trivial h4 (by simpa using h5) (by simpa using h6) (fun i hi => ?_) p0 (pl.trans rl) fun ρ3 σ3 u0 hF ff => ?_
  ·dsimp only at hi
   rw [eops] at hi
   rcases List.mem_append.mp hi with hi | hi
   ·exact hj i hi
   ·rw [(List.mem_replicate.mp hi).2]; exact JOk.halt
  ·refine Yj (Zn u0) (k (m1 + m2) σ3 (by lia) hF.p ⟨⟨as, hF.o, ?_, fun a ha => Ne.symm (Zgt hh (h6 a ha).1)⟩, (Zgt hh h2.zo).symm, ?_⟩ hF.z)
   ·rw [← eops]; simpa using ff
   ·unfold PSt.sz at hsz; simp; lia
 refine Zgh tb (fun _ => ?_) (fun _ => ?_)
 ·rw [Y0, e_Expr]
  refine m_p h rfl (fun _ _ => rfl) (Zc Y3 Zp) (add_halt h (by lia) fun r' σ' h' => ?_)
  refine Xx ?_
  exact rest 1 σ' _ (by decide) rfl rfl h'
 ·simp only [Jj]
  refine rest 0 σ _ (by decide) rfl rfl ?_
  have : ({ ps with ops := ps.ops ++ List.replicate 0 .halt } : PSt) = ps := by simp
  rw [this]; exact h
end
theorem PI.rename {A : PA} {Z : Sto} {ps : PSt} {σ : Sto} (h : PI A Z ps σ) (k b : Addr) : PI { A with k := k, b := b } Z ps σ := ⟨h.p, h.l, h.o, h.z, h.zp, h.zl, h.zo, h.pl, h.po, h.lo⟩
theorem PI.out {A : PA} {Z : Sto} {ps : PSt} {σ : Sto} (h : PI A Z ps σ) {x : Addr} (m : MObj) (hx : σ x = none ∨ ∃ m', Z x = some m') : PI A (up Z x (some m)) ps (up σ x (some m)) := by
 obtain ⟨e, hl⟩ := h.l
 obtain ⟨as, h1, h2, h3, h4⟩ := h.o
 have key : ∀ a m', σ a = some m' → Z a = none → a ≠ x := fun a m' ha hz e => by
  rw [e] at ha hz
  rcases hx with hx | ⟨m', hx⟩
  ·rw [ha] at hx; cases hx
  ·rw [hz] at hx; cases hx
 have kp := key _ _ h.p h.zp
 have kl := key _ _ hl h.zl
 have ko := key _ _ h1 h.zo
 have ka : ∀ a ∈ as, a ≠ x := fun a ha => by
  obtain ⟨j, hj⟩ := List.getElem?_of_mem ha
  have hjl := (List.getElem?_eq_some_iff.mp hj).1
  obtain ⟨b, hb, hs⟩ := Fits.get _ _ j _ h2 (List.getElem?_eq_getElem (by have := h2.len; lia))
  rw [hj] at hb; cases hb
  exact key _ _ hs (h4 a ha).1
 refine ⟨(Z4 _ _ kp).trans h.p, ⟨e, (Z4 _ _ kl).trans hl⟩, ⟨as, (Z4 _ _ ko).trans h1, h2.mono fun a ha => Z4 _ _ (ka a ha), h3, fun a ha => ⟨(Z4 _ _ (ka a ha)).trans (h4 a ha).1, (h4 a ha).2⟩⟩, fun y m' hy => ?_, (Z4 _ _ kp).trans h.zp, (Z4 _ _ kl).trans h.zl, (Z4 _ _ ko).trans h.zo, h.pl, h.po, h.lo⟩
 by_cases e : y = x
 ·subst e; rw [Z2] at hy ⊢; exact hy
 ·rw [Z4 _ _ e] at hy ⊢; exact h.z y m' hy
section
variable {n : Nat} {σ : Sto} {C : Ora} {ρ : Loc} {N Kk : Loc → Sto → Prop} {R : D → Sto → Prop} {z : WS} {Q : D → Sto → Prop} {P : Addr} {cl : Addr} {fs : List (Str × D)} {name : Str}
theorem s_at {e : WE} {d : D} (he : Ev e C ρ σ d) (h0 : nth ρ 0 = some (.inst cl P)) (hp : σ P = some (.attrs fs)) (hl : fs.length ≤ 900) (k : z C ρ (up σ P (some (.attrs (setF name d fs)))) N R Kk) : sSeq (sAsg e (aAttr cl name (wV 0))) z C ρ σ N R Kk := by
 rw [Y0, V1]
 refine he _ ?_
 rw [Za1, Zhq, h0]
 refine ⟨rfl, ?_⟩
 rw [hp]; exact ⟨hl, k⟩
theorem s_atL (h0 : nth ρ 0 = some (.inst cl P)) (hp : σ P = some (.attrs fs)) (hl : fs.length ≤ 900) (k : ∀ a, σ a = none → z C ρ (up (up σ a (some (.list []))) P (some (.attrs (setF name (.mlst a) fs)))) N R Kk) : sSeq (sAsg (wLstM []) (aAttr cl name (wV 0))) z C ρ σ N R Kk := by
 rw [Y0, V1, e_LstM, e_L0]
 intro a ha
 have ne : P ≠ a := fun e => by rw [← e, hp] at ha; cases ha
 rw [Za1, Zhq, h0]
 refine ⟨rfl, ?_⟩
 rw [Z4 _ _ ne, hp]
 exact ⟨hl, k a ha⟩
theorem s_atD (h0 : nth ρ 0 = some (.inst cl P)) (hp : σ P = some (.attrs fs)) (hl : fs.length ≤ 900) (k : ∀ a e, σ a = none → z C ρ (up (up σ a (some (.dict e []))) P (some (.attrs (setF name (.mdic a) fs)))) N R Kk) : sSeq (sAsg wDic0 (aAttr cl name (wV 0))) z C ρ σ N R Kk := by
 rw [Y0, V1, e_Dic0]
 intro a e ha
 have ne : P ≠ a := fun e => by rw [← e, hp] at ha; cases ha
 rw [Za1, Zhq, h0]
 refine ⟨rfl, ?_⟩
 rw [Z4 _ _ ne, hp]
 exact ⟨hl, k a e ha⟩
theorem en_631 {a : D} : Cn (n + 1) 631 [a] σ Q = W_631 (Cn n) [some a] σ (fun _ σ' => Q .none σ') Q (fun _ _ => False) := Z1 (F := F_631) (full := [a]) rfl rfl
theorem en_500 {a b : D} : Cn (n + 1) 500 [a, b] σ Q = W_500 (Cn n) [some a, some b] σ (fun _ σ' => Q .none σ') Q (fun _ _ => False) := Z1 (F := F_500) (full := [a, b]) rfl rfl
theorem en_859 {a b : D} : Cn (n + 1) 859 [a, b] σ Q = W_859 (Cn n) [some a, some b, none, none, none] σ (fun _ σ' => Q .none σ') Q (fun _ _ => False) := Z1 (F := F_859) (full := [a, b]) rfl rfl
noncomputable def ps0 : PSt := ⟨[], 1, [], -1⟩
theorem Ze7 (hP : σ P = none) (k : ∀ A σ', A.p = P → PI A σ ps0 σ' → Q .none σ') : Cn (n + 1) 631 [.inst 707 P] (up σ P (some (.attrs []))) Q := by
 refine en_631.mpr ?_
 refine s_atL rfl (Z2 _ _ _) (by decide) fun o ho => ?_
 have oP : o ≠ P := fun e => by rw [e, Z2] at ho; cases ho
 rw [Z4 _ _ oP] at ho
 refine s_atL rfl (Z2 _ _ _) (Nat.le_of_ble_eq_true rfl) fun c hc => ?_
 have cP : c ≠ P := fun e => by rw [e, Z2] at hc; cases hc
 have co : c ≠ o := fun e => by rw [e, Z4 _ _ oP, Z2] at hc; cases hc
 rw [Z4 _ _ cP, Z4 _ _ co, Z4 _ _ cP] at hc
 refine s_at Yw rfl (Z2 _ _ _) (Nat.le_of_ble_eq_true rfl) ?_
 refine s_at Yw rfl (Z2 _ _ _) (Nat.le_of_ble_eq_true rfl) ?_
 refine s_at Yw rfl (Z2 _ _ _) (Nat.le_of_ble_eq_true rfl) ?_
 refine s_at ev_B rfl (Z2 _ _ _) (Nat.le_of_ble_eq_true rfl) ?_
 refine s_atD rfl (Z2 _ _ _) (Nat.le_of_ble_eq_true rfl) fun l e hl => ?_
 have lP : l ≠ P := fun e => by rw [e, Z2] at hl; cases hl
 simp only [up_up] at hl
 rw [Z4 _ _ lP] at hl
 have lc : l ≠ c := fun e => by rw [e, Z2] at hl; cases hl
 rw [Z4 _ _ lc, Z4 _ _ lP] at hl
 have lo : l ≠ o := fun e => by rw [e, Z2] at hl; cases hl
 rw [Z4 _ _ lo, Z4 _ _ lP] at hl
 have evm : ∀ σ, Ev (wNeg (wI 1)) (Cn n) [some (.inst 707 P)] σ (.int (-1)) := fun σ Q q => q
 refine s_at (evm _) rfl (Z2 _ _ _) (Nat.le_of_ble_eq_true rfl) ?_
 simp only [Jj, up_up]
 refine k ⟨0, P, o, c, l, 0⟩ _ rfl ⟨?_, ⟨e, ?_⟩, ⟨[], ?_, trivial, List.nodup_nil, fun a ha => nomatch ha⟩, fun x m hx => ?_, hP, hl, ho, lP.symm, oP.symm, lo⟩
 ·rw [Z2]; rfl
 ·dsimp only
  rw [Z4 _ _ lP, Z2]; rfl
 ·dsimp only
  rw [Z4 _ _ oP, Z4 _ _ lo.symm, Z4 _ _ oP, Z4 _ _ co.symm, Z4 _ _ oP, Z2]; rfl
 ·have xP : x ≠ P := Zgt hx hP
  have xo : x ≠ o := Zgt hx ho
  have xc : x ≠ c := Zgt hx hc
  have xl : x ≠ l := Zgt hx hl
  rw [Z4 _ _ xP, Z4 _ _ xl, Z4 _ _ xP, Z4 _ _ xc, Z4 _ _ xP, Z4 _ _ xo, Z4 _ _ xP]
  exact hx
theorem Zgi {p : D} (hK : σ P = none) (k : ∀ b e, σ b = none → b ≠ P → Q .none (up (up σ b (some (.dict e []))) P (some (.attrs [("program", p), ("bindings", .mdic b)])))) : Cn (n + 1) 500 [.inst 611 P, p] (up σ P (some (.attrs []))) Q := by
 refine en_500.mpr ?_
 refine s_at (Zn rfl) rfl (Z2 _ _ _) (by decide) ?_
 refine s_atD rfl (Z2 _ _ _) (Nat.le_of_ble_eq_true rfl) fun b e hb => ?_
 have bP : b ≠ P := fun e => by rw [e, Z2] at hb; cases hb
 simp only [up_up] at hb
 rw [Z4 _ _ bP] at hb
 have := k b e hb bP
 have e1 : up (up (up σ P (some (.attrs (setF "program" p [])))) b (some (.dict e []))) P (some (.attrs (setF "bindings" (.mdic b) (setF "program" p [])))) = up (up σ b (some (.dict e []))) P (some (.attrs [("program", p), ("bindings", .mdic b)])) := by
  funext x
  by_cases xP : x = P
  ·rw [xP, Z2, Z2]; rfl
  ·rw [Z4 _ _ xP, Z4 _ _ xP]
   by_cases xb : x = b
   ·rw [xb, Z2, Z2]
   ·rw [Z4 _ _ xb, Z4 _ _ xb, Z4 _ _ xP]
 simp only [Jj, up_up]
 rw [e1]
 exact this
end
noncomputable def ps1 : PSt := ⟨[], 5, [], -1⟩
theorem ps1_wf : WfP ps1 := ⟨by decide, by decide, fun k v h => by cases h⟩
section
variable {n : Nat} {σ : Sto} {Q : D → Sto → Prop}
theorem s_sub {C : Ora} {ρ : Loc} {N Kk : Loc → Sto → Prop} {R : D → Sto → Prop} {z : WS} {e : WE} {d : D} {b : Addr} {ep : Nat} {l : List (Int × D)} (he : Ev e C ρ σ d) {f : WE} (hf : Ev f C ρ σ (.mdic b)) (hb : σ b = some (.dict ep l)) (hl : l.length ≤ 1000) (k : ∀ ep, z C ρ (up σ b (some (.dict ep (zput l 4 d)))) N R Kk) : sSeq (sAsg e (aSub f (wI 4))) z C ρ σ N R Kk := by
 rw [Y0, V1]
 refine he _ ?_
 rw [Zfd]
 refine hf _ ?_
 rw [e_I]
 simp only [hb]
 exact ⟨by lia, k⟩
theorem Ze8 {a b c d : D} {is_map : Bool} (k : ∀ A Z hd σ', PI A Z ps1 σ' → CI A Z → (∃ e, Z hd = some (.dict e [(1, d), (2, a), (3, b), (4, c)])) → (∀ x m, σ x = some m → Z x = some m) → Q (.lst [.inst 611 A.k, .mdic hd]) σ') : Cn (n + 2) 859 [rowD a b c d, .bool is_map] σ Q := by
 rw [en_859, W_859, Y0, V1, e_New, e_L0]
 intro P hP
 refine Ze7 hP fun A σ1 hA h1 => ?_
 subst hA
 dsimp only
 rw [Xv]
 rw [W_859_1, Y0, V1, Zcz]
 refine (Zn rfl : Ev (wV 2) (Cn (n + 1)) _ σ1 (.inst 707 A.p)) _ ?_
 refine ⟨rfl, ?_⟩
 rw [h1.p]
 refine ⟨by simp [pAt, slook], ?_⟩
 refine Zc Yw Zp _ ?_
 refine register h1 fun σ2 h2 => ?_
 rw [Xv]
 rw [W_859_2, Y0, V1, e_New]
 refine Zc (Zn rfl) Zp _ ?_
 intro K hK
 refine Zgi hK fun b' e hb hbK => ?_
 dsimp only
 rw [Xv]
 have hb0 : σ b' = none := by
  cases q : σ b' with
  | none => rfl
  | some m => rw [h2.z _ _ q] at hb; cases hb
 have hK0 : σ K = none := by
  cases q : σ K with
  | none => rfl
  | some m => rw [h2.z _ _ q] at hK; cases hK
 have hK2 : up σ2 b' (some (.dict e [])) K = none := (Z4 _ _ (Ne.symm hbK)).trans hK
 have h3 := (h2.out (.dict e []) (.inl hb)).out (x := K) (.attrs [("program", .inst 707 A.p), ("bindings", .mdic b')]) (.inl hK2)
 have evb : ∀ (ρ : Loc) (σ : Sto), nth ρ 4 = some (.inst 611 K) → σ K = some (.attrs [("program", .inst 707 A.p), ("bindings", .mdic b')]) → Ev (wAttr Ve "bindings" (wV 4)) (Cn (n + 1)) ρ σ (.mdic b') := fun ρ σ q0 q1 Q q => by
  rw [Zbt, Zhq, q0]
  refine ⟨by decide, ?_⟩
  rw [q1]
  dsimp only
  exact q
 have tail : ∀ (d4 : D) (e4 : Nat) (σ4 : Sto) (ρ : Loc), nth ρ 0 = some (rowD a b c d) → nth ρ 3 = some (.int 1) → nth ρ 4 = some (.inst 611 K) → (d4 = .tup [.str "registers", .int 2] ∨ d4 = .tup [.str "map", .dici [(-1, .int 1), (0, .int 2), (1, .int 3), (2, .int 4)]]) →
   PI A (up (up (up σ b' (some (.dict e []))) K (some (.attrs [("program", .inst 707 A.p), ("bindings", .mdic b')]))) b' (some (.dict e4 [(4, d4)]))) ps1 σ4 → Zd2 (Cn (n + 1)) ρ σ4 (fun _ σ' => Q .none σ') Q (fun _ _ => False) := by
  intro d4 e4 σ4 ρ q0 q3 q4 hd4 h4
  rw [Zd2, Y0, Zfe, e_Lst, Zc5]
  refine Zn q4 _ ?_
  rw [Zc5, e_DicM]
  have evr : ∀ (i : Int) (x : D), idx [a, b, c, d] i = some x → (-(2 ^ 63) ≤ i ∧ i < 2 ^ 63) → Ev (w2 gItem (wV 0) (wI i)) (Cn (n + 1)) ρ σ4 x := fun i x hi hr => Yi (Zn q0) hr hi
  rw [e_Ps1]
  refine Zn q3 _ (evr 3 d rfl (by decide) _ ?_)
  rw [e_Ps1]
  refine K3 (Zn q3) _ (evr 0 a rfl (by decide) _ ?_)
  rw [e_Ps1]
  refine K3 (Zn q3) _ (evr 1 b rfl (by decide) _ ?_)
  rw [e_Ps1]
  refine K3 (Zn q3) _ (evr 2 c rfl (by decide) _ ?_)
  rw [e_Ps0]
  show _ ∧ _
  refine ⟨by show ([1, 1 + 1, 1 + 2, 1 + 3] : List Int).Nodup; decide, fun hd e5 hhd => ?_⟩
  rw [e_L0]
  have hne : ∀ x, up (up (up σ b' (some (.dict e []))) K (some (.attrs [("program", .inst 707 A.p), ("bindings", .mdic b')]))) b' (some (.dict e4 [(4, d4)])) x ≠ none → x ≠ hd := fun x hx e => by
   subst e
   cases q : up (up (up σ b' (some (.dict e []))) K (some (.attrs [("program", .inst 707 A.p), ("bindings", .mdic b')]))) b' (some (.dict e4 [(4, d4)])) x with
   | none => exact hx q
   | some m => rw [h4.z _ _ q] at hhd; cases hhd
  have h5 := (h4.out (.dict e5 [(1, d), (1 + 1, a), (1 + 2, b), (1 + 3, c)]) (.inl hhd)).rename K b'
  have hbh : b' ≠ hd := hne b' (by rw [Z2]; simp)
  have hKh : K ≠ hd := hne K (by rw [Z4 _ _ (Ne.symm hbK), Z2]; simp)
  refine k _ _ hd _ h5 ⟨?_, e4, d4, ?_, hd4⟩ ⟨e5, Z2 _ _ _⟩ fun x m hx => ?_
  ·dsimp only
   rw [Z4 _ _ hKh, Z4 _ _ (Ne.symm hbK), Z2]; rfl
  ·dsimp only
   rw [Z4 _ _ hbh, Z2]
  ·have x1 : x ≠ b' := Zgt hx hb0
   have x2 : x ≠ K := Zgt hx hK0
   have hx3 : up (up (up σ b' (some (.dict e []))) K (some (.attrs [("program", .inst 707 A.p), ("bindings", .mdic b')]))) b' (some (.dict e4 [(4, d4)])) x = some m := by
    rw [Z4 _ _ x1, Z4 _ _ x2, Z4 _ _ x1]; exact hx
   rw [Z4 _ _ (hne x (by rw [hx3]; simp))]; exact hx3
 refine s_sub (Xp (Zc Y3 (Zc (K3 (Zn rfl)) Zp))) (evb _ _ rfl (Z2 _ _ _)) ((Z4 _ _ hbK).trans (Z2 _ _ _)) (by decide) fun e4 => ?_
 have h4 := h3.out (x := b') (.dict e4 [(4, .tup [.str "registers", .int 2])]) (.inr ⟨_, (Z4 _ _ hbK).trans (Z2 _ _ _)⟩)
 cases is_map with
 | false =>
  refine Y4 (X9 (Zn rfl)) ?_
  exact tail _ e4 _ _ rfl rfl rfl (.inl rfl) h4
 | true =>
  refine Vf (X9 (Zn rfl)) ?_
  have evm : Ev (wDicZ [((wNeg (wI 1)), (wV 3)), ((wI 0), (w2 oAdd (wV 3) (wI 1))), ((wI 1), (w2 oAdd (wV 3) (wI 2))), ((wI 2), (w2 oAdd (wV 3) (wI 3)))]) (Cn (n + 1)) (put (put (put [some (rowD a b c d), some (.bool true), none, none, none] 2 (.inst 707 A.p)) 3 (.int 1)) 4 (.inst 611 K)) (up (up (up σ2 b' (some (.dict e []))) K (some (.attrs [("program", .inst 707 A.p), ("bindings", .mdic b')]))) b' (some (.dict e4 [(4, .tup [.str "registers", .int 2])]))) (.dici [(-1, .int 1), (0, .int 2), (1, .int 3), (2, .int 4)]) := fun Q q => by
   rw [e_DicZ]
   exact ⟨by decide, q⟩
  refine s_sub (ep := e4) (l := [(4, .tup [.str "registers", .int 2])]) (Xp (Zc Y3 (Zc evm Zp))) (evb _ _ rfl ?_) (Z2 _ _ _) (by decide) fun e5 => ?_
  ·rw [Z4 _ _ (Ne.symm hbK), Z2]
  ·simp only [Jj]
   have h5 := h4.out (x := b') (.dict e5 [(4, .tup [.str "map", .dici [(-1, .int 1), (0, .int 2), (1, .int 3), (2, .int 4)]])]) (.inr ⟨_, Z2 _ _ _⟩)
   rw [up_up] at h5
   exact tail _ e5 _ _ rfl rfl rfl (.inr rfl) h5
end
theorem Fin.done {ps : PSt} (m : Nat) : Fin (ps.ops ++ List.replicate m .halt) (lbOf ps.labs) ps := ⟨⟨_, rfl⟩, fun k v h => by unfold lbOf; rw [h]; rfl⟩
theorem at_end (ps : PSt) (m : Nat) : (ps.ops ++ List.replicate m Ins.halt).length ≤ ps.len ∨ (ps.ops ++ List.replicate m Ins.halt)[ps.len]? = some Ins.halt := by
 cases m with
 | zero => left; simp [PSt.len]
 | succ m => right; simp [PSt.len]
theorem closed {z : Nat} {ps' : PSt} (sg : Seg [] z ps1 ps') : ∀ i ∈ ps'.ops, JOk ps'.labs [] i := by
 obtain ⟨s, es, hs⟩ := sg.ops
 intro i hi
 rw [es] at hi
 exact hs i hi
noncomputable def h0 (a b c d : D) : H := fun x => (zlook [(1, d), (2, a), (3, b), (4, c)] x).getD .none
theorem row0 (a b c d : D) : RowOk (rowF a b c d) (h0 a b c d) := fun i hi => by
 rcases hi with rfl | rfl | rfl | rfl <;> rfl
section
variable {n : Nat} {σ : Sto} {Q : D → Sto → Prop} {A : PA} {Z : Sto} {ps : PSt} {C : Ora} {ρ : Loc} {i : Nat} {as : List WE} {ds : List D}
theorem m_k {f : Addr} {name : Str} (c : CI A Z) (h : PI A Z ps σ) (hi : nth ρ i = some (.inst 611 A.k)) (hs : slook (kAt A) name = none) (ha : EvL as C ρ σ ds) (k : C f (.inst 611 A.k :: ds) σ Q) : wMeth 611 f name (wV i) as C ρ σ Q := by
 rw [Zcz, Zhq, hi]
 refine ⟨rfl, ?_⟩
 rw [h.k c]
 exact ⟨hs, ha _ k⟩
theorem m_i {f : Addr} {name : Str} (h : PI A Z ps σ) (hi : nth ρ i = some (.inst 707 A.p)) (hs : ∀ r l, slook (pAt A r l) name = none) (ha : EvL as C ρ σ ds) (k : C f (.inst 707 A.p :: ds) σ Q) : wMeth 707 f name (wV i) as C ρ σ Q := by
 rw [Zcz, Zhq, hi]
 refine ⟨rfl, ?_⟩
 rw [h.p]
 exact ⟨hs _ _, ha _ k⟩
theorem ev_prog (hk : σ A.k = some (.attrs (kAt A))) (hi : nth ρ i = some (.inst 611 A.k)) : Ev (wAttr Zo "program" (wV i)) C ρ σ (.inst 707 A.p) := fun Q q => by
 rw [Zbt, Zhq, hi]
 refine ⟨by decide, ?_⟩
 rw [hk]
 dsimp only
 exact q
theorem ev_ops {r l : Int} {e : WE} (he : Ev e C ρ σ (.inst 707 A.p)) (hp : σ A.p = some (.attrs (pAt A r l))) : Ev (wAttr Vp "ops" e) C ρ σ (.mlst A.o) := fun Q q => by
 rw [Zbt]
 refine he _ ?_
 refine ⟨by decide, ?_⟩
 rw [hp]
 dsimp only
 exact q
theorem run_fin {z hd m : Nat} {a b c d : D} {h' : H} {e : Nat} (sg : Seg [] z ps1 ps) (hz : z < 1990) (hc : CodI A.o hd (ps.ops ++ List.replicate m .halt) (lbOf ps.labs) σ) (hm : m ≤ 2) (hd' : σ hd = some (.dict e [(1, d), (2, a), (3, b), (4, c)]))
  (p : Path (ps.ops ++ List.replicate m .halt) (lbOf ps.labs) 0 (h0 a b c d) ps.len h') (k : ∀ m σ', RegI hd m h' σ' → (∀ x, x ≠ hd → σ' x = σ x) → Q (.bool true) σ') : Cn (n + 5) 852 [.mlst A.o, .mdic hd] σ Q := by
 have hsz := sg.sz
 have : ps.ops.length ≤ z := by
  unfold PSt.sz at hsz
  have : ps1.ops.length = 0 := rfl
  have : ps1.labs.length = 0 := rfl
  lia
 exact law_run (m := 4) hc ⟨⟨e, _, hd', fun x => rfl, by simp⟩⟩ (by decide) (by simp; lia) p (at_end ps m) (by simp [PSt.len]) k
theorem repr_ok {v : D} (hv : IsV v) : ∃ s, ∀ (σ : Sto) (q : D → Prop), q (.str s) → bRepr [v] σ q := by
 cases hv with
 | none => exact ⟨_, fun σ q h => h⟩
 | int i hi => exact ⟨_, fun σ q h => ⟨Zdf hi, h⟩⟩
 | str hx => exact ⟨_, fun σ q h => ⟨⟨hx.2.2.1, hx.2.2.2.1⟩, h⟩⟩
theorem en_866 {a b c d e : D} : Cn (n + 1) 866 [a, b, c, d, e] σ Q = W_866 (Cn n) [some a, some b, some c, some d, some e, none, none, none, none, none, none, none, none] σ (fun _ σ' => Q .none σ') Q (fun _ _ => False) := Z1 (F := F_866) (full := [a, b, c, d, e]) rfl rfl
theorem ti_w0 {x : Int} (h : nth ρ i = some (.int x)) : Ti (tCmp oEq (wV i) (wI 0)) C ρ σ (x == 0) := fun T k => by
 rw [Ys, Zhq, h]
 exact ⟨Nat.zero_le _, Nat.zero_le _, k⟩
noncomputable def ps2 : PSt := ⟨[], 6, [], -3⟩
theorem zz3 {k : Nat} (h : k ≤ 3) : zz k ≤ 1200 := Nat.le_trans (Kq h) (by decide)
theorem jr_tail {t : Tr} {a b c d : D} {coll : Str} {way : Int} {u j : Bool} {hd : Addr} {ps3 : PSt} {e : Nat} (hc : CI A Z) (hw : Wf t) (ho : Ok coll (rowF a b c d) t) (hdep : t.dep ≤ 3) (hn : 20 ≤ n) (hH : Z hd = some (.dict e [(1, d), (2, a), (3, b), (4, c)]))
  (h : PI A Z ps3 σ) (J : JmpOk (rowF a b c d) j (-1) (zz t.dep + 1) ps2 ps3) (hj : (way = 0 ∧ j = tru (trueD (fv coll (rowF a b c d) t)) true u) ∨ (way = 1 ∧ j = tru (trueD (fv coll (rowF a b c d) t)) false u)) (k : ∀ σ', Q (.bool true) σ') :
  W_866_4 (Cn n) [some (enc t), some (rowD a b c d), some (.str coll), some (.int way), some (.bool u), some (.inst 611 A.k), some (.mdic hd), some (.inst 707 A.p), some (.int (-1)), some (.int (-2)), some (.int 5), none, none] σ (fun _ σ' => Q .none σ') Q (fun _ _ => False) := by
 obtain ⟨m, rfl⟩ : ∃ m, n = m + 6 := ⟨n - 6, by lia⟩
 have zt := zz3 hdep
 have z3 := J.sg.sz
 have n3 := J.sg.nl
 have s2 : ps2.sz = 0 := rfl
 have nl2 : ps2.nl = -3 := rfl
 refine Xc ?_
 refine m_i h rfl (fun _ _ => rfl) (Zc Y3 (Zc Yw (Zc (Zn rfl) (Zc Yw (Zc Yw Zp))))) ?_
 refine add_ (i := .value 5 (.int 0)) rfl h (by lia) fun r1 σ4 h4 => ?_
 refine Xc ?_
 refine m_i h4 rfl (fun _ _ => rfl) (Zc Y3 (Zc Yw (Zc (Zn rfl) Zp))) ?_
 refine add_ (i := .goto (-2)) rfl h4 (by simp; lia) fun r2 σ5 h5 => ?_
 have f1 : lk ps3.labs (-1) = none := J.sg.still rfl (by rw [nl2]; decide)
 have f2 : lk ps3.labs (-2) = none := J.sg.still rfl (by rw [nl2]; decide)
 refine Xc ?_
 refine m_i h5 rfl (fun _ _ => rfl) (Zc (Zn rfl) Zp) ?_
 refine place h5 (by decide) (by simp; lia) f1 (by simp; lia) fun σ6 h6 => ?_
 refine Xc ?_
 refine m_i h6 rfl (fun _ _ => rfl) (Zc Y3 (Zc Yw (Zc (Zn rfl) (Zc Yw (Zc Yw Zp))))) ?_
 refine add_ (i := .value 5 (.int 1)) rfl h6 (by simp; lia) fun r3 σ7 h7 => ?_
 have f2' : lk ((((ps3.add (.value 5 (.int 0))).add (.goto (-2))).plc (-1)).add (.value 5 (.int 1))).labs (-2) = none := by
  rw [add_labs, Zca, lk_ne (by decide)]; exact f2
 refine Xc ?_
 refine m_i h7 rfl (fun _ _ => rfl) (Zc (Zn rfl) Zp) ?_
 refine place h7 (by decide) (by simp; lia) f2' (by simp; lia) fun σ8 h8 => ?_
 have sg0 : Seg [-1, -2] 0 ps1 ps2 := (Seg.lbl _ ps1).trans ((Seg.lbl _ _).trans (Seg.reg _ _))
 have sg5 : Seg [-1, -2] (0 + (zz t.dep + 1 + (1 + 1))) ps1 ((ps3.add (.value 5 (.int 0))).add (.goto (-2))) := sg0.trans ((J.sg.to (Nat.le_refl _) fun _ h => by simp at h; simp [h]).trans ((Seg.addN rfl).trans (Seg.add fun l e => by cases e; exact ⟨by decide, by simp⟩)))
 have sg6 := sg5.close f1 (by simp; lia) (by decide)
 have sg8 := (sg6.trans (Seg.addN (i := .value 5 (.int 1)) rfl)).close f2' (by simp; lia) (by decide)
 refine Xc ?_
 refine m_i h8 rfl (fun _ _ => rfl) Zp ?_
 refine finish (hd := hd) h8 (by simp; lia) (closed sg8) hH fun mm σ9 hmm hp9 cod hz9 => ?_
 have hv := Uy ho
 have ts := Xd (fv coll (rowF a b c d) t)
 refine Yo (Zy (Zc (Zy (Zc (Zn rfl) (Zc (Zn rfl) (Zc (Zn rfl) Zp))) fun Q q => found t _ Q (by lia) ho q) Zp) fun Q q => Kg hv q) ?_
 have hdue : Ev (wIf (tCmp oIsN (wV 11) wNone) (wBi bInt [(wV 4)]) (wBi bInt [(wCmp oEq (wV 11) (w2 oSub (wI 1) (wV 3)))])) (Cn (m + 6)) (put [some (enc t), some (rowD a b c d), some (.str coll), some (.int way), some (.bool u), some (.inst 611 A.k), some (.mdic hd), some (.inst 707 A.p), some (.int (-1)), some (.int (-2)), some (.int 5), none, none] 11 (trueD (fv coll (rowF a b c d) t))) σ9 (.int (if j then 1 else 0)) := by
  have evs : ∀ ρ : Loc, nth ρ 3 = some (.int way) → Ev (w2 oSub (wI 1) (wV 3)) (Cn (m + 6)) ρ σ9 (.int (1 - way)) := fun ρ q0 Q q => by
   rw [Zhr, e_I]; exact Zn q0 _ q
  have fin : ∀ v : D, IsT v → ((way = 0 ∧ j = tru v true u) ∨ (way = 1 ∧ j = tru v false u)) → Ev (wIf (tCmp oIsN (wV 11) wNone) (wBi bInt [(wV 4)]) (wBi bInt [(wCmp oEq (wV 11) (w2 oSub (wI 1) (wV 3)))])) (Cn (m + 6)) (put [some (enc t), some (rowD a b c d), some (.str coll), some (.int way), some (.bool u), some (.inst 611 A.k), some (.mdic hd), some (.inst 707 A.p), some (.int (-1)), some (.int (-2)), some (.int 5), none, none] 11 v) σ9 (.int (if j then 1 else 0)) := by
   intro v tv hjv
   refine Uo (Y2 (Zn rfl)) (fun e1 => ?_) (fun e1 => ?_)
   ·cases tv with
    | none =>
     have : j = u := by rcases hjv with ⟨_, e⟩ | ⟨_, e⟩ <;> exact e
     rw [this]; exact Zbw (Zn rfl)
    | zero => cases e1
    | one => cases e1
   ·cases tv with
    | none => cases e1
    | zero =>
     have : j = ((0 : Int) == 1 - way) := by rcases hjv with ⟨rfl, e⟩ | ⟨rfl, e⟩ <;> exact e
     rw [this]; exact Zbw (Zec (Zn rfl) (evs _ rfl))
    | one =>
     have : j = ((1 : Int) == 1 - way) := by rcases hjv with ⟨rfl, e⟩ | ⟨rfl, e⟩ <;> exact e
     rw [this]; exact Zbw (Zec (Zn rfl) (evs _ rfl))
  exact fin _ ts hj
 refine Yo hdue ?_
 have F := Fin.done (ps := (((((ps3.add (.value 5 (.int 0))).add (.goto (-2))).plc (-1)).add (.value 5 (.int 1))).plc (-2))) mm
 have path : ∃ h', Path ((((((ps3.add (.value 5 (.int 0))).add (.goto (-2))).plc (-1)).add (.value 5 (.int 1))).plc (-2)).ops ++ List.replicate mm .halt) (lbOf (((((ps3.add (.value 5 (.int 0))).add (.goto (-2))).plc (-1)).add (.value 5 (.int 1))).plc (-2)).labs) 0 (h0 a b c d) (((((ps3.add (.value 5 (.int 0))).add (.goto (-2))).plc (-1)).add (.value 5 (.int 1))).plc (-2)).len h' ∧ h' 5 = .int (if j then 1 else 0) := by
  have F7 := F.plc
  have F6 := F7.of_add
  have F5 := F6.plc
  have F4 := F5.of_add
  have F3 := F4.of_add
  have el1 := F6.lab f1
  have el2 := F.lab f2'
  obtain ⟨h3, p3, k3⟩ := J.run _ _ (h0 a b c d) F3 (by rw [el1]; simp; lia) (row0 a b c d)
  have p3' : Path ((((((ps3.add (.value 5 (.int 0))).add (.goto (-2))).plc (-1)).add (.value 5 (.int 1))).plc (-2)).ops ++ List.replicate mm .halt) (lbOf (((((ps3.add (.value 5 (.int 0))).add (.goto (-2))).plc (-1)).add (.value 5 (.int 1))).plc (-2)).labs) 0 (h0 a b c d) _ h3 := p3
  cases j with
  | true =>
   rw [if_pos rfl, el1] at p3'
   exact ⟨_, p3'.trans (F7.step (h := h3) (h' := hput h3 5 (.int 1)) trivial rfl), Yx ..⟩
  | false =>
   rw [if_neg (by decide)] at p3'
   have p4 := p3'.trans (F4.step (h := h3) (h' := hput h3 5 (.int 0)) trivial rfl)
   have p5 := F5.jump (h := hput h3 5 (.int 0)) (h' := hput h3 5 (.int 0)) trivial rfl (by rw [el2]; simp)
   rw [el2] at p5
   exact ⟨_, p4.trans p5, Yx ..⟩
 obtain ⟨h', p', e5⟩ := path
 rw [Zd3, Y0, Zfe, e_And, e_Call]
 refine Zc (ev_ops (Zn rfl) hp9) (Zc (Zn rfl) Zp) _ ?_
 refine run_fin sg8 (by lia) cod hmm (hz9 _ _ hH) p' fun mr σ10 hR _ => ?_
 obtain ⟨e10, hl10, q1, q2, q3⟩ := hR.d
 have q5 := q2 5
 rw [e5] at q5
 have q6 : zlook hl10 5 = some (.int (if j then 1 else 0)) := by
  cases q : zlook hl10 5 with
  | none => rw [q] at q5; cases q5
  | some v => rw [q] at q5; exact congrArg some q5
 show (if true = true then wCmp oEq (w2 gItem (wV 6) (wV 10)) (wV 12) (Cn (m + 6)) _ σ10 Q else Q (.bool true) σ10)
 rw [if_pos rfl, J5]
 refine ev_md (Zn rfl) (Zn rfl) q1 q6 _ ?_
 refine Zn (d := .int (if j then 1 else 0)) rfl _ ?_
 refine ⟨Nat.zero_le _, Nat.zero_le _, ?_⟩
 rw [eqv_ii, beq_self_eq_true]
 exact k σ10
end
section
variable {n : Nat} {σ : Sto} {Q : D → Sto → Prop}
theorem ps2_eq : ps1.lbl.lbl.reg = ps2 := rfl
theorem ps2_wf : WfP ps2 := ⟨by decide, by decide, fun k v h => by cases h⟩
theorem Zgd {t : Tr} {a b c d : D} {coll : Str} {way : Int} {u : Bool} (hcol : CollOk coll) (hw : Wf t) (ho : Ok coll (rowF a b c d) t) (hdep : t.dep ≤ 3) (hn : 40 ≤ n) (hway : way = 0 ∨ way = 1) (k : ∀ σ', Q (.bool true) σ') : Cn (n + 1) 866 [enc t, rowD a b c d, .str coll, .int way, .bool u] σ Q := by
 obtain ⟨m, rfl⟩ : ∃ m, n = m + 2 := ⟨n - 2, by lia⟩
 have zt := zz3 hdep
 rw [en_866, W_866, Y0, V1, e_Call]
 refine Zc (Zn rfl) (Zc ev_B Zp) _ ?_
 refine Ze8 fun A Z hd σ1 h1 ci hH hz => ?_
 obtain ⟨e, hH⟩ := hH
 rw [Zds]
 refine ⟨rfl, ?_⟩
 rw [Uc, Xv, Uc, Xv, Zb9]
 refine Yo (ev_prog (h1.k ci) rfl) ?_
 rw [W_866_2, Y0, e_Swap, e_Tup, Zc5]
 refine m_i h1 rfl (fun _ _ => rfl) Zp ?_
 refine label h1 fun σ2 h2 => ?_
 rw [Zc5]
 refine m_i h2 rfl (fun _ _ => rfl) Zp ?_
 refine label h2 fun σ3 h3 => ?_
 rw [Zc5]
 refine m_i h3 rfl (fun _ _ => rfl) Zp ?_
 refine register1 h3 fun σ4 h4 => ?_
 rw [e_L0]
 refine ⟨rfl, ?_⟩
 have al := coder (A := A) (Z := Z) (coll := coll) (r := rowF a b c d) ci hcol t hw ho
 have h4' : PI A Z ps2 σ4 := h4
 have er : ([D.int ps1.nl, D.int ps1.lbl.nl, D.int ps1.lbl.lbl.regs] : List D).reverse = [.int 5, .int (-2), .int (-1)] := rfl
 have er2 : (([8, 9, 10] : List Nat).reverse.map aName) = [aName 10, aName 9, aName 8] := rfl
 rw [er, er2, Uc, Xv, Uc, Xv, Uc, Xv, Zb9]
 simp only [put_0, put_1]
 show W_866_3 (Cn (m + 2)) [some (enc t), some (rowD a b c d), some (.str coll), some (.int way), some (.bool u), some (.inst 611 A.k), some (.mdic hd), some (.inst 707 A.p), some (.int (-1)), some (.int (-2)), some (.int 5), none, none] σ4 (fun _ σ' => Q .none σ') Q (fun _ _ => False)
 have evn : ∀ ρ : Loc, nth ρ 0 = some (enc t) → nth ρ 2 = some (.str coll) → Ev (wCall 751 [(wV 0), (wV 2)]) (Cn (m + 2)) ρ σ4 (nod coll t) := fun ρ q0 q2 => Zy (Zc (Zn q0) (Zc (Zn q2) Zp)) fun Q q => node t _ Q (by lia) hw q
 rcases hway with rfl | rfl
 ·refine Vf (ti_w0 (x := 0) rfl) ?_
  refine Xc ?_
  refine m_k ci h4' rfl rfl (Zc (evn _ rfl rfl) (Zc (Zn rfl) (Zc (Zn rfl) Zp))) ?_
  refine al.i _ (by lia) (-1) u ps2 σ4 _ h4' ps2_wf (by show 0 + _ + 1 ≤ 5000; lia) (by decide) fun ps3 σ5 h5 J => ?_
  refine Xx ?_
  exact jr_tail ci hw ho hdep (by lia) hH h5 J (.inl ⟨rfl, rfl⟩) k
 ·refine Yg (ti_w0 (x := 1) rfl) ?_
  refine Xc ?_
  refine m_k ci h4' rfl rfl (Zc (evn _ rfl rfl) (Zc (Zn rfl) (Zc (Zn rfl) Zp))) ?_
  refine al.u _ (by lia) (-1) u ps2 σ4 _ h4' ps2_wf (by show 0 + _ + 1 ≤ 5000; lia) (by decide) fun ps3 σ5 h5 J => ?_
  refine Xx ?_
  exact jr_tail ci hw ho hdep (by lia) hH h5 J (.inr ⟨rfl, rfl⟩) k
theorem en_718 {a b : D} : Cn (n + 1) 718 [a, b] σ Q = W_718 (Cn n) [some a, some b, none, none, none] σ (fun _ σ' => Q .none σ') Q (fun _ _ => False) := Z1 (F := F_718) (full := [a, b]) rfl rfl
theorem en_873 {a : D} : Cn (n + 1) 873 [a] σ Q = W_873 (Cn n) [some a, none, none, none, none, none, none, none] σ (fun _ σ' => Q .none σ') Q (fun _ _ => False) := Z1 (F := F_873) (full := [a]) rfl rfl
end
section
variable {C : Ora} {ρ : Loc} {σ : Sto} {N Kk : Loc → Sto → Prop} {R : D → Sto → Prop} {z : WS} {e f : WE} {x y : Int} {as bs : List WE} {ds : List D} {j : Nat} {g : Addr} {ts : List WA} {is : List Nat}
theorem ev_max (h1 : Ev e C ρ σ (.int x)) (h2 : Ev f C ρ σ (.int y)) : Ev (wBi bMax [e, f]) C ρ σ (.int (if y > x then y else x)) := fun Q q => by
 rw [Zfy]; exact Zc h1 (Zc h2 Zp) _ ⟨_, _, rfl, q⟩
theorem ev_geb (h1 : Ev e C ρ σ (.int x)) (h2 : Ev f C ρ σ (.int y)) : Ev (wCmp oGe e f) C ρ σ (.bool (decide (y ≤ x))) := fun Q q => by
 rw [J5]; exact h1 _ (h2 _ q)
theorem ev_pow (h1 : Ev e C ρ σ (.int x)) (h2 : Ev f C ρ σ (.int y)) (h : 0 ≤ y ∧ y ≤ 1000000 ∧ x.natAbs < 2 ^ 64) : Ev (w2 oPow e f) C ρ σ (.int (x ^ y.toNat)) := fun Q q => by
 rw [Zhr]; exact h1 _ (h2 _ ⟨h, q⟩)
theorem s_rlstM (h : EvL as C ρ σ ds) (k : ∀ a, σ a = none → R (.mlst a) (up σ a (some (.list ds)))) : sSeq (sRet (wLstM as)) z C ρ σ N R Kk := by
 rw [Y0, Zfe, e_LstM]; exact h _ k
theorem s_atup (k : wL as C ρ σ fun ds σ1 => z C (put ρ j (.tup ds)) σ1 N R Kk) : sSeq (sAsg (wTup as) (aName j)) z C ρ σ N R Kk := by
 rw [Y0, V1, e_Tup]; exact k
theorem s_swk (k : wL as C ρ σ fun ds σ1 => ds.length = is.length ∧ aMany (is.reverse.map aName) C ρ σ1 ds.reverse fun ρ1 σ1 => z C ρ1 σ1 N R Kk) : sSeq (sSwap (wTup as) is) z C ρ σ N R Kk := by
 rw [Y0, e_Swap, e_Tup]; exact k
theorem s_ctup (k : wL bs C ρ σ fun xs σ1 => C g xs σ1 fun d σ2 => aTup ts C ρ σ2 d fun ρ1 σ1 => z C ρ1 σ1 N R Kk) : sSeq (sAsg (wCall g bs) (aTup ts)) z C ρ σ N R Kk := by
 rw [Y0, V1, e_Call]; exact k
theorem w_add1 {n : Nat} {a : Addr} {i : Nat} {top : Int} {Q : List D → Sto → Prop} (h0 : nth ρ i = some (.mlst a)) (hs : SrcAt a σ) (h1 : 1 ≤ top) (h2 : top ≤ 1000) (k : ∀ r σ', 0 ≤ r → r < top → SrcAt a σ' → wL as (Cn (n + 1)) ρ σ' fun ds σ2 => Q (.int (1 + r) :: ds) σ2) : wL (w2 oAdd (wI 1) (wCall 725 [(wV i), (wI top)]) :: as) (Cn (n + 1)) ρ σ Q := by
 rw [Zc5, Zhr, e_I, e_Call]
 exact Zc (Zn h0) (Zc Yw Zp) _ (take hs h1 h2 fun r σ1 r0 r1 s1 _ => k r σ1 r0 r1 s1)
theorem w_deep {n : Nat} {a : Addr} {i : Nat} {Q : List D → Sto → Prop} (h0 : nth ρ i = some (.mlst a)) (hs : SrcAt a σ) (k : ∀ (b : Bool) σ', SrcAt a σ' → wL as (Cn (n + 1)) ρ σ' fun ds σ2 => Q (.int (2 + (if b then 1 else 0)) :: ds) σ2) : wL (w2 oAdd (wI 2) (wBi bInt [(wCmp oEq (wCall 725 [(wV i), (wI 4)]) (wI 0))]) :: as) (Cn (n + 1)) ρ σ Q := by
 rw [Zc5, Zhr, e_I, Zfy, Zc5, J5, e_Call]
 exact Zc (Zn h0) (Zc Yw Zp) _ (take hs (by decide) (by decide) fun r σ1 _ _ s1 _ => ⟨Nat.zero_le _, Nat.zero_le _, k _ _ s1⟩)
end
section
variable {n : Nat} {σ : Sto} {Q : D → Sto → Prop}
theorem Zfb {a0 : D} (cell : Int) (k : ∀ s σ', SrcAt s σ' → Q (.mlst s) σ') : W_718_2 (Cn n) [some a0, some (.int 0), some (.int cell), none, none] σ (fun _ σ' => Q .none σ') Q (fun _ _ => False) := by
 refine Yo (ev_max (Zbu (Zn rfl)) (Zbu (ev_sub (ev_neg Yw) (Zn rfl)))) ?_
 have big : 0 ≤ (if -1 - cell > cell then -1 - cell else cell) := by split <;> lia
 generalize (if -1 - cell > cell then -1 - cell else cell) = v at big ⊢
 have z0 : ∀ x : Int, (-(2 ^ 64) < x ∧ x < 2 ^ 64) ∨ (-(2 ^ 64) < (0 : Int) ∧ (0 : Int) < 2 ^ 64) := fun _ => .inr ⟨by decide, by decide⟩
 refine Yo (Zdk (Zbu (Zcq (K3 (ev_add (ev_add (Zdk (Zbu (Zn rfl)) Yw (by decide)) (Zcq (Zcq Yw (Zn rfl) (z0 _)) (Zn rfl) (z0 _))) (Zcq Yw (Zn rfl) (z0 _)))) Yw (.inr ⟨by decide, by decide⟩))) Yw (by decide)) ?_
 refine s_rlstM (Zc (Zcq (Zn rfl) (Zbw (ev_geb (Zn rfl) (ev_pow Yw Yw (by decide)))) (.inr ?_)) (Zc (Zn rfl) Zp)) fun a ha => ?_
 ·cases decide ((10 : Int) ^ (18 : Int).toNat ≤ v) <;> decide
 ·refine k a _ ⟨_, _, Z2 _ _ _, Int.mul_nonneg big ?_, Int.fmod_nonneg_of_pos _ (by decide), Int.fmod_lt_of_pos _ (by decide)⟩
  cases decide ((10 : Int) ^ (18 : Int).toNat ≤ v) <;> decide
theorem pool {l : List Int} (hl : l.length ≤ 63) (k : ∀ s σ', SrcAt s σ' → Q (.mlst s) σ') : Cn (n + 1) 718 [.lst (l.map .int), .int 0] σ Q := by
 refine en_718.mpr ?_
 refine Yo Yw ?_
 have evl : Ev (wBi bLen [(wV 0)]) (Cn n) [some (.lst (l.map .int)), some (.int 0), some (.int 0), none, none] σ (.int (l.map D.int).length) := fun Q q => by
  rw [Zfy]
  refine Zc (Zn (d := .lst (l.map .int)) rfl) Zp _ ?_
  exact ⟨by rw [List.length_map]; exact Nat.le_trans hl (Nat.le_of_ble_eq_true rfl), q⟩
 refine Zgh (ti_lt (Zn rfl) evl) (fun e => ?_) (fun _ => Xx (Zfb 0 k))
 cases l with
 | nil => cases e
 | cons x l => exact Yo (Zbc (Zn rfl) (Zn rfl) (by decide) rfl) (Xx (Zfb x k))
theorem law_end {t : Tr} {a b c d : D} {coll : Str} {s : Addr} {hd mm : Nat} {A : PA} {Z : Sto} {ps : PSt} {e z : Nat} {sc : D} {rg nl : Int} (hcol : CollOk coll) (hw : Wf t) (ho : Ok coll (rowF a b c d) t) (hdep : t.dep ≤ 3) (hn : 50 ≤ n) (hs : SrcAt s Z) (hH : Z hd = some (.dict e [(1, d), (2, a), (3, b), (4, c)])) (hk : Z A.k = some (.attrs (kAt A)))
  (sg : Seg [] z ps1 ps) (hz : z < 1990) (hm : mm ≤ 2) (hp : σ A.p = some (.attrs (pAt A rg nl))) (hc : CodI A.o hd (ps.ops ++ List.replicate mm .halt) (lbOf ps.labs) σ) (hzz : ∀ x m, Z x = some m → σ x = some m)
  (hx : ExOk (rowF a b c d) (fv coll (rowF a b c d) t) 5 z ps1.reg ps) (k : ∀ σ', Q (.bool true) σ') :
  Zep (Cn n) [some sc, some (.mlst s), some (rowD a b c d), some (enc t), some (.str coll), some (.inst 611 A.k), some (.mdic hd), some (.int 5)] σ (fun _ σ' => Q .none σ') Q (fun _ _ => False) := by
 obtain ⟨m, rfl⟩ : ∃ m, n = m + 6 := ⟨n - 6, by lia⟩
 have hv := Uy ho
 have F := Fin.done (ps := ps) mm
 obtain ⟨h', p', e5, _⟩ := hx.run _ _ (h0 a b c d) F (row0 a b c d)
 have p0 : Path (ps.ops ++ List.replicate mm .halt) (lbOf ps.labs) 0 (h0 a b c d) ps.len h' := p'
 obtain ⟨v0, m0, hs1, hs2, hs3, hs4⟩ := hs
 have hne : s ≠ hd := fun q => by subst q; rw [hs1] at hH; cases hH
 obtain ⟨rs, hrs⟩ := repr_ok hv
 have trun : ∀ T : Bool → Sto → Prop, (∀ mr σ2, RegI hd mr h' σ2 → (∀ x, x ≠ hd → σ2 x = σ x) → T true σ2) → (tOf oTr (wCall 852 [(wAttr Vp "ops" (wAttr Zo "program" (wV 5))), (wV 6)])) (Cn (m + 6)) [some sc, some (.mlst s), some (rowD a b c d), some (enc t), some (.str coll), some (.inst 611 A.k), some (.mdic hd), some (.int 5)] σ T := fun T tt => by
  rw [Zfa, e_Call]
  refine Zc (ev_ops (ev_prog (hzz _ _ hk) rfl) hp) (Zc (Zn rfl) Zp) _ ?_
  exact run_fin sg hz hc hm (hzz _ _ hH) p0 fun mr σ2 hR hk2 => tt mr σ2 hR hk2
 rw [Zep, Y0, e_sIf, e_tOr, e_tNot]
 refine trun _ fun mr σ2 hR hk2 => ?_
 have ev1 : Ev (wBi bRepr [(wBM rDict mGet (wV 6) [(wV 7)])]) (Cn (m + 6)) [some sc, some (.mlst s), some (rowD a b c d), some (enc t), some (.str coll), some (.inst 611 A.k), some (.mdic hd), some (.int 5)] σ2 (.str rs) := fun Q q => by
  rw [Zfy]
  refine Zc (U1 hR rfl rfl) Zp _ ?_
  rw [e5]
  exact hrs _ _ q
 have ev2 : Ev (wBi bRepr [(wCall 824 [(wV 3), (wV 2), (wV 4)])]) (Cn (m + 6)) [some sc, some (.mlst s), some (rowD a b c d), some (enc t), some (.str coll), some (.inst 611 A.k), some (.mdic hd), some (.int 5)] σ2 (.str rs) := fun Q q => by
  rw [Zfy]
  refine Zc (Zy (Zc (Zn rfl) (Zc (Zn rfl) (Zc (Zn rfl) Zp))) fun Q q => found t _ Q (by lia) ho q) Zp _ ?_
  exact hrs _ _ q
 rw [if_neg (by decide), e_tOr, Ys]
 refine ev1 _ (ev2 _ ?_)
 refine ⟨Nat.zero_le _, Nat.zero_le _, ?_⟩
 rw [eqv_ss, beq_self_eq_true]
 simp only [Bool.not_true, Bool.false_eq_true, if_false, e_tEnd]
 have hS : SrcAt s σ2 := ⟨v0, m0, (hk2 s hne).trans (hzz _ _ hs1), hs2, hs3, hs4⟩
 rw [show (BoolOp.Or == BoolOp.And) = false from rfl, if_neg (by decide)]
 refine Xx ?_
 rw [W_873_7, Y0, Zfe, e_Call, Zc5]
 refine Zn rfl _ ?_
 rw [Zc5]
 refine Zn rfl _ ?_
 rw [Zc5]
 refine Zn rfl _ ?_
 rw [Zc5, e_Call]
 refine Zc (Zn rfl) (Zc Yw Zp) _ ?_
 refine take hS (by decide) (by decide) fun r1 σ3 r1a r1b hS3 _ => ?_
 rw [Zc5, J5, e_Call]
 refine Zc (Zn rfl) (Zc Yw Zp) _ ?_
 refine take hS3 (by decide) (by decide) fun r2 σ4 r2a r2b hS4 _ => ?_
 refine ⟨Nat.zero_le _, Nat.zero_le _, ?_⟩
 dsimp only
 rw [e_L0]
 exact Zgd hcol hw ho hdep (by lia) (by lia) k
theorem plain (l : List Int) (hl : l.length ≤ 63) : oracle table 80 873 [.lst (l.map .int)] (fun _ => none) (fun d _ => d = .bool true) := by
 show Cn (79 + 1) 873 _ _ _
 refine en_873.mpr ?_
 refine Za8 (Zc (Zn rfl) (Zc Yw Zp)) (pool hl fun s σ1 hS1 => ?_)
 refine s_atup (w_c (Zc (Zn rfl) (Zc (Jv (Zc Zah (Zc Yw (Zc Yw (Zc Yw (Zc Y3 Zp)))))) Zp)) (one hS1 (List.cons_ne_nil _ _) (Nat.le_of_ble_eq_true rfl) fun a σ2 ha hS2 _ => ?_))
 refine w_c (Zc (Zn rfl) (Zc (Jv (Zc Zah (Zc Y3 (Zc Y3 (Zc Y3 (Zc Y3 (Zc Y3 Zp))))))) Zp)) (one hS2 (List.cons_ne_nil _ _) (Nat.le_of_ble_eq_true rfl) fun b σ3 hb hS3 _ => ?_)
 refine w_c (Zc (Zn rfl) Zp) (value hS3 fun c σ4 hc hS4 _ => w_add1 rfl hS4 (by decide) (by decide) fun d σ5 d0 d1 hS5 => w_0 ?_)
 refine s_swk (w_call (Zhs (Zn rfl) (w_deep rfl hS5 fun b1 σ6 hS6 => w_0 ?_)))
 obtain ⟨kd, hkd, hk3⟩ : ∃ kd : Nat, (2 + (if b1 = true then (1 : Int) else 0)) = kd ∧ kd ≤ 3 := by
  cases b1
  ·exact ⟨2, rfl, by decide⟩
  ·exact ⟨3, rfl, by decide⟩
 rw [hkd]
 refine tree kd 79 σ6 _ (by lia) hS6 fun t σ7 hw hdt hS7 _ => ?_
 have hdep : t.dep ≤ 3 := Nat.le_trans hdt hk3
 refine w_c (Zc (Zn rfl) (Zc (Jv (Zc Y3 (Zc Y3 Zp))) Zp)) (one hS7 (List.cons_ne_nil _ _) (Nat.le_of_ble_eq_true rfl) fun cl σ8 hcl hS8 _ => w_0 ⟨rfl, ?_⟩)
 obtain ⟨coll, rfl, hcol⟩ : ∃ coll : Str, cl = .str coll ∧ CollOk coll := by
  simp only [List.mem_cons, List.not_mem_nil, or_false] at hcl
  rcases hcl with rfl | rfl
  ·exact ⟨_, rfl, .inl rfl⟩
  ·exact ⟨_, rfl, .inr rfl⟩
 show W_873_3 (Cn 79) [some (.lst (l.map .int)), some (.mlst s), some (rowD a b c (.int (1 + d))), some (enc t), some (.str coll), none, none, none] σ8 (fun _ σ' => .none = D.bool true) (fun d _ => d = .bool true) (fun _ _ => False)
 have va : Vb 3 a := by
  simp only [List.mem_cons, List.not_mem_nil, or_false] at ha
  rcases ha with rfl | rfl | rfl | rfl | rfl
  all_goals first | exact .none | exact .int _ (by decide) | exact .str vs_a
 have vb : Vb 3 b := by
  simp only [List.mem_cons, List.not_mem_nil, or_false] at hb
  rcases hb with rfl | rfl | rfl | rfl | rfl | rfl
  all_goals first | exact .none | exact .str vs_e | exact .str vs_a | exact .str vs_A | exact .str vs_2 | exact .str vs_b
 have vc : Vb 3 c := vals_b hc
 have vd : Vb 3 (.int (1 + d)) := .int _ (by lia)
 have hr : ∀ i, Cols i → Vb 3 (rowF a b c (.int (1 + d)) i) := fun i _ => by
  unfold rowF
  split
  ·exact va
  ·split
   ·exact vb
   ·split
    ·exact vc
    ·exact vd
 have ho := Js (coll := coll) hr hw hdep
 refine s_ctup (Zhs (Zn rfl) (w_eqc (Zc (Zn rfl) (Zc Yw Zp)) (take hS8 (by decide) (by decide) fun r2 σ9 _ _ hS9 _ => i_eqi (w_0 ?_))))
 refine Ze8 fun A Z hd σ10 h10 ci hH hz => ⟨rfl, ?_⟩
 obtain ⟨e, hH⟩ := hH
 show Zeb (Cn 79) [some (.lst (l.map .int)), some (.mlst s), some (rowD a b c (.int (1 + d))), some (enc t), some (.str coll), some (.inst 611 A.k), some (.mdic hd), none] σ10 (fun _ σ' => .none = D.bool true) (fun d _ => d = .bool true) (fun _ _ => False)
 have zt := zz3 hdep
 have al := coder (A := A) (Z := Z) (coll := coll) (r := rowF a b c (.int (1 + d))) ci hcol t hw ho
 rw [Zeb, Y0, V1]
 refine m_k ci h10 rfl rfl (Zc (Zy (Zc (Zn rfl) (Zc (Zn rfl) Zp)) fun Q q => node t _ Q (by lia) hw q) Zp) ?_
 refine al.S ci _ (by lia) ps1 σ10 _ h10 ps1_wf (by show 0 + _ ≤ 5000; lia) fun ps' σ11 h11 hx => ?_
 rw [Xv]
 simp only [put_0, put_1]
 have hsz := hx.sg.sz
 have s1 : ps1.reg.sz = 0 := rfl
 have sg := (Seg.reg [] ps1).trans hx.sg
 rw [W_873_5, Y0, e_Expr, Zcz]
 refine ev_prog (h11.k ci) rfl _ ?_
 refine ⟨rfl, ?_⟩
 rw [h11.p]
 refine ⟨by simp [pAt, slook], ?_⟩
 refine Zp _ ?_
 refine finish (hd := hd) h11 (by lia) (closed sg) hH fun mm σ12 hmm hp12 cod hz12 => ?_
 have hSz : SrcAt s Z := by
  obtain ⟨v0, m0, q1, q2, q3, q4⟩ := hS9
  exact ⟨v0, m0, hz _ _ q1, q2, q3, q4⟩
 exact law_end hcol hw ho hdep (by lia) hSz hH ci.k sg (by lia) hmm hp12 cod hz12 ⟨hx.sg.to (by lia) fun _ h => h, hx.run⟩ fun _ => rfl
end
set_option maxHeartbeats 8000000
theorem tb {f a : Addr} {F G : Fun} {t : Option Fun} {P : Addr → Fun → Prop} (h : (if f = a then some G else t) = some F) (hG : P a G) (k : t = some F → P f F) : P f F := by
 by_cases e : f = a
 ·rw [if_pos e] at h; cases h; subst e; exact hG
 ·rw [if_neg e] at h; exact k h
theorem all_ok (w : World) : ∀ f F, table f = some F → FnOk w (K39 w.params) f F.p F.df F.ns F.W := fun f F h =>
 tb (P := fun f F => FnOk w (K39 w.params) f F.p F.df F.ns F.W) h (fn_112 w) fun h =>
 tb (P := fun f F => FnOk w (K39 w.params) f F.p F.df F.ns F.W) h (fn_138 w) fun h =>
 tb (P := fun f F => FnOk w (K39 w.params) f F.p F.df F.ns F.W) h (fn_190 w) fun h =>
 tb (P := fun f F => FnOk w (K39 w.params) f F.p F.df F.ns F.W) h (fn_216 w) fun h =>
 tb (P := fun f F => FnOk w (K39 w.params) f F.p F.df F.ns F.W) h (fn_242 w) fun h =>
 tb (P := fun f F => FnOk w (K39 w.params) f F.p F.df F.ns F.W) h (fn_268 w) fun h =>
 tb (P := fun f F => FnOk w (K39 w.params) f F.p F.df F.ns F.W) h (fn_320 w) fun h =>
 tb (P := fun f F => FnOk w (K39 w.params) f F.p F.df F.ns F.W) h (fn_396 w) fun h =>
 tb (P := fun f F => FnOk w (K39 w.params) f F.p F.df F.ns F.W) h (fn_430 w) fun h =>
 tb (P := fun f F => FnOk w (K39 w.params) f F.p F.df F.ns F.W) h (fn_443 w) fun h =>
 tb (P := fun f F => FnOk w (K39 w.params) f F.p F.df F.ns F.W) h (fn_450 w) fun h =>
 tb (P := fun f F => FnOk w (K39 w.params) f F.p F.df F.ns F.W) h (fn_457 w) fun h =>
 tb (P := fun f F => FnOk w (K39 w.params) f F.p F.df F.ns F.W) h (fn_465 w) fun h =>
 tb (P := fun f F => FnOk w (K39 w.params) f F.p F.df F.ns F.W) h (fn_472 w) fun h =>
 tb (P := fun f F => FnOk w (K39 w.params) f F.p F.df F.ns F.W) h (fn_479 w) fun h =>
 tb (P := fun f F => FnOk w (K39 w.params) f F.p F.df F.ns F.W) h (fn_486 w) fun h =>
 tb (P := fun f F => FnOk w (K39 w.params) f F.p F.df F.ns F.W) h (fn_500 w) fun h =>
 tb (P := fun f F => FnOk w (K39 w.params) f F.p F.df F.ns F.W) h (fn_508 w) fun h =>
 tb (P := fun f F => FnOk w (K39 w.params) f F.p F.df F.ns F.W) h (fn_529 w) fun h =>
 tb (P := fun f F => FnOk w (K39 w.params) f F.p F.df F.ns F.W) h (fn_536 w) fun h =>
 tb (P := fun f F => FnOk w (K39 w.params) f F.p F.df F.ns F.W) h (fn_543 w) fun h =>
 tb (P := fun f F => FnOk w (K39 w.params) f F.p F.df F.ns F.W) h (fn_550 w) fun h =>
 tb (P := fun f F => FnOk w (K39 w.params) f F.p F.df F.ns F.W) h (fn_557 w) fun h =>
 tb (P := fun f F => FnOk w (K39 w.params) f F.p F.df F.ns F.W) h (fn_564 w) fun h =>
 tb (P := fun f F => FnOk w (K39 w.params) f F.p F.df F.ns F.W) h (fn_571 w) fun h =>
 tb (P := fun f F => FnOk w (K39 w.params) f F.p F.df F.ns F.W) h (fn_578 w) fun h =>
 tb (P := fun f F => FnOk w (K39 w.params) f F.p F.df F.ns F.W) h (fn_586 w) fun h =>
 tb (P := fun f F => FnOk w (K39 w.params) f F.p F.df F.ns F.W) h (fn_594 w) fun h =>
 tb (P := fun f F => FnOk w (K39 w.params) f F.p F.df F.ns F.W) h (fn_601 w) fun h =>
 tb (P := fun f F => FnOk w (K39 w.params) f F.p F.df F.ns F.W) h (fn_608 w) fun h =>
 tb (P := fun f F => FnOk w (K39 w.params) f F.p F.df F.ns F.W) h (fn_631 w) fun h =>
 tb (P := fun f F => FnOk w (K39 w.params) f F.p F.df F.ns F.W) h (fn_639 w) fun h =>
 tb (P := fun f F => FnOk w (K39 w.params) f F.p F.df F.ns F.W) h (fn_653 w) fun h =>
 tb (P := fun f F => FnOk w (K39 w.params) f F.p F.df F.ns F.W) h (fn_660 w) fun h =>
 tb (P := fun f F => FnOk w (K39 w.params) f F.p F.df F.ns F.W) h (fn_668 w) fun h =>
 tb (P := fun f F => FnOk w (K39 w.params) f F.p F.df F.ns F.W) h (fn_704 w) fun h =>
 tb (P := fun f F => FnOk w (K39 w.params) f F.p F.df F.ns F.W) h (fn_718 w) fun h =>
 tb (P := fun f F => FnOk w (K39 w.params) f F.p F.df F.ns F.W) h (fn_725 w) fun h =>
 tb (P := fun f F => FnOk w (K39 w.params) f F.p F.df F.ns F.W) h (fn_732 w) fun h =>
 tb (P := fun f F => FnOk w (K39 w.params) f F.p F.df F.ns F.W) h (fn_739 w) fun h =>
 tb (P := fun f F => FnOk w (K39 w.params) f F.p F.df F.ns F.W) h (fn_746 w) fun h =>
 tb (P := fun f F => FnOk w (K39 w.params) f F.p F.df F.ns F.W) h (fn_751 w) fun h =>
 tb (P := fun f F => FnOk w (K39 w.params) f F.p F.df F.ns F.W) h (fn_758 w) fun h =>
 tb (P := fun f F => FnOk w (K39 w.params) f F.p F.df F.ns F.W) h (fn_765 w) fun h =>
 tb (P := fun f F => FnOk w (K39 w.params) f F.p F.df F.ns F.W) h (fn_772 w) fun h =>
 tb (P := fun f F => FnOk w (K39 w.params) f F.p F.df F.ns F.W) h (fn_779 w) fun h =>
 tb (P := fun f F => FnOk w (K39 w.params) f F.p F.df F.ns F.W) h (fn_786 w) fun h =>
 tb (P := fun f F => FnOk w (K39 w.params) f F.p F.df F.ns F.W) h (fn_793 w) fun h =>
 tb (P := fun f F => FnOk w (K39 w.params) f F.p F.df F.ns F.W) h (fn_798 w) fun h =>
 tb (P := fun f F => FnOk w (K39 w.params) f F.p F.df F.ns F.W) h (fn_805 w) fun h =>
 tb (P := fun f F => FnOk w (K39 w.params) f F.p F.df F.ns F.W) h (fn_812 w) fun h =>
 tb (P := fun f F => FnOk w (K39 w.params) f F.p F.df F.ns F.W) h (fn_819 w) fun h =>
 tb (P := fun f F => FnOk w (K39 w.params) f F.p F.df F.ns F.W) h (fn_824 w) fun h =>
 tb (P := fun f F => FnOk w (K39 w.params) f F.p F.df F.ns F.W) h (fn_831 w) fun h =>
 tb (P := fun f F => FnOk w (K39 w.params) f F.p F.df F.ns F.W) h (fn_838 w) fun h =>
 tb (P := fun f F => FnOk w (K39 w.params) f F.p F.df F.ns F.W) h (fn_845 w) fun h =>
 tb (P := fun f F => FnOk w (K39 w.params) f F.p F.df F.ns F.W) h (fn_852 w) fun h =>
 tb (P := fun f F => FnOk w (K39 w.params) f F.p F.df F.ns F.W) h (fn_859 w) fun h =>
 tb (P := fun f F => FnOk w (K39 w.params) f F.p F.df F.ns F.W) h (fn_866 w) fun h =>
 tb (P := fun f F => FnOk w (K39 w.params) f F.p F.df F.ns F.W) h (fn_873 w) fun h =>
 nomatch h
theorem gl_law (w : World) : nsIn (K39 w.params) mainGlobals "law" = some (some (.ref 873)) := by kernel_rfl
theorem join_law {prog p : Program} {loose : List Str} {mean : ExcName → Option Value} {w : World} {s₁ : Shared} {mg mb : Str → Option Value} {fa l : Addr} {vs : List Value} {is : List Int} {N : Nat} (hN : N ≤ 100)
  (plain : oracle table N 873 [.lst (is.map .int)] (fun _ => none) (fun d _ => d = .bool true))
  (KX : (K39 w.params).In s₁.heap) (T : Top p loose mean mg mb s₁.heap) (hmg : mg "law" = some (.ref fa)) (hL : s₁.heap.IsList l vs.toArray) (hI : IntsAre vs is) {E R : Value → Shared → Prop}
  (k : ∀ s', (∀ b o, s₁.heap.get? b = some o → s'.heap.get? b = some o) → s'.gens = s₁.gens → s'.os = s₁.os → R (.bool true) s') : wpAny (model prog w) callerA (call (.ref fa) [.ref l]) R E s₁ := by
 have G : Gd (K39 w.params) s₁.heap := ⟨KX, ⟨mg, mb, T.g, T.b, T.builtins⟩, T.nolimit⟩
 have e := mg_of KX T.g (gl_law w)
 rw [hmg] at e
 cases e
 obtain ⟨o, ho, hc, m, hd⟩ := hL
 have st : St prog w s₁.heap (fun a => s₁.heap.get? a) (fun _ => none) s₁.heap := ⟨fun _ _ e => e, fun _ _ e => e, (fun _ _ e => nomatch e), (fun _ _ e => nomatch e)⟩
 have hr : Rps prog w (fun a => s₁.heap.get? a) vs (is.map .int) := by
  clear plain hd hc ho
  induction hI with
  | nil => exact .nil
  | cons i t _ ih => exact .cons (.int i t) ih
 have rp : Rps prog w (fun a => s₁.heap.get? a) [.ref l] [.lst (is.map .int)] := .cons (.lst ho hc hd (by simpa using hr)) .nil
 have room : Room N callerA := ⟨by show 301 + 3 * N + 10 ≤ 900; lia, by show 4 + 60 * N + 200 ≤ 9800; lia, rfl, rfl⟩
 refine wpAny_call (codeAny_mono (ora_ok G (all_ok w) N 873 _ _ callerA s₁ _ _ _ room st rp plain) fun r s' hr => ?_)
 obtain ⟨v, d, σ', B', rfl, h1, h2, h3⟩ := hr
 subst h1
 cases h2
 exact k s' (fun b o e => h3.st.fz b o (h3.ext.le b o e)) h3.gens h3.os
end Mine
theorem PySem.Challenge.cw_nt0117_01_holds : PySem.Challenge.rw_nt0117_01.Holds := by
 refine holds_law Mine.said_pm fun said => ?_
 refine holds_open (q := Mine.qm) (loose := Mine.lo) (Xt := Mine.xm) (XP := XL Mine.qm []) (Yf := Mine.kh.obs) (Ya := Mine.kh.val) (YP := Mine.kh.says) (N := 8000) Mine.left_pm Mine.kh.of Mine.kh.keeps (fun s e => xl_of s (Bool.and_eq_true_iff.mp e).1) XL.keeps (by rfl) (by rfl) (by rfl) (fun s e => recFacts_of (Bool.and_eq_true_iff.mp e).2) (by rfl) (by first | assumption | decide +kernel) (by decide +kernel) ⟨rfl, rfl, rfl, rfl, rfl, by decide +kernel⟩ ?hw ?hc
 case hw => w_witness2
 case hc =>
  intro w s₀ s₁ mg mb G Y fa o pmv cd doc dV kV ho hd hcd hD hmg hg args vals as hpre hlay hrd hwl hlo
  have KX := kIn_of Y
  refine Ground.open G ?_
  intro T B D TE TW
  wrow_args hpre hlay hrd hwl hlo
  rename s₁.heap.IsList _ _ => hL
  rename IntsAre _ _ => hI
  rename ¬ _ => hn
  refine Mine.join_law (N := 80) (by decide) (Mine.plain _ (by lia)) KX T hmg hL hI fun s' hk hgs hos => ?_
  refine ⟨.inl ⟨_, _, [], rfl, fun _ => rfl, ReadsW.bool true, by wrow_post, fun _ => ⟨List.nodup_nil, fun _ hm => (nomatch hm)⟩⟩, .of_keep hk, hos, .of_eq (hgs.trans hg)⟩
