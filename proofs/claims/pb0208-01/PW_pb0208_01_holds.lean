import PyProof.Rows.All
import Wide.All
import OpenK.AllK
import Wide.FinOn
import PySem.Challenge.RW_pb0208_01
open PySem PySem.W PyProof.Rows PySem.Calls
set_option Elab.async false
set_option linter.unusedVariables false
set_option compiler.extract_closed false
set_option genInjectivity false
set_option genSizeOf false
set_option genSizeOfSpec false
set_option maxRecDepth 100000
set_option maxHeartbeats 8000000
namespace Mine
/-! the head: the top run once by the kernel, over a tree of objects -/
noncomputable def topRunG (ok : Thread → Bool) (st : SharedT → Thread → Option (SharedT × Thread)) : Nat → SharedT → Thread → Option SharedT
  | 0, _, _ => none
  | n + 1, s, t => match through t with
    | true => some s
    | false => match ok t with
      | false => none
      | true => match st s t with
        | some (s', t') => topRunG ok st n s' t'
        | none => none
theorem topRunG_of {tb : String → Option Builtin} {p : Program} {w : World} {n₀ : Nat} {ann : Option Value} : ∀ {n : Nat} {s s' : SharedT} {t : Thread}, topRunG (stepOk n₀ ann) (stepT (denote tb) p w) n s t = some s' → topRun tb p w n₀ ann n s.abs t = some s'.abs
  | 0, _, _, _, h => by cases h
  | n + 1, s, s', t, h => by
    unfold topRunG at h
    unfold topRun
    cases h1 : through t with
    | true => rw [h1] at h; cases h; rfl
    | false =>
      rw [h1] at h
      cases h2 : stepOk n₀ ann t with
      | false => rw [h2] at h; cases h
      | true =>
        rw [h2] at h
        cases h3 : stepT (denote tb) p w s t with
        | none => rw [h3] at h; cases h
        | some x =>
          obtain ⟨s₂, t₂⟩ := x
          rw [h3] at h
          show (match step (denote tb) p w s.abs t with | .go s' t' => topRun tb p w n₀ ann n s' t' | .halt _ _ => none) = _
          rw [stepT_spec h3]
          exact topRunG_of h
theorem left_tree {p q : Program} {loose : List Str} {Xt : Shared → Bool} {α : Type} {Yf : Shared → α} {Ya : World → α} {N M k : Nat} {H₀ : Params → Heap} {gs₀ : Array GenState} {d₀ : Drawn} {k₀ m₀ : Nat} {S : World → OsState → SharedT}
    (op : ∀ w : World, (fencedOpening treeTable p w N).map (fun s => (s.heap, s.gens, s.drawn, s.toks)) = some (H₀ w.params, gs₀, d₀, k₀))
    (size : ∀ w : World, ((H₀ w.params).isNs mainGlobals && gs₀.size == 0, (H₀ w.params).objs.size) = (true, m₀)) (hS : ∀ (w : World) (os : OsState), (S w os).abs = ⟨H₀ w.params, gs₀, d₀, k₀, os⟩)
    (seen : ∀ (w : World) (os : OsState), ∃ s, topRunG (stepOk m₀ ((H₀ w.params).nsMap mainGlobals "__annotations__")) (stepT (denote treeTable) p w) M (S w os) (topStub p) = some s ∧ (staticsOk (importedModules p.main.body) (H₀ w.params) s.abs.heap && namesBound p s.abs.heap && gensDone s.abs && laidKept (H₀ w.params) s.abs.heap) = true ∧ openSeen q loose (importedModules p.main.body) Xt true s.abs = openGood q loose ∧ Yf s.abs = Ya w)
    (hN : M + k = N) : LeftO p q loose Xt Yf Ya N := fun w => by
  obtain ⟨⟨h, gs, d, k', os⟩, e, e'⟩ := Option.map_eq_some_iff.mp (op w)
  obtain ⟨rfl, rfl, rfl, rfl⟩ : h = H₀ w.params ∧ gs = gs₀ ∧ d = d₀ ∧ k' = k₀ := by simpa using e'
  obtain ⟨s1, r1, l1, l2, l3⟩ := seen w os
  have r3 := topRun_mono k _ _ _ _ (topRunG_of r1)
  rw [hS, hN] at r3
  obtain ⟨z1, z2⟩ : _ ∧ _ := by simpa only [Prod.mk.injEq] using size w
  have t : topFrom treeTable p w N ⟨H₀ w.params, gs, d, k', os⟩ = some s1.abs := by
    unfold topFrom
    dsimp only
    rw [z1, z2]
    dsimp only
    rw [r3]
    show (match (staticsOk (importedModules p.main.body) (H₀ w.params) s1.abs.heap && namesBound p s1.abs.heap && gensDone s1.abs && laidKept (H₀ w.params) s1.abs.heap) with | true => _ | false => _) = _
    rw [l1]
  unfold openEnds
  rw [e]
  show (topFrom treeTable p w N _).map _ = _
  rw [t]
  exact congrArg some (Prod.ext l2 l3)
noncomputable abbrev thePr : Program := PySem.Challenge.pw_pb0208_01
noncomputable def stmtAt (i : Nat) : Stmt := thePr.main.body.getD i default
noncomputable def stmtIn (i j : Nat) : Stmt := match stmtAt i with
  | .ClassDef _ _ _ b _ _ _ _ _ _ _ => b.getD j default
  | s => s
noncomputable def fnObj (st : Stmt) (qual : Str) (dV kV doc pm : Value) (an : Option Addr) (cdv ct : Value) : Obj := match st with
  | .FunctionDef name params body _ _ _ scope _ _ _ => ⟨.type "function", none, .func (fnOf name qual params body scope dV kV doc pm an cdv ct), #[]⟩
  | _ => ⟨.none, none, .plain, #[]⟩
noncomputable def treeOf (l : List Obj) : BT := (l.foldl (fun (x : BT × Nat) o => (x.1.ins x.2 o, x.2 + 1)) (.nil, 0)).1
noncomputable def bootT (P : Params) : BT := treeOf (boot_heap P).objs.toList
noncomputable def hd.heap_39 (P : Params) : Frag :=
  (nat_lit 2, ⟨.none, none, .dict #[] 0, #[]⟩) ::
  (nat_lit 3, ⟨.type "dict", none, .dict #[⟨PyData.keyHash P "__name__", .str "__name__" 165, .str "law_pb0208_01" 1361⟩, ⟨PyData.keyHash P "__doc__", .str "__doc__" 166, .none⟩, ⟨PyData.keyHash P "__package__", .str "__package__" 167, .none⟩, ⟨PyData.keyHash P "__loader__", .str "__loader__" 168, .builtin "__main__.__loader__#opaque"⟩, ⟨PyData.keyHash P "__spec__", .str "__spec__" 169, .none⟩, ⟨PyData.keyHash P "__annotations__", .str "__annotations__" 170, .ref 6⟩, ⟨PyData.keyHash P "__builtins__", .str "__builtins__" 171, .ref 4⟩, ⟨PyData.keyHash P "__file__", .str "__file__" 173, .str "/claim/cut.py" 172⟩, ⟨PyData.keyHash P "__cached__", .str "__cached__" 174, .none⟩, ⟨PyData.keyHash P "_wall", .str "_wall" 193, .ref 21⟩, ⟨PyData.keyHash P "RIGHT_TO_LEFT", .str "RIGHT_TO_LEFT" 197, .int 1 196⟩, ⟨PyData.keyHash P "IGNORE_BASES", .str "IGNORE_BASES" 199, .int 2 198⟩, ⟨PyData.keyHash P "IGNORE_LIGATURES", .str "IGNORE_LIGATURES" 201, .int 4 200⟩, ⟨PyData.keyHash P "IGNORE_MARKS", .str "IGNORE_MARKS" 203, .int 8 202⟩, ⟨PyData.keyHash P "USE_SET", .str "USE_SET" 205, .int 16 204⟩, ⟨PyData.keyHash P "Lookup", .str "Lookup" 246, .ref 43⟩, ⟨PyData.keyHash P "Scene", .str "Scene" 287, .ref 65⟩, ⟨PyData.keyHash P "attach_wanted", .str "attach_wanted" 294, .ref 76⟩, ⟨PyData.keyHash P "class_bit", .str "class_bit" 301, .ref 83⟩, ⟨PyData.keyHash P "is_ignored", .str "is_ignored" 312, .ref 90⟩, ⟨PyData.keyHash P "passes", .str "passes" 320, .ref 97⟩, ⟨PyData.keyHash P "nested_scene", .str "nested_scene" 329, .ref 104⟩, ⟨PyData.keyHash P "Info", .str "Info" 392, .ref 135⟩, ⟨PyData.keyHash P "Buffer", .str "Buffer" 458, .ref 188⟩, ⟨PyData.keyHash P "hang", .str "hang" 464, .ref 197⟩, ⟨PyData.keyHash P "KINDS_IN_INPUT", .str "KINDS_IN_INPUT" 469, .ref 198⟩, ⟨PyData.keyHash P "KINDS_AROUND", .str "KINDS_AROUND" 473, .ref 199⟩, ⟨PyData.keyHash P "fits", .str "fits" 481, .ref 206⟩, ⟨PyData.keyHash P "neighbour", .str "neighbour" 491, .ref 213⟩, ⟨PyData.keyHash P "next_at", .str "next_at" 499, .ref 220⟩, ⟨PyData.keyHash P "before_at", .str "before_at" 507, .ref 227⟩, ⟨PyData.keyHash P "is_borne", .str "is_borne" 515, .ref 234⟩, ⟨PyData.keyHash P "found_at", .str "found_at" 529, .ref 241⟩, ⟨PyData.keyHash P "input_at", .str "input_at" 541, .ref 248⟩, ⟨PyData.keyHash P "last_at", .str "last_at" 553, .ref 255⟩, ⟨PyData.keyHash P "ahead_at", .str "ahead_at" 562, .ref 262⟩, ⟨PyData.keyHash P "back_at", .str "back_at" 571, .ref 269⟩, ⟨PyData.keyHash P "BOND", .str "BOND" 575, .str "cursive" 574⟩, ⟨PyData.keyHash P "join_forward", .str "join_forward" 586, .ref 276⟩, ⟨PyData.keyHash P "join_backward", .str "join_backward" 597, .ref 283⟩, ⟨PyData.keyHash P "loosen", .str "loosen" 604, .ref 290⟩, ⟨PyData.keyHash P "turn_chain", .str "turn_chain" 618, .ref 297⟩, ⟨PyData.keyHash P "break_ring", .str "break_ring" 629, .ref 304⟩, ⟨PyData.keyHash P "tie", .str "tie" 639, .ref 311⟩, ⟨PyData.keyHash P "apply_cursive", .str "apply_cursive" 652, .ref 318⟩, ⟨PyData.keyHash P "difference", .str "difference" 662, .ref 325⟩, ⟨PyData.keyHash P "MARK_GLYPH", .str "MARK_GLYPH" 666, .int 3 665⟩, ⟨PyData.keyHash P "scene_with", .str "scene_with" 676, .ref 332⟩, ⟨PyData.keyHash P "is_mark_at", .str "is_mark_at" 684, .ref 339⟩, ⟨PyData.keyHash P "is_later_part", .str "is_later_part" 694, .ref 346⟩, ⟨PyData.keyHash P "base_ahead", .str "base_ahead" 704, .ref 353⟩, ⟨PyData.keyHash P "set_on", .str "set_on" 719, .ref 360⟩, ⟨PyData.keyHash P "apply_base", .str "apply_base" 729, .ref 367⟩, ⟨PyData.keyHash P "component_of", .str "component_of" 738, .ref 374⟩, ⟨PyData.keyHash P "apply_component", .str "apply_component" 750, .ref 381⟩, ⟨PyData.keyHash P "are_of_one", .str "are_of_one" 758, .ref 388⟩, ⟨PyData.keyHash P "apply_mark", .str "apply_mark" 770, .ref 395⟩, ⟨PyData.keyHash P "BY_GLYPHS", .str "BY_GLYPHS" 774, .int 1 773⟩, ⟨PyData.keyHash P "BY_CLASSES", .str "BY_CLASSES" 776, .int 2 775⟩, ⟨PyData.keyHash P "tests_of", .str "tests_of" 782, .ref 400⟩, ⟨PyData.keyHash P "rule_tests", .str "rule_tests" 794, .ref 407⟩, ⟨PyData.keyHash P "rules_at", .str "rules_at" 800, .ref 412⟩, ⟨PyData.keyHash P "MOST_DEPTH", .str "MOST_DEPTH" 804, .int 6 803⟩, ⟨PyData.keyHash P "MOST_PLACES", .str "MOST_PLACES" 806, .int 64 805⟩, ⟨PyData.keyHash P "MOST_ACTIONS", .str "MOST_ACTIONS" 808, .int 256 807⟩, ⟨PyData.keyHash P "Places", .str "Places" 839, .ref 429⟩, ⟨PyData.keyHash P "match_rule", .str "match_rule" 855, .ref 440⟩, ⟨PyData.keyHash P "inner_scene", .str "inner_scene" 863, .ref 447⟩, ⟨PyData.keyHash P "grow", .str "grow" 869, .ref 452⟩, ⟨PyData.keyHash P "shrink", .str "shrink" 875, .ref 457⟩, ⟨PyData.keyHash P "move", .str "move" 884, .ref 464⟩, ⟨PyData.keyHash P "do_action", .str "do_action" 899, .ref 471⟩, ⟨PyData.keyHash P "do_actions", .str "do_actions" 910, .ref 478⟩, ⟨PyData.keyHash P "apply_context", .str "apply_context" 922, .ref 485⟩, ⟨PyData.keyHash P "Value", .str "Value" 973, .ref 516⟩, ⟨PyData.keyHash P "add_value", .str "add_value" 982, .ref 527⟩, ⟨PyData.keyHash P "Adjust", .str "Adjust" 1017, .ref 549⟩, ⟨PyData.keyHash P "apply_adjust", .str "apply_adjust" 1028, .ref 560⟩, ⟨PyData.keyHash P "pair_told", .str "pair_told" 1037, .ref 567⟩, ⟨PyData.keyHash P "moves_second", .str "moves_second" 1043, .ref 572⟩, ⟨PyData.keyHash P "PairGlyphs", .str "PairGlyphs" 1089, .ref 602⟩, ⟨PyData.keyHash P "PairClasses", .str "PairClasses" 1137, .ref 634⟩, ⟨PyData.keyHash P "has_second", .str "has_second" 1144, .ref 645⟩, ⟨PyData.keyHash P "apply_pair", .str "apply_pair" 1156, .ref 652⟩, ⟨PyData.keyHash P "apply_position", .str "apply_position" 1168, .ref 659⟩, ⟨PyData.keyHash P "position_at", .str "position_at" 1178, .ref 666⟩, ⟨PyData.keyHash P "beginnings_of_context", .str "beginnings_of_context" 1187, .ref 673⟩, ⟨PyData.keyHash P "beginnings_of_pair", .str "beginnings_of_pair" 1193, .ref 678⟩, ⟨PyData.keyHash P "beginnings", .str "beginnings" 1202, .ref 685⟩, ⟨PyData.keyHash P "run_position", .str "run_position" 1221, .ref 692⟩, ⟨PyData.keyHash P "ClassDef", .str "ClassDef" 1283, .ref 735⟩, ⟨PyData.keyHash P "NO_CLASS", .str "NO_CLASS" 1287, .int 0 1286⟩, ⟨PyData.keyHash P "BASE", .str "BASE" 1289, .int 1 1288⟩, ⟨PyData.keyHash P "COMPONENT", .str "COMPONENT" 1291, .int 4 1290⟩, ⟨PyData.keyHash P "Gdef", .str "Gdef" 1360, .ref 783⟩, ⟨PyData.keyHash P "_law_pen", .str "_law_pen" 1368, .ref 792⟩, ⟨PyData.keyHash P "_law_draw", .str "_law_draw" 1381, .ref 799⟩, ⟨PyData.keyHash P "_law_pick", .str "_law_pick" 1389, .ref 806⟩, ⟨PyData.keyHash P "_law_value", .str "_law_value" 1396, .ref 813⟩, ⟨PyData.keyHash P "_law_parted", .str "_law_parted" 1402, .ref 818⟩, ⟨PyData.keyHash P "_law_buffer", .str "_law_buffer" 1408, .ref 823⟩, ⟨PyData.keyHash P "_law_told", .str "_law_told" 1414, .ref 828⟩, ⟨PyData.keyHash P "_law_alike", .str "_law_alike" 1428, .ref 835⟩, ⟨PyData.keyHash P "law", .str "law" 1434, .ref 840⟩] 104, #[]⟩) ::
  (nat_lit 20, ⟨.type "code", none, .fields #[.str "_wall" 187, .str "_wall" 188, .str "/claim/cut.py" 189, .int 1 0, .int 1 0, .int 0 0, .int 0 0, .int 3 0, .ref 15, .bool true, .int 181 0, .ref 16, .none, .ref 17, .ref 18, .ref 19, .int 191 0, .int 1 0, .str "/claim/cut.py" 192], #[]⟩) ::
  (nat_lit 21, fnObj (stmtAt 0) "_wall" (.none) (.none) (.none) (.str "__main__" 164) none (.ref 20) (.none)) ::
  (nat_lit 34, ⟨.type "code", none, .fields #[.str "__init__" 218, .str "Lookup.__init__" 219, .str "/claim/cut.py" 220, .int 12 0, .int 5 0, .int 0 0, .int 0 0, .int 3 0, .ref 29, .bool true, .int 181 0, .ref 30, .none, .ref 31, .ref 32, .ref 33, .int 226 0, .int 12 0, .str "/claim/cut.py" 227], #[]⟩) ::
  (nat_lit 35, fnObj (stmtIn 7 0) "Lookup.__init__" (.none) (.none) (.none) (.str "joinedhand.flags" 194) none (.ref 34) (.none)) ::
  (nat_lit 39, ⟨.type "code", none, .fields #[.str "told" 229, .str "Lookup.told" 230, .str "/claim/cut.py" 231, .int 18 0, .int 1 0, .int 0 0, .int 0 0, .int 3 0, .ref 36, .bool true, .int 181 0, .ref 37, .none, .none, .none, .ref 38, .int 232 0, .int 18 0, .str "/claim/cut.py" 233], #[]⟩) ::
  (nat_lit 40, fnObj (stmtIn 7 1) "Lookup.told" (.none) (.none) (.none) (.str "joinedhand.flags" 194) none (.ref 39) (.none)) ::
  (nat_lit 42, ⟨.type "dict", none, .dict #[⟨PyData.keyHash P "__module__", .str "__module__" 213, .str "joinedhand.flags" 194⟩, ⟨PyData.keyHash P "__firstlineno__", .str "__firstlineno__" 217, .int 10 216⟩, ⟨PyData.keyHash P "__init__", .str "__init__" 228, .ref 35⟩, ⟨PyData.keyHash P "told", .str "told" 234, .ref 40⟩, ⟨PyData.keyHash P "__static_attributes__", .str "__static_attributes__" 239, .ref 41⟩, ⟨PyData.keyHash P "__dict__", .str "__dict__" 241, .ref 44⟩, ⟨PyData.keyHash P "__weakref__", .str "__weakref__" 243, .ref 45⟩, ⟨PyData.keyHash P "__doc__", .str "__doc__" 244, .none⟩] 4, #[]⟩) ::
  (nat_lit 43, ⟨.type "type", none, .cls ⟨"Lookup", [.type "object"], [.ref 43, .type "object"], 42, "Lookup", true, [], [], false, none, false⟩, #[none, none, some (.str "Lookup" 206), some (.str "Lookup" 214), some (.builtin "object.__new__"), some (.bool true)]⟩) ::
  (nat_lit 44, ⟨.type "getset_descriptor", none, .fields #[.str "__dict__" 240, .ref 43, .builtin "function.__dict__", .builtin "function.__dict__#set"], #[]⟩) ::
  (nat_lit 45, ⟨.type "getset_descriptor", none, .fields #[.str "__weakref__" 242, .ref 43, .builtin "ExceptionGroup.__weakref__", .none], #[]⟩) ::
  (nat_lit 55, ⟨.type "tuple", none, .seq #[.int 0 259] 0, #[]⟩) ::
  (nat_lit 61, ⟨.type "code", none, .fields #[.str "__init__" 260, .str "Scene.__init__" 261, .str "/claim/cut.py" 262, .int 23 0, .int 7 0, .int 0 0, .int 0 0, .int 3 0, .ref 56, .bool true, .int 181 0, .ref 57, .none, .ref 58, .ref 59, .ref 60, .int 270 0, .int 23 0, .str "/claim/cut.py" 271], #[]⟩) ::
  (nat_lit 62, fnObj (stmtIn 8 0) "Scene.__init__" (.ref 55) (.none) (.none) (.str "joinedhand.flags" 194) none (.ref 61) (.none)) ::
  (nat_lit 64, ⟨.type "dict", none, .dict #[⟨PyData.keyHash P "__module__", .str "__module__" 254, .str "joinedhand.flags" 194⟩, ⟨PyData.keyHash P "__firstlineno__", .str "__firstlineno__" 258, .int 21 257⟩, ⟨PyData.keyHash P "__init__", .str "__init__" 272, .ref 62⟩, ⟨PyData.keyHash P "__static_attributes__", .str "__static_attributes__" 280, .ref 63⟩, ⟨PyData.keyHash P "__dict__", .str "__dict__" 282, .ref 66⟩, ⟨PyData.keyHash P "__weakref__", .str "__weakref__" 284, .ref 67⟩, ⟨PyData.keyHash P "__doc__", .str "__doc__" 285, .none⟩] 4, #[]⟩) ::
  (nat_lit 65, ⟨.type "type", none, .cls ⟨"Scene", [.type "object"], [.ref 65, .type "object"], 64, "Scene", true, [], [], false, none, false⟩, #[none, none, some (.str "Scene" 247), some (.str "Scene" 255), some (.builtin "object.__new__"), some (.bool true)]⟩) ::
  (nat_lit 66, ⟨.type "getset_descriptor", none, .fields #[.str "__dict__" 281, .ref 65, .builtin "function.__dict__", .builtin "function.__dict__#set"], #[]⟩) ::
  (nat_lit 67, ⟨.type "getset_descriptor", none, .fields #[.str "__weakref__" 283, .ref 65, .builtin "ExceptionGroup.__weakref__", .none], #[]⟩) ::
  (nat_lit 75, ⟨.type "code", none, .fields #[.str "attach_wanted" 288, .str "attach_wanted" 289, .str "/claim/cut.py" 290, .int 31 0, .int 1 0, .int 0 0, .int 0 0, .int 3 0, .ref 70, .bool true, .int 181 0, .ref 71, .none, .ref 72, .ref 73, .ref 74, .int 292 0, .int 31 0, .str "/claim/cut.py" 293], #[]⟩) ::
  (nat_lit 76, fnObj (stmtAt 9) "attach_wanted" (.none) (.none) (.none) (.str "joinedhand.flags" 194) none (.ref 75) (.none)) ::
  (nat_lit 82, ⟨.type "code", none, .fields #[.str "class_bit" 295, .str "class_bit" 296, .str "/claim/cut.py" 297, .int 33 0, .int 1 0, .int 0 0, .int 0 0, .int 3 0, .ref 77, .bool true, .int 181 0, .ref 78, .none, .ref 79, .ref 80, .ref 81, .int 299 0, .int 33 0, .str "/claim/cut.py" 300], #[]⟩) ::
  (nat_lit 83, fnObj (stmtAt 10) "class_bit" (.none) (.none) (.none) (.str "joinedhand.flags" 194) none (.ref 82) (.none)) ::
  (nat_lit 89, ⟨.type "code", none, .fields #[.str "is_ignored" 302, .str "is_ignored" 303, .str "/claim/cut.py" 304, .int 35 0, .int 3 0, .int 0 0, .int 0 0, .int 3 0, .ref 84, .bool true, .int 181 0, .ref 85, .none, .ref 86, .ref 87, .ref 88, .int 310 0, .int 35 0, .str "/claim/cut.py" 311], #[]⟩) ::
  (nat_lit 90, fnObj (stmtAt 11) "is_ignored" (.none) (.none) (.none) (.str "joinedhand.flags" 194) none (.ref 89) (.none)) ::
  (nat_lit 96, ⟨.type "code", none, .fields #[.str "passes" 313, .str "passes" 314, .str "/claim/cut.py" 315, .int 45 0, .int 2 0, .int 0 0, .int 0 0, .int 3 0, .ref 91, .bool true, .int 181 0, .ref 92, .none, .ref 93, .ref 94, .ref 95, .int 318 0, .int 45 0, .str "/claim/cut.py" 319], #[]⟩) ::
  (nat_lit 97, fnObj (stmtAt 12) "passes" (.none) (.none) (.none) (.str "joinedhand.flags" 194) none (.ref 96) (.none)) ::
  (nat_lit 103, ⟨.type "code", none, .fields #[.str "nested_scene" 321, .str "nested_scene" 322, .str "/claim/cut.py" 323, .int 47 0, .int 2 0, .int 0 0, .int 0 0, .int 3 0, .ref 98, .bool true, .int 181 0, .ref 99, .none, .ref 100, .ref 101, .ref 102, .int 327 0, .int 47 0, .str "/claim/cut.py" 328], #[]⟩) ::
  (nat_lit 104, fnObj (stmtAt 13) "nested_scene" (.none) (.none) (.none) (.str "joinedhand.flags" 194) none (.ref 103) (.none)) ::
  (nat_lit 117, ⟨.type "code", none, .fields #[.str "__init__" 344, .str "Info.__init__" 345, .str "/claim/cut.py" 346, .int 56 0, .int 4 0, .int 0 0, .int 0 0, .int 3 0, .ref 112, .bool true, .int 181 0, .ref 113, .none, .ref 114, .ref 115, .ref 116, .int 351 0, .int 56 0, .str "/claim/cut.py" 352], #[]⟩) ::
  (nat_lit 118, fnObj (stmtIn 15 0) "Info.__init__" (.none) (.none) (.none) (.str "joinedhand.buffer" 330) none (.ref 117) (.none)) ::
  (nat_lit 124, ⟨.type "code", none, .fields #[.str "copied" 354, .str "Info.copied" 355, .str "/claim/cut.py" 356, .int 74 0, .int 1 0, .int 0 0, .int 0 0, .int 3 0, .ref 119, .bool true, .int 181 0, .ref 120, .none, .ref 121, .ref 122, .ref 123, .int 359 0, .int 74 0, .str "/claim/cut.py" 360], #[]⟩) ::
  (nat_lit 125, fnObj (stmtIn 15 1) "Info.copied" (.none) (.none) (.none) (.str "joinedhand.buffer" 330) none (.ref 124) (.none)) ::
  (nat_lit 131, ⟨.type "code", none, .fields #[.str "told" 362, .str "Info.told" 363, .str "/claim/cut.py" 364, .int 91 0, .int 1 0, .int 0 0, .int 0 0, .int 3 0, .ref 126, .bool true, .int 181 0, .ref 127, .none, .ref 128, .ref 129, .ref 130, .int 366 0, .int 91 0, .str "/claim/cut.py" 367], #[]⟩) ::
  (nat_lit 132, fnObj (stmtIn 15 2) "Info.told" (.none) (.none) (.none) (.str "joinedhand.buffer" 330) none (.ref 131) (.none)) ::
  (nat_lit 134, ⟨.type "dict", none, .dict #[⟨PyData.keyHash P "__module__", .str "__module__" 339, .str "joinedhand.buffer" 330⟩, ⟨PyData.keyHash P "__firstlineno__", .str "__firstlineno__" 343, .int 54 342⟩, ⟨PyData.keyHash P "__init__", .str "__init__" 353, .ref 118⟩, ⟨PyData.keyHash P "copied", .str "copied" 361, .ref 125⟩, ⟨PyData.keyHash P "told", .str "told" 368, .ref 132⟩, ⟨PyData.keyHash P "__static_attributes__", .str "__static_attributes__" 385, .ref 133⟩, ⟨PyData.keyHash P "__dict__", .str "__dict__" 387, .ref 136⟩, ⟨PyData.keyHash P "__weakref__", .str "__weakref__" 389, .ref 137⟩, ⟨PyData.keyHash P "__doc__", .str "__doc__" 390, .none⟩] 4, #[]⟩) ::
  (nat_lit 135, ⟨.type "type", none, .cls ⟨"Info", [.type "object"], [.ref 135, .type "object"], 134, "Info", true, [], [], false, none, false⟩, #[none, none, some (.str "Info" 332), some (.str "Info" 340), some (.builtin "object.__new__"), some (.bool true)]⟩) ::
  (nat_lit 136, ⟨.type "getset_descriptor", none, .fields #[.str "__dict__" 386, .ref 135, .builtin "function.__dict__", .builtin "function.__dict__#set"], #[]⟩) ::
  (nat_lit 137, ⟨.type "getset_descriptor", none, .fields #[.str "__weakref__" 388, .ref 135, .builtin "ExceptionGroup.__weakref__", .none], #[]⟩) ::
  (nat_lit 147, ⟨.type "tuple", none, .seq #[.bool false] 0, #[]⟩) ::
  (nat_lit 153, ⟨.type "code", none, .fields #[.str "__init__" 405, .str "Buffer.__init__" 406, .str "/claim/cut.py" 407, .int 95 0, .int 3 0, .int 0 0, .int 0 0, .int 3 0, .ref 148, .bool true, .int 181 0, .ref 149, .none, .ref 150, .ref 151, .ref 152, .int 411 0, .int 95 0, .str "/claim/cut.py" 412], #[]⟩) ::
  (nat_lit 154, fnObj (stmtIn 16 0) "Buffer.__init__" (.ref 147) (.none) (.none) (.str "joinedhand.buffer" 330) none (.ref 153) (.none)) ::
  (nat_lit 158, ⟨.type "code", none, .fields #[.str "glyphs" 414, .str "Buffer.glyphs" 415, .str "/claim/cut.py" 416, .int 101 0, .int 1 0, .int 0 0, .int 0 0, .int 3 0, .ref 155, .bool true, .int 181 0, .ref 156, .none, .none, .none, .ref 157, .int 417 0, .int 101 0, .str "/claim/cut.py" 418], #[]⟩) ::
  (nat_lit 159, fnObj (stmtIn 16 1) "Buffer.glyphs" (.none) (.none) (.none) (.str "joinedhand.buffer" 330) none (.ref 158) (.none)) ::
  (nat_lit 165, ⟨.type "code", none, .fields #[.str "clusters" 420, .str "Buffer.clusters" 421, .str "/claim/cut.py" 422, .int 104 0, .int 1 0, .int 0 0, .int 0 0, .int 3 0, .ref 160, .bool true, .int 181 0, .ref 161, .none, .ref 162, .ref 163, .ref 164, .int 424 0, .int 104 0, .str "/claim/cut.py" 425], #[]⟩) ::
  (nat_lit 166, fnObj (stmtIn 16 2) "Buffer.clusters" (.none) (.none) (.none) (.str "joinedhand.buffer" 330) none (.ref 165) (.none)) ::
  (nat_lit 170, ⟨.type "code", none, .fields #[.str "told" 427, .str "Buffer.told" 428, .str "/claim/cut.py" 429, .int 107 0, .int 1 0, .int 0 0, .int 0 0, .int 3 0, .ref 167, .bool true, .int 181 0, .ref 168, .none, .none, .none, .ref 169, .int 430 0, .int 107 0, .str "/claim/cut.py" 431], #[]⟩) ::
  (nat_lit 171, fnObj (stmtIn 16 3) "Buffer.told" (.none) (.none) (.none) (.str "joinedhand.buffer" 330) none (.ref 170) (.none)) ::
  (nat_lit 177, ⟨.type "code", none, .fields #[.str "next_lig" 433, .str "Buffer.next_lig" 434, .str "/claim/cut.py" 435, .int 110 0, .int 1 0, .int 0 0, .int 0 0, .int 3 0, .ref 172, .bool true, .int 181 0, .ref 173, .none, .ref 174, .ref 175, .ref 176, .int 437 0, .int 110 0, .str "/claim/cut.py" 438], #[]⟩) ::
  (nat_lit 178, fnObj (stmtIn 16 4) "Buffer.next_lig" (.none) (.none) (.none) (.str "joinedhand.buffer" 330) none (.ref 177) (.none)) ::
  (nat_lit 184, ⟨.type "code", none, .fields #[.str "next_split" 440, .str "Buffer.next_split" 441, .str "/claim/cut.py" 442, .int 113 0, .int 1 0, .int 0 0, .int 0 0, .int 3 0, .ref 179, .bool true, .int 181 0, .ref 180, .none, .ref 181, .ref 182, .ref 183, .int 444 0, .int 113 0, .str "/claim/cut.py" 445], #[]⟩) ::
  (nat_lit 185, fnObj (stmtIn 16 5) "Buffer.next_split" (.none) (.none) (.none) (.str "joinedhand.buffer" 330) none (.ref 184) (.none)) ::
  (nat_lit 187, ⟨.type "dict", none, .dict #[⟨PyData.keyHash P "__module__", .str "__module__" 400, .str "joinedhand.buffer" 330⟩, ⟨PyData.keyHash P "__firstlineno__", .str "__firstlineno__" 404, .int 93 403⟩, ⟨PyData.keyHash P "__init__", .str "__init__" 413, .ref 154⟩, ⟨PyData.keyHash P "glyphs", .str "glyphs" 419, .ref 159⟩, ⟨PyData.keyHash P "clusters", .str "clusters" 426, .ref 166⟩, ⟨PyData.keyHash P "told", .str "told" 432, .ref 171⟩, ⟨PyData.keyHash P "next_lig", .str "next_lig" 439, .ref 178⟩, ⟨PyData.keyHash P "next_split", .str "next_split" 446, .ref 185⟩, ⟨PyData.keyHash P "__static_attributes__", .str "__static_attributes__" 451, .ref 186⟩, ⟨PyData.keyHash P "__dict__", .str "__dict__" 453, .ref 189⟩, ⟨PyData.keyHash P "__weakref__", .str "__weakref__" 455, .ref 190⟩, ⟨PyData.keyHash P "__doc__", .str "__doc__" 456, .none⟩] 4, #[]⟩) ::
  (nat_lit 188, ⟨.type "type", none, .cls ⟨"Buffer", [.type "object"], [.ref 188, .type "object"], 187, "Buffer", true, [], [], false, none, false⟩, #[none, none, some (.str "Buffer" 393), some (.str "Buffer" 401), some (.builtin "object.__new__"), some (.bool true)]⟩) ::
  (nat_lit 189, ⟨.type "getset_descriptor", none, .fields #[.str "__dict__" 452, .ref 188, .builtin "function.__dict__", .builtin "function.__dict__#set"], #[]⟩) ::
  (nat_lit 190, ⟨.type "getset_descriptor", none, .fields #[.str "__weakref__" 454, .ref 188, .builtin "ExceptionGroup.__weakref__", .none], #[]⟩) ::
  (nat_lit 196, ⟨.type "code", none, .fields #[.str "hang" 459, .str "hang" 460, .str "/claim/cut.py" 461, .int 115 0, .int 3 0, .int 0 0, .int 0 0, .int 3 0, .ref 193, .bool true, .int 181 0, .ref 194, .none, .none, .none, .ref 195, .int 462 0, .int 115 0, .str "/claim/cut.py" 463], #[]⟩) ::
  (nat_lit 197, fnObj (stmtAt 17) "hang" (.none) (.none) (.none) (.str "joinedhand.buffer" 330) none (.ref 196) (.none)) ::
  (nat_lit 198, ⟨.type "tuple", none, .seq #[.str "zwj" 467, .str "hidden" 468] 0, #[]⟩) ::
  (nat_lit 199, ⟨.type "tuple", none, .seq #[.str "zwj" 470, .str "zwnj" 471, .str "hidden" 472] 0, #[]⟩) ::
  (nat_lit 205, ⟨.type "code", none, .fields #[.str "fits" 474, .str "fits" 475, .str "/claim/cut.py" 476, .int 126 0, .int 2 0, .int 0 0, .int 0 0, .int 3 0, .ref 200, .bool true, .int 181 0, .ref 201, .none, .ref 202, .ref 203, .ref 204, .int 479 0, .int 126 0, .str "/claim/cut.py" 480], #[]⟩) ::
  (nat_lit 206, fnObj (stmtAt 21) "fits" (.none) (.none) (.none) (.str "joinedhand.matching" 465) none (.ref 205) (.none)) ::
  (nat_lit 212, ⟨.type "code", none, .fields #[.str "neighbour" 482, .str "neighbour" 483, .str "/claim/cut.py" 484, .int 132 0, .int 3 0, .int 0 0, .int 0 0, .int 3 0, .ref 207, .bool true, .int 181 0, .ref 208, .none, .ref 209, .ref 210, .ref 211, .int 489 0, .int 132 0, .str "/claim/cut.py" 490], #[]⟩) ::
  (nat_lit 213, fnObj (stmtAt 22) "neighbour" (.none) (.none) (.none) (.str "joinedhand.matching" 465) none (.ref 212) (.none)) ::
  (nat_lit 219, ⟨.type "code", none, .fields #[.str "next_at" 492, .str "next_at" 493, .str "/claim/cut.py" 494, .int 139 0, .int 2 0, .int 0 0, .int 0 0, .int 3 0, .ref 214, .bool true, .int 181 0, .ref 215, .none, .ref 216, .ref 217, .ref 218, .int 497 0, .int 139 0, .str "/claim/cut.py" 498], #[]⟩) ::
  (nat_lit 220, fnObj (stmtAt 23) "next_at" (.none) (.none) (.none) (.str "joinedhand.matching" 465) none (.ref 219) (.none)) ::
  (nat_lit 226, ⟨.type "code", none, .fields #[.str "before_at" 500, .str "before_at" 501, .str "/claim/cut.py" 502, .int 141 0, .int 2 0, .int 0 0, .int 0 0, .int 3 0, .ref 221, .bool true, .int 181 0, .ref 222, .none, .ref 223, .ref 224, .ref 225, .int 505 0, .int 141 0, .str "/claim/cut.py" 506], #[]⟩) ::
  (nat_lit 227, fnObj (stmtAt 24) "before_at" (.none) (.none) (.none) (.str "joinedhand.matching" 465) none (.ref 226) (.none)) ::
  (nat_lit 233, ⟨.type "code", none, .fields #[.str "is_borne" 508, .str "is_borne" 509, .str "/claim/cut.py" 510, .int 143 0, .int 2 0, .int 0 0, .int 0 0, .int 3 0, .ref 228, .bool true, .int 181 0, .ref 229, .none, .ref 230, .ref 231, .ref 232, .int 513 0, .int 143 0, .str "/claim/cut.py" 514], #[]⟩) ::
  (nat_lit 234, fnObj (stmtAt 25) "is_borne" (.none) (.none) (.none) (.str "joinedhand.matching" 465) none (.ref 233) (.none)) ::
  (nat_lit 240, ⟨.type "code", none, .fields #[.str "found_at" 516, .str "found_at" 517, .str "/claim/cut.py" 518, .int 145 0, .int 6 0, .int 0 0, .int 0 0, .int 3 0, .ref 235, .bool true, .int 181 0, .ref 236, .none, .ref 237, .ref 238, .ref 239, .int 527 0, .int 145 0, .str "/claim/cut.py" 528], #[]⟩) ::
  (nat_lit 241, fnObj (stmtAt 26) "found_at" (.none) (.none) (.none) (.str "joinedhand.matching" 465) none (.ref 240) (.none)) ::
  (nat_lit 247, ⟨.type "code", none, .fields #[.str "input_at" 530, .str "input_at" 531, .str "/claim/cut.py" 532, .int 156 0, .int 3 0, .int 0 0, .int 0 0, .int 3 0, .ref 242, .bool true, .int 181 0, .ref 243, .none, .ref 244, .ref 245, .ref 246, .int 539 0, .int 156 0, .str "/claim/cut.py" 540], #[]⟩) ::
  (nat_lit 248, fnObj (stmtAt 27) "input_at" (.none) (.none) (.none) (.str "joinedhand.matching" 465) none (.ref 247) (.none)) ::
  (nat_lit 254, ⟨.type "code", none, .fields #[.str "last_at" 542, .str "last_at" 543, .str "/claim/cut.py" 544, .int 166 0, .int 4 0, .int 0 0, .int 0 0, .int 3 0, .ref 249, .bool true, .int 181 0, .ref 250, .none, .ref 251, .ref 252, .ref 253, .int 551 0, .int 166 0, .str "/claim/cut.py" 552], #[]⟩) ::
  (nat_lit 255, fnObj (stmtAt 28) "last_at" (.none) (.none) (.none) (.str "joinedhand.matching" 465) none (.ref 254) (.none)) ::
  (nat_lit 261, ⟨.type "code", none, .fields #[.str "ahead_at" 554, .str "ahead_at" 555, .str "/claim/cut.py" 556, .int 173 0, .int 3 0, .int 0 0, .int 0 0, .int 3 0, .ref 256, .bool true, .int 181 0, .ref 257, .none, .ref 258, .ref 259, .ref 260, .int 560 0, .int 173 0, .str "/claim/cut.py" 561], #[]⟩) ::
  (nat_lit 262, fnObj (stmtAt 29) "ahead_at" (.none) (.none) (.none) (.str "joinedhand.matching" 465) none (.ref 261) (.none)) ::
  (nat_lit 268, ⟨.type "code", none, .fields #[.str "back_at" 563, .str "back_at" 564, .str "/claim/cut.py" 565, .int 175 0, .int 3 0, .int 0 0, .int 0 0, .int 3 0, .ref 263, .bool true, .int 181 0, .ref 264, .none, .ref 265, .ref 266, .ref 267, .int 569 0, .int 175 0, .str "/claim/cut.py" 570], #[]⟩) ::
  (nat_lit 269, fnObj (stmtAt 30) "back_at" (.none) (.none) (.none) (.str "joinedhand.matching" 465) none (.ref 268) (.none)) ::
  (nat_lit 275, ⟨.type "code", none, .fields #[.str "join_forward" 576, .str "join_forward" 577, .str "/claim/cut.py" 578, .int 179 0, .int 4 0, .int 0 0, .int 0 0, .int 3 0, .ref 270, .bool true, .int 181 0, .ref 271, .none, .ref 272, .ref 273, .ref 274, .int 584 0, .int 179 0, .str "/claim/cut.py" 585], #[]⟩) ::
  (nat_lit 276, fnObj (stmtAt 33) "join_forward" (.none) (.none) (.none) (.str "joinedhand.cursive" 572) none (.ref 275) (.none)) ::
  (nat_lit 282, ⟨.type "code", none, .fields #[.str "join_backward" 587, .str "join_backward" 588, .str "/claim/cut.py" 589, .int 184 0, .int 4 0, .int 0 0, .int 0 0, .int 3 0, .ref 277, .bool true, .int 181 0, .ref 278, .none, .ref 279, .ref 280, .ref 281, .int 595 0, .int 184 0, .str "/claim/cut.py" 596], #[]⟩) ::
  (nat_lit 283, fnObj (stmtAt 34) "join_backward" (.none) (.none) (.none) (.str "joinedhand.cursive" 572) none (.ref 282) (.none)) ::
  (nat_lit 289, ⟨.type "code", none, .fields #[.str "loosen" 598, .str "loosen" 599, .str "/claim/cut.py" 600, .int 189 0, .int 1 0, .int 0 0, .int 0 0, .int 3 0, .ref 284, .bool true, .int 181 0, .ref 285, .none, .ref 286, .ref 287, .ref 288, .int 602 0, .int 189 0, .str "/claim/cut.py" 603], #[]⟩) ::
  (nat_lit 290, fnObj (stmtAt 35) "loosen" (.none) (.none) (.none) (.str "joinedhand.cursive" 572) none (.ref 289) (.none)) ::
  (nat_lit 296, ⟨.type "code", none, .fields #[.str "turn_chain" 605, .str "turn_chain" 606, .str "/claim/cut.py" 607, .int 192 0, .int 3 0, .int 0 0, .int 0 0, .int 3 0, .ref 291, .bool true, .int 181 0, .ref 292, .none, .ref 293, .ref 294, .ref 295, .int 616 0, .int 192 0, .str "/claim/cut.py" 617], #[]⟩) ::
  (nat_lit 297, fnObj (stmtAt 36) "turn_chain" (.none) (.none) (.none) (.str "joinedhand.cursive" 572) none (.ref 296) (.none)) ::
  (nat_lit 303, ⟨.type "code", none, .fields #[.str "break_ring" 619, .str "break_ring" 620, .str "/claim/cut.py" 621, .int 206 0, .int 3 0, .int 0 0, .int 0 0, .int 3 0, .ref 298, .bool true, .int 181 0, .ref 299, .none, .ref 300, .ref 301, .ref 302, .int 627 0, .int 206 0, .str "/claim/cut.py" 628], #[]⟩) ::
  (nat_lit 304, fnObj (stmtAt 37) "break_ring" (.none) (.none) (.none) (.str "joinedhand.cursive" 572) none (.ref 303) (.none)) ::
  (nat_lit 310, ⟨.type "code", none, .fields #[.str "tie" 630, .str "tie" 631, .str "/claim/cut.py" 632, .int 216 0, .int 4 0, .int 0 0, .int 0 0, .int 3 0, .ref 305, .bool true, .int 181 0, .ref 306, .none, .ref 307, .ref 308, .ref 309, .int 637 0, .int 216 0, .str "/claim/cut.py" 638], #[]⟩) ::
  (nat_lit 311, fnObj (stmtAt 38) "tie" (.none) (.none) (.none) (.str "joinedhand.cursive" 572) none (.ref 310) (.none)) ::
  (nat_lit 317, ⟨.type "code", none, .fields #[.str "apply_cursive" 640, .str "apply_cursive" 641, .str "/claim/cut.py" 642, .int 222 0, .int 3 0, .int 0 0, .int 0 0, .int 3 0, .ref 312, .bool true, .int 181 0, .ref 313, .none, .ref 314, .ref 315, .ref 316, .int 650 0, .int 222 0, .str "/claim/cut.py" 651], #[]⟩) ::
  (nat_lit 318, fnObj (stmtAt 39) "apply_cursive" (.none) (.none) (.none) (.str "joinedhand.cursive" 572) none (.ref 317) (.none)) ::
  (nat_lit 324, ⟨.type "code", none, .fields #[.str "difference" 655, .str "difference" 656, .str "/claim/cut.py" 657, .int 242 0, .int 2 0, .int 0 0, .int 0 0, .int 3 0, .ref 319, .bool true, .int 181 0, .ref 320, .none, .ref 321, .ref 322, .ref 323, .int 660 0, .int 242 0, .str "/claim/cut.py" 661], #[]⟩) ::
  (nat_lit 325, fnObj (stmtAt 41) "difference" (.none) (.none) (.none) (.str "joinedhand.anchors" 653) none (.ref 324) (.none)) ::
  (nat_lit 331, ⟨.type "code", none, .fields #[.str "scene_with" 667, .str "scene_with" 668, .str "/claim/cut.py" 669, .int 246 0, .int 3 0, .int 0 0, .int 0 0, .int 3 0, .ref 326, .bool true, .int 181 0, .ref 327, .none, .ref 328, .ref 329, .ref 330, .int 674 0, .int 246 0, .str "/claim/cut.py" 675], #[]⟩) ::
  (nat_lit 332, fnObj (stmtAt 44) "scene_with" (.none) (.none) (.none) (.str "joinedhand.marks" 663) none (.ref 331) (.none)) ::
  (nat_lit 338, ⟨.type "code", none, .fields #[.str "is_mark_at" 677, .str "is_mark_at" 678, .str "/claim/cut.py" 679, .int 249 0, .int 2 0, .int 0 0, .int 0 0, .int 3 0, .ref 333, .bool true, .int 181 0, .ref 334, .none, .ref 335, .ref 336, .ref 337, .int 682 0, .int 249 0, .str "/claim/cut.py" 683], #[]⟩) ::
  (nat_lit 339, fnObj (stmtAt 45) "is_mark_at" (.none) (.none) (.none) (.str "joinedhand.marks" 663) none (.ref 338) (.none)) ::
  (nat_lit 345, ⟨.type "code", none, .fields #[.str "is_later_part" 685, .str "is_later_part" 686, .str "/claim/cut.py" 687, .int 251 0, .int 2 0, .int 0 0, .int 0 0, .int 3 0, .ref 340, .bool true, .int 181 0, .ref 341, .none, .ref 342, .ref 343, .ref 344, .int 692 0, .int 251 0, .str "/claim/cut.py" 693], #[]⟩) ::
  (nat_lit 346, fnObj (stmtAt 46) "is_later_part" (.none) (.none) (.none) (.str "joinedhand.marks" 663) none (.ref 345) (.none)) ::
  (nat_lit 352, ⟨.type "code", none, .fields #[.str "base_ahead" 695, .str "base_ahead" 696, .str "/claim/cut.py" 697, .int 257 0, .int 2 0, .int 0 0, .int 0 0, .int 3 0, .ref 347, .bool true, .int 181 0, .ref 348, .none, .ref 349, .ref 350, .ref 351, .int 702 0, .int 257 0, .str "/claim/cut.py" 703], #[]⟩) ::
  (nat_lit 353, fnObj (stmtAt 47) "base_ahead" (.none) (.none) (.none) (.str "joinedhand.marks" 663) none (.ref 352) (.none)) ::
  (nat_lit 359, ⟨.type "code", none, .fields #[.str "set_on" 705, .str "set_on" 706, .str "/claim/cut.py" 707, .int 263 0, .int 5 0, .int 0 0, .int 0 0, .int 3 0, .ref 354, .bool true, .int 181 0, .ref 355, .none, .ref 356, .ref 357, .ref 358, .int 717 0, .int 263 0, .str "/claim/cut.py" 718], #[]⟩) ::
  (nat_lit 360, fnObj (stmtAt 48) "set_on" (.none) (.none) (.none) (.str "joinedhand.marks" 663) none (.ref 359) (.none)) ::
  (nat_lit 366, ⟨.type "code", none, .fields #[.str "apply_base" 720, .str "apply_base" 721, .str "/claim/cut.py" 722, .int 275 0, .int 3 0, .int 0 0, .int 0 0, .int 3 0, .ref 361, .bool true, .int 181 0, .ref 362, .none, .ref 363, .ref 364, .ref 365, .int 727 0, .int 275 0, .str "/claim/cut.py" 728], #[]⟩) ::
  (nat_lit 367, fnObj (stmtAt 49) "apply_base" (.none) (.none) (.none) (.str "joinedhand.marks" 663) none (.ref 366) (.none)) ::
  (nat_lit 373, ⟨.type "code", none, .fields #[.str "component_of" 730, .str "component_of" 731, .str "/claim/cut.py" 732, .int 282 0, .int 3 0, .int 0 0, .int 0 0, .int 3 0, .ref 368, .bool true, .int 181 0, .ref 369, .none, .ref 370, .ref 371, .ref 372, .int 736 0, .int 282 0, .str "/claim/cut.py" 737], #[]⟩) ::
  (nat_lit 374, fnObj (stmtAt 50) "component_of" (.none) (.none) (.none) (.str "joinedhand.marks" 663) none (.ref 373) (.none)) ::
  (nat_lit 380, ⟨.type "code", none, .fields #[.str "apply_component" 739, .str "apply_component" 740, .str "/claim/cut.py" 741, .int 286 0, .int 3 0, .int 0 0, .int 0 0, .int 3 0, .ref 375, .bool true, .int 181 0, .ref 376, .none, .ref 377, .ref 378, .ref 379, .int 748 0, .int 286 0, .str "/claim/cut.py" 749], #[]⟩) ::
  (nat_lit 381, fnObj (stmtAt 51) "apply_component" (.none) (.none) (.none) (.str "joinedhand.marks" 663) none (.ref 380) (.none)) ::
  (nat_lit 387, ⟨.type "code", none, .fields #[.str "are_of_one" 751, .str "are_of_one" 752, .str "/claim/cut.py" 753, .int 297 0, .int 2 0, .int 0 0, .int 0 0, .int 3 0, .ref 382, .bool true, .int 181 0, .ref 383, .none, .ref 384, .ref 385, .ref 386, .int 756 0, .int 297 0, .str "/claim/cut.py" 757], #[]⟩) ::
  (nat_lit 388, fnObj (stmtAt 52) "are_of_one" (.none) (.none) (.none) (.str "joinedhand.marks" 663) none (.ref 387) (.none)) ::
  (nat_lit 394, ⟨.type "code", none, .fields #[.str "apply_mark" 759, .str "apply_mark" 760, .str "/claim/cut.py" 761, .int 301 0, .int 3 0, .int 0 0, .int 0 0, .int 3 0, .ref 389, .bool true, .int 181 0, .ref 390, .none, .ref 391, .ref 392, .ref 393, .int 768 0, .int 301 0, .str "/claim/cut.py" 769], #[]⟩) ::
  (nat_lit 395, fnObj (stmtAt 53) "apply_mark" (.none) (.none) (.none) (.str "joinedhand.marks" 663) none (.ref 394) (.none)) ::
  (nat_lit 399, ⟨.type "code", none, .fields #[.str "tests_of" 777, .str "tests_of" 778, .str "/claim/cut.py" 779, .int 315 0, .int 3 0, .int 0 0, .int 0 0, .int 3 0, .ref 396, .bool true, .int 181 0, .ref 397, .none, .none, .none, .ref 398, .int 780 0, .int 315 0, .str "/claim/cut.py" 781], #[]⟩) ::
  (nat_lit 400, fnObj (stmtAt 57) "tests_of" (.none) (.none) (.none) (.str "joinedhand.contexts" 771) none (.ref 399) (.none)) ::
  (nat_lit 406, ⟨.type "code", none, .fields #[.str "rule_tests" 783, .str "rule_tests" 784, .str "/claim/cut.py" 785, .int 319 0, .int 2 0, .int 0 0, .int 0 0, .int 3 0, .ref 401, .bool true, .int 181 0, .ref 402, .none, .ref 403, .ref 404, .ref 405, .int 792 0, .int 319 0, .str "/claim/cut.py" 793], #[]⟩) ::
  (nat_lit 407, fnObj (stmtAt 58) "rule_tests" (.none) (.none) (.none) (.str "joinedhand.contexts" 771) none (.ref 406) (.none)) ::
  (nat_lit 411, ⟨.type "code", none, .fields #[.str "rules_at" 795, .str "rules_at" 796, .str "/claim/cut.py" 797, .int 323 0, .int 2 0, .int 0 0, .int 0 0, .int 3 0, .ref 408, .bool true, .int 181 0, .ref 409, .none, .none, .none, .ref 410, .int 798 0, .int 323 0, .str "/claim/cut.py" 799], #[]⟩) ::
  (nat_lit 412, fnObj (stmtAt 59) "rules_at" (.none) (.none) (.none) (.str "joinedhand.contexts" 771) none (.ref 411) (.none)) ::
  (nat_lit 425, ⟨.type "code", none, .fields #[.str "__init__" 821, .str "Places.__init__" 822, .str "/claim/cut.py" 823, .int 337 0, .int 3 0, .int 0 0, .int 0 0, .int 3 0, .ref 420, .bool true, .int 181 0, .ref 421, .none, .ref 422, .ref 423, .ref 424, .int 827 0, .int 337 0, .str "/claim/cut.py" 828], #[]⟩) ::
  (nat_lit 426, fnObj (stmtIn 64 0) "Places.__init__" (.none) (.none) (.none) (.str "joinedhand.nested" 801) none (.ref 425) (.none)) ::
  (nat_lit 428, ⟨.type "dict", none, .dict #[⟨PyData.keyHash P "__module__", .str "__module__" 816, .str "joinedhand.nested" 801⟩, ⟨PyData.keyHash P "__firstlineno__", .str "__firstlineno__" 820, .int 335 819⟩, ⟨PyData.keyHash P "__init__", .str "__init__" 829, .ref 426⟩, ⟨PyData.keyHash P "__static_attributes__", .str "__static_attributes__" 832, .ref 427⟩, ⟨PyData.keyHash P "__dict__", .str "__dict__" 834, .ref 430⟩, ⟨PyData.keyHash P "__weakref__", .str "__weakref__" 836, .ref 431⟩, ⟨PyData.keyHash P "__doc__", .str "__doc__" 837, .none⟩] 4, #[]⟩) ::
  (nat_lit 429, ⟨.type "type", none, .cls ⟨"Places", [.type "object"], [.ref 429, .type "object"], 428, "Places", true, [], [], false, none, false⟩, #[none, none, some (.str "Places" 809), some (.str "Places" 817), some (.builtin "object.__new__"), some (.bool true)]⟩) ::
  (nat_lit 430, ⟨.type "getset_descriptor", none, .fields #[.str "__dict__" 833, .ref 429, .builtin "function.__dict__", .builtin "function.__dict__#set"], #[]⟩) ::
  (nat_lit 431, ⟨.type "getset_descriptor", none, .fields #[.str "__weakref__" 835, .ref 429, .builtin "ExceptionGroup.__weakref__", .none], #[]⟩) ::
  (nat_lit 439, ⟨.type "code", none, .fields #[.str "match_rule" 840, .str "match_rule" 841, .str "/claim/cut.py" 842, .int 340 0, .int 3 0, .int 0 0, .int 0 0, .int 3 0, .ref 434, .bool true, .int 181 0, .ref 435, .none, .ref 436, .ref 437, .ref 438, .int 853 0, .int 340 0, .str "/claim/cut.py" 854], #[]⟩) ::
  (nat_lit 440, fnObj (stmtAt 65) "match_rule" (.none) (.none) (.none) (.str "joinedhand.nested" 801) none (.ref 439) (.none)) ::
  (nat_lit 446, ⟨.type "code", none, .fields #[.str "inner_scene" 856, .str "inner_scene" 857, .str "/claim/cut.py" 858, .int 350 0, .int 2 0, .int 0 0, .int 0 0, .int 3 0, .ref 441, .bool true, .int 181 0, .ref 442, .none, .ref 443, .ref 444, .ref 445, .int 861 0, .int 350 0, .str "/claim/cut.py" 862], #[]⟩) ::
  (nat_lit 447, fnObj (stmtAt 66) "inner_scene" (.none) (.none) (.none) (.str "joinedhand.nested" 801) none (.ref 446) (.none)) ::
  (nat_lit 451, ⟨.type "code", none, .fields #[.str "grow" 864, .str "grow" 865, .str "/claim/cut.py" 866, .int 352 0, .int 3 0, .int 0 0, .int 0 0, .int 3 0, .ref 448, .bool true, .int 181 0, .ref 449, .none, .none, .none, .ref 450, .int 867 0, .int 352 0, .str "/claim/cut.py" 868], #[]⟩) ::
  (nat_lit 452, fnObj (stmtAt 67) "grow" (.none) (.none) (.none) (.str "joinedhand.nested" 801) none (.ref 451) (.none)) ::
  (nat_lit 456, ⟨.type "code", none, .fields #[.str "shrink" 870, .str "shrink" 871, .str "/claim/cut.py" 872, .int 355 0, .int 3 0, .int 0 0, .int 0 0, .int 3 0, .ref 453, .bool true, .int 181 0, .ref 454, .none, .none, .none, .ref 455, .int 873 0, .int 355 0, .str "/claim/cut.py" 874], #[]⟩) ::
  (nat_lit 457, fnObj (stmtAt 68) "shrink" (.none) (.none) (.none) (.str "joinedhand.nested" 801) none (.ref 456) (.none)) ::
  (nat_lit 463, ⟨.type "code", none, .fields #[.str "move" 876, .str "move" 877, .str "/claim/cut.py" 878, .int 357 0, .int 3 0, .int 0 0, .int 0 0, .int 3 0, .ref 458, .bool true, .int 181 0, .ref 459, .none, .ref 460, .ref 461, .ref 462, .int 882 0, .int 357 0, .str "/claim/cut.py" 883], #[]⟩) ::
  (nat_lit 464, fnObj (stmtAt 69) "move" (.none) (.none) (.none) (.str "joinedhand.nested" 801) none (.ref 463) (.none)) ::
  (nat_lit 470, ⟨.type "code", none, .fields #[.str "do_action" 885, .str "do_action" 886, .str "/claim/cut.py" 887, .int 366 0, .int 4 0, .int 0 0, .int 0 0, .int 3 0, .ref 465, .bool true, .int 181 0, .ref 466, .none, .ref 467, .ref 468, .ref 469, .int 897 0, .int 366 0, .str "/claim/cut.py" 898], #[]⟩) ::
  (nat_lit 471, fnObj (stmtAt 70) "do_action" (.none) (.none) (.none) (.str "joinedhand.nested" 801) none (.ref 470) (.none)) ::
  (nat_lit 477, ⟨.type "code", none, .fields #[.str "do_actions" 900, .str "do_actions" 901, .str "/claim/cut.py" 902, .int 384 0, .int 4 0, .int 0 0, .int 0 0, .int 3 0, .ref 472, .bool true, .int 181 0, .ref 473, .none, .ref 474, .ref 475, .ref 476, .int 908 0, .int 384 0, .str "/claim/cut.py" 909], #[]⟩) ::
  (nat_lit 478, fnObj (stmtAt 71) "do_actions" (.none) (.none) (.none) (.str "joinedhand.nested" 801) none (.ref 477) (.none)) ::
  (nat_lit 484, ⟨.type "code", none, .fields #[.str "apply_context" 911, .str "apply_context" 912, .str "/claim/cut.py" 913, .int 389 0, .int 4 0, .int 0 0, .int 0 0, .int 3 0, .ref 479, .bool true, .int 181 0, .ref 480, .none, .ref 481, .ref 482, .ref 483, .int 920 0, .int 389 0, .str "/claim/cut.py" 921], #[]⟩) ::
  (nat_lit 485, fnObj (stmtAt 72) "apply_context" (.none) (.none) (.none) (.str "joinedhand.nested" 801) none (.ref 484) (.none)) ::
  (nat_lit 498, ⟨.type "code", none, .fields #[.str "__init__" 937, .str "Value.__init__" 938, .str "/claim/cut.py" 939, .int 401 0, .int 5 0, .int 0 0, .int 0 0, .int 3 0, .ref 493, .bool true, .int 181 0, .ref 494, .none, .ref 495, .ref 496, .ref 497, .int 945 0, .int 401 0, .str "/claim/cut.py" 946], #[]⟩) ::
  (nat_lit 499, fnObj (stmtIn 74 0) "Value.__init__" (.none) (.none) (.none) (.str "joinedhand.values" 923) none (.ref 498) (.none)) ::
  (nat_lit 505, ⟨.type "code", none, .fields #[.str "told" 948, .str "Value.told" 949, .str "/claim/cut.py" 950, .int 407 0, .int 1 0, .int 0 0, .int 0 0, .int 3 0, .ref 500, .bool true, .int 181 0, .ref 501, .none, .ref 502, .ref 503, .ref 504, .int 952 0, .int 407 0, .str "/claim/cut.py" 953], #[]⟩) ::
  (nat_lit 506, fnObj (stmtIn 74 1) "Value.told" (.none) (.none) (.none) (.str "joinedhand.values" 923) none (.ref 505) (.none)) ::
  (nat_lit 512, ⟨.type "code", none, .fields #[.str "is_nothing" 955, .str "Value.is_nothing" 956, .str "/claim/cut.py" 957, .int 410 0, .int 1 0, .int 0 0, .int 0 0, .int 3 0, .ref 507, .bool true, .int 181 0, .ref 508, .none, .ref 509, .ref 510, .ref 511, .int 959 0, .int 410 0, .str "/claim/cut.py" 960], #[]⟩) ::
  (nat_lit 513, fnObj (stmtIn 74 2) "Value.is_nothing" (.none) (.none) (.none) (.str "joinedhand.values" 923) none (.ref 512) (.none)) ::
  (nat_lit 515, ⟨.type "dict", none, .dict #[⟨PyData.keyHash P "__module__", .str "__module__" 932, .str "joinedhand.values" 923⟩, ⟨PyData.keyHash P "__firstlineno__", .str "__firstlineno__" 936, .int 399 935⟩, ⟨PyData.keyHash P "__init__", .str "__init__" 947, .ref 499⟩, ⟨PyData.keyHash P "told", .str "told" 954, .ref 506⟩, ⟨PyData.keyHash P "is_nothing", .str "is_nothing" 961, .ref 513⟩, ⟨PyData.keyHash P "__static_attributes__", .str "__static_attributes__" 966, .ref 514⟩, ⟨PyData.keyHash P "__dict__", .str "__dict__" 968, .ref 517⟩, ⟨PyData.keyHash P "__weakref__", .str "__weakref__" 970, .ref 518⟩, ⟨PyData.keyHash P "__doc__", .str "__doc__" 971, .none⟩] 4, #[]⟩) ::
  (nat_lit 516, ⟨.type "type", none, .cls ⟨"Value", [.type "object"], [.ref 516, .type "object"], 515, "Value", true, [], [], false, none, false⟩, #[none, none, some (.str "Value" 925), some (.str "Value" 933), some (.builtin "object.__new__"), some (.bool true)]⟩) ::
  (nat_lit 517, ⟨.type "getset_descriptor", none, .fields #[.str "__dict__" 967, .ref 516, .builtin "function.__dict__", .builtin "function.__dict__#set"], #[]⟩) ::
  (nat_lit 518, ⟨.type "getset_descriptor", none, .fields #[.str "__weakref__" 969, .ref 516, .builtin "ExceptionGroup.__weakref__", .none], #[]⟩) ::
  (nat_lit 526, ⟨.type "code", none, .fields #[.str "add_value" 974, .str "add_value" 975, .str "/claim/cut.py" 976, .int 412 0, .int 3 0, .int 0 0, .int 0 0, .int 3 0, .ref 521, .bool true, .int 181 0, .ref 522, .none, .ref 523, .ref 524, .ref 525, .int 980 0, .int 412 0, .str "/claim/cut.py" 981], #[]⟩) ::
  (nat_lit 527, fnObj (stmtAt 75) "add_value" (.none) (.none) (.none) (.str "joinedhand.values" 923) none (.ref 526) (.none)) ::
  (nat_lit 540, ⟨.type "code", none, .fields #[.str "__init__" 995, .str "Adjust.__init__" 996, .str "/claim/cut.py" 997, .int 418 0, .int 2 0, .int 0 0, .int 0 0, .int 3 0, .ref 535, .bool true, .int 181 0, .ref 536, .none, .ref 537, .ref 538, .ref 539, .int 1000 0, .int 418 0, .str "/claim/cut.py" 1001], #[]⟩) ::
  (nat_lit 541, fnObj (stmtIn 76 0) "Adjust.__init__" (.none) (.none) (.none) (.str "joinedhand.values" 923) none (.ref 540) (.none)) ::
  (nat_lit 545, ⟨.type "code", none, .fields #[.str "told" 1003, .str "Adjust.told" 1004, .str "/claim/cut.py" 1005, .int 421 0, .int 1 0, .int 0 0, .int 0 0, .int 3 0, .ref 542, .bool true, .int 181 0, .ref 543, .none, .none, .none, .ref 544, .int 1006 0, .int 421 0, .str "/claim/cut.py" 1007], #[]⟩) ::
  (nat_lit 546, fnObj (stmtIn 76 1) "Adjust.told" (.none) (.none) (.none) (.str "joinedhand.values" 923) none (.ref 545) (.none)) ::
  (nat_lit 548, ⟨.type "dict", none, .dict #[⟨PyData.keyHash P "__module__", .str "__module__" 990, .str "joinedhand.values" 923⟩, ⟨PyData.keyHash P "__firstlineno__", .str "__firstlineno__" 994, .int 416 993⟩, ⟨PyData.keyHash P "__init__", .str "__init__" 1002, .ref 541⟩, ⟨PyData.keyHash P "told", .str "told" 1008, .ref 546⟩, ⟨PyData.keyHash P "__static_attributes__", .str "__static_attributes__" 1010, .ref 547⟩, ⟨PyData.keyHash P "__dict__", .str "__dict__" 1012, .ref 550⟩, ⟨PyData.keyHash P "__weakref__", .str "__weakref__" 1014, .ref 551⟩, ⟨PyData.keyHash P "__doc__", .str "__doc__" 1015, .none⟩] 4, #[]⟩) ::
  (nat_lit 549, ⟨.type "type", none, .cls ⟨"Adjust", [.type "object"], [.ref 549, .type "object"], 548, "Adjust", true, [], [], false, none, false⟩, #[none, none, some (.str "Adjust" 983), some (.str "Adjust" 991), some (.builtin "object.__new__"), some (.bool true)]⟩) ::
  (nat_lit 550, ⟨.type "getset_descriptor", none, .fields #[.str "__dict__" 1011, .ref 549, .builtin "function.__dict__", .builtin "function.__dict__#set"], #[]⟩) ::
  (nat_lit 551, ⟨.type "getset_descriptor", none, .fields #[.str "__weakref__" 1013, .ref 549, .builtin "ExceptionGroup.__weakref__", .none], #[]⟩) ::
  (nat_lit 559, ⟨.type "code", none, .fields #[.str "apply_adjust" 1018, .str "apply_adjust" 1019, .str "/claim/cut.py" 1020, .int 423 0, .int 3 0, .int 0 0, .int 0 0, .int 3 0, .ref 554, .bool true, .int 181 0, .ref 555, .none, .ref 556, .ref 557, .ref 558, .int 1026 0, .int 423 0, .str "/claim/cut.py" 1027], #[]⟩) ::
  (nat_lit 560, fnObj (stmtAt 77) "apply_adjust" (.none) (.none) (.none) (.str "joinedhand.values" 923) none (.ref 559) (.none)) ::
  (nat_lit 566, ⟨.type "code", none, .fields #[.str "pair_told" 1031, .str "pair_told" 1032, .str "/claim/cut.py" 1033, .int 431 0, .int 1 0, .int 0 0, .int 0 0, .int 3 0, .ref 561, .bool true, .int 181 0, .ref 562, .none, .ref 563, .ref 564, .ref 565, .int 1035 0, .int 431 0, .str "/claim/cut.py" 1036], #[]⟩) ::
  (nat_lit 567, fnObj (stmtAt 79) "pair_told" (.none) (.none) (.none) (.str "joinedhand.pair" 1029) none (.ref 566) (.none)) ::
  (nat_lit 571, ⟨.type "code", none, .fields #[.str "moves_second" 1038, .str "moves_second" 1039, .str "/claim/cut.py" 1040, .int 433 0, .int 1 0, .int 0 0, .int 0 0, .int 3 0, .ref 568, .bool true, .int 181 0, .ref 569, .none, .none, .none, .ref 570, .int 1041 0, .int 433 0, .str "/claim/cut.py" 1042], #[]⟩) ::
  (nat_lit 572, fnObj (stmtAt 80) "moves_second" (.none) (.none) (.none) (.str "joinedhand.pair" 1029) none (.ref 571) (.none)) ::
  (nat_lit 580, ⟨.type "tuple", none, .seq #[.bool false] 0, #[]⟩) ::
  (nat_lit 586, ⟨.type "code", none, .fields #[.str "__init__" 1056, .str "PairGlyphs.__init__" 1057, .str "/claim/cut.py" 1058, .int 437 0, .int 3 0, .int 0 0, .int 0 0, .int 3 0, .ref 581, .bool true, .int 181 0, .ref 582, .none, .ref 583, .ref 584, .ref 585, .int 1062 0, .int 437 0, .str "/claim/cut.py" 1063], #[]⟩) ::
  (nat_lit 587, fnObj (stmtIn 81 0) "PairGlyphs.__init__" (.ref 580) (.none) (.none) (.str "joinedhand.pair" 1029) none (.ref 586) (.none)) ::
  (nat_lit 593, ⟨.type "code", none, .fields #[.str "find" 1065, .str "PairGlyphs.find" 1066, .str "/claim/cut.py" 1067, .int 441 0, .int 3 0, .int 0 0, .int 0 0, .int 3 0, .ref 588, .bool true, .int 181 0, .ref 589, .none, .ref 590, .ref 591, .ref 592, .int 1071 0, .int 441 0, .str "/claim/cut.py" 1072], #[]⟩) ::
  (nat_lit 594, fnObj (stmtIn 81 1) "PairGlyphs.find" (.none) (.none) (.none) (.str "joinedhand.pair" 1029) none (.ref 593) (.none)) ::
  (nat_lit 598, ⟨.type "code", none, .fields #[.str "told" 1074, .str "PairGlyphs.told" 1075, .str "/claim/cut.py" 1076, .int 444 0, .int 1 0, .int 0 0, .int 0 0, .int 3 0, .ref 595, .bool true, .int 181 0, .ref 596, .none, .none, .none, .ref 597, .int 1077 0, .int 444 0, .str "/claim/cut.py" 1078], #[]⟩) ::
  (nat_lit 599, fnObj (stmtIn 81 2) "PairGlyphs.told" (.none) (.none) (.none) (.str "joinedhand.pair" 1029) none (.ref 598) (.none)) ::
  (nat_lit 601, ⟨.type "dict", none, .dict #[⟨PyData.keyHash P "__module__", .str "__module__" 1051, .str "joinedhand.pair" 1029⟩, ⟨PyData.keyHash P "__firstlineno__", .str "__firstlineno__" 1055, .int 435 1054⟩, ⟨PyData.keyHash P "__init__", .str "__init__" 1064, .ref 587⟩, ⟨PyData.keyHash P "find", .str "find" 1073, .ref 594⟩, ⟨PyData.keyHash P "told", .str "told" 1079, .ref 599⟩, ⟨PyData.keyHash P "__static_attributes__", .str "__static_attributes__" 1082, .ref 600⟩, ⟨PyData.keyHash P "__dict__", .str "__dict__" 1084, .ref 603⟩, ⟨PyData.keyHash P "__weakref__", .str "__weakref__" 1086, .ref 604⟩, ⟨PyData.keyHash P "__doc__", .str "__doc__" 1087, .none⟩] 4, #[]⟩) ::
  (nat_lit 602, ⟨.type "type", none, .cls ⟨"PairGlyphs", [.type "object"], [.ref 602, .type "object"], 601, "PairGlyphs", true, [], [], false, none, false⟩, #[none, none, some (.str "PairGlyphs" 1044), some (.str "PairGlyphs" 1052), some (.builtin "object.__new__"), some (.bool true)]⟩) ::
  (nat_lit 603, ⟨.type "getset_descriptor", none, .fields #[.str "__dict__" 1083, .ref 602, .builtin "function.__dict__", .builtin "function.__dict__#set"], #[]⟩) ::
  (nat_lit 604, ⟨.type "getset_descriptor", none, .fields #[.str "__weakref__" 1085, .ref 602, .builtin "ExceptionGroup.__weakref__", .none], #[]⟩) ::
  (nat_lit 614, ⟨.type "tuple", none, .seq #[.bool false] 0, #[]⟩) ::
  (nat_lit 618, ⟨.type "code", none, .fields #[.str "__init__" 1102, .str "PairClasses.__init__" 1103, .str "/claim/cut.py" 1104, .int 449 0, .int 6 0, .int 0 0, .int 0 0, .int 3 0, .ref 615, .bool true, .int 181 0, .ref 616, .none, .none, .none, .ref 617, .int 1105 0, .int 449 0, .str "/claim/cut.py" 1106], #[]⟩) ::
  (nat_lit 619, fnObj (stmtIn 82 0) "PairClasses.__init__" (.ref 614) (.none) (.none) (.str "joinedhand.pair" 1029) none (.ref 618) (.none)) ::
  (nat_lit 625, ⟨.type "code", none, .fields #[.str "find" 1108, .str "PairClasses.find" 1109, .str "/claim/cut.py" 1110, .int 456 0, .int 3 0, .int 0 0, .int 0 0, .int 3 0, .ref 620, .bool true, .int 181 0, .ref 621, .none, .ref 622, .ref 623, .ref 624, .int 1116 0, .int 456 0, .str "/claim/cut.py" 1117], #[]⟩) ::
  (nat_lit 626, fnObj (stmtIn 82 1) "PairClasses.find" (.none) (.none) (.none) (.str "joinedhand.pair" 1029) none (.ref 625) (.none)) ::
  (nat_lit 630, ⟨.type "code", none, .fields #[.str "told" 1119, .str "PairClasses.told" 1120, .str "/claim/cut.py" 1121, .int 465 0, .int 1 0, .int 0 0, .int 0 0, .int 3 0, .ref 627, .bool true, .int 181 0, .ref 628, .none, .none, .none, .ref 629, .int 1122 0, .int 465 0, .str "/claim/cut.py" 1123], #[]⟩) ::
  (nat_lit 631, fnObj (stmtIn 82 2) "PairClasses.told" (.none) (.none) (.none) (.str "joinedhand.pair" 1029) none (.ref 630) (.none)) ::
  (nat_lit 633, ⟨.type "dict", none, .dict #[⟨PyData.keyHash P "__module__", .str "__module__" 1097, .str "joinedhand.pair" 1029⟩, ⟨PyData.keyHash P "__firstlineno__", .str "__firstlineno__" 1101, .int 447 1100⟩, ⟨PyData.keyHash P "__init__", .str "__init__" 1107, .ref 619⟩, ⟨PyData.keyHash P "find", .str "find" 1118, .ref 626⟩, ⟨PyData.keyHash P "told", .str "told" 1124, .ref 631⟩, ⟨PyData.keyHash P "__static_attributes__", .str "__static_attributes__" 1130, .ref 632⟩, ⟨PyData.keyHash P "__dict__", .str "__dict__" 1132, .ref 635⟩, ⟨PyData.keyHash P "__weakref__", .str "__weakref__" 1134, .ref 636⟩, ⟨PyData.keyHash P "__doc__", .str "__doc__" 1135, .none⟩] 4, #[]⟩) ::
  (nat_lit 634, ⟨.type "type", none, .cls ⟨"PairClasses", [.type "object"], [.ref 634, .type "object"], 633, "PairClasses", true, [], [], false, none, false⟩, #[none, none, some (.str "PairClasses" 1090), some (.str "PairClasses" 1098), some (.builtin "object.__new__"), some (.bool true)]⟩) ::
  (nat_lit 635, ⟨.type "getset_descriptor", none, .fields #[.str "__dict__" 1131, .ref 634, .builtin "function.__dict__", .builtin "function.__dict__#set"], #[]⟩) ::
  (nat_lit 636, ⟨.type "getset_descriptor", none, .fields #[.str "__weakref__" 1133, .ref 634, .builtin "ExceptionGroup.__weakref__", .none], #[]⟩) ::
  (nat_lit 644, ⟨.type "code", none, .fields #[.str "has_second" 1138, .str "has_second" 1139, .str "/claim/cut.py" 1140, .int 468 0, .int 1 0, .int 0 0, .int 0 0, .int 3 0, .ref 639, .bool true, .int 181 0, .ref 640, .none, .ref 641, .ref 642, .ref 643, .int 1142 0, .int 468 0, .str "/claim/cut.py" 1143], #[]⟩) ::
  (nat_lit 645, fnObj (stmtAt 83) "has_second" (.none) (.none) (.none) (.str "joinedhand.pair" 1029) none (.ref 644) (.none)) ::
  (nat_lit 651, ⟨.type "code", none, .fields #[.str "apply_pair" 1145, .str "apply_pair" 1146, .str "/claim/cut.py" 1147, .int 470 0, .int 3 0, .int 0 0, .int 0 0, .int 3 0, .ref 646, .bool true, .int 181 0, .ref 647, .none, .ref 648, .ref 649, .ref 650, .int 1154 0, .int 470 0, .str "/claim/cut.py" 1155], #[]⟩) ::
  (nat_lit 652, fnObj (stmtAt 84) "apply_pair" (.none) (.none) (.none) (.str "joinedhand.pair" 1029) none (.ref 651) (.none)) ::
  (nat_lit 658, ⟨.type "code", none, .fields #[.str "apply_position" 1159, .str "apply_position" 1160, .str "/claim/cut.py" 1161, .int 483 0, .int 4 0, .int 0 0, .int 0 0, .int 3 0, .ref 653, .bool true, .int 181 0, .ref 654, .none, .ref 655, .ref 656, .ref 657, .int 1166 0, .int 483 0, .str "/claim/cut.py" 1167], #[]⟩) ::
  (nat_lit 659, fnObj (stmtAt 86) "apply_position" (.none) (.none) (.none) (.str "joinedhand.gpos" 1157) none (.ref 658) (.none)) ::
  (nat_lit 665, ⟨.type "code", none, .fields #[.str "position_at" 1169, .str "position_at" 1170, .str "/claim/cut.py" 1171, .int 497 0, .int 2 0, .int 0 0, .int 0 0, .int 3 0, .ref 660, .bool true, .int 181 0, .ref 661, .none, .ref 662, .ref 663, .ref 664, .int 1176 0, .int 497 0, .str "/claim/cut.py" 1177], #[]⟩) ::
  (nat_lit 666, fnObj (stmtAt 87) "position_at" (.none) (.none) (.none) (.str "joinedhand.gpos" 1157) none (.ref 665) (.none)) ::
  (nat_lit 672, ⟨.type "code", none, .fields #[.str "beginnings_of_context" 1179, .str "beginnings_of_context" 1180, .str "/claim/cut.py" 1181, .int 503 0, .int 1 0, .int 0 0, .int 0 0, .int 3 0, .ref 667, .bool true, .int 181 0, .ref 668, .none, .ref 669, .ref 670, .ref 671, .int 1185 0, .int 503 0, .str "/claim/cut.py" 1186], #[]⟩) ::
  (nat_lit 673, fnObj (stmtAt 88) "beginnings_of_context" (.none) (.none) (.none) (.str "joinedhand.gpos" 1157) none (.ref 672) (.none)) ::
  (nat_lit 677, ⟨.type "code", none, .fields #[.str "beginnings_of_pair" 1188, .str "beginnings_of_pair" 1189, .str "/claim/cut.py" 1190, .int 512 0, .int 1 0, .int 0 0, .int 0 0, .int 3 0, .ref 674, .bool true, .int 181 0, .ref 675, .none, .none, .none, .ref 676, .int 1191 0, .int 512 0, .str "/claim/cut.py" 1192], #[]⟩) ::
  (nat_lit 678, fnObj (stmtAt 89) "beginnings_of_pair" (.none) (.none) (.none) (.str "joinedhand.gpos" 1157) none (.ref 677) (.none)) ::
  (nat_lit 684, ⟨.type "code", none, .fields #[.str "beginnings" 1194, .str "beginnings" 1195, .str "/claim/cut.py" 1196, .int 516 0, .int 2 0, .int 0 0, .int 0 0, .int 3 0, .ref 679, .bool true, .int 181 0, .ref 680, .none, .ref 681, .ref 682, .ref 683, .int 1200 0, .int 516 0, .str "/claim/cut.py" 1201], #[]⟩) ::
  (nat_lit 685, fnObj (stmtAt 90) "beginnings" (.none) (.none) (.none) (.str "joinedhand.gpos" 1157) none (.ref 684) (.none)) ::
  (nat_lit 691, ⟨.type "code", none, .fields #[.str "run_position" 1203, .str "run_position" 1204, .str "/claim/cut.py" 1205, .int 528 0, .int 5 0, .int 0 0, .int 0 0, .int 3 0, .ref 686, .bool true, .int 181 0, .ref 687, .none, .ref 688, .ref 689, .ref 690, .int 1219 0, .int 528 0, .str "/claim/cut.py" 1220], #[]⟩) ::
  (nat_lit 692, fnObj (stmtAt 91) "run_position" (.none) (.none) (.none) (.str "joinedhand.gpos" 1157) none (.ref 691) (.none)) ::
  (nat_lit 705, ⟨.type "code", none, .fields #[.str "__init__" 1236, .str "ClassDef.__init__" 1237, .str "/claim/cut.py" 1238, .int 545 0, .int 2 0, .int 0 0, .int 0 0, .int 3 0, .ref 700, .bool true, .int 181 0, .ref 701, .none, .ref 702, .ref 703, .ref 704, .int 1241 0, .int 545 0, .str "/claim/cut.py" 1242], #[]⟩) ::
  (nat_lit 706, fnObj (stmtIn 93 0) "ClassDef.__init__" (.none) (.none) (.none) (.str "joinedhand.classdefs" 1222) none (.ref 705) (.none)) ::
  (nat_lit 712, ⟨.type "code", none, .fields #[.str "class_of" 1244, .str "ClassDef.class_of" 1245, .str "/claim/cut.py" 1246, .int 548 0, .int 2 0, .int 0 0, .int 0 0, .int 3 0, .ref 707, .bool true, .int 181 0, .ref 708, .none, .ref 709, .ref 710, .ref 711, .int 1249 0, .int 548 0, .str "/claim/cut.py" 1250], #[]⟩) ::
  (nat_lit 713, fnObj (stmtIn 93 1) "ClassDef.class_of" (.none) (.none) (.none) (.str "joinedhand.classdefs" 1222) none (.ref 712) (.none)) ::
  (nat_lit 719, ⟨.type "code", none, .fields #[.str "glyphs_of" 1252, .str "ClassDef.glyphs_of" 1253, .str "/claim/cut.py" 1254, .int 551 0, .int 2 0, .int 0 0, .int 0 0, .int 3 0, .ref 714, .bool true, .int 181 0, .ref 715, .none, .ref 716, .ref 717, .ref 718, .int 1257 0, .int 551 0, .str "/claim/cut.py" 1258], #[]⟩) ::
  (nat_lit 720, fnObj (stmtIn 93 2) "ClassDef.glyphs_of" (.none) (.none) (.none) (.str "joinedhand.classdefs" 1222) none (.ref 719) (.none)) ::
  (nat_lit 726, ⟨.type "code", none, .fields #[.str "count" 1260, .str "ClassDef.count" 1261, .str "/claim/cut.py" 1262, .int 554 0, .int 1 0, .int 0 0, .int 0 0, .int 3 0, .ref 721, .bool true, .int 181 0, .ref 722, .none, .ref 723, .ref 724, .ref 725, .int 1266 0, .int 554 0, .str "/claim/cut.py" 1267], #[]⟩) ::
  (nat_lit 727, fnObj (stmtIn 93 3) "ClassDef.count" (.none) (.none) (.none) (.str "joinedhand.classdefs" 1222) none (.ref 726) (.none)) ::
  (nat_lit 731, ⟨.type "code", none, .fields #[.str "told" 1269, .str "ClassDef.told" 1270, .str "/claim/cut.py" 1271, .int 560 0, .int 1 0, .int 0 0, .int 0 0, .int 3 0, .ref 728, .bool true, .int 181 0, .ref 729, .none, .none, .none, .ref 730, .int 1272 0, .int 560 0, .str "/claim/cut.py" 1273], #[]⟩) ::
  (nat_lit 732, fnObj (stmtIn 93 4) "ClassDef.told" (.none) (.none) (.none) (.str "joinedhand.classdefs" 1222) none (.ref 731) (.none)) ::
  (nat_lit 734, ⟨.type "dict", none, .dict #[⟨PyData.keyHash P "__module__", .str "__module__" 1231, .str "joinedhand.classdefs" 1222⟩, ⟨PyData.keyHash P "__firstlineno__", .str "__firstlineno__" 1235, .int 543 1234⟩, ⟨PyData.keyHash P "__init__", .str "__init__" 1243, .ref 706⟩, ⟨PyData.keyHash P "class_of", .str "class_of" 1251, .ref 713⟩, ⟨PyData.keyHash P "glyphs_of", .str "glyphs_of" 1259, .ref 720⟩, ⟨PyData.keyHash P "count", .str "count" 1268, .ref 727⟩, ⟨PyData.keyHash P "told", .str "told" 1274, .ref 732⟩, ⟨PyData.keyHash P "__static_attributes__", .str "__static_attributes__" 1276, .ref 733⟩, ⟨PyData.keyHash P "__dict__", .str "__dict__" 1278, .ref 736⟩, ⟨PyData.keyHash P "__weakref__", .str "__weakref__" 1280, .ref 737⟩, ⟨PyData.keyHash P "__doc__", .str "__doc__" 1281, .none⟩] 4, #[]⟩) ::
  (nat_lit 735, ⟨.type "type", none, .cls ⟨"ClassDef", [.type "object"], [.ref 735, .type "object"], 734, "ClassDef", true, [], [], false, none, false⟩, #[none, none, some (.str "ClassDef" 1224), some (.str "ClassDef" 1232), some (.builtin "object.__new__"), some (.bool true)]⟩) ::
  (nat_lit 736, ⟨.type "getset_descriptor", none, .fields #[.str "__dict__" 1277, .ref 735, .builtin "function.__dict__", .builtin "function.__dict__#set"], #[]⟩) ::
  (nat_lit 737, ⟨.type "getset_descriptor", none, .fields #[.str "__weakref__" 1279, .ref 735, .builtin "ExceptionGroup.__weakref__", .none], #[]⟩) ::
  (nat_lit 747, ⟨.type "tuple", none, .seq #[.none, .none] 0, #[]⟩) ::
  (nat_lit 753, ⟨.type "code", none, .fields #[.str "__init__" 1304, .str "Gdef.__init__" 1305, .str "/claim/cut.py" 1306, .int 568 0, .int 6 0, .int 0 0, .int 0 0, .int 3 0, .ref 748, .bool true, .int 181 0, .ref 749, .none, .ref 750, .ref 751, .ref 752, .int 1313 0, .int 568 0, .str "/claim/cut.py" 1314], #[]⟩) ::
  (nat_lit 754, fnObj (stmtIn 98 0) "Gdef.__init__" (.ref 747) (.none) (.none) (.str "joinedhand.gdef" 1284) none (.ref 753) (.none)) ::
  (nat_lit 760, ⟨.type "code", none, .fields #[.str "glyph_class" 1316, .str "Gdef.glyph_class" 1317, .str "/claim/cut.py" 1318, .int 575 0, .int 2 0, .int 0 0, .int 0 0, .int 3 0, .ref 755, .bool true, .int 181 0, .ref 756, .none, .ref 757, .ref 758, .ref 759, .int 1322 0, .int 575 0, .str "/claim/cut.py" 1323], #[]⟩) ::
  (nat_lit 761, fnObj (stmtIn 98 1) "Gdef.glyph_class" (.none) (.none) (.none) (.str "joinedhand.gdef" 1284) none (.ref 760) (.none)) ::
  (nat_lit 767, ⟨.type "code", none, .fields #[.str "attach_class" 1325, .str "Gdef.attach_class" 1326, .str "/claim/cut.py" 1327, .int 579 0, .int 2 0, .int 0 0, .int 0 0, .int 3 0, .ref 762, .bool true, .int 181 0, .ref 763, .none, .ref 764, .ref 765, .ref 766, .int 1330 0, .int 579 0, .str "/claim/cut.py" 1331], #[]⟩) ::
  (nat_lit 768, fnObj (stmtIn 98 2) "Gdef.attach_class" (.none) (.none) (.none) (.str "joinedhand.gdef" 1284) none (.ref 767) (.none)) ::
  (nat_lit 774, ⟨.type "code", none, .fields #[.str "is_in_set" 1333, .str "Gdef.is_in_set" 1334, .str "/claim/cut.py" 1335, .int 582 0, .int 3 0, .int 0 0, .int 0 0, .int 3 0, .ref 769, .bool true, .int 181 0, .ref 770, .none, .ref 771, .ref 772, .ref 773, .int 1339 0, .int 582 0, .str "/claim/cut.py" 1340], #[]⟩) ::
  (nat_lit 775, fnObj (stmtIn 98 3) "Gdef.is_in_set" (.none) (.none) (.none) (.str "joinedhand.gdef" 1284) none (.ref 774) (.none)) ::
  (nat_lit 779, ⟨.type "code", none, .fields #[.str "told" 1342, .str "Gdef.told" 1343, .str "/claim/cut.py" 1344, .int 585 0, .int 1 0, .int 0 0, .int 0 0, .int 3 0, .ref 776, .bool true, .int 181 0, .ref 777, .none, .none, .none, .ref 778, .int 1345 0, .int 585 0, .str "/claim/cut.py" 1346], #[]⟩) ::
  (nat_lit 780, fnObj (stmtIn 98 4) "Gdef.told" (.none) (.none) (.none) (.str "joinedhand.gdef" 1284) none (.ref 779) (.none)) ::
  (nat_lit 782, ⟨.type "dict", none, .dict #[⟨PyData.keyHash P "__module__", .str "__module__" 1299, .str "joinedhand.gdef" 1284⟩, ⟨PyData.keyHash P "__firstlineno__", .str "__firstlineno__" 1303, .int 566 1302⟩, ⟨PyData.keyHash P "__init__", .str "__init__" 1315, .ref 754⟩, ⟨PyData.keyHash P "glyph_class", .str "glyph_class" 1324, .ref 761⟩, ⟨PyData.keyHash P "attach_class", .str "attach_class" 1332, .ref 768⟩, ⟨PyData.keyHash P "is_in_set", .str "is_in_set" 1341, .ref 775⟩, ⟨PyData.keyHash P "told", .str "told" 1347, .ref 780⟩, ⟨PyData.keyHash P "__static_attributes__", .str "__static_attributes__" 1353, .ref 781⟩, ⟨PyData.keyHash P "__dict__", .str "__dict__" 1355, .ref 784⟩, ⟨PyData.keyHash P "__weakref__", .str "__weakref__" 1357, .ref 785⟩, ⟨PyData.keyHash P "__doc__", .str "__doc__" 1358, .none⟩] 4, #[]⟩) ::
  (nat_lit 783, ⟨.type "type", none, .cls ⟨"Gdef", [.type "object"], [.ref 783, .type "object"], 782, "Gdef", true, [], [], false, none, false⟩, #[none, none, some (.str "Gdef" 1292), some (.str "Gdef" 1300), some (.builtin "object.__new__"), some (.bool true)]⟩) ::
  (nat_lit 784, ⟨.type "getset_descriptor", none, .fields #[.str "__dict__" 1354, .ref 783, .builtin "function.__dict__", .builtin "function.__dict__#set"], #[]⟩) ::
  (nat_lit 785, ⟨.type "getset_descriptor", none, .fields #[.str "__weakref__" 1356, .ref 783, .builtin "ExceptionGroup.__weakref__", .none], #[]⟩) ::
  (nat_lit 791, ⟨.type "code", none, .fields #[.str "_law_pen" 1363, .str "_law_pen" 1364, .str "/claim/cut.py" 1365, .int 590 0, .int 1 0, .int 0 0, .int 0 0, .int 3 0, .ref 788, .bool true, .int 181 0, .ref 789, .none, .none, .none, .ref 790, .int 1366 0, .int 590 0, .str "/claim/cut.py" 1367], #[]⟩) ::
  (nat_lit 792, fnObj (stmtAt 100) "_law_pen" (.none) (.none) (.none) (.str "law_pb0208_01" 1361) none (.ref 791) (.none)) ::
  (nat_lit 798, ⟨.type "code", none, .fields #[.str "_law_draw" 1369, .str "_law_draw" 1370, .str "/claim/cut.py" 1371, .int 592 0, .int 2 0, .int 0 0, .int 0 0, .int 3 0, .ref 793, .bool true, .int 181 0, .ref 794, .none, .ref 795, .ref 796, .ref 797, .int 1379 0, .int 592 0, .str "/claim/cut.py" 1380], #[]⟩) ::
  (nat_lit 799, fnObj (stmtAt 101) "_law_draw" (.none) (.none) (.none) (.str "law_pb0208_01" 1361) none (.ref 798) (.none)) ::
  (nat_lit 805, ⟨.type "code", none, .fields #[.str "_law_pick" 1382, .str "_law_pick" 1383, .str "/claim/cut.py" 1384, .int 609 0, .int 2 0, .int 0 0, .int 0 0, .int 3 0, .ref 800, .bool true, .int 181 0, .ref 801, .none, .ref 802, .ref 803, .ref 804, .int 1387 0, .int 609 0, .str "/claim/cut.py" 1388], #[]⟩) ::
  (nat_lit 806, fnObj (stmtAt 102) "_law_pick" (.none) (.none) (.none) (.str "law_pb0208_01" 1361) none (.ref 805) (.none)) ::
  (nat_lit 812, ⟨.type "code", none, .fields #[.str "_law_value" 1390, .str "_law_value" 1391, .str "/claim/cut.py" 1392, .int 611 0, .int 1 0, .int 0 0, .int 0 0, .int 3 0, .ref 807, .bool true, .int 181 0, .ref 808, .none, .ref 809, .ref 810, .ref 811, .int 1394 0, .int 611 0, .str "/claim/cut.py" 1395], #[]⟩) ::
  (nat_lit 813, fnObj (stmtAt 103) "_law_value" (.none) (.none) (.none) (.str "law_pb0208_01" 1361) none (.ref 812) (.none)) ::
  (nat_lit 817, ⟨.type "code", none, .fields #[.str "_law_parted" 1397, .str "_law_parted" 1398, .str "/claim/cut.py" 1399, .int 613 0, .int 4 0, .int 0 0, .int 0 0, .int 3 0, .ref 814, .bool true, .int 181 0, .ref 815, .none, .none, .none, .ref 816, .int 1400 0, .int 613 0, .str "/claim/cut.py" 1401], #[]⟩) ::
  (nat_lit 818, fnObj (stmtAt 104) "_law_parted" (.none) (.none) (.none) (.str "law_pb0208_01" 1361) none (.ref 817) (.none)) ::
  (nat_lit 822, ⟨.type "code", none, .fields #[.str "_law_buffer" 1403, .str "_law_buffer" 1404, .str "/claim/cut.py" 1405, .int 619 0, .int 1 0, .int 0 0, .int 0 0, .int 3 0, .ref 819, .bool true, .int 181 0, .ref 820, .none, .none, .none, .ref 821, .int 1406 0, .int 619 0, .str "/claim/cut.py" 1407], #[]⟩) ::
  (nat_lit 823, fnObj (stmtAt 105) "_law_buffer" (.none) (.none) (.none) (.str "law_pb0208_01" 1361) none (.ref 822) (.none)) ::
  (nat_lit 827, ⟨.type "code", none, .fields #[.str "_law_told" 1409, .str "_law_told" 1410, .str "/claim/cut.py" 1411, .int 621 0, .int 1 0, .int 0 0, .int 0 0, .int 3 0, .ref 824, .bool true, .int 181 0, .ref 825, .none, .none, .none, .ref 826, .int 1412 0, .int 621 0, .str "/claim/cut.py" 1413], #[]⟩) ::
  (nat_lit 828, fnObj (stmtAt 106) "_law_told" (.none) (.none) (.none) (.str "law_pb0208_01" 1361) none (.ref 827) (.none)) ::
  (nat_lit 834, ⟨.type "code", none, .fields #[.str "_law_alike" 1415, .str "_law_alike" 1416, .str "/claim/cut.py" 1417, .int 623 0, .int 4 0, .int 0 0, .int 0 0, .int 3 0, .ref 829, .bool true, .int 181 0, .ref 830, .none, .ref 831, .ref 832, .ref 833, .int 1426 0, .int 623 0, .str "/claim/cut.py" 1427], #[]⟩) ::
  (nat_lit 835, fnObj (stmtAt 107) "_law_alike" (.none) (.none) (.none) (.str "law_pb0208_01" 1361) none (.ref 834) (.none)) ::
  (nat_lit 839, ⟨.type "code", none, .fields #[.str "law" 1429, .str "law" 1430, .str "/claim/cut.py" 1431, .int 635 0, .int 1 0, .int 0 0, .int 0 0, .int 3 0, .ref 836, .bool true, .int 181 0, .ref 837, .none, .none, .none, .ref 838, .int 1432 0, .int 635 0, .str "/claim/cut.py" 1433], #[]⟩) ::
  (nat_lit 840, fnObj (stmtAt 108) "law" (.none) (.none) (.none) (.str "law_pb0208_01" 1361) none (.ref 839) (.none)) :: []
noncomputable def hd.view_39 : Program := { thePr with main := { thePr.main with body := [stmtAt 108] } }
noncomputable def hd.loose : List Str := (["_wall", "RIGHT_TO_LEFT", "IGNORE_BASES", "IGNORE_LIGATURES", "IGNORE_MARKS", "USE_SET", "Lookup", "Scene", "attach_wanted", "class_bit", "is_ignored", "passes", "nested_scene", "Info", "Buffer", "hang", "KINDS_IN_INPUT", "KINDS_AROUND", "fits", "neighbour", "next_at", "before_at", "is_borne", "found_at", "input_at", "last_at", "ahead_at", "back_at", "BOND", "join_forward", "join_backward", "loosen", "turn_chain", "break_ring", "tie", "apply_cursive", "difference", "MARK_GLYPH", "scene_with", "is_mark_at", "is_later_part", "base_ahead", "set_on", "apply_base", "component_of", "apply_component", "are_of_one", "apply_mark", "BY_GLYPHS", "BY_CLASSES", "tests_of", "rule_tests", "rules_at", "MOST_DEPTH", "MOST_PLACES", "MOST_ACTIONS", "Places", "match_rule", "inner_scene", "grow", "shrink", "move", "do_action", "do_actions", "apply_context", "Value", "add_value", "Adjust", "apply_adjust", "pair_told", "moves_second", "PairGlyphs", "PairClasses", "has_second", "apply_pair", "apply_position", "position_at", "beginnings_of_context", "beginnings_of_pair", "beginnings", "run_position", "ClassDef", "NO_CLASS", "BASE", "COMPONENT", "Gdef", "_law_pen", "_law_draw", "_law_pick", "_law_value", "_law_parted", "_law_buffer", "_law_told", "_law_alike"] : List String).map Str.ofString
noncomputable def hd.adrs : List Addr := [2, 3, 20, 21, 34, 35, 39, 40, 42, 43, 44, 45, 55, 61, 62, 64, 65, 66, 67, 75, 76, 82, 83, 89, 90, 96, 97, 103, 104, 117, 118, 124, 125, 131, 132, 134, 135, 136, 137, 147, 153, 154, 158, 159, 165, 166, 170, 171, 177, 178, 184, 185, 187, 188, 189, 190, 196, 197, 198, 199, 205, 206, 212, 213, 219, 220, 226, 227, 233, 234, 240, 241, 247, 248, 254, 255, 261, 262, 268, 269, 275, 276, 282, 283, 289, 290, 296, 297, 303, 304, 310, 311, 317, 318, 324, 325, 331, 332, 338, 339, 345, 346, 352, 353, 359, 360, 366, 367, 373, 374, 380, 381, 387, 388, 394, 395, 399, 400, 406, 407, 411, 412, 425, 426, 428, 429, 430, 431, 439, 440, 446, 447, 451, 452, 456, 457, 463, 464, 470, 471, 477, 478, 484, 485, 498, 499, 505, 506, 512, 513, 515, 516, 517, 518, 526, 527, 540, 541, 545, 546, 548, 549, 550, 551, 559, 560, 566, 567, 571, 572, 580, 586, 587, 593, 594, 598, 599, 601, 602, 603, 604, 614, 618, 619, 625, 626, 630, 631, 633, 634, 635, 636, 644, 645, 651, 652, 658, 659, 665, 666, 672, 673, 677, 678, 684, 685, 691, 692, 705, 706, 712, 713, 719, 720, 726, 727, 731, 732, 734, 735, 736, 737, 747, 753, 754, 760, 761, 767, 768, 774, 775, 779, 780, 782, 783, 784, 785, 791, 792, 798, 799, 805, 806, 812, 813, 817, 818, 822, 823, 827, 828, 834, 835, 839, 840]
theorem hd.adrs_eq : ∀ P : Params, hd.adrs = (hd.heap_39 P).map (·.1) := fun P => by kernel_rfl
theorem bootT_abs : ∀ P : Params, absHeap (bootT P) 11 (boot_heap P).life = boot_heap P := fun P => by kernel_rfl
noncomputable def S0 (w : World) (os : OsState) : SharedT := ⟨bootT w.params, 11, (boot_heap w.params).life, #[], boot_drawn, boot_toks, os⟩
theorem S0_abs (w : World) (os : OsState) : (S0 w os).abs = ⟨boot_heap w.params, #[], boot_drawn, boot_toks, os⟩ := by
  unfold S0 SharedT.abs
  dsimp only
  rw [bootT_abs]
noncomputable def hk : Hook := kmHook hd.heap_39 hd.adrs hd.adrs_eq [837]
noncomputable abbrev theRow : RowW := OpenRow.toRowW (OpenLaw.row PySem.Challenge.rw_pb0208_01)
noncomputable def seenAll (s : Shared) : Bool := xlAt hd.view_39 [] s && recOk (RowW.records theRow) s
noncomputable def kept (w : World) (s : Shared) : Bool := staticsOk (importedModules thePr.main.body) (boot_heap w.params) s.heap && namesBound thePr s.heap && gensDone s && laidKept (boot_heap w.params) s.heap
theorem boot_size : ∀ w : World, ((boot_heap w.params).isNs mainGlobals && (#[] : Array GenState).size == 0, (boot_heap w.params).objs.size) = (true, 11) := fun w => by kernel_rfl
noncomputable def topSeen (w : World) (os : OsState) : Option SharedT := topRunG (PySem.W.Fast.tw6613529449190102663 11 (PySem.W.Fast.tw8920871248978507458 (boot_heap w.params) mainGlobals "__annotations__")) (PySem.W.Fast.tw10156331382660048174 (PySem.W.Fast.tw11892475500146522536 PySem.W.Fast.tw14364793385576792824) thePr w) 5700 (S0 w os) (topStub thePr)
theorem seen_a : ∀ w : World, (fun os => (topSeen w os).map (fun s => kept w s.abs)) = fun _ => some true := fun w => by kernel_rfl
theorem seen_b : ∀ w : World, (fun os => (topSeen w os).map (fun s => PySem.W.Fast.tw4187177175401517315 hd.view_39 hd.loose (PySem.W.Fast.tw5923862056798008813 thePr.main.body) seenAll true s.abs)) = fun _ => some (openGood hd.view_39 hd.loose) := fun w => by kernel_rfl
theorem seen_c : ∀ w : World, (fun os => (topSeen w os).map (fun s => hk.obs s.abs)) = fun _ => some (hk.val w) := fun w => by kernel_rfl
theorem seen_all (w : World) (os : OsState) : ∃ s, topRunG (stepOk 11 ((boot_heap w.params).nsMap mainGlobals "__annotations__")) (stepT (denote treeTable) thePr w) 5700 (S0 w os) (topStub thePr) = some s ∧ kept w s.abs = true ∧ openSeen hd.view_39 hd.loose (importedModules thePr.main.body) seenAll true s.abs = openGood hd.view_39 hd.loose ∧ hk.obs s.abs = hk.val w := by
  obtain ⟨s, e, ha⟩ := Option.map_eq_some_iff.mp (congrFun (seen_a w) os)
  have hb := congrFun (seen_b w) os
  have hc := congrFun (seen_c w) os
  rw [e] at hb hc
  rw [PySem.W.Fast.te6613529449190102663, PySem.W.Fast.te8920871248978507458, PySem.W.Fast.te10156331382660048174, PySem.W.Fast.te11892475500146522536, PySem.W.Fast.te14364793385576792824, PySem.W.Fast.te4187177175401517315, PySem.W.Fast.te5923862056798008813]
  exact ⟨s, e, ha, Option.some.inj hb, Option.some.inj hc⟩
theorem said1 : PySem.W.Fast.tw9446332074065402090 PySem.Challenge.rw_pb0208_01 = true := by kernel_rfl
theorem said0 : PySem.Challenge.rw_pb0208_01.wellSaid = true := by
  rw [PySem.W.Fast.te9446332074065402090]
  exact said1
theorem left_ok : LeftO thePr hd.view_39 hd.loose seenAll hk.obs hk.val 6000 :=
  left_tree (k := 300) (S := S0) (boot_open (p := thePr) (N := 6000) (by kernel_rfl) (by decide) (fun s => by kernel_rfl)) boot_size S0_abs seen_all rfl

theorem fill : PySem.Challenge.rw_pb0208_01 = PySem.Challenge.rw_pb0208_01 ∧ ∀ P, hd.heap_39 P = hd.heap_39 P := by
  k_fill
  exact ⟨rfl, fun _ => rfl⟩
section
theorem tn_cast {a : Int} (h : 0 ≤ a) : a = (a.toNat : Int) := (Int.toNat_of_nonneg h).symm
theorem tn_lt {a : Int} {n : Nat} (h : 0 ≤ a) (g : a < n) : a.toNat < n := (Int.toNat_lt h).mpr g
theorem tn_le {a : Int} {n : Nat} (g : a ≤ n) : a.toNat ≤ n := Int.toNat_le.mpr g
theorem tn_sub {i j : Int} (h0 : 0 ≤ i) (h : i ≤ j) : j.toNat - i.toNat = (j - i).toNat := by
  obtain ⟨a, rfl⟩ := Int.eq_ofNat_of_zero_le h0
  obtain ⟨b, rfl⟩ := Int.eq_ofNat_of_zero_le (Int.le_trans h0 h)
  exact (Int.toNat_sub b a).symm
theorem tn_mono {i j : Int} (h : i ≤ j) : i.toNat ≤ j.toNat := Int.toNat_le_toNat h
theorem tn_add {i j : Int} (h0 : 0 ≤ i) (h : i ≤ j) : i.toNat + (j - i).toNat = j.toNat := by
  rw [← tn_sub h0 h]; exact Nat.add_sub_cancel' (tn_mono h)
theorem tn_succ {a : Int} (h : 0 ≤ a) : (a + 1).toNat = a.toNat + 1 := Int.toNat_add_nat h 1
/-- the place `c` of the part from `i` to `j` lies in the whole -/
theorem tn_in {i j : Int} {c m n : Nat} (h0 : 0 ≤ i) (h : i ≤ j) (hj : j ≤ n) (hm : m = (j - i).toNat) (hc : c < m) : i.toNat + c < n :=
  Nat.lt_of_lt_of_le (Nat.add_lt_add_left (hm ▸ hc) _) (Nat.le_trans (Nat.le_of_eq (tn_add h0 h)) (tn_le hj))
theorem le2 {i j : Int} (h : i + 2 ≤ j) : i ≤ j := Int.le_trans (Int.le_add_of_nonneg_right (by decide)) h
theorem sub_two {i j : Int} (h : i + 2 ≤ j) : 2 ≤ (j - i).toNat := by omega
theorem sub_le {i j : Int} {n : Nat} (h0 : 0 ≤ i) (h : j ≤ n) : (j - i).toNat ≤ n := by omega
theorem cap_le {a b c : Int} {k : Int} (h : a ≤ b) (g : b + k ≤ c) : a + k ≤ c := Int.le_trans (Int.add_le_add_right h k) g
theorem un_lt {u k a c : Nat} (h : u + a < 9000) (g : 9000 + k ≤ c + a) : u + k < c := by omega
theorem succ_sub {n i k : Nat} (h : n - i = k + 1) : n - (i + 1) = k := by rw [Nat.sub_add_eq, h]; rfl
theorem lt_of_sub {n i k : Nat} (h : n - i = k + 1) : i < n := Nat.lt_of_sub_pos (h ▸ Nat.succ_pos k)
theorem eq_of_sub {n i : Nat} (h : n - i = 0) (g : i ≤ n) : i = n := Nat.le_antisymm g (Nat.sub_eq_zero_iff_le.mp h)
theorem last_eq {i n : Nat} (h : ¬ i < n) (g : i < n + 1) : i = n := Nat.le_antisymm (Nat.le_of_lt_succ g) (Nat.le_of_not_lt h)
theorem min_le6 {a b n : Nat} (h : a ≤ n) : min a b ≤ n := Nat.le_trans (Nat.min_le_left a b) h
theorem o_le {a m k : Nat} (h : a ≤ m) (hk : Nat.ble m k = true) : a ≤ k := Nat.le_trans h (Nat.le_of_ble_eq_true hk)
theorem o_un {u a c : Nat} (h : u + a < 9000) (hk : Nat.ble c (a + 900) = true) : u + c < 9900 := by
  have := Nat.le_of_ble_eq_true hk
  omega
theorem o_un2 {u a c d : Nat} (h : u + a < 9000) (hk : Nat.ble (c + d) (a + 900) = true) : u + c + d < 9900 := Nat.add_assoc u c d ▸ o_un h hk
theorem o_ilt {a m k : Int} (h : a < m) (hk : decide (m ≤ k) = true) : a < k := Int.lt_of_lt_of_le h (of_decide_eq_true hk)
theorem o_ile {a m k : Int} (h : a ≤ m) (hk : decide (m ≤ k) = true) : a ≤ k := Int.le_trans h (of_decide_eq_true hk)
theorem o_pos {a b : Int} (h : 0 ≤ a) (g : a < b) : 0 ≤ b := Int.le_trans h (Int.le_of_lt g)
theorem o_cast {a : Int} {n m : Nat} {k : Int} (h : n ≤ m) (g : a < n) (hk : decide ((m : Int) ≤ k) = true) : a < k := Int.lt_of_lt_of_le g (Int.le_trans (Int.ofNat_le.mpr h) (of_decide_eq_true hk))
theorem o_lteq {a b c : Int} (h : a < b) (e : b = c) : a < c := e ▸ h
theorem o_tn {a : Int} {n : Nat} (h0 : 0 ≤ a) (h : a < n) : a.toNat < n := (Int.toNat_lt h0).mpr h
theorem o_tnc {a : Int} (h : 0 ≤ a) : (a.toNat : Int) = a := Int.toNat_of_nonneg h
theorem o_tnl {a b : Int} (h : 0 ≤ a) (g : a < b) : a < (b.toNat : Int) := (Int.toNat_of_nonneg (o_pos h g)).symm ▸ g
theorem o_tnr {a b : Int} (h : 0 ≤ a) (g : a < b) : (a.toNat : Int) < b := (Int.toNat_of_nonneg h).symm ▸ g
theorem o_cap1 {x m a c : Int} (h : x ≤ m) (hk : decide (m + a ≤ c) = true) : x + a ≤ c := Int.le_trans (Int.add_le_add_right h a) (of_decide_eq_true hk)
theorem o_cap2 {x m a b c : Int} (h : x ≤ m) (hk : decide (m + a + b ≤ c) = true) : x + a + b ≤ c := o_cap1 (Int.add_le_add_right h a) hk
theorem o_cap3 {x m a b d c : Int} (h : x ≤ m) (hk : decide (m + a + b + d ≤ c) = true) : x + a + b + d ≤ c := o_cap2 (Int.add_le_add_right h a) hk
theorem o_nat {b : Int} {n m : Nat} {c : Int} (h : n < m) (hk : decide (b + m ≤ c) = true) : b + n ≤ c := Int.le_trans (Int.add_le_add_left (Int.ofNat_le.mpr (Nat.le_of_lt h)) b) (of_decide_eq_true hk)
theorem o_step {b : Int} {c : Nat} : b + c + 1 ≤ b + (c + 1 : Nat) := Int.le_of_eq (Int.add_assoc b c 1)
theorem o_lt1 {a b : Nat} (h : a < b + 1) (g : ¬ a = b) : a < b := Nat.lt_of_le_of_ne (Nat.le_of_lt_succ h) g
theorem o_lt2 {a b : Nat} (h : a < b + 1) (g : ¬ b = a) : a < b := o_lt1 h (Ne.symm g)
theorem o_last {a b : Nat} (g : ¬ a < b) (h : a < b + 1) : a = b := last_eq g h
theorem o_adds {a b c : Nat} (h : a + (b + 1) = c) : a + 1 + b = c := (Nat.add_right_comm a 1 b).trans h
theorem o_addlt {a b c : Nat} (h : a + (b + 1) = c) : a < c := h ▸ Nat.lt_add_of_pos_right (Nat.succ_pos b)
theorem o_dec6 {a b : Int} {k : Int} (h : a < b) (g : a < k) : (k - b).toNat < (k - a).toNat := by omega
theorem o_abs {a : Int} {p : Prop} (h : 0 ≤ a) (g : ¬ a + 1 > -1) : p := absurd (Int.lt_of_lt_of_le (by decide) (Int.add_nonneg h (by decide))) g
theorem o_cap8 {n : Nat} (h : (n : Int) < 12) : (64 : Int) + 8 * n ≤ 152 := by omega
theorem o_c12 {n i : Nat} (h : (n : Int) < 12) (g : i < n) : (i : Int) < 12 := Int.lt_trans (Int.ofNat_lt.mpr g) h
theorem o_n12 {n : Nat} (h : (n : Int) < 12) : n ≤ 100 := Nat.le_of_lt (Nat.lt_trans (Int.ofNat_lt.mp h) (by decide))
theorem o_n7 {n : Nat} (h : (n : Int) < 7) : n ≤ 6 := Nat.le_of_lt_succ (Int.ofNat_lt.mp h)
theorem o_n30 {n : Nat} (h : n < 6) : (30 : Int) + 4 * n ≤ 50 := by omega
theorem o_s30b {n : Nat} : (30 : Int) + 4 * n + 1 + 3 ≤ 30 + 4 * (n + 1 : Nat) := by omega
theorem o_s64 {n : Nat} : (64 : Int) + 8 * n + 3 + 3 + 1 + 1 ≤ 64 + 8 * (n + 1 : Nat) := by omega
theorem o_3 {a : Int} : a + 1 + 1 + 1 = a + 3 := (Int.add_assoc _ _ _).trans (Int.add_assoc _ _ _)
theorem o_8 {a : Int} : a + 6 + 1 + 1 = a + 8 := (Int.add_assoc _ _ _).trans (Int.add_assoc _ _ _)
theorem dec7 {a : Int} (h : a < 7) : (7 - (a + 1)).toNat < (7 - a).toNat := o_dec6 (Int.lt_succ a) h
end
/-- everything of b stands in h -/
structure Sub (b h : Heap) : Prop where
  size : b.objs.size ≤ h.objs.size
  keep : ∀ a o, b.get? a = some o → h.get? a = some o

noncomputable abbrev Ledger := List (Addr × Obj)
noncomputable def Led (b h : Heap) (l : Ledger) : Prop := ∀ p ∈ l, h.get? p.1 = some p.2 ∧ b.get? p.1 = none
noncomputable def Has (b : Heap) (l : Ledger) : Prop := ∀ p ∈ l, b.get? p.1 = some p.2

structure Glo (w : World) (b : Heap) : Prop where
  X : (hd.heap_39 w.params).In b
  T : ∃ (p : Program) (loose : List Str) (mean : ExcName → Option Value) (mg mb : Str → Option Value), Top p loose mean mg mb b

theorem Glo.keeps {w : World} {b b' : Heap} (G : Glo w b) (k : ∀ a o, b.get? a = some o → b'.get? a = some o) : Glo w b' :=
  ⟨G.X.keeps k, let ⟨p, l, me, mg, mb, T⟩ := G.T; ⟨p, l, me, mg, mb, T.keeps k⟩⟩

noncomputable abbrev ar (dp un : Nat) (fr : Option (List Env)) (gd : Option (List Code)) : Around := { handled := none, depth := dp, frames := fr, guards := gd, units := un }

/-- the contract of a call: imm is read, mu is read and changed, Post tells the value and what mu has become, with what is new -/
noncomputable def Calls (prog : Program) (w : World) (lvl : Nat) (f : Value) (args : List Value) (imm mu : Ledger) (Post : Nat → Value → Ledger → Prop) : Prop :=
  ∀ (dp un : Nat) (fr : Option (List Env)) (gd : Option (List Code)) (s : Shared) (b : Heap) (R : Result → Shared → Prop),
    dp + 5 * lvl < 900 → un + 100 * lvl < 9000 → Sub b s.heap → Glo w b → Has b imm → Led b s.heap mu →
    (∀ v h' tk mu', Post s.heap.objs.size v mu' → Sub b h' → Led b h' mu' → R (.ok (.ret v)) { s with heap := h', toks := tk }) →
    codeAny (model prog w) (ar dp un fr gd) (.call f ⟨args, []⟩) R s

section
variable {prog : Program} {w : World} {p : Program} {loose : List Str} {mean : ExcName → Option Value} {mg mb : Str → Option Value}

theorem enter {K : Frag} {A : Around} {s : Shared} {b : Heap} {news : Ledger}
    {R : Result → Shared → Prop} {name qual : Str} {params : Arguments} {body : List Stmt} {scope : Scope} {dV kV doc pm cdv ct oc : Value} {an od : Option Addr} {osl : Array (Option Value)} {f : Addr} {args : Args} (binds : List (Str × Value))
    (S : Sub b s.heap) (N : Led b s.heap news) (X : K.In b) (T : Top p loose mean mg mb b)
    (ho : K.lookup f = some ⟨oc, od, .func (fnOf name qual params body scope dV kV doc pm an cdv ct), osl⟩) (hcd : codeIn K cdv qual = true) (hroom : A.depth < recursionLimit)
    (hbind : BindsTo s (fnOf name qual params body scope dV kV doc pm an cdv ct) args binds) (hloc : ∀ y ∈ binds, scope.names.lookup y.1 = some .local)
    (h : ∀ L' h₁ tk, s.heap.objs.size ≤ L' → Fr b L' h₁ (fun y => binds.reverse.lookup y) → News b L' h₁ news →
      wpAny (model prog w) (A.deeper (envOf qual scope L' f cdv)) (execs body (envOf qual scope L' f cdv))
        (fun fl s' => R (.ok (.ret (match fl with | .ret v => v | _ => .none))) s')
        (fun _ _ => False)
        { s with heap := h₁, toks := tk })
    (hco : scope.isCoroutine = false := by rfl) (hgen : scope.isGenerator = false := by rfl) (hk : scope.kind = .function := by rfl)
    (hcell : ∀ x ∈ scope.names, x.2 ≠ .cell := by decide) : codeAny (model prog w) A (.call (.ref f) args) R s := by
  have X' : K.In s.heap := fun a o e => S.keep _ _ (X a o e)
  refine codeAny_call_def (fd := fnOf name qual params body scope dV kV doc pm an cdv ct) (body := body) (binds := binds) hroom (X' _ _ ho) rfl (T.nolimit.keeps S.keep) (codeRec_of X' hcd) rfl hbind hcell hloc (fun h₁ hns hk₁ => ?_) hco hgen hk
  refine wpAny_mono (h s.heap.objs.size h₁ _ (Nat.le_refl _) ⟨hns, fun b o e => hk₁ b o (S.keep _ _ e), S.size⟩ fun p hp => ⟨hk₁ _ _ (N p hp).1, Nat.ne_of_lt (Heap.lt_size (N p hp).1), (N p hp).2⟩) (fun fl s' hl => hl) fun _ _ y => y.elim

/-- the end of a def: what Calls asks -/
theorem sub_of_fr {b h : Heap} {L : Addr} {m : Str → Option Value} (F : Fr b L h m) : Sub b h := ⟨Nat.le_trans F.above (Nat.le_of_lt F.ns.lt), F.keep⟩
theorem led_of_news {b h : Heap} {L : Addr} {l l' : Ledger} (N : News b L h l) (hs : ∀ p ∈ l', p ∈ l) : Led b h l' := fun p hp => ⟨(N p (hs p hp)).1, (N p (hs p hp)).2.2⟩

theorem news_lt {b h : Heap} {L : Addr} {l : Ledger} (N : News b L h l) : ∀ p ∈ l, p.1 < h.objs.size := fun p hp => Heap.lt_size (N p hp).1

/-- a call by its contract, from a frame -/
theorem use {b : Heap} {L : Addr} {m : Str → Option Value} {news imm mu rest : Ledger} {Post : Nat → Value → Ledger → Prop} {lvl dp un : Nat} {fr : Option (List Env)} {gd : Option (List Code)} {s : Shared} {f : Value} {args : List Value}
    {Q : Value → Shared → Prop} {E : Value → Shared → Prop}
    (C : Calls prog w lvl f args imm mu Post) (hdp : dp + 5 * lvl < 900) (hun : un + 100 * lvl < 9000)
    (F : Fr b L s.heap m) (N : News b L s.heap news) (X : (hd.heap_39 w.params).In b) (T : Top p loose mean mg mb b)
    (hm : ∀ p ∈ mu, p ∈ news) (hi : ∀ p ∈ imm, (p ∈ news ∧ p ∉ mu) ∨ b.get? p.1 = some p.2) (hr : ∀ p ∈ rest, p ∈ news ∧ p ∉ mu)
    (k : ∀ G : Nat → Value → Heap → Nat → Ledger → Prop, (∀ n₀ v h' tk mu', ((∀ p ∈ news, p.1 < n₀) → L < n₀ → Fr b L h' m → News b L h' (mu' ++ rest) → Q v { s with heap := h', toks := tk }) → G n₀ v h' tk mu') → ∀ n₀ v h' tk mu', Post n₀ v mu' → G n₀ v h' tk mu') :
    wpAny (model prog w) (ar dp un fr gd) (call f args) Q E s := by
  have k := k _ fun _ _ _ _ _ x => x
  have ne : ∀ p, p ∈ news → p ∉ mu → p.1 ∉ mu.map (·.1) := fun p hp hn q => by
    obtain ⟨r, hq, e⟩ := List.mem_map.mp q
    have h1 := (N r (hm r hq)).1
    have h2 := (N p hp).1
    rw [e, h2] at h1
    have : p = r := Prod.ext e.symm (Option.some.inj h1)
    exact hn (this ▸ hq)
  have bn : ∀ a o, b.get? a = some o → a ∉ mu.map (·.1) := fun a o e q => by
    obtain ⟨r, hq, rfl⟩ := List.mem_map.mp q
    have := (N r (hm r hq)).2.2
    rw [this] at e; cases e
  have bb : ∀ a o, b.get? a = some o → (hideAll s.heap (mu.map (·.1))).get? a = some o := fun a o e => hideAll_get _ (F.keep a o e) (bn a o e)
  have G : Glo w (hideAll s.heap (mu.map (·.1))) := (Glo.mk X ⟨_, _, _, _, _, T⟩).keeps bb
  have Lm : L ∉ mu.map (·.1) := fun q => by
    obtain ⟨r, hq, e⟩ := List.mem_map.mp q
    exact (N r (hm r hq)).2.1 e
  refine wpAny_call (C dp un fr gd s (hideAll s.heap (mu.map (·.1))) _ hdp hun ⟨Nat.le_of_eq (hideAll_size _ _), fun a o e => of_hideAll _ e⟩ G (fun p hp => ?_) (fun p hp => ⟨(N p (hm p hp)).1, hideAll_none _ (List.mem_map_of_mem hp)⟩) fun v h' tk mu' hP S' L' => ?_)
  · rcases hi p hp with ⟨h1, h2⟩ | h1
    · exact hideAll_get _ (N p h1).1 (ne p h1 h2)
    · exact bb _ _ h1
  · obtain ⟨oL, es, ep, hL, hr'⟩ := F.ns
    have hLg := hideAll_get _ hL Lm
    refine k s.heap.objs.size v h' tk mu' hP (news_lt N) (Heap.lt_size hL) ⟨⟨oL, es, ep, S'.keep _ _ hLg, hr'⟩, fun a o e => S'.keep _ _ (bb a o e), F.above⟩ fun p hp => ?_
    rcases List.mem_append.mp hp with hp | hp
    · refine ⟨(L' p hp).1, fun q => ?_, ?_⟩
      · have := (L' p hp).2; rw [q, hLg] at this; cases this
      · cases q : b.get? p.1 with
        | none => rfl
        | some o => have := (L' p hp).2; rw [bb _ _ q] at this; cases this
    · obtain ⟨h1, h2⟩ := hr p hp
      exact ⟨S'.keep _ _ (hideAll_get _ (N p h1).1 (ne p h1 h2)), (N p h1).2⟩
end

theorem InstAt.lift {b h : Heap} {x C : Addr} {ox : Obj} {od : Option Obj} (I : InstAt b x ox C od) (k : ∀ a o, b.get? a = some o → h.get? a = some o) : InstAt h x ox C od := by
  obtain ⟨h1, h2, h3, h4⟩ := I
  refine ⟨k _ _ h1, h2, h3, ?_⟩
  cases hd : ox.dict with
  | none =>
    rw [hd] at h4
    cases od with
    | none => trivial
    | some o => exact h4
  | some dx =>
    rw [hd] at h4
    cases od with
    | none => exact h4
    | some o => exact k _ _ h4
theorem inst_has {b : Heap} {x C dx : Addr} {od : Obj} {sl : Array (Option Value)} (h1 : b.get? x = some ⟨.ref C, some dx, .plain, sl⟩) (h2 : b.get? dx = some od) : InstAt b x ⟨.ref C, some dx, .plain, sl⟩ C (some od) :=
  ⟨h1, rfl, rfl, h2⟩
theorem Has.c {b : Heap} {a : Addr} {o : Obj} {l : Ledger} (H : Has b ((a, o) :: l)) : b.get? a = some o ∧ Has b l := ⟨H (a, o) (.head _), fun q hq => H q (.tail _ hq)⟩
theorem Has.left {b : Heap} {l l' : Ledger} (H : Has b (l ++ l')) : Has b l := fun q hq => H q (List.mem_append_left _ hq)
theorem Has.right {b : Heap} {l l' : Ledger} (H : Has b (l ++ l')) : Has b l' := fun q hq => H q (List.mem_append_right _ hq)
theorem Led.nil {b h : Heap} : Led b h [] := fun _ hp => nomatch hp

noncomputable def ent (P : Params) (n : Str) (t : Tok) (v : Value) : DictEntry := ⟨PyData.keyHash P n, .str n t, v⟩

noncomputable abbrev NotSys (d : Addr) : Prop := (d == sysModules) = false

section
variable {prog : Program} {w : World} {p : Program} {loose : List Str} {mean : ExcName → Option Value} {mg mb : Str → Option Value}
/-- a call that changes nothing that is at hand -/
theorem use0 {b : Heap} {L : Addr} {m : Str → Option Value} {news imm : Ledger} {Post : Nat → Value → Ledger → Prop} {lvl dp un : Nat} {fr : Option (List Env)} {gd : Option (List Code)} {s : Shared} {f : Value} {args : List Value}
    {Q : Value → Shared → Prop} {E : Value → Shared → Prop}
    (C : Calls prog w lvl f args imm [] Post) (hdp : dp + 5 * lvl < 900) (hun : un + 100 * lvl < 9000)
    (F : Fr b L s.heap m) (N : News b L s.heap news) (X : (hd.heap_39 w.params).In b) (T : Top p loose mean mg mb b)
    (hi : ∀ p ∈ imm, p ∈ news ∨ b.get? p.1 = some p.2)
    (k : ∀ G : Nat → Value → Heap → Nat → Ledger → Prop, (∀ n₀ v h' tk mu', ((∀ p ∈ news, p.1 < n₀) → L < n₀ → Fr b L h' m → News b L h' (mu' ++ news) → Q v { s with heap := h', toks := tk }) → G n₀ v h' tk mu') → ∀ n₀ v h' tk mu', Post n₀ v mu' → G n₀ v h' tk mu') :
    wpAny (model prog w) (ar dp un fr gd) (call f args) Q E s :=
  use C hdp hun F N X T (fun _ hp => nomatch hp) (fun p hp => (hi p hp).imp (fun h => ⟨h, fun q => nomatch q⟩) id) (fun p hp => ⟨hp, fun q => nomatch q⟩) k
end


theorem roomA {d k a b c : Nat} (h : d + a < c) (hk : Nat.ble (k + b) a = true) : d + k + b < c := by
  have := Nat.le_of_ble_eq_true hk
  omega
theorem roomB {d a b c : Nat} (h : d + a < c) (hk : Nat.ble b a = true) : d + b < c := by
  have := Nat.le_of_ble_eq_true hk
  omega
theorem roomR {d k a : Nat} (h : d + a < 900) (hk : Nat.ble k (a + 100) = true) : d + k < recursionLimit := by
  have := Nat.le_of_ble_eq_true hk
  simp only [recursionLimit]
  omega
theorem roomR0 {d a : Nat} (h : d + a < 900) : d < recursionLimit := by
  simp only [recursionLimit]
  omega
set_option hygiene false in
local macro_rules | `(tactic| k_inst) => `(tactic| (refine' InstAt.lift (by with_reducible assumption) ?_; exact Fr.keep (by k_asm)))
set_option hygiene false in
local macro_rules | `(tactic| k_room) => `(tactic| first | exact roomR (by assumption) (by rfl) | exact roomR0 (by assumption) | ((try simp only [depth_deeper, depth_in1, depth_under_make]); simp only [recursionLimit]; omega))
set_option hygiene false in
local macro_rules | `(tactic| omega) => `(tactic| first | with_reducible exact Int.natCast_nonneg _ | with_reducible exact o_le (m := 6) (by assumption) (by decide) | with_reducible exact o_le (m := 1000) (by assumption) (by decide) | with_reducible exact o_ilt (m := 6) (by assumption) (by decide) | with_reducible exact o_cast (m := 6) (by assumption) (by assumption) (by decide) | with_reducible exact o_pos (by assumption) (by assumption) | with_reducible exact o_un2 (by assumption) (by decide) | omega +splitDisjunctions)
-- the start of a contract's proof
-- the premises of a call by a contract
set_option hygiene false in
local macro_rules | `(tactic| kwd_inv) => `(tactic| first | exact roomA (by assumption) (by rfl) | exact roomB (by assumption) (by rfl) | ((try simp only [depth_deeper, depth_in1, depth_under_make, units_deeper, units_in1, cLine]); omega))
set_option hygiene false in
local macro_rules | `(tactic| k_ne) => `(tactic| (refine neN ?_; (try dsimp only); first | with_reducible assumption | exact Ne.symm (by with_reducible assumption) | (refine Nat.ne_of_lt ?_; tb_rel) | (refine Nat.ne_of_gt ?_; tb_rel) | omega))
set_option hygiene false in
local macro_rules | `(tactic| tb_rel) => `(tactic| (first | ((iterate 7 (first | done | with_reducible assumption | with_reducible exact Nat.lt_succ_self _ | with_reducible refine Nat.lt_succ_of_lt ?_)); done) | ((iterate 12 (first | done | with_reducible assumption | (with_reducible refine' And.right (a := ?_) ?_; rotate_left))); done) | (with_reducible refine' And.left (b := ?_) ?_; rotate_left; (iterate 12 (first | done | with_reducible assumption | (with_reducible refine' And.right (a := ?_) ?_; rotate_left))); done)))
-- the walk: it stops at a loop, at a comprehension and at a call of the text's that has no contract here

/-! the data -/
structure Rec where
  g : Int
  cl : Int
  mask : Int
  un : Bool
  xa : Int
  ya : Int
  xo : Int
  yo : Int
structure IR where
  x : Nat
  dx : Nat
  k : Nat → Tok
  v : Nat → Tok
  r : Rec
noncomputable def infoEs (P : Params) (k v : Nat → Tok) (r : Rec) : List DictEntry :=
  [ent P "code" (k 0) (.int 65 (v 0)), ent P "glyph" (k 1) (.int r.g (v 1)), ent P "cluster" (k 2) (.int r.cl (v 2)), ent P "mask" (k 3) (.int r.mask (v 3)),
   ent P "is_unsafe" (k 4) (.bool r.un), ent P "lig_id" (k 5) (.int 0 (v 5)), ent P "lig_part" (k 6) (.int 0 (v 6)), ent P "lig_count" (k 7) (.int 0 (v 7)),
   ent P "split_id" (k 8) (.int 0 (v 8)), ent P "kind" (k 9) (.str "" (v 9)), ent P "x_advance" (k 10) (.int r.xa (v 10)), ent P "y_advance" (k 11) (.int r.ya (v 11)),
   ent P "x_offset" (k 12) (.int r.xo (v 12)), ent P "y_offset" (k 13) (.int r.yo (v 13)), ent P "parent" (k 14) (.int 0 (v 14)), ent P "bond" (k 15) (.str "" (v 15))]
noncomputable abbrev IR.obj (P : Params) (q : IR) : Obj := dictOf (infoEs P q.k q.v q.r) 16
noncomputable abbrev IR.led (P : Params) (q : IR) : Ledger := [(q.x, instObj 135 q.dx), (q.dx, q.obj P)]
noncomputable def rowsLed (P : Params) (rows : List IR) : Ledger := rows.flatMap (IR.led P)
noncomputable abbrev refs (rows : List IR) : List Value := rows.map fun q => Value.ref q.x
theorem mem_rowsLed {P : Params} {rows : List IR} {q : IR} (h : q ∈ rows) : (q.x, instObj 135 q.dx) ∈ rowsLed P rows ∧ (q.dx, q.obj P) ∈ rowsLed P rows :=
  ⟨List.mem_flatMap.mpr ⟨q, h, .head _⟩, List.mem_flatMap.mpr ⟨q, h, .tail _ (.head _)⟩⟩
theorem inst_row {b : Heap} {P : Params} {rows : List IR} (H : Has b (rowsLed P rows)) {q : IR} (h : q ∈ rows) : InstAt b q.x (instObj 135 q.dx) 135 (some (q.obj P)) :=
  inst_has (H _ (mem_rowsLed h).1) (H _ (mem_rowsLed h).2)
theorem refs_at {rows : List IR} {i : Nat} {q : IR} (h : rows[i]? = some q) : (refs rows)[i]? = some (.ref q.x) := by simp [refs, h]

noncomputable abbrev gdefLed (P : Params) (gd dg c dc D : Addr) (oD : Obj) (k : Nat → Tok) (at_ sets pts car : Value) : Ledger :=
  [(gd, instObj 783 dg), (dg, dictOf [ent P "classes" (k 0) (.ref c), ent P "attach" (k 1) at_, ent P "sets" (k 2) sets, ent P "points" (k 3) pts, ent P "carets" (k 4) car] 5),
   (c, instObj 735 dc), (dc, dictOf [ent P "classes" (k 5) (.ref D)] 1), (D, oD)]
noncomputable abbrev lookLed (P : Params) (lk dlk tbl : Addr) (kind : Str) (flag : Int) (k : Nat → Tok) : Ledger :=
  [(lk, instObj 43 dlk), (dlk, dictOf [ent P "kind" (k 0) (.str kind (k 1)), ent P "flag" (k 2) (.int flag (k 3)), ent P "mark_set" (k 4) (.int 0 (k 5)), ent P "tables" (k 6) (.ref tbl)] 4)]
/-- the classes of the six glyphs -/
structure ClsOk (prog : Program) (w : World) (D : Addr) (oD : Obj) (cls : Int → Int) : Prop where
  lo : NotSys D
  kv : ∃ kvs, oD.IsDictOf (PySem.intKind prog w) kvs ∧ ∀ g, 0 ≤ g → g < 6 → ∃ t, valueAt kvs g = some (.int (cls g) t)
  c13 : ∀ g, cls g = 1 ∨ cls g = 3
/-- is a glyph of the class c passed over -/
noncomputable def ign (flag c : Int) : Bool := (flag == 2 && c == 1) || (flag == 8 && c == 3)

section
variable {prog : Program} {w : World}

theorem call_get2 {A : Around} {E : Value → Shared → Prop} {s : Shared} {d : Addr} {o : Obj} {kvs : List (Int × Value)} {g : Int} {t : Tok} {dflt : Value} {Q : Value → Shared → Prop}
    (ho : s.heap.get? d = some o) (hk : o.IsDictOf (PySem.intKind prog w) kvs) (lo : NotSys d) (h : Q ((valueAt kvs g).getD dflt) { s with toks := s.toks + 1 }) :
    wpAny (model prog w) A (call (.builtin "dict.get") [.ref d, .int g t, dflt]) Q E s :=
  have hD : s.heap.DictOf (PySem.intKind prog w) d kvs := Heap.dictOf_iff.mpr ⟨o, ho, hk⟩
  call_meetsIn PySem.F.slot_dict_get hD.typeIs PySem.F.entry_dict_get (PySem.F.args_dict_get_3 _ _ _) (meets_dict_get_default (PySem.intKind prog w) d (intKind_is _ _ _ _) lo dflt) ⟨_, hD.mapOf, h⟩
theorem method_dict {A : Around} {E : Value → Shared → Prop} {s : Shared} {d : Addr} {o : Obj} {kvs : List (Int × Value)} {pl : Sem Bool} {Q : Value × List Value → Shared → Prop}
    (ho : s.heap.get? d = some o) (hk : o.IsDictOf (PySem.intKind prog w) kvs) (h : Q (.builtin "dict.get", [.ref d]) s) :
    wpAny (model prog w) A (getMethod (.ref d) "get" pl) Q E s :=
  have hD : s.heap.DictOf (PySem.intKind prog w) d kvs := Heap.dictOf_iff.mpr ⟨o, ho, hk⟩
  getMethod_builtin hD.typeIs PySem.F.plainAttrs_dict PySem.F.slot_dict_get PySem.F.type_dict_get hD.mapOf.noDict h
theorem item_row {A : Around} {E : Value → Shared → Prop} {s : Shared} {value slice : PySem.Expr} {l : Addr} {n : Nat} {vs : List Value} {k : Int} {u : Tok} {v : Value} {Q : Value → Shared → Prop}
    (ho : s.heap.get? l = some (listOf vs.toArray n)) (h0 : 0 ≤ k) (hhi : k < 2 ^ 63) (hx : vs[k.toNat]? = some v) (h : Q v s)
    (hs : subscripted slice false (.ref l) (.int k u) = operate [.ref l, .int k u] (getItem (.ref l) (.int k u)) := by with_unfolding_all rfl) (hg : ∀ r, letTemporaryGo value (.ref l) r = pure () := by intro _; with_unfolding_all rfl) :
    wpAny (model prog w) A (subscriptTail value slice (.ref l) (.int k u)) Q E s :=
  have hl : s.heap.IsList l vs.toArray := ⟨_, ho, rfl, _, rfl⟩
  subscriptTail_builtin hl.typeIs slot_list_getitem.lookup (wpAny_getItem_list hl h0 hhi (by simpa using hx) h) hs hg

end
set_option hygiene false in
local macro_rules | `(tactic| walk_at "getMethod ref") => `(tactic| (k_here; (with_reducible show wpAny _ _ (getMethod (Value.ref _) (Str.ofString "get") _) _ _ _); k_dflt (refine' method_dict (Fr.keep (by k_asm) _ _ (by assumption)) (by assumption) ?_)))
set_option hygiene false in
local macro_rules | `(tactic| walk_at "call builtin:dict.get") => `(tactic| (k_here; k_dflt (refine' call_get2 (Fr.keep (by k_asm) _ _ (by assumption)) (by assumption) (by assumption) ?_)))
set_option hygiene false in
local macro_rules | `(tactic| walk_at "subscriptTail") => `(tactic| (k_here; (with_reducible show wpAny _ _ (subscriptTail _ _ (Value.ref _) (Value.int _ _)) _ _ _); k_dflt (refine' item_row (Fr.keep (by k_asm) _ _ (by assumption)) (by omega) (by omega) (by assumption) ?_)))
section
variable {prog : Program} {w : World}

theorem class_of_c {c dc D : Addr} {oD : Obj} {kvs : List (Int × Value)} {n : Nat} {tk t tc : Tok} {g v : Int} (hk : oD.IsDictOf (PySem.intKind prog w) kvs) (lo : NotSys D) (hv : valueAt kvs g = some (.int v tc)) :
    Calls prog w 1 (.ref 713) [.ref c, .int g t] [(c, instObj 735 dc), (dc, dictOf [ent w.params "classes" tk (.ref D)] n), (D, oD)] [] (fun _ r mu' => r = .int v tc ∧ mu' = []) := by
  intro dp un fr gd s b R hdp hun S G H N k
  obtain ⟨X, p, loose, mean, mg, mb, T⟩ := G
  obtain ⟨h1, H⟩ := H.c
  obtain ⟨h2, H⟩ := H.c
  obtain ⟨hD, -⟩ := H.c
  have I1 := inst_has h1 h2
  refine' enter [("self", .ref c), ("glyph", .int g t)] S N X T ?k6 ?k7 ?k8 ?k9 ?kB ?_ ?c2 ?c3 ?c4 ?c5
  ( (case k6 | k7 => k_is); (case k8 => k_room); (case k9 => first | exact BindsTo.of_eq rfl | exact binds_K (by first | assumption | exact Frag.In.keeps (by assumption) (Sub.keep (by assumption))) rfl (by k_is) rfl rfl rfl); (case c5 => decide); (case kB => exact locs rfl); (case c2 | c3 | c4 => exact rfl); intro _ _ _ _ _ _; (try dsimp only); (try k_fold))
  repeat' (first | (k_unfold; (try dsimp only)) | walk1 | (dsimp only; walk1))
  rw [hv]
  exact k _ _ _ [] ⟨rfl, rfl⟩ (sub_of_fr (by assumption)) Led.nil


theorem glyph_class_c {gd dg c dc D : Addr} {oD : Obj} {kvs : List (Int × Value)} {kk : Nat → Tok} {at_ sets pts car : Value} {t tc : Tok} {g v : Int} (hk : oD.IsDictOf (PySem.intKind prog w) kvs) (lo : NotSys D) (hv : valueAt kvs g = some (.int v tc)) (hv' : 1 ≤ v ∧ v ≤ 4) :
    Calls prog w 2 (.ref 761) [.ref gd, .int g t] (gdefLed w.params gd dg c dc D oD kk at_ sets pts car) [] (fun _ r mu' => r = .int v tc ∧ mu' = []) := by
  intro dp un fr gds s b R hdp hun S G H0 N k
  obtain ⟨X, p, loose, mean, mg, mb, T⟩ := G
  obtain ⟨h1, H⟩ := H0.c
  obtain ⟨h2, H⟩ := H.c
  have I1 := inst_has h1 h2
  obtain ⟨h3, H⟩ := H.c
  obtain ⟨h4, H⟩ := H.c
  have I2 := inst_has h3 h4
  obtain ⟨h5, -⟩ := H.c
  refine' enter [("self", .ref gd), ("glyph", .int g t)] S N X T ?k6 ?k7 ?k8 ?k9 ?kB ?_ ?c2 ?c3 ?c4 ?c5
  ( (case k6 | k7 => k_is); (case k8 => k_room); (case k9 => first | exact BindsTo.of_eq rfl | exact binds_K (by first | assumption | exact Frag.In.keeps (by assumption) (Sub.keep (by assumption))) rfl (by k_is) rfl rfl rfl); (case c5 => decide); (case kB => exact locs rfl); (case c2 | c3 | c4 => exact rfl); intro _ _ _ _ _ _; (try dsimp only); (try k_fold))
  repeat' (first | (k_unfold; (try dsimp only)) | ((with_reducible show wpAny _ _ (call (Value.ref _) _) _ _ _); ((with_reducible show wpAny _ _ (call (Value.ref 713) _) _ _ _); k_dflt (refine' use0 (class_of_c (by assumption) (by assumption) (by assumption)) ?hdp ?hun ?F ?N ?X ?T ?hi ?_); (( (case hdp | hun => kwd_inv); (case F | N | X | T => k_asm)); (case hi => repeat (first | exact List.forall_mem_nil _ | exact fun p hp => Or.inr (‹Has _ _› p hp) | (refine List.forall_mem_cons.mpr ⟨?_, ?_⟩; first | exact Or.inr (by assumption) | exact Or.inl (by k_mem))))); (intro Gq hGq _ _ _ _ _ hP; (first | (obtain ⟨⟨_, e1⟩, e2⟩ := hP; subst e1 e2) | (obtain ⟨e1, e2⟩ := hP; subst e1 e2)); refine hGq _ _ _ _ _ ?_; clear hGq Gq; intro _ _ _ N0; (try dsimp only [List.nil_append] at N0); revert N0; intro _))) | walk1 | (dsimp only; walk1))
  exact k _ _ _ [] ⟨rfl, rfl⟩ (sub_of_fr (by assumption)) Led.nil

theorem attach_wanted_c {fl : Int} {t : Tok} (hfl : 0 ≤ fl ∧ fl ≤ 16) : Calls prog w 1 (.ref 76) [.int fl t] [] [] (fun _ r mu' => (∃ t', r = .int 0 t') ∧ mu' = []) := by
  intro dp un fr gds s b R hdp hun S G H0 N k
  obtain ⟨X, p, loose, mean, mg, mb, T⟩ := G
  refine' enter [("flag", .int fl t)] S N X T ?k6 ?k7 ?k8 ?k9 ?kB ?_ ?c2 ?c3 ?c4 ?c5
  ( (case k6 | k7 => k_is); (case k8 => k_room); (case k9 => first | exact BindsTo.of_eq rfl | exact binds_K (by first | assumption | exact Frag.In.keeps (by assumption) (Sub.keep (by assumption))) rfl (by k_is) rfl rfl rfl); (case c5 => decide); (case kB => exact locs rfl); (case c2 | c3 | c4 => exact rfl); intro _ _ _ _ _ _; (try dsimp only); (try k_fold))
  repeat' (first | (k_unfold; (try dsimp only)) | ((with_reducible show wpAny _ _ (call (Value.ref _) _) _ _ _); ((with_reducible show wpAny _ _ (call (Value.ref 713) _) _ _ _); k_dflt (refine' use0 (class_of_c (by assumption) (by assumption) (by assumption)) ?hdp ?hun ?F ?N ?X ?T ?hi ?_); (( (case hdp | hun => kwd_inv); (case F | N | X | T => k_asm)); (case hi => repeat (first | exact List.forall_mem_nil _ | exact fun p hp => Or.inr (‹Has _ _› p hp) | (refine List.forall_mem_cons.mpr ⟨?_, ?_⟩; first | exact Or.inr (by assumption) | exact Or.inl (by k_mem))))); (intro Gq hGq _ _ _ _ _ hP; (first | (obtain ⟨⟨_, e1⟩, e2⟩ := hP; subst e1 e2) | (obtain ⟨e1, e2⟩ := hP; subst e1 e2)); refine hGq _ _ _ _ _ ?_; clear hGq Gq; intro _ _ _ N0; (try dsimp only [List.nil_append] at N0); revert N0; intro _))) | walk1 | (dsimp only; walk1))
  have e : (fl.fdiv 256).fmod 256 = 0 := by
    have : fl.fdiv 256 = 0 := by rw [Int.fdiv_eq_ediv_of_nonneg _ (by decide)]; exact Int.ediv_eq_zero_of_lt hfl.1 (Int.lt_of_le_of_lt hfl.2 (by decide))
    rw [this]; rfl
  rw [e]
  exact k _ _ _ [] ⟨⟨_, rfl⟩, rfl⟩ (sub_of_fr (by assumption)) Led.nil

theorem class_bit_c {c : Int} {t : Tok} (hc : c = 1 ∨ c = 3) : Calls prog w 1 (.ref 83) [.int c t] [] [] (fun _ r mu' => (∃ t', r = .int (if c = 1 then 2 else 8) t') ∧ mu' = []) := by
  intro dp un fr gds s b R hdp hun S G H0 N k
  obtain ⟨X, p, loose, mean, mg, mb, T⟩ := G
  rcases hc with rfl | rfl
  · refine' enter [("number", .int 1 t)] S N X T ?k6 ?k7 ?k8 ?k9 ?kB ?_ ?c2 ?c3 ?c4 ?c5
    ( (case k6 | k7 => k_is); (case k8 => k_room); (case k9 => first | exact BindsTo.of_eq rfl | exact binds_K (by first | assumption | exact Frag.In.keeps (by assumption) (Sub.keep (by assumption))) rfl (by k_is) rfl rfl rfl); (case c5 => decide); (case kB => exact locs rfl); (case c2 | c3 | c4 => exact rfl); intro _ _ _ _ _ _; (try dsimp only); (try k_fold))
    repeat' (first | (k_unfold; (try dsimp only)) | ((with_reducible show wpAny _ _ (call (Value.ref _) _) _ _ _); ((with_reducible show wpAny _ _ (call (Value.ref 713) _) _ _ _); k_dflt (refine' use0 (class_of_c (by assumption) (by assumption) (by assumption)) ?hdp ?hun ?F ?N ?X ?T ?hi ?_); (( (case hdp | hun => kwd_inv); (case F | N | X | T => k_asm)); (case hi => repeat (first | exact List.forall_mem_nil _ | exact fun p hp => Or.inr (‹Has _ _› p hp) | (refine List.forall_mem_cons.mpr ⟨?_, ?_⟩; first | exact Or.inr (by assumption) | exact Or.inl (by k_mem))))); (intro Gq hGq _ _ _ _ _ hP; (first | (obtain ⟨⟨_, e1⟩, e2⟩ := hP; subst e1 e2) | (obtain ⟨e1, e2⟩ := hP; subst e1 e2)); refine hGq _ _ _ _ _ ?_; clear hGq Gq; intro _ _ _ N0; (try dsimp only [List.nil_append] at N0); revert N0; intro _))) | walk1 | (dsimp only; walk1))
    exact k _ _ _ [] ⟨⟨_, rfl⟩, rfl⟩ (sub_of_fr (by assumption)) Led.nil
  · refine' enter [("number", .int 3 t)] S N X T ?k6 ?k7 ?k8 ?k9 ?kB ?_ ?c2 ?c3 ?c4 ?c5
    ( (case k6 | k7 => k_is); (case k8 => k_room); (case k9 => first | exact BindsTo.of_eq rfl | exact binds_K (by first | assumption | exact Frag.In.keeps (by assumption) (Sub.keep (by assumption))) rfl (by k_is) rfl rfl rfl); (case c5 => decide); (case kB => exact locs rfl); (case c2 | c3 | c4 => exact rfl); intro _ _ _ _ _ _; (try dsimp only); (try k_fold))
    repeat' (first | (k_unfold; (try dsimp only)) | ((with_reducible show wpAny _ _ (call (Value.ref _) _) _ _ _); ((with_reducible show wpAny _ _ (call (Value.ref 713) _) _ _ _); k_dflt (refine' use0 (class_of_c (by assumption) (by assumption) (by assumption)) ?hdp ?hun ?F ?N ?X ?T ?hi ?_); (( (case hdp | hun => kwd_inv); (case F | N | X | T => k_asm)); (case hi => repeat (first | exact List.forall_mem_nil _ | exact fun p hp => Or.inr (‹Has _ _› p hp) | (refine List.forall_mem_cons.mpr ⟨?_, ?_⟩; first | exact Or.inr (by assumption) | exact Or.inl (by k_mem))))); (intro Gq hGq _ _ _ _ _ hP; (first | (obtain ⟨⟨_, e1⟩, e2⟩ := hP; subst e1 e2) | (obtain ⟨e1, e2⟩ := hP; subst e1 e2)); refine hGq _ _ _ _ _ ?_; clear hGq Gq; intro _ _ _ N0; (try dsimp only [List.nil_append] at N0); revert N0; intro _))) | walk1 | (dsimp only; walk1))
    exact k _ _ _ [] ⟨⟨_, rfl⟩, rfl⟩ (sub_of_fr (by assumption)) Led.nil


theorem is_ignored_c {gd dg c dc D : Addr} {oD : Obj} {kk kl : Nat → Tok} {at_ sets pts car : Value} {lk dlk tbl : Addr} {kind : Str} {flag : Int} {t : Tok} {g : Int} {cls : Int → Int}
    (HC : ClsOk prog w D oD cls) (hg : 0 ≤ g ∧ g < 6) (hf : flag = 0 ∨ flag = 2 ∨ flag = 8) :
    Calls prog w 3 (.ref 90) [.ref gd, .ref lk, .int g t] (gdefLed w.params gd dg c dc D oD kk at_ sets pts car ++ lookLed w.params lk dlk tbl kind flag kl) [] (fun _ r mu' => r = .bool (ign flag (cls g)) ∧ mu' = []) := by
  intro dp un fr gds s b R hdp hun S G H0 N k
  obtain ⟨X, p, loose, mean, mg, mb, T⟩ := G
  have HG := H0.left
  have H := H0.right
  clear H0
  obtain ⟨h1, H⟩ := H.c
  obtain ⟨h2, H⟩ := H.c
  have I1 := inst_has h1 h2
  have I2 := inst_has HG.c.1 HG.c.2.c.1
  obtain ⟨lo, ⟨kvs, hk, hkv⟩, hc13⟩ := HC
  obtain ⟨tc, hv⟩ := hkv g hg.1 hg.2
  have hcg := hc13 g
  generalize cls g = cg at hv hcg k
  clear hkv hc13
  rcases hf with rfl | rfl | rfl <;> rcases hcg with rfl | rfl
  · refine' enter [("gdef", .ref gd), ("lookup", .ref lk), ("glyph", .int g t)] S N X T ?k6 ?k7 ?k8 ?k9 ?kB ?_ ?c2 ?c3 ?c4 ?c5
    ( (case k6 | k7 => k_is); (case k8 => k_room); (case k9 => first | exact BindsTo.of_eq rfl | exact binds_K (by first | assumption | exact Frag.In.keeps (by assumption) (Sub.keep (by assumption))) rfl (by k_is) rfl rfl rfl); (case c5 => decide); (case kB => exact locs rfl); (case c2 | c3 | c4 => exact rfl); intro _ _ _ _ _ _; (try dsimp only); (try k_fold))
    repeat' (first | (k_unfold; (try dsimp only)) | ((with_reducible show wpAny _ _ (call (Value.ref _) _) _ _ _); (first | ((with_reducible show wpAny _ _ (call (Value.ref 83) _) _ _ _); k_dflt (refine' use0 (class_bit_c ?ha) ?hdp ?hun ?F ?N ?X ?T ?hi ?_); (case ha => omega); (( (case hdp | hun => kwd_inv); (case F | N | X | T => k_asm)); (case hi => repeat (first | exact List.forall_mem_nil _ | exact fun p hp => Or.inr (‹Has _ _› p hp) | (refine List.forall_mem_cons.mpr ⟨?_, ?_⟩; first | exact Or.inr (by assumption) | exact Or.inl (by k_mem))))); (intro Gq hGq _ _ _ _ _ hP; (first | (obtain ⟨⟨_, e1⟩, e2⟩ := hP; subst e1 e2) | (obtain ⟨e1, e2⟩ := hP; subst e1 e2)); refine hGq _ _ _ _ _ ?_; clear hGq Gq; intro _ _ _ N0; (try dsimp only [List.nil_append] at N0); revert N0; intro _)) | ((with_reducible show wpAny _ _ (call (Value.ref 76) _) _ _ _); k_dflt (refine' use0 (attach_wanted_c ?ha) ?hdp ?hun ?F ?N ?X ?T ?hi ?_); (case ha => omega); (( (case hdp | hun => kwd_inv); (case F | N | X | T => k_asm)); (case hi => repeat (first | exact List.forall_mem_nil _ | exact fun p hp => Or.inr (‹Has _ _› p hp) | (refine List.forall_mem_cons.mpr ⟨?_, ?_⟩; first | exact Or.inr (by assumption) | exact Or.inl (by k_mem))))); (intro Gq hGq _ _ _ _ _ hP; (first | (obtain ⟨⟨_, e1⟩, e2⟩ := hP; subst e1 e2) | (obtain ⟨e1, e2⟩ := hP; subst e1 e2)); refine hGq _ _ _ _ _ ?_; clear hGq Gq; intro _ _ _ N0; (try dsimp only [List.nil_append] at N0); revert N0; intro _)) | ((with_reducible show wpAny _ _ (call (Value.ref 761) _) _ _ _); k_dflt (refine' use0 (glyph_class_c ?hk ?lo ?hv ?hv') ?hdp ?hun ?F ?N ?X ?T ?hi ?_); (case hi => exact fun p hp => Or.inr (‹Has _ (gdefLed _ _ _ _ _ _ _ _ _ _ _ _)› p hp)); (case hk | lo | hv => assumption); (case hv' => first | assumption | omega | decide); ( (case hdp | hun => kwd_inv); (case F | N | X | T => k_asm)); (intro Gq hGq _ _ _ _ _ hP; (first | (obtain ⟨⟨_, e1⟩, e2⟩ := hP; subst e1 e2) | (obtain ⟨e1, e2⟩ := hP; subst e1 e2)); refine hGq _ _ _ _ _ ?_; clear hGq Gq; intro _ _ _ N0; (try dsimp only [List.nil_append] at N0); revert N0; intro _)) | ((with_reducible show wpAny _ _ (call (Value.ref 713) _) _ _ _); k_dflt (refine' use0 (class_of_c (by assumption) (by assumption) (by assumption)) ?hdp ?hun ?F ?N ?X ?T ?hi ?_); (( (case hdp | hun => kwd_inv); (case F | N | X | T => k_asm)); (case hi => repeat (first | exact List.forall_mem_nil _ | exact fun p hp => Or.inr (‹Has _ _› p hp) | (refine List.forall_mem_cons.mpr ⟨?_, ?_⟩; first | exact Or.inr (by assumption) | exact Or.inl (by k_mem))))); (intro Gq hGq _ _ _ _ _ hP; (first | (obtain ⟨⟨_, e1⟩, e2⟩ := hP; subst e1 e2) | (obtain ⟨e1, e2⟩ := hP; subst e1 e2)); refine hGq _ _ _ _ _ ?_; clear hGq Gq; intro _ _ _ N0; (try dsimp only [List.nil_append] at N0); revert N0; intro _)))) | walk1 | (dsimp only; walk1))
    exact k _ _ _ [] ⟨rfl, rfl⟩ (sub_of_fr (by assumption)) Led.nil
  · refine' enter [("gdef", .ref gd), ("lookup", .ref lk), ("glyph", .int g t)] S N X T ?k6 ?k7 ?k8 ?k9 ?kB ?_ ?c2 ?c3 ?c4 ?c5
    ( (case k6 | k7 => k_is); (case k8 => k_room); (case k9 => first | exact BindsTo.of_eq rfl | exact binds_K (by first | assumption | exact Frag.In.keeps (by assumption) (Sub.keep (by assumption))) rfl (by k_is) rfl rfl rfl); (case c5 => decide); (case kB => exact locs rfl); (case c2 | c3 | c4 => exact rfl); intro _ _ _ _ _ _; (try dsimp only); (try k_fold))
    repeat' (first | (k_unfold; (try dsimp only)) | ((with_reducible show wpAny _ _ (call (Value.ref _) _) _ _ _); (first | ((with_reducible show wpAny _ _ (call (Value.ref 83) _) _ _ _); k_dflt (refine' use0 (class_bit_c ?ha) ?hdp ?hun ?F ?N ?X ?T ?hi ?_); (case ha => omega); (( (case hdp | hun => kwd_inv); (case F | N | X | T => k_asm)); (case hi => repeat (first | exact List.forall_mem_nil _ | exact fun p hp => Or.inr (‹Has _ _› p hp) | (refine List.forall_mem_cons.mpr ⟨?_, ?_⟩; first | exact Or.inr (by assumption) | exact Or.inl (by k_mem))))); (intro Gq hGq _ _ _ _ _ hP; (first | (obtain ⟨⟨_, e1⟩, e2⟩ := hP; subst e1 e2) | (obtain ⟨e1, e2⟩ := hP; subst e1 e2)); refine hGq _ _ _ _ _ ?_; clear hGq Gq; intro _ _ _ N0; (try dsimp only [List.nil_append] at N0); revert N0; intro _)) | ((with_reducible show wpAny _ _ (call (Value.ref 76) _) _ _ _); k_dflt (refine' use0 (attach_wanted_c ?ha) ?hdp ?hun ?F ?N ?X ?T ?hi ?_); (case ha => omega); (( (case hdp | hun => kwd_inv); (case F | N | X | T => k_asm)); (case hi => repeat (first | exact List.forall_mem_nil _ | exact fun p hp => Or.inr (‹Has _ _› p hp) | (refine List.forall_mem_cons.mpr ⟨?_, ?_⟩; first | exact Or.inr (by assumption) | exact Or.inl (by k_mem))))); (intro Gq hGq _ _ _ _ _ hP; (first | (obtain ⟨⟨_, e1⟩, e2⟩ := hP; subst e1 e2) | (obtain ⟨e1, e2⟩ := hP; subst e1 e2)); refine hGq _ _ _ _ _ ?_; clear hGq Gq; intro _ _ _ N0; (try dsimp only [List.nil_append] at N0); revert N0; intro _)) | ((with_reducible show wpAny _ _ (call (Value.ref 761) _) _ _ _); k_dflt (refine' use0 (glyph_class_c ?hk ?lo ?hv ?hv') ?hdp ?hun ?F ?N ?X ?T ?hi ?_); (case hi => exact fun p hp => Or.inr (‹Has _ (gdefLed _ _ _ _ _ _ _ _ _ _ _ _)› p hp)); (case hk | lo | hv => assumption); (case hv' => first | assumption | omega | decide); ( (case hdp | hun => kwd_inv); (case F | N | X | T => k_asm)); (intro Gq hGq _ _ _ _ _ hP; (first | (obtain ⟨⟨_, e1⟩, e2⟩ := hP; subst e1 e2) | (obtain ⟨e1, e2⟩ := hP; subst e1 e2)); refine hGq _ _ _ _ _ ?_; clear hGq Gq; intro _ _ _ N0; (try dsimp only [List.nil_append] at N0); revert N0; intro _)) | ((with_reducible show wpAny _ _ (call (Value.ref 713) _) _ _ _); k_dflt (refine' use0 (class_of_c (by assumption) (by assumption) (by assumption)) ?hdp ?hun ?F ?N ?X ?T ?hi ?_); (( (case hdp | hun => kwd_inv); (case F | N | X | T => k_asm)); (case hi => repeat (first | exact List.forall_mem_nil _ | exact fun p hp => Or.inr (‹Has _ _› p hp) | (refine List.forall_mem_cons.mpr ⟨?_, ?_⟩; first | exact Or.inr (by assumption) | exact Or.inl (by k_mem))))); (intro Gq hGq _ _ _ _ _ hP; (first | (obtain ⟨⟨_, e1⟩, e2⟩ := hP; subst e1 e2) | (obtain ⟨e1, e2⟩ := hP; subst e1 e2)); refine hGq _ _ _ _ _ ?_; clear hGq Gq; intro _ _ _ N0; (try dsimp only [List.nil_append] at N0); revert N0; intro _)))) | walk1 | (dsimp only; walk1))
    exact k _ _ _ [] ⟨rfl, rfl⟩ (sub_of_fr (by assumption)) Led.nil
  · refine' enter [("gdef", .ref gd), ("lookup", .ref lk), ("glyph", .int g t)] S N X T ?k6 ?k7 ?k8 ?k9 ?kB ?_ ?c2 ?c3 ?c4 ?c5
    ( (case k6 | k7 => k_is); (case k8 => k_room); (case k9 => first | exact BindsTo.of_eq rfl | exact binds_K (by first | assumption | exact Frag.In.keeps (by assumption) (Sub.keep (by assumption))) rfl (by k_is) rfl rfl rfl); (case c5 => decide); (case kB => exact locs rfl); (case c2 | c3 | c4 => exact rfl); intro _ _ _ _ _ _; (try dsimp only); (try k_fold))
    repeat' (first | (k_unfold; (try dsimp only)) | ((with_reducible show wpAny _ _ (call (Value.ref _) _) _ _ _); (first | ((with_reducible show wpAny _ _ (call (Value.ref 83) _) _ _ _); k_dflt (refine' use0 (class_bit_c ?ha) ?hdp ?hun ?F ?N ?X ?T ?hi ?_); (case ha => omega); (( (case hdp | hun => kwd_inv); (case F | N | X | T => k_asm)); (case hi => repeat (first | exact List.forall_mem_nil _ | exact fun p hp => Or.inr (‹Has _ _› p hp) | (refine List.forall_mem_cons.mpr ⟨?_, ?_⟩; first | exact Or.inr (by assumption) | exact Or.inl (by k_mem))))); (intro Gq hGq _ _ _ _ _ hP; (first | (obtain ⟨⟨_, e1⟩, e2⟩ := hP; subst e1 e2) | (obtain ⟨e1, e2⟩ := hP; subst e1 e2)); refine hGq _ _ _ _ _ ?_; clear hGq Gq; intro _ _ _ N0; (try dsimp only [List.nil_append] at N0); revert N0; intro _)) | ((with_reducible show wpAny _ _ (call (Value.ref 76) _) _ _ _); k_dflt (refine' use0 (attach_wanted_c ?ha) ?hdp ?hun ?F ?N ?X ?T ?hi ?_); (case ha => omega); (( (case hdp | hun => kwd_inv); (case F | N | X | T => k_asm)); (case hi => repeat (first | exact List.forall_mem_nil _ | exact fun p hp => Or.inr (‹Has _ _› p hp) | (refine List.forall_mem_cons.mpr ⟨?_, ?_⟩; first | exact Or.inr (by assumption) | exact Or.inl (by k_mem))))); (intro Gq hGq _ _ _ _ _ hP; (first | (obtain ⟨⟨_, e1⟩, e2⟩ := hP; subst e1 e2) | (obtain ⟨e1, e2⟩ := hP; subst e1 e2)); refine hGq _ _ _ _ _ ?_; clear hGq Gq; intro _ _ _ N0; (try dsimp only [List.nil_append] at N0); revert N0; intro _)) | ((with_reducible show wpAny _ _ (call (Value.ref 761) _) _ _ _); k_dflt (refine' use0 (glyph_class_c ?hk ?lo ?hv ?hv') ?hdp ?hun ?F ?N ?X ?T ?hi ?_); (case hi => exact fun p hp => Or.inr (‹Has _ (gdefLed _ _ _ _ _ _ _ _ _ _ _ _)› p hp)); (case hk | lo | hv => assumption); (case hv' => first | assumption | omega | decide); ( (case hdp | hun => kwd_inv); (case F | N | X | T => k_asm)); (intro Gq hGq _ _ _ _ _ hP; (first | (obtain ⟨⟨_, e1⟩, e2⟩ := hP; subst e1 e2) | (obtain ⟨e1, e2⟩ := hP; subst e1 e2)); refine hGq _ _ _ _ _ ?_; clear hGq Gq; intro _ _ _ N0; (try dsimp only [List.nil_append] at N0); revert N0; intro _)) | ((with_reducible show wpAny _ _ (call (Value.ref 713) _) _ _ _); k_dflt (refine' use0 (class_of_c (by assumption) (by assumption) (by assumption)) ?hdp ?hun ?F ?N ?X ?T ?hi ?_); (( (case hdp | hun => kwd_inv); (case F | N | X | T => k_asm)); (case hi => repeat (first | exact List.forall_mem_nil _ | exact fun p hp => Or.inr (‹Has _ _› p hp) | (refine List.forall_mem_cons.mpr ⟨?_, ?_⟩; first | exact Or.inr (by assumption) | exact Or.inl (by k_mem))))); (intro Gq hGq _ _ _ _ _ hP; (first | (obtain ⟨⟨_, e1⟩, e2⟩ := hP; subst e1 e2) | (obtain ⟨e1, e2⟩ := hP; subst e1 e2)); refine hGq _ _ _ _ _ ?_; clear hGq Gq; intro _ _ _ N0; (try dsimp only [List.nil_append] at N0); revert N0; intro _)))) | walk1 | (dsimp only; walk1))
    exact k _ _ _ [] ⟨rfl, rfl⟩ (sub_of_fr (by assumption)) Led.nil
  · refine' enter [("gdef", .ref gd), ("lookup", .ref lk), ("glyph", .int g t)] S N X T ?k6 ?k7 ?k8 ?k9 ?kB ?_ ?c2 ?c3 ?c4 ?c5
    ( (case k6 | k7 => k_is); (case k8 => k_room); (case k9 => first | exact BindsTo.of_eq rfl | exact binds_K (by first | assumption | exact Frag.In.keeps (by assumption) (Sub.keep (by assumption))) rfl (by k_is) rfl rfl rfl); (case c5 => decide); (case kB => exact locs rfl); (case c2 | c3 | c4 => exact rfl); intro _ _ _ _ _ _; (try dsimp only); (try k_fold))
    repeat' (first | (k_unfold; (try dsimp only)) | ((with_reducible show wpAny _ _ (call (Value.ref _) _) _ _ _); (first | ((with_reducible show wpAny _ _ (call (Value.ref 83) _) _ _ _); k_dflt (refine' use0 (class_bit_c ?ha) ?hdp ?hun ?F ?N ?X ?T ?hi ?_); (case ha => omega); (( (case hdp | hun => kwd_inv); (case F | N | X | T => k_asm)); (case hi => repeat (first | exact List.forall_mem_nil _ | exact fun p hp => Or.inr (‹Has _ _› p hp) | (refine List.forall_mem_cons.mpr ⟨?_, ?_⟩; first | exact Or.inr (by assumption) | exact Or.inl (by k_mem))))); (intro Gq hGq _ _ _ _ _ hP; (first | (obtain ⟨⟨_, e1⟩, e2⟩ := hP; subst e1 e2) | (obtain ⟨e1, e2⟩ := hP; subst e1 e2)); refine hGq _ _ _ _ _ ?_; clear hGq Gq; intro _ _ _ N0; (try dsimp only [List.nil_append] at N0); revert N0; intro _)) | ((with_reducible show wpAny _ _ (call (Value.ref 76) _) _ _ _); k_dflt (refine' use0 (attach_wanted_c ?ha) ?hdp ?hun ?F ?N ?X ?T ?hi ?_); (case ha => omega); (( (case hdp | hun => kwd_inv); (case F | N | X | T => k_asm)); (case hi => repeat (first | exact List.forall_mem_nil _ | exact fun p hp => Or.inr (‹Has _ _› p hp) | (refine List.forall_mem_cons.mpr ⟨?_, ?_⟩; first | exact Or.inr (by assumption) | exact Or.inl (by k_mem))))); (intro Gq hGq _ _ _ _ _ hP; (first | (obtain ⟨⟨_, e1⟩, e2⟩ := hP; subst e1 e2) | (obtain ⟨e1, e2⟩ := hP; subst e1 e2)); refine hGq _ _ _ _ _ ?_; clear hGq Gq; intro _ _ _ N0; (try dsimp only [List.nil_append] at N0); revert N0; intro _)) | ((with_reducible show wpAny _ _ (call (Value.ref 761) _) _ _ _); k_dflt (refine' use0 (glyph_class_c ?hk ?lo ?hv ?hv') ?hdp ?hun ?F ?N ?X ?T ?hi ?_); (case hi => exact fun p hp => Or.inr (‹Has _ (gdefLed _ _ _ _ _ _ _ _ _ _ _ _)› p hp)); (case hk | lo | hv => assumption); (case hv' => first | assumption | omega | decide); ( (case hdp | hun => kwd_inv); (case F | N | X | T => k_asm)); (intro Gq hGq _ _ _ _ _ hP; (first | (obtain ⟨⟨_, e1⟩, e2⟩ := hP; subst e1 e2) | (obtain ⟨e1, e2⟩ := hP; subst e1 e2)); refine hGq _ _ _ _ _ ?_; clear hGq Gq; intro _ _ _ N0; (try dsimp only [List.nil_append] at N0); revert N0; intro _)) | ((with_reducible show wpAny _ _ (call (Value.ref 713) _) _ _ _); k_dflt (refine' use0 (class_of_c (by assumption) (by assumption) (by assumption)) ?hdp ?hun ?F ?N ?X ?T ?hi ?_); (( (case hdp | hun => kwd_inv); (case F | N | X | T => k_asm)); (case hi => repeat (first | exact List.forall_mem_nil _ | exact fun p hp => Or.inr (‹Has _ _› p hp) | (refine List.forall_mem_cons.mpr ⟨?_, ?_⟩; first | exact Or.inr (by assumption) | exact Or.inl (by k_mem))))); (intro Gq hGq _ _ _ _ _ hP; (first | (obtain ⟨⟨_, e1⟩, e2⟩ := hP; subst e1 e2) | (obtain ⟨e1, e2⟩ := hP; subst e1 e2)); refine hGq _ _ _ _ _ ?_; clear hGq Gq; intro _ _ _ N0; (try dsimp only [List.nil_append] at N0); revert N0; intro _)))) | walk1 | (dsimp only; walk1))
    exact k _ _ _ [] ⟨rfl, rfl⟩ (sub_of_fr (by assumption)) Led.nil
  · refine' enter [("gdef", .ref gd), ("lookup", .ref lk), ("glyph", .int g t)] S N X T ?k6 ?k7 ?k8 ?k9 ?kB ?_ ?c2 ?c3 ?c4 ?c5
    ( (case k6 | k7 => k_is); (case k8 => k_room); (case k9 => first | exact BindsTo.of_eq rfl | exact binds_K (by first | assumption | exact Frag.In.keeps (by assumption) (Sub.keep (by assumption))) rfl (by k_is) rfl rfl rfl); (case c5 => decide); (case kB => exact locs rfl); (case c2 | c3 | c4 => exact rfl); intro _ _ _ _ _ _; (try dsimp only); (try k_fold))
    repeat' (first | (k_unfold; (try dsimp only)) | ((with_reducible show wpAny _ _ (call (Value.ref _) _) _ _ _); (first | ((with_reducible show wpAny _ _ (call (Value.ref 83) _) _ _ _); k_dflt (refine' use0 (class_bit_c ?ha) ?hdp ?hun ?F ?N ?X ?T ?hi ?_); (case ha => omega); (( (case hdp | hun => kwd_inv); (case F | N | X | T => k_asm)); (case hi => repeat (first | exact List.forall_mem_nil _ | exact fun p hp => Or.inr (‹Has _ _› p hp) | (refine List.forall_mem_cons.mpr ⟨?_, ?_⟩; first | exact Or.inr (by assumption) | exact Or.inl (by k_mem))))); (intro Gq hGq _ _ _ _ _ hP; (first | (obtain ⟨⟨_, e1⟩, e2⟩ := hP; subst e1 e2) | (obtain ⟨e1, e2⟩ := hP; subst e1 e2)); refine hGq _ _ _ _ _ ?_; clear hGq Gq; intro _ _ _ N0; (try dsimp only [List.nil_append] at N0); revert N0; intro _)) | ((with_reducible show wpAny _ _ (call (Value.ref 76) _) _ _ _); k_dflt (refine' use0 (attach_wanted_c ?ha) ?hdp ?hun ?F ?N ?X ?T ?hi ?_); (case ha => omega); (( (case hdp | hun => kwd_inv); (case F | N | X | T => k_asm)); (case hi => repeat (first | exact List.forall_mem_nil _ | exact fun p hp => Or.inr (‹Has _ _› p hp) | (refine List.forall_mem_cons.mpr ⟨?_, ?_⟩; first | exact Or.inr (by assumption) | exact Or.inl (by k_mem))))); (intro Gq hGq _ _ _ _ _ hP; (first | (obtain ⟨⟨_, e1⟩, e2⟩ := hP; subst e1 e2) | (obtain ⟨e1, e2⟩ := hP; subst e1 e2)); refine hGq _ _ _ _ _ ?_; clear hGq Gq; intro _ _ _ N0; (try dsimp only [List.nil_append] at N0); revert N0; intro _)) | ((with_reducible show wpAny _ _ (call (Value.ref 761) _) _ _ _); k_dflt (refine' use0 (glyph_class_c ?hk ?lo ?hv ?hv') ?hdp ?hun ?F ?N ?X ?T ?hi ?_); (case hi => exact fun p hp => Or.inr (‹Has _ (gdefLed _ _ _ _ _ _ _ _ _ _ _ _)› p hp)); (case hk | lo | hv => assumption); (case hv' => first | assumption | omega | decide); ( (case hdp | hun => kwd_inv); (case F | N | X | T => k_asm)); (intro Gq hGq _ _ _ _ _ hP; (first | (obtain ⟨⟨_, e1⟩, e2⟩ := hP; subst e1 e2) | (obtain ⟨e1, e2⟩ := hP; subst e1 e2)); refine hGq _ _ _ _ _ ?_; clear hGq Gq; intro _ _ _ N0; (try dsimp only [List.nil_append] at N0); revert N0; intro _)) | ((with_reducible show wpAny _ _ (call (Value.ref 713) _) _ _ _); k_dflt (refine' use0 (class_of_c (by assumption) (by assumption) (by assumption)) ?hdp ?hun ?F ?N ?X ?T ?hi ?_); (( (case hdp | hun => kwd_inv); (case F | N | X | T => k_asm)); (case hi => repeat (first | exact List.forall_mem_nil _ | exact fun p hp => Or.inr (‹Has _ _› p hp) | (refine List.forall_mem_cons.mpr ⟨?_, ?_⟩; first | exact Or.inr (by assumption) | exact Or.inl (by k_mem))))); (intro Gq hGq _ _ _ _ _ hP; (first | (obtain ⟨⟨_, e1⟩, e2⟩ := hP; subst e1 e2) | (obtain ⟨e1, e2⟩ := hP; subst e1 e2)); refine hGq _ _ _ _ _ ?_; clear hGq Gq; intro _ _ _ N0; (try dsimp only [List.nil_append] at N0); revert N0; intro _)))) | walk1 | (dsimp only; walk1))
    exact k _ _ _ [] ⟨rfl, rfl⟩ (sub_of_fr (by assumption)) Led.nil
  · refine' enter [("gdef", .ref gd), ("lookup", .ref lk), ("glyph", .int g t)] S N X T ?k6 ?k7 ?k8 ?k9 ?kB ?_ ?c2 ?c3 ?c4 ?c5
    ( (case k6 | k7 => k_is); (case k8 => k_room); (case k9 => first | exact BindsTo.of_eq rfl | exact binds_K (by first | assumption | exact Frag.In.keeps (by assumption) (Sub.keep (by assumption))) rfl (by k_is) rfl rfl rfl); (case c5 => decide); (case kB => exact locs rfl); (case c2 | c3 | c4 => exact rfl); intro _ _ _ _ _ _; (try dsimp only); (try k_fold))
    repeat' (first | (k_unfold; (try dsimp only)) | ((with_reducible show wpAny _ _ (call (Value.ref _) _) _ _ _); (first | ((with_reducible show wpAny _ _ (call (Value.ref 83) _) _ _ _); k_dflt (refine' use0 (class_bit_c ?ha) ?hdp ?hun ?F ?N ?X ?T ?hi ?_); (case ha => omega); (( (case hdp | hun => kwd_inv); (case F | N | X | T => k_asm)); (case hi => repeat (first | exact List.forall_mem_nil _ | exact fun p hp => Or.inr (‹Has _ _› p hp) | (refine List.forall_mem_cons.mpr ⟨?_, ?_⟩; first | exact Or.inr (by assumption) | exact Or.inl (by k_mem))))); (intro Gq hGq _ _ _ _ _ hP; (first | (obtain ⟨⟨_, e1⟩, e2⟩ := hP; subst e1 e2) | (obtain ⟨e1, e2⟩ := hP; subst e1 e2)); refine hGq _ _ _ _ _ ?_; clear hGq Gq; intro _ _ _ N0; (try dsimp only [List.nil_append] at N0); revert N0; intro _)) | ((with_reducible show wpAny _ _ (call (Value.ref 76) _) _ _ _); k_dflt (refine' use0 (attach_wanted_c ?ha) ?hdp ?hun ?F ?N ?X ?T ?hi ?_); (case ha => omega); (( (case hdp | hun => kwd_inv); (case F | N | X | T => k_asm)); (case hi => repeat (first | exact List.forall_mem_nil _ | exact fun p hp => Or.inr (‹Has _ _› p hp) | (refine List.forall_mem_cons.mpr ⟨?_, ?_⟩; first | exact Or.inr (by assumption) | exact Or.inl (by k_mem))))); (intro Gq hGq _ _ _ _ _ hP; (first | (obtain ⟨⟨_, e1⟩, e2⟩ := hP; subst e1 e2) | (obtain ⟨e1, e2⟩ := hP; subst e1 e2)); refine hGq _ _ _ _ _ ?_; clear hGq Gq; intro _ _ _ N0; (try dsimp only [List.nil_append] at N0); revert N0; intro _)) | ((with_reducible show wpAny _ _ (call (Value.ref 761) _) _ _ _); k_dflt (refine' use0 (glyph_class_c ?hk ?lo ?hv ?hv') ?hdp ?hun ?F ?N ?X ?T ?hi ?_); (case hi => exact fun p hp => Or.inr (‹Has _ (gdefLed _ _ _ _ _ _ _ _ _ _ _ _)› p hp)); (case hk | lo | hv => assumption); (case hv' => first | assumption | omega | decide); ( (case hdp | hun => kwd_inv); (case F | N | X | T => k_asm)); (intro Gq hGq _ _ _ _ _ hP; (first | (obtain ⟨⟨_, e1⟩, e2⟩ := hP; subst e1 e2) | (obtain ⟨e1, e2⟩ := hP; subst e1 e2)); refine hGq _ _ _ _ _ ?_; clear hGq Gq; intro _ _ _ N0; (try dsimp only [List.nil_append] at N0); revert N0; intro _)) | ((with_reducible show wpAny _ _ (call (Value.ref 713) _) _ _ _); k_dflt (refine' use0 (class_of_c (by assumption) (by assumption) (by assumption)) ?hdp ?hun ?F ?N ?X ?T ?hi ?_); (( (case hdp | hun => kwd_inv); (case F | N | X | T => k_asm)); (case hi => repeat (first | exact List.forall_mem_nil _ | exact fun p hp => Or.inr (‹Has _ _› p hp) | (refine List.forall_mem_cons.mpr ⟨?_, ?_⟩; first | exact Or.inr (by assumption) | exact Or.inl (by k_mem))))); (intro Gq hGq _ _ _ _ _ hP; (first | (obtain ⟨⟨_, e1⟩, e2⟩ := hP; subst e1 e2) | (obtain ⟨e1, e2⟩ := hP; subst e1 e2)); refine hGq _ _ _ _ _ ?_; clear hGq Gq; intro _ _ _ N0; (try dsimp only [List.nil_append] at N0); revert N0; intro _)))) | walk1 | (dsimp only; walk1))
    exact k _ _ _ [] ⟨rfl, rfl⟩ (sub_of_fr (by assumption)) Led.nil
end

/-! the scene -/
structure Sc where
  sc : Nat
  dsc : Nat
  buf : Nat
  dbuf : Nat
  rowl : Nat
  nrow : Nat
  gd : Nat
  dg : Nat
  c : Nat
  dc : Nat
  D : Nat
  lk : Nat
  dlk : Nat
  tbl : Nat
  lks : Nat
  st : Nat
  ks : Nat → Tok
  kb : Nat → Tok
  kk : Nat → Tok
  kl : Nat → Tok
  oD : Obj
  at_ : Value
  sets : Value
  pts : Value
  car : Value
  kind : Str
  flag : Int
noncomputable abbrev sceneLed (P : Params) (z : Sc) : Ledger :=
  [(z.sc, instObj 65 z.dsc), (z.dsc, dictOf [ent P "buffer" (z.ks 0) (.ref z.buf), ent P "gdef" (z.ks 1) (.ref z.gd), ent P "lookups" (z.ks 2) (.ref z.lks), ent P "lookup" (z.ks 3) (.ref z.lk), ent P "mask" (z.ks 4) (.int 1 (z.ks 5)), ent P "depth" (z.ks 6) (.int 0 (z.ks 7)), ent P "steps" (z.ks 8) (.ref z.st)] 7)]
noncomputable abbrev bufLed (P : Params) (buf dbuf rowl : Nat) (k : Nat → Tok) : Ledger :=
  [(buf, instObj 188 dbuf), (dbuf, dictOf [ent P "row" (k 0) (.ref rowl), ent P "is_backward" (k 1) (.bool false), ent P "last_lig" (k 2) (.int 0 (k 3)), ent P "last_split" (k 4) (.int 0 (k 5))] 4)]
noncomputable abbrev Sc.gled (P : Params) (z : Sc) : Ledger := gdefLed P z.gd z.dg z.c z.dc z.D z.oD z.kk z.at_ z.sets z.pts z.car
noncomputable abbrev Sc.lled (P : Params) (z : Sc) : Ledger := lookLed P z.lk z.dlk z.tbl z.kind z.flag z.kl
noncomputable def Sc.led (P : Params) (z : Sc) (rows : List IR) : Ledger := sceneLed P z ++ (bufLed P z.buf z.dbuf z.rowl z.kb ++ ((z.rowl, listOf (refs rows).toArray z.nrow) :: (z.gled P ++ z.lled P)))

structure ScHas (P : Params) (b : Heap) (z : Sc) (rows : List IR) : Prop where
  isc : InstAt b z.sc (instObj 65 z.dsc) 65 (some (dictOf [ent P "buffer" (z.ks 0) (.ref z.buf), ent P "gdef" (z.ks 1) (.ref z.gd), ent P "lookups" (z.ks 2) (.ref z.lks), ent P "lookup" (z.ks 3) (.ref z.lk), ent P "mask" (z.ks 4) (.int 1 (z.ks 5)), ent P "depth" (z.ks 6) (.int 0 (z.ks 7)), ent P "steps" (z.ks 8) (.ref z.st)] 7))
  ibuf : InstAt b z.buf (instObj 188 z.dbuf) 188 (some (dictOf [ent P "row" (z.kb 0) (.ref z.rowl), ent P "is_backward" (z.kb 1) (.bool false), ent P "last_lig" (z.kb 2) (.int 0 (z.kb 3)), ent P "last_split" (z.kb 4) (.int 0 (z.kb 5))] 4))
  hrow : b.get? z.rowl = some (listOf (refs rows).toArray z.nrow)
  G : Has b (z.gled P)
  Lk : Has b (z.lled P)
theorem Has.sc {P : Params} {b : Heap} {z : Sc} {rows : List IR} (H : Has b (z.led P rows)) : ScHas P b z rows := by
  have H1 : Has b (sceneLed P z) := H.left
  have H2 := H.right
  have H3 : Has b (bufLed P z.buf z.dbuf z.rowl z.kb) := H2.left
  have H4 := H2.right.c
  exact ⟨inst_has H1.c.1 H1.c.2.c.1, inst_has H3.c.1 H3.c.2.c.1, H4.1, H4.2.left, H4.2.right⟩

section
variable {prog : Program} {w : World}

theorem passes_c {z : Sc} {rows : List IR} {cls : Int → Int} {at' : Int} {t : Tok} {q : IR} (HC : ClsOk prog w z.D z.oD cls) (hf : z.flag = 0 ∨ z.flag = 2 ∨ z.flag = 8) (hl : rows.length ≤ 6) (h0 : 0 ≤ at') (hq : rows[at'.toNat]? = some q) (hg : 0 ≤ q.r.g ∧ q.r.g < 6) :
    Calls prog w 4 (.ref 97) [.ref z.sc, .int at' t] (z.led w.params rows ++ rowsLed w.params rows) [] (fun _ r mu' => r = .bool (ign z.flag (cls q.r.g)) ∧ mu' = []) := by
  intro dp un fr gds s b R hdp hun S G H0 N k
  obtain ⟨X, p, loose, mean, mg, mb, T⟩ := G
  obtain ⟨I1, I2, hrow, HG, HL⟩ := H0.left.sc
  have I3 := inst_row H0.right (List.mem_of_getElem? hq)
  have hx := refs_at hq
  have hlt : at' < 6 := by
    have := (List.getElem?_eq_some_iff.mp hq).1
    exact Int.lt_of_le_of_lt (Int.self_le_toNat _) (Int.ofNat_lt.mpr (Nat.lt_of_lt_of_le this hl))
  clear H0
  refine' enter [("scene", .ref z.sc), ("at", .int at' t)] S N X T ?k6 ?k7 ?k8 ?k9 ?kB ?_ ?c2 ?c3 ?c4 ?c5
  ( (case k6 | k7 => k_is); (case k8 => k_room); (case k9 => first | exact BindsTo.of_eq rfl | exact binds_K (by first | assumption | exact Frag.In.keeps (by assumption) (Sub.keep (by assumption))) rfl (by k_is) rfl rfl rfl); (case c5 => decide); (case kB => exact locs rfl); (case c2 | c3 | c4 => exact rfl); intro _ _ _ _ _ _; (try dsimp only); (try k_fold))
  repeat' (first | (k_unfold; (try dsimp only)) | ((with_reducible show wpAny _ _ (call (Value.ref _) _) _ _ _); ((with_reducible show wpAny _ _ (call (Value.ref 90) _) _ _ _); k_dflt (refine' use0 (is_ignored_c ?HC ?hg ?hf) ?hdp ?hun ?F ?N ?X ?T ?hi ?_); (case hi => exact fun p hp => Or.inr ((List.mem_append.mp hp).elim (‹Has _ (gdefLed _ _ _ _ _ _ _ _ _ _ _ _)› p) (‹Has _ (lookLed _ _ _ _ _ _ _)› p))); (case HC | hg | hf => assumption); ( (case hdp | hun => kwd_inv); (case F | N | X | T => k_asm)); (intro Gq hGq _ _ _ _ _ hP; (first | (obtain ⟨⟨_, e1⟩, e2⟩ := hP; subst e1 e2) | (obtain ⟨e1, e2⟩ := hP; subst e1 e2)); refine hGq _ _ _ _ _ ?_; clear hGq Gq; intro _ _ _ N0; (try dsimp only [List.nil_append] at N0); revert N0; intro _))) | walk1 | (dsimp only; walk1))
  exact k _ _ _ [] ⟨rfl, rfl⟩ (sub_of_fr (by assumption)) Led.nil
end

/-! the next place that is not passed over -/
noncomputable def igAt (flag : Int) (cls : Int → Int) (gs : List Int) (j : Nat) : Bool := match gs[j]? with
  | some g => ign flag (cls g)
  | none => true
noncomputable def glyphs (rows : List IR) : List Int := rows.map fun q => q.r.g
theorem igAt_row {flag : Int} {cls : Int → Int} {rows : List IR} {j : Nat} {q : IR} (h : rows[j]? = some q) : igAt flag cls (glyphs rows) j = ign flag (cls q.r.g) := by simp [igAt, glyphs, h]
structure NextIs (ig : Nat → Bool) (n : Nat) (a r : Int) : Prop where
  out : (r = -1 ∧ ∀ j : Nat, a < j → j < n → ig j = true) ∨ (a < r ∧ r < n ∧ ig r.toNat = false ∧ ∀ j : Nat, a < j → (j : Int) < r → ig j = true)
theorem NextIs.unique {ig : Nat → Bool} {n : Nat} {a r r' : Int} (h0 : 0 ≤ a) (h : NextIs ig n a r) (h' : NextIs ig n a r') : r = r' := by
  have key : ∀ x y : Int, a < x → x < n → ig x.toNat = false → (∀ j : Nat, a < j → (j : Int) < y → ig j = true) → y ≤ x := fun x y h1 h2 h3 h4 => by
    apply Int.not_lt.mp
    intro q
    have := h4 x.toNat (by exact o_tnl h0 h1) (by exact o_tnr (o_pos h0 h1) q)
    rw [h3] at this
    cases this
  rcases h.out with ⟨e, z⟩ | ⟨a1, a2, a3, a4⟩ <;> rcases h'.out with ⟨e', z'⟩ | ⟨b1, b2, b3, b4⟩
  · rw [e, e']
  · have := z r'.toNat (by exact o_tnl h0 b1) (by exact o_tn (o_pos h0 b1) b2); rw [b3] at this; cases this
  · have := z' r.toNat (by exact o_tnl h0 a1) (by exact o_tn (o_pos h0 a1) a2); rw [a3] at this; cases this
  · have := key r r' a1 a2 a3 b4; have := key r' r b1 b2 b3 a4; exact Int.le_antisymm this (by assumption)

section
variable {prog : Program} {w : World}
theorem len_row {A : Around} {E : Value → Shared → Prop} {s : Shared} {l : Addr} {n : Nat} {vs : List Value} {Q : Value → Shared → Prop}
    (ho : s.heap.get? l = some (listOf vs.toArray n)) (hz : vs.length ≤ 1000) (h : Q (.int vs.length (s.toks + 1)) { s with toks := s.toks + 1 + 1 }) :
    wpAny (model prog w) A (call (.builtin "len") [.ref l]) Q E s :=
  Calls.call_len_list ⟨_, ho, rfl, _, rfl⟩ (by simp only [List.size_toArray]; exact Int.lt_of_le_of_lt (Int.ofNat_le.mpr hz) (by decide)) (by simpa using h)
theorem notin_K {A : Around} {E : Value → Shared → Prop} {s : Shared} {K : Frag} {b : Heap} {L a : Addr} {m : Str → Option Value} {dd : Option Addr} {sl : Array (Option Value)} {n : Nat} {x : Str} {u : Tok} {l : List Value} {ys : List Str} {bb : Bool} {Q : Value → Shared → Prop}
    (F : Fr b L s.heap m) (X : K.In b) (hl : K.lookup a = some ⟨.type "tuple", dd, .seq l.toArray n, sl⟩) (hi : StrsAre l ys) (hb : (!(ys.any (· == x))) = bb) (h : Q (.bool bb) s) : wpAny (model prog w) A (compareOp .NotIn (.str x u) (.ref a)) Q E s :=
  notin_tuple_strs (tupK (X.keeps F.keep) hl) (by simpa using hi) (hb ▸ h)
theorem upd_upd {m : Str → Option Value} {x : Str} {u v : Value} : (fun y => if y = x then some v else if y = x then some u else m y) = fun y => if y = x then some v else m y := by
  funext y; split <;> rfl
theorem refs_len {rows : List IR} : (refs rows).length = rows.length := by simp [refs]
end
set_option hygiene false in
local macro_rules | `(tactic| walk_at "compareOp NotIn") => `(tactic| (k_here; (with_reducible show wpAny _ _ (compareOp CmpOp.NotIn (Value.str _ _) (Value.ref 199)) _ _ _); k_dflt (refine' notin_K (bb := true) (by k_asm) (by k_asm) ?hl ?hi ?hb ?_; (case hl => k_is); (case hi => repeat constructor); (case hb => decide +kernel))))
set_option hygiene false in
local macro_rules | `(tactic| walk_at "call builtin:len") => `(tactic| (k_here; (with_reducible show wpAny _ _ (call (Value.builtin "len") [Value.ref _]) _ _ _); k_dflt (refine' len_row (Fr.keep (by k_asm) _ _ (by assumption)) (by simp only [refs_len]; omega) ?_); (try simp only [refs_len])))
section
variable {prog : Program} {w : World}

theorem neighbour_c {z : Sc} {rows : List IR} {cls : Int → Int} {at' : Int} {t t2 : Tok} (HC : ClsOk prog w z.D z.oD cls) (hf : z.flag = 0 ∨ z.flag = 2 ∨ z.flag = 8) (hl : rows.length ≤ 6) (h0 : 0 ≤ at') (hgs : ∀ q ∈ rows, 0 ≤ q.r.g ∧ q.r.g < 6) (hat : at' < rows.length) :
    Calls prog w 5 (.ref 213) [.ref z.sc, .int at' t, .int 1 t2] (z.led w.params rows ++ rowsLed w.params rows) [] (fun _ r mu' => (∃ x t', r = .int x t' ∧ NextIs (igAt z.flag cls (glyphs rows)) rows.length at' x) ∧ mu' = []) := by
  intro dp un fr gds s b R hdp hun S G H0 N k
  obtain ⟨X, p, loose, mean, mg, mb, T⟩ := G
  obtain ⟨I1, I2, hrow, HG, HL⟩ := H0.left.sc
  refine' enter [("scene", .ref z.sc), ("at", .int at' t), ("step", .int 1 t2)] S N X T ?k6 ?k7 ?k8 ?k9 ?kB ?_ ?c2 ?c3 ?c4 ?c5
  ( (case k6 | k7 => k_is); (case k8 => k_room); (case k9 => first | exact BindsTo.of_eq rfl | exact binds_K (by first | assumption | exact Frag.In.keeps (by assumption) (Sub.keep (by assumption))) rfl (by k_is) rfl rfl rfl); (case c5 => decide); (case kB => exact locs rfl); (case c2 | c3 | c4 => exact rfl); intro _ _ _ _ _ _; (try dsimp only); (try k_fold))
  repeat' (first | (k_unfold; (try dsimp only)) | ((with_reducible show wpAny _ _ (call (Value.ref _) _) _ _ _); ((with_reducible show wpAny _ _ (call (Value.ref 97) _) _ _ _); k_dflt (refine' use0 (passes_c ?HC ?hf ?hl ?h0 ?hq ?hg) ?hdp ?hun ?F ?N ?X ?T ?hi ?_); (case hi => exact fun p hp => Or.inr (‹Has _ (Sc.led _ _ _ ++ rowsLed _ _)› p hp)); (case hq | HC | hg | hf | hl => assumption); (case h0 => omega); ( (case hdp | hun => kwd_inv); (case F | N | X | T => k_asm)); (intro Gq hGq _ _ _ _ _ hP; (first | (obtain ⟨⟨_, e1⟩, e2⟩ := hP; subst e1 e2) | (obtain ⟨e1, e2⟩ := hP; subst e1 e2)); refine hGq _ _ _ _ _ ?_; clear hGq Gq; intro _ _ _ N0; (try dsimp only [List.nil_append] at N0); revert N0; intro _); (try rw [‹ign _ _ = _›]))) | ((fail_if_success (with_reducible show wpAny _ _ (exec (Stmt.While _ _ _ _) _) _ _ _)); first | walk1 | (dsimp only; walk1)))
  refine While_inv2 (fun n m news => ∃ h th, n = (7 - h).toNat ∧ at' < h ∧ h ≤ rows.length ∧ news = [] ∧ m = (fun y => if y = Str.ofString "here" then some (.int h th) else List.lookup y [(Str.ofString "scene", .ref z.sc), (Str.ofString "at", .int at' t), (Str.ofString "step", .int 1 t2)].reverse) ∧ (∀ j : Nat, at' < j → (j : Int) < h → igAt z.flag cls (glyphs rows) j = true)) (by k_asm) (by k_asm) ⟨at' + 1, _, rfl, by exact Int.lt_succ _, by exact hat, rfl, rfl, fun j h1 h2 => by exact absurd h1 (Int.not_lt.mpr (Int.le_of_lt_add_one h2))⟩ ?_
  rintro n m₁ news₁ h₁ tk₁ F₁ N₁ ⟨h, th, rfl, hlo, hhi, rfl, rfl, hall⟩
  by_cases hh : h < (rows.length : Int)
  · obtain ⟨q, hq⟩ : ∃ q, rows[h.toNat]? = some q := ⟨rows[h.toNat]'(by exact o_tn (o_pos h0 hlo) hh), List.getElem?_eq_getElem _⟩
    have hqg := hgs q (List.mem_of_getElem? hq)
    have hx := refs_at hq
    have I3 := inst_row H0.right (List.mem_of_getElem? hq)
    cases hig : ign z.flag (cls q.r.g)
    · repeat' (first | (k_unfold; (try dsimp only)) | ((with_reducible show wpAny _ _ (call (Value.ref _) _) _ _ _); ((with_reducible show wpAny _ _ (call (Value.ref 97) _) _ _ _); k_dflt (refine' use0 (passes_c ?HC ?hf ?hl ?h0 ?hq ?hg) ?hdp ?hun ?F ?N ?X ?T ?hi ?_); (case hi => exact fun p hp => Or.inr (‹Has _ (Sc.led _ _ _ ++ rowsLed _ _)› p hp)); (case hq | HC | hg | hf | hl => assumption); (case h0 => omega); ( (case hdp | hun => kwd_inv); (case F | N | X | T => k_asm)); (intro Gq hGq _ _ _ _ _ hP; (first | (obtain ⟨⟨_, e1⟩, e2⟩ := hP; subst e1 e2) | (obtain ⟨e1, e2⟩ := hP; subst e1 e2)); refine hGq _ _ _ _ _ ?_; clear hGq Gq; intro _ _ _ N0; (try dsimp only [List.nil_append] at N0); revert N0; intro _); (try rw [‹ign _ _ = _›]))) | ((fail_if_success (with_reducible show wpAny _ _ (exec (Stmt.While _ _ _ _) _) _ _ _)); first | walk1 | (dsimp only; walk1)))
      exact k _ _ _ [] ⟨⟨h, _, rfl, ⟨.inr ⟨hlo, hh, (igAt_row hq).trans hig, hall⟩⟩⟩, rfl⟩ (sub_of_fr (by assumption)) Led.nil
    · repeat' (first | (k_unfold; (try dsimp only)) | ((with_reducible show wpAny _ _ (call (Value.ref _) _) _ _ _); ((with_reducible show wpAny _ _ (call (Value.ref 97) _) _ _ _); k_dflt (refine' use0 (passes_c ?HC ?hf ?hl ?h0 ?hq ?hg) ?hdp ?hun ?F ?N ?X ?T ?hi ?_); (case hi => exact fun p hp => Or.inr (‹Has _ (Sc.led _ _ _ ++ rowsLed _ _)› p hp)); (case hq | HC | hg | hf | hl => assumption); (case h0 => omega); ( (case hdp | hun => kwd_inv); (case F | N | X | T => k_asm)); (intro Gq hGq _ _ _ _ _ hP; (first | (obtain ⟨⟨_, e1⟩, e2⟩ := hP; subst e1 e2) | (obtain ⟨e1, e2⟩ := hP; subst e1 e2)); refine hGq _ _ _ _ _ ?_; clear hGq Gq; intro _ _ _ N0; (try dsimp only [List.nil_append] at N0); revert N0; intro _); (try rw [‹ign _ _ = _›]))) | ((fail_if_success (with_reducible show wpAny _ _ (exec (Stmt.While _ _ _ _) _) _ _ _)); first | walk1 | (dsimp only; walk1)))
      refine ⟨_, _, _, _, (7 - (h + 1)).toNat, rfl, by k_asm, by k_asm, by exact dec7 (Int.lt_of_lt_of_le hh (Int.le_trans (Int.ofNat_le.mpr hl) (by decide))), h + 1, _, rfl, by exact Int.lt_trans hlo (Int.lt_succ _), by exact hh, rfl, upd_upd, fun j h1 h2 => ?_⟩
      by_cases hj : (j : Int) < h
      · exact hall j h1 hj
      · have e : j = h.toNat := by exact congrArg Int.toNat (Int.le_antisymm (Int.le_of_lt_add_one h2) (Int.not_lt.mp hj))
        rw [e, igAt_row hq]; exact hig
  · repeat' (first | (k_unfold; (try dsimp only)) | ((with_reducible show wpAny _ _ (call (Value.ref _) _) _ _ _); ((with_reducible show wpAny _ _ (call (Value.ref 97) _) _ _ _); k_dflt (refine' use0 (passes_c ?HC ?hf ?hl ?h0 ?hq ?hg) ?hdp ?hun ?F ?N ?X ?T ?hi ?_); (case hi => exact fun p hp => Or.inr (‹Has _ (Sc.led _ _ _ ++ rowsLed _ _)› p hp)); (case hq | HC | hg | hf | hl => assumption); (case h0 => omega); ( (case hdp | hun => kwd_inv); (case F | N | X | T => k_asm)); (intro Gq hGq _ _ _ _ _ hP; (first | (obtain ⟨⟨_, e1⟩, e2⟩ := hP; subst e1 e2) | (obtain ⟨e1, e2⟩ := hP; subst e1 e2)); refine hGq _ _ _ _ _ ?_; clear hGq Gq; intro _ _ _ N0; (try dsimp only [List.nil_append] at N0); revert N0; intro _); (try rw [‹ign _ _ = _›]))) | ((fail_if_success (with_reducible show wpAny _ _ (exec (Stmt.While _ _ _ _) _) _ _ _)); first | walk1 | (dsimp only; walk1)))
    exact k _ _ _ [] ⟨⟨-1, _, rfl, ⟨.inl ⟨rfl, fun j h1 h2 => hall j h1 (by exact Int.lt_of_lt_of_le (Int.ofNat_lt.mpr h2) (Int.not_lt.mp hh))⟩⟩⟩, rfl⟩ (sub_of_fr (by assumption)) Led.nil

theorem next_at_c {z : Sc} {rows : List IR} {cls : Int → Int} {at' : Int} {t : Tok} (HC : ClsOk prog w z.D z.oD cls) (hf : z.flag = 0 ∨ z.flag = 2 ∨ z.flag = 8) (hl : rows.length ≤ 6) (h0 : 0 ≤ at') (hgs : ∀ q ∈ rows, 0 ≤ q.r.g ∧ q.r.g < 6) (hat : at' < rows.length) :
    Calls prog w 6 (.ref 220) [.ref z.sc, .int at' t] (z.led w.params rows ++ rowsLed w.params rows) [] (fun _ r mu' => (∃ x t', r = .int x t' ∧ NextIs (igAt z.flag cls (glyphs rows)) rows.length at' x) ∧ mu' = []) := by
  intro dp un fr gds s b R hdp hun S G H0 N k
  obtain ⟨X, p, loose, mean, mg, mb, T⟩ := G
  refine' enter [("scene", .ref z.sc), ("at", .int at' t)] S N X T ?k6 ?k7 ?k8 ?k9 ?kB ?_ ?c2 ?c3 ?c4 ?c5
  ( (case k6 | k7 => k_is); (case k8 => k_room); (case k9 => first | exact BindsTo.of_eq rfl | exact binds_K (by first | assumption | exact Frag.In.keeps (by assumption) (Sub.keep (by assumption))) rfl (by k_is) rfl rfl rfl); (case c5 => decide); (case kB => exact locs rfl); (case c2 | c3 | c4 => exact rfl); intro _ _ _ _ _ _; (try dsimp only); (try k_fold))
  repeat' (first | (k_unfold; (try dsimp only)) | ((with_reducible show wpAny _ _ (call (Value.ref _) _) _ _ _); (first | ((with_reducible show wpAny _ _ (call (Value.ref 213) _) _ _ _); k_dflt (refine' use0 (neighbour_c ?HC ?hf ?hl ?h0 ?hgs ?hat) ?hdp ?hun ?F ?N ?X ?T ?hi ?_); (case hi => exact fun p hp => Or.inr (‹Has _ (Sc.led _ _ _ ++ rowsLed _ _)› p hp)); (case hgs | HC | hat | hf | hl => assumption); (case h0 => omega); ( (case hdp | hun => kwd_inv); (case F | N | X | T => k_asm)); intro Gq hGq _ _ _ _ _ hP; obtain ⟨⟨_, _, e1, _⟩, e2⟩ := hP; subst e1 e2; refine hGq _ _ _ _ _ ?_; clear hGq Gq; intro _ _ _ N0; (try dsimp only [List.nil_append] at N0); revert N0; intro _) | ((with_reducible show wpAny _ _ (call (Value.ref 97) _) _ _ _); k_dflt (refine' use0 (passes_c ?HC ?hf ?hl ?h0 ?hq ?hg) ?hdp ?hun ?F ?N ?X ?T ?hi ?_); (case hi => exact fun p hp => Or.inr (‹Has _ (Sc.led _ _ _ ++ rowsLed _ _)› p hp)); (case hq | HC | hg | hf | hl => assumption); (case h0 => omega); ( (case hdp | hun => kwd_inv); (case F | N | X | T => k_asm)); (intro Gq hGq _ _ _ _ _ hP; (first | (obtain ⟨⟨_, e1⟩, e2⟩ := hP; subst e1 e2) | (obtain ⟨e1, e2⟩ := hP; subst e1 e2)); refine hGq _ _ _ _ _ ?_; clear hGq Gq; intro _ _ _ N0; (try dsimp only [List.nil_append] at N0); revert N0; intro _); (try rw [‹ign _ _ = _›])))) | ((fail_if_success (with_reducible show wpAny _ _ (exec (Stmt.While _ _ _ _) _) _ _ _)); first | walk1 | (dsimp only; walk1)))
  exact k _ _ _ [] ⟨⟨_, _, rfl, by assumption⟩, rfl⟩ (sub_of_fr (by assumption)) Led.nil
end

/-! values -/
structure VR where
  a : Nat
  d : Nat
  k : Nat → Tok
  v : Nat → Tok
  xo : Int
  yo : Int
  xa : Int
noncomputable abbrev VR.led (P : Params) (u : VR) : Ledger := [(u.a, instObj 516 u.d), (u.d, dictOf [ent P "x_offset" (u.k 0) (.int u.xo (u.v 0)), ent P "y_offset" (u.k 1) (.int u.yo (u.v 1)), ent P "x_advance" (u.k 2) (.int u.xa (u.v 2)), ent P "y_advance" (u.k 3) (.int 0 (u.v 3))] 4)]
noncomputable def Rec.add (r : Rec) (u : VR) : Rec := { r with xo := r.xo + u.xo, yo := r.yo + u.yo, xa := r.xa + u.xa }
/-- the same info with other data -/
structure IR.Same (q q' : IR) : Prop where
  x : q'.x = q.x
  dx : q'.dx = q.dx

section
variable {prog : Program} {w : World}
theorem add_value_c {q : IR} {u : VR} (hne : q.dx ≠ u.d) :
    Calls prog w 1 (.ref 527) [.ref q.x, .ref u.a, .bool false] (u.led w.params) (q.led w.params) (fun _ r mu' => r = .none ∧ ∃ q' : IR, q.Same q' ∧ q'.r = q.r.add u ∧ mu' = q'.led w.params) := by
  intro dp un fr gds s b R hdp hun S G H0 N k
  obtain ⟨X, p, loose, mean, mg, mb, T⟩ := G
  have I1 := inst_has H0.c.1 H0.c.2.c.1
  have hne' : q.x ≠ q.dx := fun e => by
    have h1 := (N _ (.head _)).1
    have h2 := (N _ (.tail _ (.head _))).1
    simp only at h1 h2
    rw [e, h2] at h1
    cases h1
  refine' enter [("info", .ref q.x), ("value", .ref u.a), ("is_backward", .bool false)] S N X T ?k6 ?k7 ?k8 ?k9 ?kB ?_ ?c2 ?c3 ?c4 ?c5
  ( (case k6 | k7 => k_is); (case k8 => k_room); (case k9 => first | exact BindsTo.of_eq rfl | exact binds_K (by first | assumption | exact Frag.In.keeps (by assumption) (Sub.keep (by assumption))) rfl (by k_is) rfl rfl rfl); (case c5 => decide); (case kB => exact locs rfl); (case c2 | c3 | c4 => exact rfl); intro _ _ _ _ _ _; (try dsimp only); (try k_fold))
  repeat' (first | (k_unfold; (try dsimp only)) | walk1 | (dsimp only; walk1))
  have fin : ∀ v' : Nat → Tok, ∀ l, l = (IR.mk q.x q.dx q.k v' (q.r.add u)).led w.params → ∀ h' tk, Sub b h' → Led b h' l → R (.ok (.ret .none)) { s with heap := h', toks := tk } := fun v' l e h' tk S' L' => k _ _ _ _ ⟨rfl, IR.mk q.x q.dx q.k v' (q.r.add u), ⟨rfl, rfl⟩, rfl, e⟩ S' L'
  exact fin (fun i => if i = 12 then _ else if i = 13 then _ else if i = 10 then _ else q.v i) _ rfl _ _ (sub_of_fr (by assumption)) (led_of_news (by assumption) (fun _ hp => hp))
end

/-! loops over any walk, by an invariant over the frame and the ledger -/
noncomputable def AllAt (b : Heap) (src news : Ledger) : Prop := ∀ p ∈ src, b.get? p.1 = some p.2 ∨ p ∈ news
/-- the end of a turn -/
noncomputable def TurnE (b : Heap) (L I : Addr) (oI : Obj) (src : Ledger) (J : (Str → Option Value) → Ledger → Prop) (s₁ : Shared) (Q : Flow → Shared → Prop) (f : Flow) (s₂ : Shared) : Prop :=
  match f with
  | .ret v => Q (.ret v) s₂
  | .brk => Q .next s₂
  | _ => ∃ h' tk m' news', s₂ = { s₁ with heap := h', toks := tk } ∧ Fr b L h' m' ∧ News b L h' ((I, oI) :: news') ∧ (∀ p ∈ news', p.1 ≠ I) ∧ AllAt b src news' ∧ J m' news'

section
variable {prog : Program} {w : World} {A : Around} {E : Value → Shared → Prop} {s : Shared} {env : Env} {b : Heap} {x : Str} {body : List Stmt} {Q : Flow → Shared → Prop}
theorem loop_at {I : Addr} {fp : List Addr} {n : Nat} {P : Nat → Value → Prop} {St : Nat → Heap → Prop} {src : Ledger} {m₀ : Str → Option Value} {news : Ledger} (J : Nat → (Str → Option Value) → Ledger → Prop)
    (W : Walks prog w A I fp [I] n P St) (hIf : I ∈ fp) (hfp : ∀ a ∈ fp, a = I ∨ ∃ o, (a, o) ∈ src) (hIo : ∀ i h, St i h → ∃ o, h.get? I = some o) (hI0 : b.get? I = none) (hLI : env.locals ≠ I)
    (hst : St 0 s.heap) (F : Fr b env.locals s.heap m₀) (N : News b env.locals s.heap news) (hnI : ∀ p ∈ news, p.1 ≠ I) (hsrc : AllAt b src news) (hj : J 0 m₀ news)
    (turn : ∀ i v oI m₁ news₁ h tk, i < n → P i v → J i m₁ news₁ → (∀ p ∈ news₁, p.1 ≠ I) → AllAt b src news₁ → Fr b env.locals h (fun y => if y = x then some v else m₁ y) → News b env.locals h ((I, oI) :: news₁) →
      wpAny (model prog w) A (execs body env) (TurnE b env.locals I oI src (J (i + 1)) { s with heap := h, toks := tk } Q) E { s with heap := h, toks := tk })
    (done : ∀ m₁ news₁ h tk, J n m₁ news₁ → AllAt b src news₁ → (∀ p ∈ news₁, p.1 ≠ I) → Fr b env.locals h m₁ → News b env.locals h news₁ → Q .next { s with heap := h, toks := tk }) :
    LoopAtV prog w A b env x body Q E (.ref I) s := by
  have hL0 : b.get? env.locals = none := Heap.get?_none_of_le F.above
  have hLf : env.locals ∉ fp := fun hm => by
    rcases hfp _ hm with e | ⟨o, ho⟩
    · exact hLI e
    · rcases hsrc _ ho with e | e
      · rw [hL0] at e; cases e
      · exact (N _ e).2.1 rfl
  refine ⟨I, fp, [I], n, P, St, m₀, news, fun i m nw => J i m nw ∧ AllAt b src nw, rfl, W, hLf, ?_, ?_, hst, F, N, ⟨hj, hsrc⟩, ?_, ?_⟩
  · intro a ha; rw [List.mem_singleton.mp ha]; exact hI0
  · intro p hp hm; exact hnI p hp (List.mem_singleton.mp hm)
  · rintro i v m₁ news₁ s₁ own ⟨h, tk, rfl⟩ hin hP ⟨hJ, hS⟩ hoff hown hget hall hst' F₁ N₁
    obtain ⟨oI, heI⟩ := hIo _ _ hst'
    have hio : (I, oI) ∈ own := hall I hIf hI0 oI heI
    have hnI₁ : ∀ p ∈ news₁, p.1 ≠ I := fun p hp e => hoff p hp (List.mem_singleton.mpr e)
    have N₂ : News b env.locals h ((I, oI) :: news₁) := fun p hp => by
      rcases List.mem_cons.mp hp with rfl | hp
      · exact N₁ _ (List.mem_append_left _ hio)
      · exact N₁ _ (List.mem_append_right _ hp)
    refine wpAny_mono (turn i v oI m₁ news₁ h tk hin hP hJ hnI₁ hS F₁ N₂) (fun f s₂ p => ?_) fun _ _ e => e
    have fin : (∃ h' tk' m' news', s₂ = { s with heap := h', toks := tk' } ∧ Fr b env.locals h' m' ∧ News b env.locals h' ((I, oI) :: news') ∧ (∀ p ∈ news', p.1 ≠ I) ∧ AllAt b src news' ∧ J (i + 1) m' news') →
        LoopStepU b env.locals [I] own (fun m nw => J (i + 1) m nw ∧ AllAt b src nw) { s with heap := h, toks := tk } .next s₂ := by
      rintro ⟨h', tk', m', news', e, F', N', hn', hS', hJ'⟩
      refine ⟨rfl, h', tk', m', news', e, F', fun p hp => ?_, fun p hp hm => hn' p hp (List.mem_singleton.mp hm), hJ', hS'⟩
      rcases List.mem_append.mp hp with hp | hp
      · have hg := hget p hp
        rcases hfp _ (hown p hp) with e1 | ⟨o, ho⟩
        · have e2 : p = (I, oI) := by
            have : some p.2 = some oI := by rw [← hg, e1]; exact heI
            exact Prod.ext e1 (Option.some.inj this)
          rw [e2]; exact N' _ (.head _)
        · have hb := (N₁ p (List.mem_append_left _ hp)).2.2
          rcases hS _ ho with e1 | e1
          · rw [hb] at e1; cases e1
          · have e2 : p = (p.1, o) := by
              have h3 := (N₁ _ (List.mem_append_right _ e1)).1
              have : some p.2 = some o := by rw [← hg]; exact h3
              exact Prod.ext rfl (Option.some.inj this)
            rcases hS' _ ho with e3 | e3
            · rw [hb] at e3; cases e3
            · rw [e2]; exact N' _ (.tail _ e3)
      · exact N' _ (.tail _ hp)
    cases f with
    | ret v => exact .ret p
    | brk => exact .brk p
    | next => exact .next (fin p)
    | cont => exact .cont (fin p)
  · rintro h' tk m' news' F' N' hn ⟨hJ, hS⟩
    exact done m' news' h' tk hJ hS (fun p hp e => hn p hp (List.mem_singleton.mpr e)) F' N'

theorem iter_list {l : Addr} {vs : List Value} {nl : Nat} {m₀ : Str → Option Value} {news : Ledger} (J : Nat → (Str → Option Value) → Ledger → Prop)
    (hh : A.handled = none) (F : Fr b env.locals s.heap m₀) (N : News b env.locals s.heap news) (hl : b.get? l = some (listOf vs.toArray nl) ∨ (l, listOf vs.toArray nl) ∈ news) (hj : J 0 m₀ news)
    (turn : ∀ i v I oI m₁ news₁ h tk, vs[i]? = some v → J i m₁ news₁ → (∀ p ∈ news₁, p.1 ≠ I) → AllAt b [(l, listOf vs.toArray nl)] news₁ → Fr b env.locals h (fun y => if y = x then some v else m₁ y) → News b env.locals h ((I, oI) :: news₁) →
      wpAny (model prog w) A (execs body env) (TurnE b env.locals I oI [(l, listOf vs.toArray nl)] (J (i + 1)) { s with heap := h, toks := tk } Q) E { s with heap := h, toks := tk })
    (done : ∀ m₁ news₁ h tk, J vs.length m₁ news₁ → Fr b env.locals h m₁ → News b env.locals h news₁ → Q .next { s with heap := h, toks := tk }) :
    wpAny (model prog w) A (pyIter (.ref l)) (fun it s₂ => LoopAtV prog w A b env x body Q E it s₂) E s := by
  have hg : s.heap.get? l = some (listOf vs.toArray nl) := hl.elim (F.keep _ _) fun h => (N _ h).1
  have hls : s.heap.IsList l vs.toArray := ⟨_, hg, rfl, _, rfl⟩
  have hlt : l < s.heap.objs.size := Heap.lt_size hg
  refine wpAny_pyIter_list hls ?_
  have W := Walks.list (prog := prog) (w := w) hh s.heap.objs.size l (Nat.ne_of_lt hlt) vs.toArray
  rw [show vs.toArray.size = vs.length by simp] at W
  refine loop_at (src := [(l, listOf vs.toArray nl)]) (news := news) J W (List.mem_cons.mpr (.inl rfl)) (fun a ha => ?_) (fun i h st => by obtain ⟨o, e, _⟩ := st.1; exact ⟨o, e⟩) (next_is_new F) (Nat.ne_of_lt F.ns.lt) ⟨⟨_, Heap.get?_push_size _ rfl, rfl, rfl⟩, hls.push _⟩ (F.push _)
    (fun p hp => ⟨Heap.get?_push_of_some _ (N p hp).1, (N p hp).2⟩) (fun p hp => Nat.ne_of_lt (Heap.lt_size (N p hp).1)) (fun p hp => by rw [List.mem_singleton.mp hp]; exact hl) hj
    (fun i v oI m₁ news₁ h tk hi hP => turn i v _ oI m₁ news₁ h tk (by simpa using hP)) fun m₁ news₁ h tk hJ _ _ => done m₁ news₁ h tk hJ
  rcases List.mem_cons.mp ha with e | ha
  · exact .inl e
  · rw [List.mem_singleton.mp ha]; exact .inr ⟨_, .head _⟩

theorem iter_range {r : Addr} {k : Int} {n : Nat} {t₀ u₀ v₀ : Tok} {m₀ : Str → Option Value} {news : Ledger} (J : Nat → (Str → Option Value) → Ledger → Prop)
    (hh : A.handled = none) (hr : IsRange s.heap r 0 k 1 t₀ u₀ v₀) (hk : k = n) (hn : n ≤ 1000) (F : Fr b env.locals s.heap m₀) (N : News b env.locals s.heap news) (hj : J 0 m₀ news)
    (turn : ∀ i t I oI m₁ news₁ h tk, i < n → J i m₁ news₁ → (∀ p ∈ news₁, p.1 ≠ I) → Fr b env.locals h (fun y => if y = x then some (.int (i : Int) t) else m₁ y) → News b env.locals h ((I, oI) :: news₁) →
      wpAny (model prog w) A (execs body env) (TurnE b env.locals I oI [] (J (i + 1)) { s with heap := h, toks := tk } Q) E { s with heap := h, toks := tk })
    (done : ∀ m₁ news₁ h tk, J n m₁ news₁ → Fr b env.locals h m₁ → News b env.locals h news₁ → Q .next { s with heap := h, toks := tk }) :
    wpAny (model prog w) A (pyIter (.ref r)) (fun it s₂ => LoopAtV prog w A b env x body Q E it s₂) E s := by
  subst hk
  have hsz : Builtin.Range.rangeSize 0 (n : Int) 1 = ((n : Nat) : Int) := by first | exact rangeSize_nat _ _ | (unfold Builtin.Range.rangeSize; simp)
  refine wpAny_pyIter_range hr (small_one (by decide) (by decide) (by exact Int.le_trans (by decide) (Int.natCast_nonneg _)) (by exact Int.lt_of_le_of_lt (Int.ofNat_le.mpr hn) (by decide))) ?_
  rw [hsz]
  refine loop_at (src := []) (news := news) J (LCg.range_walks hh 0 n) (List.mem_singleton.mpr rfl) (fun a ha => .inl (List.mem_singleton.mp ha)) (fun i h st => ⟨_, st⟩) (next_is_new F) (Nat.ne_of_lt F.ns.lt) (by show IsRangeIter _ _ _ _ _; simpa using Heap.get?_push_size _ rfl) (F.push _)
    (fun p hp => ⟨Heap.get?_push_of_some _ (N p hp).1, (N p hp).2⟩) (fun p hp => Nat.ne_of_lt (Heap.lt_size (N p hp).1)) (fun p hp => nomatch hp) hj
    (fun i v oI m₁ news₁ h tk hi hP hJ hn _ F' N' => ?_) fun m₁ news₁ h tk hJ _ _ => done m₁ news₁ h tk hJ
  obtain ⟨t, rfl⟩ := hP
  rw [Int.zero_add] at F'
  exact turn i t _ oI m₁ news₁ h tk hi hJ hn F' N'
/-- the same, what holds at the turn's start taken apart before the goal is in sight, the next turn's word a letter -/
theorem iter_listG {l : Addr} {vs : List Value} {nl : Nat} {m₀ : Str → Option Value} {news : Ledger} (J : Nat → (Str → Option Value) → Ledger → Prop)
    (hh : A.handled = none) (F : Fr b env.locals s.heap m₀) (N : News b env.locals s.heap news) (hl : b.get? l = some (listOf vs.toArray nl) ∨ (l, listOf vs.toArray nl) ∈ news) (hj : J 0 m₀ news)
    (turn : ∀ i v I oI h tk, vs[i]? = some v → ∀ (Jn G : (Str → Option Value) → Ledger → Prop), (∀ m₁ news₁, ((∀ p ∈ news₁, p.1 ≠ I) → AllAt b [(l, listOf vs.toArray nl)] news₁ → Fr b env.locals h (fun y => if y = x then some v else m₁ y) → News b env.locals h ((I, oI) :: news₁) → (∀ m' nw', J (i + 1) m' nw' → Jn m' nw') →
      wpAny (model prog w) A (execs body env) (TurnE b env.locals I oI [(l, listOf vs.toArray nl)] Jn { s with heap := h, toks := tk } Q) E { s with heap := h, toks := tk }) → G m₁ news₁) → ∀ m₁ news₁, J i m₁ news₁ → G m₁ news₁)
    (done : ∀ h tk (G : (Str → Option Value) → Ledger → Prop), (∀ m₁ news₁, (Fr b env.locals h m₁ → News b env.locals h news₁ → Q .next { s with heap := h, toks := tk }) → G m₁ news₁) → ∀ m₁ news₁, J vs.length m₁ news₁ → G m₁ news₁) :
    wpAny (model prog w) A (pyIter (.ref l)) (fun it s₂ => LoopAtV prog w A b env x body Q E it s₂) E s :=
  iter_list J hh F N hl hj (fun i v I oI m₁ news₁ h tk hv hJ hn ha F' N' => turn i v I oI h tk hv (J (i + 1)) _ (fun _ _ k => k) m₁ news₁ hJ hn ha F' N' fun _ _ q => q)
    (fun m₁ news₁ h tk hJ F' N' => done h tk _ (fun _ _ k => k) m₁ news₁ hJ F' N')
theorem iter_rangeG {r : Addr} {k : Int} {n : Nat} {t₀ u₀ v₀ : Tok} {m₀ : Str → Option Value} {news : Ledger} (J : Nat → (Str → Option Value) → Ledger → Prop)
    (hh : A.handled = none) (hr : IsRange s.heap r 0 k 1 t₀ u₀ v₀) (hk : k = n) (hn : n ≤ 1000) (F : Fr b env.locals s.heap m₀) (N : News b env.locals s.heap news) (hj : J 0 m₀ news)
    (turn : ∀ i t I oI h tk, i < n → ∀ (Jn G : (Str → Option Value) → Ledger → Prop), (∀ m₁ news₁, ((∀ p ∈ news₁, p.1 ≠ I) → Fr b env.locals h (fun y => if y = x then some (.int (i : Int) t) else m₁ y) → News b env.locals h ((I, oI) :: news₁) → (∀ m' nw', J (i + 1) m' nw' → Jn m' nw') →
      wpAny (model prog w) A (execs body env) (TurnE b env.locals I oI [] Jn { s with heap := h, toks := tk } Q) E { s with heap := h, toks := tk }) → G m₁ news₁) → ∀ m₁ news₁, J i m₁ news₁ → G m₁ news₁)
    (done : ∀ h tk (G : (Str → Option Value) → Ledger → Prop), (∀ m₁ news₁, (Fr b env.locals h m₁ → News b env.locals h news₁ → Q .next { s with heap := h, toks := tk }) → G m₁ news₁) → ∀ m₁ news₁, J n m₁ news₁ → G m₁ news₁) :
    wpAny (model prog w) A (pyIter (.ref r)) (fun it s₂ => LoopAtV prog w A b env x body Q E it s₂) E s :=
  iter_range J hh hr hk hn F N hj (fun i t I oI m₁ news₁ h tk hi hJ hn F' N' => turn i t I oI h tk hi (J (i + 1)) _ (fun _ _ k => k) m₁ news₁ hJ hn F' N' fun _ _ q => q)
    (fun m₁ news₁ h tk hJ F' N' => done h tk _ (fun _ _ k => k) m₁ news₁ hJ F' N')
end

/-! comprehensions by an invariant over what is made and the ledger -/
section
open LCg
variable {prog : Program} {w : World} {A : Around} {b : Heap} {L : Addr} {m : Str → Option Value} {env : Env} {elt : Expr} {x : Str} {scope : Scope} {cl : List (Str × Addr)} {s : Shared} {S : Ledger → Prop} {P : Nat → Value → Prop} {Fin : List Value → Ledger → Prop} {news : Ledger}
theorem comp_inv {n : Nat} (J : Nat → List Value → Ledger → Prop) (h0 : J 0 [] news)
    (turn : ∀ i ys nw v I oI C oC D m₂ h tk (E' : Value → Shared → Prop), i < n → J i ys nw → P i v → NsObj oC m₂ → m₂ x = some v → Fr b L h m → News b L h ((I, oI) :: (C, oC) :: (D, lst ys) :: nw) → Off3 I C D nw → ((@Ne Nat I C) ∧ (@Ne Nat I D) ∧ (@Ne Nat C D)) →
      wpAny (model prog w) A (eval elt (compEnvC scope cl C env)) (CompEnd b L m { s with heap := h, toks := tk } I oI C oC D (lst ys) S (fun y nw' => J (i + 1) (ys ++ [y]) nw')) E' { s with heap := h, toks := tk })
    (fin : ∀ ys nw, J n ys nw → Fin ys nw) : CompRest prog w A b L m env elt x scope cl s S P Fin n 0 [] news := by
  have key : ∀ (j i : Nat) (ys : List Value) (nw : Ledger), i + j = n → J i ys nw → CompRest prog w A b L m env elt x scope cl s S P Fin j i ys nw := by
    intro j
    induction j with
    | zero => intro i ys nw hi hJ; obtain rfl : i = n := by exact hi
              exact CompRest.zero (fin ys nw hJ)
    | succ j ih =>
      intro i ys nw hi hJ
      refine CompRest.succ ?_
      intro v I oI C oC D m₂ h tk E' hv hC hx F N off ne
      refine wpAny_mono (turn i ys nw v I oI C oC D m₂ h tk E' (by exact o_addlt hi) hJ hv hC hx F N off ne) (fun y s₂ hq => ?_) fun _ _ e => e
      obtain ⟨h', tk', nw', e, F', N', off', hS, hJ'⟩ := hq
      exact ⟨h', tk', nw', e, F', N', off', hS, ih (i + 1) _ nw' (by exact o_adds hi) hJ'⟩
  exact key n 0 [] news (by exact Nat.zero_add _) h0
open LCt in
theorem comp_invT {ct : Expr} {n : Nat} (J : Nat → List Value → Ledger → Prop) (h0 : J 0 [] news)
    (turn : ∀ i ys nw v I oI C oC D m₂ h tk (E' : Value → Shared → Prop), i < n → J i ys nw → P i v → NsObj oC m₂ → m₂ x = some v → Fr b L h m → News b L h ((I, oI) :: (C, oC) :: (D, lst ys) :: nw) → Off3 I C D nw → ((@Ne Nat I C) ∧ (@Ne Nat I D) ∧ (@Ne Nat C D)) →
      wpAny (model prog w) A (isTrue ct (compEnvC scope cl C env) (eval ct (compEnvC scope cl C env))) (fun ok s' => if ok = true then
        wpAny (model prog w) A (eval elt (compEnvC scope cl C env)) (CompEnd b L m { s with heap := h, toks := tk } I oI C oC D (lst ys) S (fun y nw' => J (i + 1) (ys ++ [y]) nw')) E' s'
        else CompEnd b L m { s with heap := h, toks := tk } I oI C oC D (lst ys) S (fun _ nw' => J (i + 1) ys nw') Value.none s') E' { s with heap := h, toks := tk })
    (fin : ∀ ys nw, J n ys nw → Fin ys nw) : CompRestT prog w A b L m env ct elt x scope cl s S P Fin n 0 [] news := by
  have key : ∀ (j i : Nat) (ys : List Value) (nw : Ledger), i + j = n → J i ys nw → CompRestT prog w A b L m env ct elt x scope cl s S P Fin j i ys nw := by
    intro j
    induction j with
    | zero => intro i ys nw hi hJ; obtain rfl : i = n := by exact hi
              exact CompRestT.zero (fin ys nw hJ)
    | succ j ih =>
      intro i ys nw hi hJ
      refine CompRestT.succ ?_
      intro v I oI C oC D m₂ h tk E' hv hC hx F N off ne
      refine wpAny_mono (turn i ys nw v I oI C oC D m₂ h tk E' (by exact o_addlt hi) hJ hv hC hx F N off ne) (fun ok s₂ hq => ?_) fun _ _ e => e
      cases ok with
      | true =>
        simp only [if_true] at hq ⊢
        refine wpAny_mono hq (fun y s₃ hq' => ?_) fun _ _ e => e
        obtain ⟨h', tk', nw', e, F', N', off', hS, hJ'⟩ := hq'
        exact ⟨h', tk', nw', e, F', N', off', hS, ih (i + 1) _ nw' (by exact o_adds hi) hJ'⟩
      | false =>
        simp only [Bool.false_eq_true, if_false] at hq ⊢
        obtain ⟨h', tk', nw', e, F', N', off', hS, hJ'⟩ := hq
        exact ⟨h', tk', nw', e, F', N', off', hS, ih (i + 1) _ nw' (by exact o_adds hi) hJ'⟩
  exact key n 0 [] news (by exact Nat.zero_add _) h0
theorem comp_invG {n : Nat} (J : Nat → List Value → Ledger → Prop) (h0 : J 0 [] news)
    (turn : ∀ i v I oI C oC D m₂ h tk (E' : Value → Shared → Prop), i < n → P i v → ∀ (Jn G : List Value → Ledger → Prop), (∀ ys nw, (NsObj oC m₂ → m₂ x = some v → Fr b L h m → News b L h ((I, oI) :: (C, oC) :: (D, lst ys) :: nw) → Off3 I C D nw → ((@Ne Nat I C) ∧ (@Ne Nat I D) ∧ (@Ne Nat C D)) → (∀ zs nw', J (i + 1) zs nw' → Jn zs nw') →
      wpAny (model prog w) A (eval elt (compEnvC scope cl C env)) (CompEnd b L m { s with heap := h, toks := tk } I oI C oC D (lst ys) S (fun y nw' => Jn (ys ++ [y]) nw')) E' { s with heap := h, toks := tk }) → G ys nw) → ∀ ys nw, J i ys nw → G ys nw)
    (fin : ∀ G : List Value → Ledger → Prop, (∀ ys nw, Fin ys nw → G ys nw) → ∀ ys nw, J n ys nw → G ys nw) : CompRest prog w A b L m env elt x scope cl s S P Fin n 0 [] news :=
  comp_inv J h0 (fun i ys nw v I oI C oC D m₂ h tk E' hi hJ hv hC hx F N off ne => turn i v I oI C oC D m₂ h tk E' hi hv (J (i + 1)) _ (fun _ _ k => k) ys nw hJ hC hx F N off ne fun _ _ q => q) (fun ys nw hJ => fin _ (fun _ _ k => k) ys nw hJ)
open LCt in
theorem comp_invTG {ct : Expr} {n : Nat} (J : Nat → List Value → Ledger → Prop) (h0 : J 0 [] news)
    (turn : ∀ i v I oI C oC D m₂ h tk (E' : Value → Shared → Prop), i < n → P i v → ∀ (Jn G : List Value → Ledger → Prop), (∀ ys nw, (NsObj oC m₂ → m₂ x = some v → Fr b L h m → News b L h ((I, oI) :: (C, oC) :: (D, lst ys) :: nw) → Off3 I C D nw → ((@Ne Nat I C) ∧ (@Ne Nat I D) ∧ (@Ne Nat C D)) → (∀ zs nw', J (i + 1) zs nw' → Jn zs nw') →
      wpAny (model prog w) A (isTrue ct (compEnvC scope cl C env) (eval ct (compEnvC scope cl C env))) (fun ok s' => if ok = true then
        wpAny (model prog w) A (eval elt (compEnvC scope cl C env)) (CompEnd b L m { s with heap := h, toks := tk } I oI C oC D (lst ys) S (fun y nw' => Jn (ys ++ [y]) nw')) E' s'
        else CompEnd b L m { s with heap := h, toks := tk } I oI C oC D (lst ys) S (fun _ nw' => Jn ys nw') Value.none s') E' { s with heap := h, toks := tk }) → G ys nw) → ∀ ys nw, J i ys nw → G ys nw)
    (fin : ∀ G : List Value → Ledger → Prop, (∀ ys nw, Fin ys nw → G ys nw) → ∀ ys nw, J n ys nw → G ys nw) : CompRestT prog w A b L m env ct elt x scope cl s S P Fin n 0 [] news :=
  comp_invT J h0 (fun i ys nw v I oI C oC D m₂ h tk E' hi hJ hv hC hx F N off ne => turn i v I oI C oC D m₂ h tk E' hi hv (J (i + 1)) _ (fun _ _ k => k) ys nw hJ hC hx F N off ne fun _ _ q => q) (fun ys nw hJ => fin _ (fun _ _ k => k) ys nw hJ)
end

/-! rows that change -/
noncomputable def adrs (rows : List IR) : List Nat := rows.flatMap fun q => [q.x, q.dx]
noncomputable def SameRows (rows rows' : List IR) : Prop := rows'.map (fun q => (q.x, q.dx)) = rows.map fun q => (q.x, q.dx)
theorem SameRows.rfl' {rows : List IR} : SameRows rows rows := rfl
theorem SameRows.trans' {a b c : List IR} (h : SameRows a b) (h' : SameRows b c) : SameRows a c := Eq.trans (a := c.map _) h' h
theorem SameRows.len {a b : List IR} (h : SameRows a b) : b.length = a.length := by simpa using congrArg List.length h
theorem adrs_of (rows : List IR) : adrs rows = (rows.map fun q => (q.x, q.dx)).flatMap fun p => [p.1, p.2] := by simp [adrs, List.flatMap_map]
theorem SameRows.adrs' {a b : List IR} (h : SameRows a b) : adrs b = adrs a := by rw [adrs_of, adrs_of, h]
theorem SameRows.refs' {a b : List IR} (h : SameRows a b) : refs b = refs a := by
  have e : ∀ l : List IR, refs l = (l.map fun q => (q.x, q.dx)).map fun p => Value.ref p.1 := fun l => by simp [refs]
  rw [e, e, h]
theorem SameRows.set' {rows : List IR} {k : Nat} {q q' : IR} (hq : rows[k]? = some q) (h : q.Same q') : SameRows rows (rows.set k q') := by
  unfold SameRows
  rw [List.map_set]
  apply List.ext_getElem?
  intro j
  rw [List.getElem?_set]
  split
  · rename_i e
    subst e
    split
    · simp [hq, h.x, h.dx]
    · rename_i hl
      have := (List.getElem?_eq_some_iff.mp hq).1
      simp at hl; exact absurd this (Nat.not_lt.mpr hl)
  · rfl
noncomputable def dataOf (rows : List IR) : List Rec := rows.map (·.r)
theorem dataOf_set (rows : List IR) (k : Nat) (q : IR) : dataOf (rows.set k q) = (dataOf rows).set k q.r := by simp [dataOf, List.map_set]
theorem focus {P : Params} {rows : List IR} {k : Nat} {q : IR} (hq : rows[k]? = some q) {p : Addr × Obj} : p ∈ rowsLed P rows ↔ p ∈ q.led P ∨ p ∈ rowsLed P (rows.eraseIdx k) := by
  induction rows generalizing k with
  | nil => simp at hq
  | cons r rs ih =>
    cases k with
    | zero =>
      simp at hq; subst hq
      rw [List.eraseIdx_cons_zero]
      exact List.mem_append
    | succ k =>
      have := ih (k := k) (by simpa using hq)
      simp only [rowsLed, List.flatMap_cons, List.mem_append, List.eraseIdx_cons_succ] at this ⊢
      rw [this]
      constructor
      · rintro (h | h | h) <;> simp [h]
      · rintro (h | h | h) <;> simp [h]
theorem focus_set {P : Params} {rows : List IR} {k : Nat} {q' : IR} {p : Addr × Obj} (h : p ∈ rowsLed P (rows.set k q')) : p ∈ q'.led P ∨ p ∈ rowsLed P (rows.eraseIdx k) := by
  by_cases hk : k < rows.length
  · have := (focus (P := P) (rows := rows.set k q') (k := k) (q := q') (by simp [hk]) (p := p)).mp h
    rwa [List.eraseIdx_set_eq] at this
  · rw [List.set_eq_of_length_le (by exact Nat.le_of_not_lt hk)] at h
    rw [List.eraseIdx_of_length_le (by exact Nat.le_of_not_lt hk)]
    exact .inr h
theorem adrs_perm {rows : List IR} {k : Nat} {q : IR} (hq : rows[k]? = some q) : (adrs rows).Perm ([q.x, q.dx] ++ adrs (rows.eraseIdx k)) := by
  induction rows generalizing k with
  | nil => simp at hq
  | cons r rs ih =>
    cases k with
    | zero => simp at hq; subst hq; simp [adrs]
    | succ k =>
      have := ih (k := k) (by simpa using hq)
      simp only [adrs, List.flatMap_cons, List.eraseIdx_cons_succ] at this ⊢
      refine (List.Perm.append_left _ this).trans ?_
      rw [← List.append_assoc, ← List.append_assoc]
      exact List.Perm.append_right _ List.perm_append_comm
theorem adr_of_mem {P : Params} {rows : List IR} {p : Addr × Obj} (h : p ∈ rowsLed P rows) : p.1 ∈ adrs rows := by
  obtain ⟨q, hq, hp⟩ := List.mem_flatMap.mp h
  refine List.mem_flatMap.mpr ⟨q, hq, ?_⟩
  simp only [List.mem_cons, List.not_mem_nil, or_false] at hp
  rcases hp with rfl | rfl <;> simp
theorem rest_ne {P : Params} {rows : List IR} {k : Nat} {q : IR} (hn : (adrs rows).Nodup) (hq : rows[k]? = some q) : (∀ p ∈ rowsLed P (rows.eraseIdx k), p.1 ≠ q.x) ∧ ∀ p ∈ rowsLed P (rows.eraseIdx k), p.1 ≠ q.dx := by
  have h := (adrs_perm hq).nodup_iff.mp hn
  have h2 := (List.nodup_append.mp h).2.2
  refine ⟨fun p hp e => ?_, fun p hp e => ?_⟩
  · exact h2 q.x (by simp) p.1 (adr_of_mem hp) e.symm
  · exact h2 q.dx (by simp) p.1 (adr_of_mem hp) e.symm
theorem row_ne {rows : List IR} {k : Nat} {q : IR} (hn : (adrs rows).Nodup) (hq : rows[k]? = some q) : q.x ≠ q.dx := by
  have h := (adrs_perm hq).nodup_iff.mp hn
  simp at h
  exact h.1.1

/-- the places from i on, before j, whose cluster is not M -/
noncomputable def markR (M : Int) (i j : Nat) (rs : List Rec) : List Rec := rs.mapIdx fun k r => if i ≤ k ∧ k < j ∧ r.cl ≠ M then { r with un := true } else r
theorem markR_zero (M : Int) (i : Nat) (rs : List Rec) : markR M i i rs = rs := by
  unfold markR
  apply List.ext_getElem?
  intro k
  rw [List.getElem?_mapIdx]
  cases rs[k]? with
  | none => rfl
  | some r => simp only [Option.map_some]; rw [if_neg (by omega)]
theorem markR_succ {M : Int} {i j : Nat} {rs : List Rec} {r : Rec} (hij : i ≤ j) (h : rs[j]? = some r) : markR M i (j + 1) rs = (markR M i j rs).set j (if r.cl ≠ M then { r with un := true } else r) := by
  unfold markR
  apply List.ext_getElem?
  intro k
  rw [List.getElem?_mapIdx, List.getElem?_set, List.getElem?_mapIdx]
  have hj := (List.getElem?_eq_some_iff.mp h).1
  by_cases e : j = k
  · subst e
    simp only [h, Option.map_some, List.length_mapIdx, if_true, hj]
    congr 1
    by_cases h2 : r.cl ≠ M
    · rw [if_pos ⟨hij, Nat.lt_succ_self _, h2⟩, if_pos h2]
    · rw [if_neg (fun q => h2 q.2.2), if_neg h2]
  · rw [if_neg e]
    cases rs[k]? with
    | none => rfl
    | some r' =>
      simp only [Option.map_some]
      congr 1
      have : (i ≤ k ∧ k < j + 1 ∧ r'.cl ≠ M) ↔ (i ≤ k ∧ k < j ∧ r'.cl ≠ M) := by constructor <;> rintro ⟨a, b, c⟩ <;> exact ⟨a, by omega, c⟩
      simp only [this]
theorem markR_at {M : Int} {i j : Nat} {rs : List Rec} : (markR M i j rs)[j]? = rs[j]? := by
  unfold markR
  rw [List.getElem?_mapIdx]
  cases rs[j]? with
  | none => rfl
  | some r => simp only [Option.map_some]; rw [if_neg (by omega)]
noncomputable def clusters (rs : List Rec) (i j : Nat) : List Int := ((rs.drop i).take (j - i)).map (·.cl)

section
variable {prog : Program} {w : World}
theorem slice_refs {A : Around} {E : Value → Shared → Prop} {s : Shared} {b : Heap} {L l : Addr} {m : Str → Option Value} {news : Ledger} {value slice : PySem.Expr} {vs : List Value} {nl : Nat} {i j : Int} {t t2 : Tok} {Q : Value → Shared → Prop}
    (F : Fr b L s.heap m) (N : News b L s.heap news) (ho : s.heap.get? l = some (listOf vs.toArray nl)) (h0 : 0 ≤ i) (hij : i ≤ j) (hj : j ≤ vs.length) (hz : vs.length ≤ 1000)
    (h : ∀ D h', Fr b L h' m → News b L h' ((D, listOf ((vs.drop i.toNat).take (j.toNat - i.toNat)).toArray 0) :: news) → (∀ p ∈ news, p.1 < D) → Q (.ref D) { s with heap := h' })
    (hs : subscripted slice false (.ref l) (.ref s.heap.objs.size) = operate [.ref s.heap.objs.size, .ref l] (getItem (.ref l) (.ref s.heap.objs.size)) := by with_unfolding_all rfl) (ht : ∀ r, letTemporaryGo value (.ref l) r = pure () := by intro _; with_unfolding_all rfl) :
    wpAny (model prog w) A (subscriptTail value slice (.ref l) (.ref s.heap.objs.size)) Q E { s with heap := s.heap.push { cls := .type "slice", data := .fields #[.int i t, .int j t2, .none] } } := by
  have hl : s.heap.IsList l vs.toArray := ⟨_, ho, rfl, _, rfl⟩
  refine kmk_slice (lo := some i) (hi := some j) F N hl (IsPart.int _ _) (IsPart.int _ _) (fun D h' F' N' l1 => h D h' F' ?_ l1) hs ht (by rw [sizeLine_eq]; simp; exact o_le hz rfl)
  have ex : i = (i.toNat : Int) := tn_cast h0
  have ey : j = (j.toNat : Int) := tn_cast (Int.le_trans h0 hij)
  have e : slicePick vs.toArray (some i) (some j) none = ((vs.drop i.toNat).take (j.toNat - i.toNat)).toArray := by
    have h1 := PySem.slicePick_run vs.toArray i.toNat j.toNat (by simpa using tn_le hj) (tn_mono hij)
    rw [← ex, ← ey] at h1
    rw [h1]
  rw [e] at N'
  exact N'
end

section
variable {prog : Program} {w : World}
noncomputable def part (rows : List IR) (i j : Nat) : List IR := (rows.drop i).take (j - i)
theorem part_refs (rows : List IR) (i j : Nat) : ((refs rows).drop i).take (j - i) = refs (part rows i j) := by simp [refs, part, List.map_drop, List.map_take]
theorem part_len {rows : List IR} {i j : Nat} (h : j ≤ rows.length) : (part rows i j).length = j - i := by simp only [part, List.length_take, List.length_drop]; exact Nat.min_eq_left (Nat.sub_le_sub_right h i)
theorem part_at {rows : List IR} {i j k : Nat} (h : k < j - i) : (part rows i j)[k]? = rows[i + k]? := by
  rw [part, List.getElem?_take_of_lt h, List.getElem?_drop]
theorem part_mem {rows : List IR} {i j : Nat} {q : IR} (h : q ∈ part rows i j) : q ∈ rows := List.mem_of_mem_drop (List.mem_of_mem_take h)
noncomputable def MI (m₀ : Str → Option Value) (x : Str) (m : Str → Option Value) : Prop := ∀ v : Option Value, (fun y => if y = x then v else m y) = fun y => if y = x then v else m₀ y
theorem MI.base {m₀ : Str → Option Value} {x : Str} : MI m₀ x m₀ := fun _ => rfl
theorem MI.step {m₀ : Str → Option Value} {x : Str} {v : Value} : MI m₀ x (fun y => if y = x then some v else m₀ y) := fun _ => by
  funext y
  by_cases h : y = x <;> simp [h]
theorem turn_end {b h' : Heap} {L I : Addr} {oI : Obj} {src news' all : Ledger} {J : (Str → Option Value) → Ledger → Prop} {s₁ : Shared} {Q : Flow → Shared → Prop} {m' : Str → Option Value} {tk : Nat} {f : Flow} (hf : f = .next ∨ f = .cont)
    (F : Fr b L h' m') (N : News b L h' all) (hs : ∀ p ∈ (I, oI) :: news', p ∈ all) (hn : ∀ p ∈ news', p.1 ≠ I) (hS : AllAt b src news') (hJ : J m' news') : TurnE b L I oI src J s₁ Q f { s₁ with heap := h', toks := tk } := by
  rcases hf with rfl | rfl <;> exact ⟨h', tk, m', news', rfl, F, fun p hp => N p (hs p hp), hn, hS, hJ⟩
theorem len_new {A : Around} {E : Value → Shared → Prop} {s : Shared} {b : Heap} {L l : Addr} {n : Nat} {news : Ledger} {vs : List Value} {Q : Value → Shared → Prop}
    (N : News b L s.heap news) (hm : (l, listOf vs.toArray n) ∈ news) (hz : vs.length ≤ 1000) (h : Q (.int vs.length (s.toks + 1)) { s with toks := s.toks + 1 + 1 }) :
    wpAny (model prog w) A (call (.builtin "len") [.ref l]) Q E s := len_row (N _ hm).1 hz h
end
set_option hygiene false in
local macro_rules | `(tactic| walk_at "call builtin:len") => `(tactic| (k_here; (with_reducible show wpAny _ _ (call (Value.builtin "len") [Value.ref _]) _ _ _); k_dflt (refine' len_new (by k_asm) (by k_mem) (by simp only [refs_len]; omega) ?_); (try simp only [refs_len])))
set_option hygiene false in
local macro_rules | `(tactic| k_all) => `(tactic| assumption)
section
variable {prog : Program} {w : World}
theorem hang_c {buf dbuf rowl nrow : Nat} {kb : Nat → Tok} {rows : List IR} {i j : Int} {t t2 : Tok} (h0 : 0 ≤ i) (hij : i + 2 ≤ j) (hj : j ≤ rows.length) (hl : rows.length ≤ 6) (hn : (adrs rows).Nodup) :
    Calls prog w 1 (.ref 197) [.ref buf, .int i t, .int j t2] (bufLed w.params buf dbuf rowl kb ++ [(rowl, listOf (refs rows).toArray nrow)]) (rowsLed w.params rows) (fun _ r mu' => r = .none ∧ ∃ (M : Int) (rows' : List IR), (M ∈ clusters (dataOf rows) i.toNat j.toNat ∧ ∀ a ∈ clusters (dataOf rows) i.toNat j.toNat, M ≤ a) ∧ SameRows rows rows' ∧ dataOf rows' = markR M i.toNat j.toNat (dataOf rows) ∧ mu' = rowsLed w.params rows') := by
  intro dp un fr gds s b R hdp hun S G H0 N k
  obtain ⟨X, p, loose, mean, mg, mb, T⟩ := G
  have I1 := inst_has H0.c.1 H0.c.2.c.1
  have hrow := H0.right.c.1
  refine' enter [("buffer", .ref buf), ("begin", .int i t), ("end", .int j t2)] S N X T ?k6 ?k7 ?k8 ?k9 ?kB ?_ ?c2 ?c3 ?c4 ?c5
  ( (case k6 | k7 => k_is); (case k8 => k_room); (case k9 => first | exact BindsTo.of_eq rfl | exact binds_K (by first | assumption | exact Frag.In.keeps (by assumption) (Sub.keep (by assumption))) rfl (by k_is) rfl rfl rfl); (case c5 => decide); (case kB => exact locs rfl); (case c2 | c3 | c4 => exact rfl); intro _ _ _ _ _ _; (try dsimp only); (try k_fold))
  repeat' (first | (k_unfold; (try dsimp only)) | ((fail_if_success (first | (with_reducible show wpAny _ _ (call (Value.ref _) _) _ _ _) | (with_reducible show wpAny _ _ (exec (Stmt.While _ _ _ _) _) _ _ _) | (with_reducible show wpAny _ _ (exec (Stmt.For _ _ _ _ _) _) _ _ _) | (with_reducible show wpAny _ _ (exec (Stmt.Assign [_] (Expr.ListComp _ _ _ _) _) _) _ _ _) | (with_reducible show wpAny _ _ (eval (Expr.ListComp _ _ _ _) _) _ _ _))); first | walk1 | (dsimp only; walk1)))
  refine slice_refs (by assumption) (by assumption) (Fr.keep (by assumption) _ _ hrow) h0 (le2 hij) (by simpa [refs] using hj) (by simp [refs]; exact o_le hl rfl) ?_
  rw [part_refs]
  intro D h1 F1 N1 lt1
  have hpl : (part rows i.toNat j.toNat).length = (j - i).toNat := (part_len (tn_le hj)).trans (tn_sub h0 (le2 hij))
  have hz2 : 2 ≤ (part rows i.toNat j.toNat).length := hpl ▸ sub_two hij
  have hz6 : (part rows i.toNat j.toNat).length ≤ 6 := hpl ▸ Nat.le_trans (sub_le h0 hj) hl
  repeat' (first | (k_unfold; (try dsimp only)) | ((fail_if_success (first | (with_reducible show wpAny _ _ (call (Value.ref _) _) _ _ _) | (with_reducible show wpAny _ _ (exec (Stmt.While _ _ _ _) _) _ _ _) | (with_reducible show wpAny _ _ (exec (Stmt.For _ _ _ _ _) _) _ _ _) | (with_reducible show wpAny _ _ (exec (Stmt.Assign [_] (Expr.ListComp _ _ _ _) _) _) _ _ _) | (with_reducible show wpAny _ _ (eval (Expr.ListComp _ _ _ _) _) _ _ _))); first | walk1 | (dsimp only; walk1)))
  refine LCg.ListComp_U (F₀ := by k_asm) (by rfl) (by decide) (by rfl) (by decide) (by rfl) ?_
  repeat' (first | (k_unfold; (try dsimp only)) | ((fail_if_success (first | (with_reducible show wpAny _ _ (call (Value.ref _) _) _ _ _) | (with_reducible show wpAny _ _ (exec (Stmt.While _ _ _ _) _) _ _ _) | (with_reducible show wpAny _ _ (exec (Stmt.For _ _ _ _ _) _) _ _ _) | (with_reducible show wpAny _ _ (exec (Stmt.Assign [_] (Expr.ListComp _ _ _ _) _) _) _ _ _) | (with_reducible show wpAny _ _ (eval (Expr.ListComp _ _ _ _) _) _ _ _))); first | walk1 | (dsimp only; walk1)))
  rename_i hA FA NA
  generalize hpt : part rows i.toNat j.toNat = pt at hpl hz2 hz6 NA
  have hpm : ∀ q ∈ pt, q ∈ rows := fun q hq => part_mem (hpt ▸ hq)
  refine LCg.CompSrc.ledger (by rfl) FA NA (by k_mem) (by simp [refs, sizeLine_eq]; exact o_le hz6 rfl) ?_
  intro g
  refine comp_inv (fun c ys nw => nw = (D, listOf (refs pt).toArray 0) :: rowsLed w.params rows ∧ IntsAre ys ((pt.take c).map fun q => q.r.cl)) ⟨rfl, by simpa using IntsAre.nil⟩ ?_ ?_
  · rintro c ys nw v I oI C oC D2 m2 h tk E' hc ⟨rfl, hys⟩ hv hC hx F2 N2 off ne
    obtain ⟨q, hq⟩ : ∃ q, pt[c]? = some q := ⟨pt[c]'(by simpa [refs] using hc), List.getElem?_eq_getElem _⟩
    obtain rfl : v = .ref q.x := by
      have := refs_at hq
      simp only [List.getElem?_toArray] at hv
      rw [this] at hv; exact (Option.some.inj hv).symm
    have hqm := mem_rowsLed (P := w.params) (hpm q (List.mem_of_getElem? hq))
    have N3 : News b _ h [(q.x, instObj 135 q.dx), (q.dx, q.obj w.params), (C, oC)] := fun p hp => N2 p (by simp only [List.mem_cons, List.not_mem_nil, or_false] at hp ⊢; rcases hp with rfl | rfl | rfl <;> simp [hqm])
    repeat' (first | (k_unfold; (try dsimp only)) | ((fail_if_success (first | (with_reducible show wpAny _ _ (call (Value.ref _) _) _ _ _) | (with_reducible show wpAny _ _ (exec (Stmt.While _ _ _ _) _) _ _ _) | (with_reducible show wpAny _ _ (exec (Stmt.For _ _ _ _ _) _) _ _ _) | (with_reducible show wpAny _ _ (exec (Stmt.Assign [_] (Expr.ListComp _ _ _ _) _) _) _ _ _) | (with_reducible show wpAny _ _ (eval (Expr.ListComp _ _ _ _) _) _ _ _))); first | walk1 | (dsimp only; walk1)))
    refine LCg.CompEnd.intro F2 N2 _ (fun p hp => hp) off (.inr ⟨_, .head _, rfl, _, rfl⟩) ⟨rfl, ?_⟩
    rw [List.take_add_one, List.map_append, hq]
    exact hys.append (.cons _ _ .nil)
  · rintro ys nw ⟨rfl, hys⟩
    unfold LCg.FinE
    rw [show (pt.take (refs pt).toArray.size) = pt by simp [refs]] at hys
    intro D2 h2 tk2 F2 N2 o2
    repeat' (first | (k_unfold; (try dsimp only)) | ((fail_if_success (first | (with_reducible show wpAny _ _ (call (Value.ref _) _) _ _ _) | (with_reducible show wpAny _ _ (exec (Stmt.While _ _ _ _) _) _ _ _) | (with_reducible show wpAny _ _ (exec (Stmt.For _ _ _ _ _) _) _ _ _) | (with_reducible show wpAny _ _ (exec (Stmt.Assign [_] (Expr.ListComp _ _ _ _) _) _) _ _ _) | (with_reducible show wpAny _ _ (eval (Expr.ListComp _ _ _ _) _) _ _ _))); first | walk1 | (dsimp only; walk1)))
    rename_i hB M tM kB hM1 hM2 hC' FB NB
    refine For_invV b (by rfl) (by rfl) ?_
    repeat' (first | (k_unfold; (try dsimp only)) | ((fail_if_success (first | (with_reducible show wpAny _ _ (call (Value.ref _) _) _ _ _) | (with_reducible show wpAny _ _ (exec (Stmt.While _ _ _ _) _) _ _ _) | (with_reducible show wpAny _ _ (exec (Stmt.For _ _ _ _ _) _) _ _ _) | (with_reducible show wpAny _ _ (exec (Stmt.Assign [_] (Expr.ListComp _ _ _ _) _) _) _ _ _) | (with_reducible show wpAny _ _ (eval (Expr.ListComp _ _ _ _) _) _ _ _))); first | walk1 | (dsimp only; walk1)))
    refine iter_list (fun c m nw => MI _ "info" m ∧ ∃ rc, SameRows rows rc ∧ dataOf rc = markR M i.toNat (i.toNat + c) (dataOf rows) ∧ nw = (D, listOf (refs pt).toArray 0) :: rowsLed w.params rc) rfl FB (news := (D, listOf (refs pt).toArray 0) :: rowsLed w.params rows) (fun p hp => NB p (.tail _ hp)) (.inr (.head _)) ⟨MI.base, rows, rfl, by rw [Nat.add_zero, markR_zero], rfl⟩ ?_ ?_
    · rintro c v I oI m1 nw h tk hv ⟨hMI, rc, hS, hd, rfl⟩ hnI hAll F3 N3
      rw [hMI] at F3
      have hc : c < pt.length := by simpa [refs] using (List.getElem?_eq_some_iff.mp hv).1
      have hpc : pt[c]? = rows[i.toNat + c]? := by rw [← hpt]; exact part_at (by rw [tn_sub h0 (le2 hij), ← hpl]; exact hc)
      have hlr := hS.len
      obtain ⟨q, hq⟩ : ∃ q, rc[i.toNat + c]? = some q := ⟨rc[i.toNat + c]'(hlr ▸ tn_in h0 (le2 hij) hj hpl hc), List.getElem?_eq_getElem _⟩
      obtain rfl : v = .ref q.x := by
        have h1 := refs_at hq
        rw [hS.refs', refs, List.getElem?_map, ← hpc, ← List.getElem?_map] at h1
        exact (Option.some.inj (hv.symm.trans h1))
      have hnr : (adrs rc).Nodup := hS.adrs' ▸ hn
      have hne := (rest_ne (P := w.params) hnr hq).2
      have hrn := row_ne hnr hq
      have hrd : (dataOf rows)[i.toNat + c]? = some q.r := by rw [← markR_at (M := M) (i := i.toNat), ← hd]; simp [dataOf, hq]
      have N4 : News b _ h ((q.x, instObj 135 q.dx) :: (q.dx, q.obj w.params) :: (I, oI) :: (D, listOf (refs pt).toArray 0) :: rowsLed w.params (rc.eraseIdx (i.toNat + c))) := fun p hp => N3 p (by
        have hf := focus (P := w.params) hq (p := p)
        simp only [List.mem_cons, List.not_mem_nil, or_false] at hp hf ⊢
        rw [hf]
        rcases hp with h | h | h | h | h <;> simp [h])
      generalize hrest : rowsLed w.params (rc.eraseIdx (i.toNat + c)) = rest at N4 hne
      clear N3
      have hIn : @Ne Nat q.dx I := hnI (q.dx, q.obj w.params) (.tail _ (mem_rowsLed (List.mem_of_getElem? hq)).2)
      have hIx : @Ne Nat q.x I := hnI (q.x, instObj 135 q.dx) (.tail _ (mem_rowsLed (List.mem_of_getElem? hq)).1)
      have hDn : @Ne Nat q.dx D := by
        have h1 : q.dx ∈ adrs rows := hS.adrs' ▸ adr_of_mem (mem_rowsLed (P := w.params) (List.mem_of_getElem? hq)).2
        obtain ⟨q0, hq0, h1⟩ := List.mem_flatMap.mp h1
        simp only [List.mem_cons, List.not_mem_nil, or_false] at h1
        have h2 := lt1 _ (mem_rowsLed (P := w.params) hq0).1
        have h3 := lt1 _ (mem_rowsLed (P := w.params) hq0).2
        simp only at h2 h3
        rcases h1 with h1 | h1 <;> rw [h1] <;> exact Nat.ne_of_lt (by assumption)
      have hnI' : ∀ p ∈ (D, listOf (refs pt).toArray 0) :: rowsLed w.params (rc.eraseIdx (i.toNat + c)), p.1 ≠ I := fun p hp => hnI p (by
        rcases List.mem_cons.mp hp with h | h
        · exact h ▸ .head _
        · exact .tail _ ((focus (P := w.params) hq).mpr (.inr h)))
      rw [hrest] at hnI'
      have htl : (refs pt).length = pt.length := refs_len
      repeat' (first | (k_unfold; (try dsimp only)) | ((fail_if_success (first | (with_reducible show wpAny _ _ (call (Value.ref _) _) _ _ _) | (with_reducible show wpAny _ _ (exec (Stmt.While _ _ _ _) _) _ _ _) | (with_reducible show wpAny _ _ (exec (Stmt.For _ _ _ _ _) _) _ _ _) | (with_reducible show wpAny _ _ (exec (Stmt.Assign [_] (Expr.ListComp _ _ _ _) _) _) _ _ _) | (with_reducible show wpAny _ _ (eval (Expr.ListComp _ _ _ _) _) _ _ _))); first | walk1 | (dsimp only; walk1)))
      · rename_i hne9 tk9 h9 F9 N9
        have same : q.Same (IR.mk q.x q.dx q.k q.v { q.r with un := true }) := ⟨rfl, rfl⟩
        refine turn_end (news' := (D, listOf (refs pt).toArray 0) :: rowsLed w.params (rc.set (i.toNat + c) (IR.mk q.x q.dx q.k q.v { q.r with un := true }))) (.inl rfl) F9 N9 (fun p hp => ?_) (fun p hp => ?_) (fun p hp => .inr (List.mem_singleton.mp hp ▸ .head _)) ⟨MI.step, _, hS.trans' (SameRows.set' hq same), ?_, rfl⟩
        · rcases List.mem_cons.mp hp with h | hp
          · exact h ▸ .tail _ (.tail _ (.head _))
          rcases List.mem_cons.mp hp with h | hp
          · exact h ▸ .tail _ (.tail _ (.tail _ (.head _)))
          rcases focus_set hp with hp | hp
          · rcases List.mem_cons.mp hp with h | hp
            · exact h ▸ .head _
            · exact List.mem_singleton.mp hp ▸ .tail _ (.head _)
          · exact .tail _ (.tail _ (.tail _ (.tail _ (hrest ▸ hp))))
        · rcases List.mem_cons.mp hp with h | hp
          · exact hnI' p (h ▸ .head _)
          rcases focus_set hp with hp | hp
          · rcases List.mem_cons.mp hp with h | hp
            · exact h ▸ hIx
            · exact List.mem_singleton.mp hp ▸ hIn
          · exact hnI' p (.tail _ (hrest ▸ hp))
        · rw [dataOf_set, ← Nat.add_assoc, markR_succ (by exact Nat.le_add_right _ _) hrd, hd, if_pos (by assumption)]
      · refine turn_end (news' := (D, listOf (refs pt).toArray 0) :: rowsLed w.params rc) (.inl rfl) (by assumption) (by assumption) (fun p hp => ?_) hnI (fun p hp => .inr (List.mem_singleton.mp hp ▸ .head _)) ⟨MI.step, _, hS, ?_, rfl⟩
        · rcases List.mem_cons.mp hp with h | hp
          · exact h ▸ .tail _ (.tail _ (.head _))
          rcases List.mem_cons.mp hp with h | hp
          · exact h ▸ .tail _ (.tail _ (.tail _ (.head _)))
          rcases (focus hq).mp hp with hp | hp
          · rcases List.mem_cons.mp hp with h | hp
            · exact h ▸ .head _
            · exact List.mem_singleton.mp hp ▸ .tail _ (.head _)
          · exact .tail _ (.tail _ (.tail _ (.tail _ (hrest ▸ hp))))
        · rw [← Nat.add_assoc, markR_succ (by exact Nat.le_add_right _ _) hrd, if_neg (by simpa using (by assumption : q.r.cl = M)), ← hd]
          apply List.ext_getElem?
          intro z
          rw [List.getElem?_set]
          split
          · rename_i e
            subst e
            have hz : i.toNat + c < (dataOf rc).length := by simp [dataOf]; exact Nat.lt_of_lt_of_eq (tn_in h0 (le2 hij) hj hpl hc) (Eq.symm hlr)
            have hz' : i.toNat + c < rc.length := by exact Nat.lt_of_lt_of_eq (tn_in h0 (le2 hij) hj hpl hc) (Eq.symm hlr)
            have hz2 := (List.getElem?_eq_some_iff.mp hq).2
            simp [dataOf, hz', hz2]
          · rfl
    · intro m1 nw h tk hJ F3 N3
      obtain ⟨-, rc, hS, hd, rfl⟩ := hJ
      have hcle : pt.map (fun q => q.r.cl) = clusters (dataOf rows) i.toNat j.toNat := by
        rw [← hpt]; simp [clusters, part, dataOf, List.map_take, List.map_drop, Function.comp_def]
      rw [hcle] at hM1 hM2
      have e : i.toNat + (refs pt).length = j.toNat := by rw [refs_len, hpl]; exact tn_add h0 (le2 hij)
      rw [e] at hd
      dsimp only
      repeat' (first | (k_unfold; (try dsimp only)) | ((fail_if_success (first | (with_reducible show wpAny _ _ (call (Value.ref _) _) _ _ _) | (with_reducible show wpAny _ _ (exec (Stmt.While _ _ _ _) _) _ _ _) | (with_reducible show wpAny _ _ (exec (Stmt.For _ _ _ _ _) _) _ _ _) | (with_reducible show wpAny _ _ (exec (Stmt.Assign [_] (Expr.ListComp _ _ _ _) _) _) _ _ _) | (with_reducible show wpAny _ _ (eval (Expr.ListComp _ _ _ _) _) _ _ _))); first | walk1 | (dsimp only; walk1)))
      exact k _ _ _ _ ⟨rfl, M, rc, ⟨hM1, hM2⟩, hS, hd, rfl⟩ (sub_of_fr F3) (led_of_news N3 fun p hp => .tail _ hp)
end

/-! a contract, over more than it changes -/
section
variable {prog : Program} {w : World}
theorem Calls.wide {lvl : Nat} {f : Value} {args : List Value} {imm imm2 mu mu2 rest : Ledger} {Post Post2 : Nat → Value → Ledger → Prop} (C : Calls prog w lvl f args imm mu Post)
    (hi : ∀ p ∈ imm, p ∈ imm2) (hm : ∀ p ∈ mu, p ∈ mu2) (hr : ∀ p ∈ rest, p ∈ mu2 ∧ p.1 ∉ mu.map (·.1)) (hP : ∀ n v mu', Post n v mu' → ∃ mu2', Post2 n v mu2' ∧ ∀ p ∈ mu2', p ∈ mu' ++ rest) :
    Calls prog w lvl f args imm2 mu2 Post2 := by
  intro dp un fr gd s b R hdp hun S G H N k
  have bn : ∀ a o, b.get? a = some o → a ∉ mu.map (·.1) := fun a o e q => by
    obtain ⟨r, hq, rfl⟩ := List.mem_map.mp q
    have := (N r (hm r hq)).2
    rw [this] at e; cases e
  have bb : ∀ a o, b.get? a = some o → (hideAll s.heap (mu.map (·.1))).get? a = some o := fun a o e => hideAll_get _ (S.keep a o e) (bn a o e)
  refine C dp un fr gd s (hideAll s.heap (mu.map (·.1))) R hdp hun ⟨Nat.le_of_eq (hideAll_size _ _), fun a o e => of_hideAll _ e⟩ (G.keeps bb) (fun p hp => bb _ _ (H p (hi p hp)))
    (fun p hp => ⟨(N p (hm p hp)).1, hideAll_none _ (List.mem_map_of_mem hp)⟩) fun v h' tk mu' hp S' L' => ?_
  obtain ⟨mu2', hp2, hs⟩ := hP _ _ _ hp
  refine k v h' tk mu2' hp2 ⟨Nat.le_trans S.size (by have := S'.size; rw [hideAll_size] at this; exact this), fun a o e => S'.keep _ _ (bb a o e)⟩ fun p hp' => ?_
  rcases List.mem_append.mp (hs p hp') with h | h
  · refine ⟨(L' p h).1, ?_⟩
    cases q : b.get? p.1 with
    | none => rfl
    | some o => have := (L' p h).2; rw [bb _ _ q] at this; cases this
  · obtain ⟨h1, h2⟩ := hr p h
    exact ⟨S'.keep _ _ (hideAll_get _ (N p h1).1 h2), (N p h1).2⟩

theorem add_row_c {rows : List IR} {k : Nat} {q : IR} {u : VR} (hn : (adrs rows).Nodup) (hq : rows[k]? = some q) (hu : u.d ∉ adrs rows) :
    Calls prog w 1 (.ref 527) [.ref q.x, .ref u.a, .bool false] (u.led w.params) (rowsLed w.params rows) (fun _ r mu' => r = .none ∧ ∃ q' : IR, q.Same q' ∧ q'.r = q.r.add u ∧ mu' = rowsLed w.params (rows.set k q')) := by
  have hne : q.dx ≠ u.d := fun e => hu (e ▸ adr_of_mem (mem_rowsLed (P := w.params) (List.mem_of_getElem? hq)).2)
  refine Calls.wide (rest := rowsLed w.params (rows.eraseIdx k)) (add_value_c hne) (fun _ h => h) (fun p hp => (focus hq).mpr (.inl hp)) (fun p hp => ⟨(focus hq).mpr (.inr hp), fun h => ?_⟩) ?_
  · obtain ⟨h1, h2⟩ := rest_ne (P := w.params) hn hq
    simp only [List.map_cons, List.map_nil, List.mem_cons, List.not_mem_nil, or_false] at h
    rcases h with h | h
    · exact h1 p hp h
    · exact h2 p hp h
  · rintro n v mu' ⟨rfl, q', hs, hr, rfl⟩
    exact ⟨_, ⟨rfl, q', hs, hr, rfl⟩, fun p hp => List.mem_append.mpr (focus_set hp)⟩
end

theorem inst_new {b h : Heap} {L : Addr} {news : Ledger} {P : Params} {rows : List IR} {q : IR} (N : News b L h news) (hs : ∀ p ∈ rowsLed P rows, p ∈ news) (hq : q ∈ rows) : InstAt h q.x (instObj 135 q.dx) 135 (some (q.obj P)) :=
  inst_has (N _ (hs _ (mem_rowsLed hq).1)).1 (N _ (hs _ (mem_rowsLed hq).2)).1

/-! the tables -/
structure AdjTab (prog : Program) (w : World) (src : Ledger) (tab : Nat) (f : Int → Option VR) : Prop where
  ex : ∃ (da D : Nat) (oD : Obj) (kvs : List (Int × Value)) (k : Tok), (tab, instObj 549 da) ∈ src ∧ (da, dictOf [ent w.params "values" k (.ref D)] 1) ∈ src ∧ (D, oD) ∈ src ∧ NotSys D ∧ oD.IsDictOf (PySem.intKind prog w) kvs ∧
    (∀ g, valueAt kvs g = (f g).map fun u => Value.ref u.a) ∧ kvs.length ≤ 1000
  val : ∀ g u, f g = some u → ∀ p ∈ u.led w.params, p ∈ src
structure PairTab (prog : Program) (w : World) (src : Ledger) (tab : Nat) (sec : Bool) (f : Int → Int → Option (Nat × VR × VR)) : Prop where
  ex : ∃ (da D : Nat) (oD : Obj) (es : Array DictEntry) (ep : Nat) (xs : List (List Int × Addr × Value)) (k k' : Tok), (tab, instObj 602 da) ∈ src ∧ (da, dictOf [ent w.params "pairs" k (.ref D), ent w.params "is_second" k' (.bool sec)] 2) ∈ src ∧ (D, oD) ∈ src ∧ NotSys D ∧
    oD.ExactDict ∧ oD.data = .dict es ep ∧ es.toList = xs.map (entryOfKey (tupleKind (PySem.intKind prog w))) ∧ (∀ x ∈ xs, ∃ ok, (x.2.1, ok) ∈ src ∧ TupKeyObj (PySem.intKind prog w) x.1 ok) ∧ (xs.map (·.1)).Nodup ∧ (∀ x ∈ xs, ∃ a b, x.1 = [a, b]) ∧
    (∀ a b, (atKey xs [a, b]).map (·.2) = (f a b).map fun t => Value.ref t.1) ∧ xs.length ≤ 1000
  val : ∀ a b t, f a b = some t → (∃ n, (t.1, ({ cls := .type "tuple", data := .seq #[.ref t.2.1.a, .ref t.2.2.a] n } : Obj)) ∈ src) ∧ (∀ p ∈ t.2.1.led w.params, p ∈ src) ∧ ∀ p ∈ t.2.2.led w.params, p ∈ src

/-! what they do -/
inductive Tab
  | adj (f : Int → Option VR)
  | pair (sec : Bool) (f : Int → Int → Option (Nat × VR × VR))
noncomputable def nextI (ig : Nat → Bool) (n : Nat) (a : Int) : Int := match (List.range n).find? (fun j : Nat => decide (a < (j : Int)) && !ig j) with
  | some j => j
  | none => -1
theorem NextIs.eq {ig : Nat → Bool} {n : Nat} {a r : Int} (h0 : 0 ≤ a) (h : NextIs ig n a r) : nextI ig n a = r := by
  refine NextIs.unique h0 ⟨?_⟩ h
  unfold nextI
  cases e : (List.range n).find? (fun j : Nat => decide (a < (j : Int)) && !ig j) with
  | none =>
    refine .inl ⟨rfl, fun j h1 h2 => ?_⟩
    have := List.find?_eq_none.mp e j (by simpa using h2)
    simpa [h1] using this
  | some j =>
    have h1 := List.find?_some e
    have h2 := List.mem_range.mp (List.mem_of_find?_eq_some e)
    simp only [Bool.and_eq_true, decide_eq_true_eq, Bool.not_eq_true'] at h1
    refine .inr ⟨h1.1, Int.ofNat_lt.mpr h2, h1.2, fun i h3 h4 => ?_⟩
    have h4 : i < j := Int.ofNat_lt.mp h4
    obtain ⟨_, as, bs, hs, hall⟩ := List.find?_eq_some_iff_append.mp e
    have hi : i ∈ as := by
      have h5 : i ∈ List.range n := List.mem_range.mpr (by exact Nat.lt_trans h4 h2)
      rw [hs] at h5
      rcases List.mem_append.mp h5 with h5 | h5
      · exact h5
      · exfalso
        have hp : (as ++ j :: bs).Pairwise (· < ·) := hs ▸ List.pairwise_lt_range
        have := (List.pairwise_append.mp hp).2.1
        rcases List.mem_cons.mp h5 with h6 | h6
        · exact absurd h6 (Nat.ne_of_lt h4)
        · have := (List.pairwise_cons.mp this).1 i h6; exact absurd this (Nat.lt_asymm h4)
    have := hall i hi
    simpa [h3] using this
noncomputable def addAt (rs : List Rec) (k : Nat) (u : VR) : List Rec := match rs[k]? with
  | some r => rs.set k (r.add u)
  | none => rs
noncomputable def hungR (rs : List Rec) (i j : Nat) : List Rec := markR (((clusters rs i j).min?).getD 0) i j rs
noncomputable def Tab.step (flag : Int) (cls : Int → Int) (rs : List Rec) (at' : Int) : Tab → Int × List Rec
  | .adj f => match rs[at'.toNat]? with
    | some r => match f r.g with
      | some u => (at' + 1, addAt rs at'.toNat u)
      | none => (-1, rs)
    | none => (-1, rs)
  | .pair sec f =>
    let l := nextI (igAt flag cls (rs.map (·.g))) rs.length at'
    match rs[at'.toNat]?, rs[l.toNat]? with
    | some r, some r2 => if l < 0 then (-1, rs) else match f r.g r2.g with
      | some t => (if sec then l + 1 else l, addAt (addAt (hungR rs at'.toNat (l.toNat + 1)) at'.toNat t.2.1) l.toNat t.2.2)
      | none => (-1, rs)
    | _, _ => (-1, rs)
noncomputable def posAt (flag : Int) (cls : Int → Int) (rs : List Rec) (at' : Int) : List Tab → Int × List Rec
  | [] => (-1, rs)
  | t :: ts => if 0 ≤ (t.step flag cls rs at').1 then t.step flag cls rs at' else posAt flag cls rs at' ts

theorem glyphs_data (rows : List IR) : glyphs rows = (dataOf rows).map (·.g) := by simp [glyphs, dataOf]
theorem dataOf_len (rows : List IR) : (dataOf rows).length = rows.length := by simp [dataOf]
theorem dataOf_at {rows : List IR} {k : Nat} {q : IR} (h : rows[k]? = some q) : (dataOf rows)[k]? = some q.r := by simp [dataOf, h]
/-- what a call has made of the rows -/
noncomputable def RowsPost (P : Params) (rows : List IR) (rs : List Rec) (mu' : Ledger) : Prop := ∃ rows', SameRows rows rows' ∧ dataOf rows' = rs ∧ mu' = rowsLed P rows'
noncomputable def StepPost (P : Params) (rows : List IR) (x : Int × List Rec) : Nat → Value → Ledger → Prop := fun _ r mu' => (∃ t, r = .int x.1 t) ∧ RowsPost P rows x.2 mu'

section
variable {prog : Program} {w : World}
theorem call_get1 {A : Around} {E : Value → Shared → Prop} {s : Shared} {d : Addr} {o : Obj} {kvs : List (Int × Value)} {g : Int} {t : Tok} {Q : Value → Shared → Prop}
    (ho : s.heap.get? d = some o) (hk : o.IsDictOf (PySem.intKind prog w) kvs) (lo : NotSys d) {v : Value} (hv : (valueAt kvs g).getD .none = v) (h : Q v { s with toks := s.toks + 1 }) :
    wpAny (model prog w) A (call (.builtin "dict.get") [.ref d, .int g t]) Q E s :=
  have hD : s.heap.DictOf (PySem.intKind prog w) d kvs := Heap.dictOf_iff.mpr ⟨o, ho, hk⟩
  call_meetsIn PySem.F.slot_dict_get hD.typeIs PySem.F.entry_dict_get (PySem.F.args_dict_get_2 _ _) (meets_dict_get (PySem.intKind prog w) d (intKind_is _ _ _ _) lo) ⟨_, hD.mapOf, by rw [← hv] at h; exact h⟩
theorem has_at {b : Heap} {l : Ledger} {p : Addr × Obj} (H : Has b l) (hp : p ∈ l) : b.get? p.1 = some p.2 := H p hp
theorem notin_adrs {b h : Heap} {P : Params} {rows : List IR} {a : Addr} {o : Obj} (N : Led b h (rowsLed P rows)) (e : b.get? a = some o) : a ∉ adrs rows := fun hm => by
  obtain ⟨q, hq, h1⟩ := List.mem_flatMap.mp hm
  simp only [List.mem_cons, List.not_mem_nil, or_false] at h1
  have h2 := (N _ (mem_rowsLed (P := P) hq).1).2
  have h3 := (N _ (mem_rowsLed (P := P) hq).2).2
  simp only at h2 h3
  rcases h1 with rfl | rfl
  · rw [e] at h2; cases h2
  · rw [e] at h3; cases h3
end
set_option hygiene false in
local macro_rules | `(tactic| k_inst) => `(tactic| exact inst_new (by k_asm) (by first | exact fun _ hp => hp | exact fun _ hp => .tail _ hp | exact fun _ hp => .tail _ (.tail _ hp) | exact fun _ hp => .tail _ (.tail _ (.tail _ hp)) | exact fun _ hp => .tail _ (.tail _ (.tail _ (.tail _ hp)))) (by assumption))
set_option hygiene false in
local macro_rules | `(tactic| walk_at "call builtin:dict.get") => `(tactic| (k_here; k_dflt (refine' call_get1 (Fr.keep (by k_asm) _ _ (by assumption)) (by assumption) (by assumption) (by assumption) ?_)))
section
variable {prog : Program} {w : World}
theorem apply_adjust_c {z : Sc} {rows : List IR} {src : Ledger} {tab : Nat} {f : Int → Option VR} {cls : Int → Int} {at' : Int} {t : Tok} (HT : AdjTab prog w src tab f) (hl : rows.length ≤ 6) (h0 : 0 ≤ at') (hat : at' < rows.length) (hn : (adrs rows).Nodup) :
    Calls prog w 2 (.ref 560) [.ref z.sc, .ref tab, .int at' t] (z.led w.params rows ++ src) (rowsLed w.params rows) (StepPost w.params rows (Tab.step z.flag cls (dataOf rows) at' (.adj f))) := by
  intro dp un fr gds s b R hdp hun S G H0 N k
  obtain ⟨X, p, loose, mean, mg, mb, T⟩ := G
  obtain ⟨I1, I2, hrow, HG, HL⟩ := H0.left.sc
  have HS : Has b src := H0.right
  obtain ⟨⟨da, D, oD, kvs, kt, m1, m2, m3, lo, hk, hkv, hkl⟩, hval⟩ := HT
  have I3 := inst_has (HS _ m1) (HS _ m2)
  have hD := HS _ m3
  obtain ⟨q, hq⟩ : ∃ q, rows[at'.toNat]? = some q := ⟨rows[at'.toNat]'(by exact o_tn h0 hat), List.getElem?_eq_getElem _⟩
  have hx := refs_at hq
  have hqm : q ∈ rows := List.mem_of_getElem? hq
  have hlt : at' < 6 := by exact Int.lt_of_lt_of_le hat (Int.ofNat_le.mpr hl)
  refine' enter [("scene", .ref z.sc), ("table", .ref tab), ("at", .int at' t)] S N X T ?k6 ?k7 ?k8 ?k9 ?kB ?_ ?c2 ?c3 ?c4 ?c5
  ( (case k6 | k7 => k_is); (case k8 => k_room); (case k9 => first | exact BindsTo.of_eq rfl | exact binds_K (by first | assumption | exact Frag.In.keeps (by assumption) (Sub.keep (by assumption))) rfl (by k_is) rfl rfl rfl); (case c5 => decide); (case kB => exact locs rfl); (case c2 | c3 | c4 => exact rfl); intro _ _ _ _ _ _; (try dsimp only); (try k_fold))
  have hst : Tab.step z.flag cls (dataOf rows) at' (.adj f) = match f q.r.g with | some u => (at' + 1, addAt (dataOf rows) at'.toNat u) | none => (-1, dataOf rows) := by
    simp only [Tab.step, dataOf_at hq]
  cases hf : f q.r.g with
  | none =>
    have hv : (valueAt kvs q.r.g).getD .none = Value.none := by rw [hkv, hf]; rfl
    repeat' (first | (k_unfold; (try dsimp only)) | ((with_reducible show wpAny _ _ (call (Value.ref _) _) _ _ _); ((with_reducible show wpAny _ _ (call (Value.ref 527) _) _ _ _); k_dflt (refine' use (rest := []) (add_row_c ?hn ?hq ?hu) ?hdp ?hun ?F ?N ?X ?T ?hm ?hi ?hr ?_); (case hq | hn | hu => assumption); (case hm => first | exact fun _ hp => hp | exact fun _ hp => .tail _ hp); (case hi => exact fun p hp => Or.inr (has_at (by assumption) hp)); (case hr => exact fun _ hp => nomatch hp); ( (case hdp | hun => kwd_inv); (case F | N | X | T => k_asm)); intro Gq hGq _ _ _ _ _ hP; obtain ⟨e1, _, _, _, e2⟩ := hP; subst e1 e2; refine hGq _ _ _ _ _ ?_; clear hGq Gq; intro _ _ _ N0; simp only [List.append_nil] at N0; revert N0; intro _)) | walk1 | (dsimp only; walk1))
    rw [hf] at hst
    exact k _ _ _ _ ⟨by rw [hst]; exact ⟨_, rfl⟩, rows, rfl, by rw [hst], rfl⟩ (sub_of_fr (by assumption)) (led_of_news (by assumption) (fun _ hp => hp))
  | some u =>
    have hv : (valueAt kvs q.r.g).getD .none = Value.ref u.a := by rw [hkv, hf]; rfl
    have HU : Has b (u.led w.params) := fun p hp => HS _ (hval _ _ hf _ hp)
    have hu : u.d ∉ adrs rows := notin_adrs N HU.c.2.c.1
    repeat' (first | (k_unfold; (try dsimp only)) | ((with_reducible show wpAny _ _ (call (Value.ref _) _) _ _ _); ((with_reducible show wpAny _ _ (call (Value.ref 527) _) _ _ _); k_dflt (refine' use (rest := []) (add_row_c ?hn ?hq ?hu) ?hdp ?hun ?F ?N ?X ?T ?hm ?hi ?hr ?_); (case hq | hn | hu => assumption); (case hm => first | exact fun _ hp => hp | exact fun _ hp => .tail _ hp); (case hi => exact fun p hp => Or.inr (has_at (by assumption) hp)); (case hr => exact fun _ hp => nomatch hp); ( (case hdp | hun => kwd_inv); (case F | N | X | T => k_asm)); intro Gq hGq _ _ _ _ _ hP; obtain ⟨e1, _, _, _, e2⟩ := hP; subst e1 e2; refine hGq _ _ _ _ _ ?_; clear hGq Gq; intro _ _ _ N0; simp only [List.append_nil] at N0; revert N0; intro _)) | walk1 | (dsimp only; walk1))
    rw [hf] at hst
    rename_i q1 hs1 hr1 hlt9 hL9 F9 N9
    exact k _ _ _ _ ⟨by rw [hst]; exact ⟨_, rfl⟩, _, SameRows.set' hq hs1, by rw [hst, dataOf_set, hr1]; simp [addAt, dataOf_at hq], rfl⟩ (sub_of_fr (by assumption)) (led_of_news (by assumption) (fun _ hp => hp))
end

section
variable {prog : Program} {w : World}
theorem call_getT {A : Around} {E : Value → Shared → Prop} {s : Shared} {D T : Addr} {oD : Obj} {es : Array DictEntry} {ep : Nat} {xs : List (List Int × Addr × Value)} {x y : Int} {t t' : Tok} {n : Nat} {Q : Value → Shared → Prop} {v : Value}
    (hu : A.units + 2 < cLine) (hD : s.heap.get? D = some oD) (hk : s.heap.get? T = some { cls := .type "tuple", data := .seq #[.int x t, .int y t'] n }) (lo : NotSys D) (he : oD.ExactDict) (hd : oD.data = .dict es ep) (hes : es.toList = xs.map (entryOfKey (tupleKind (PySem.intKind prog w))))
    (hks : ∀ x ∈ xs, ∃ ok, s.heap.get? x.2.1 = some ok ∧ TupKeyObj (PySem.intKind prog w) x.1 ok) (hn : (xs.map (·.1)).Nodup) (hv : ((atKey xs [x, y]).map (·.2)).getD .none = v) (h : ∀ tk, Q v { s with toks := tk }) :
    wpAny (model prog w) A (call (.builtin "dict.get") [.ref D, .ref T]) Q E s := by
  have hDH : s.heap.DictOfH (tupleKind (PySem.intKind prog w)) D xs := ⟨oD, es, ep, hD, he, hd, hes, fun x hx => let ⟨_, hmk, t⟩ := hks x hx; t.key hmk, hn⟩
  have hkey : IsTupleKey (PySem.intKind prog w) s.heap [x, y] T := ⟨_, _, _, hk, rfl, rfl, .cons (by simp [PySem.intKind, Value.isInt]) (.cons (by simp [PySem.intKind, Value.isInt]) .nil)⟩
  exact call_meetsIn PySem.F.slot_dict_get hDH.typeIs PySem.F.entry_dict_get (PySem.F.args_dict_get_2 _ _) (meetsH_dict_get (tupleKind (PySem.intKind prog w)) D T lo) ⟨tupleKind_room_in1 (by exact Nat.lt_of_succ_lt hu), [x, y], xs, hkey, hDH, by rw [hv]; exact h _⟩

theorem method_dictX {A : Around} {E : Value → Shared → Prop} {s : Shared} {d : Addr} {o : Obj} {pl : Sem Bool} {Q : Value × List Value → Shared → Prop}
    (ho : s.heap.get? d = some o) (he : o.ExactDict) (h : Q (.builtin "dict.get", [.ref d]) s) : wpAny (model prog w) A (getMethod (.ref d) "get" pl) Q E s :=
  getMethod_builtin ⟨o, ho, he.1⟩ PySem.F.plainAttrs_dict PySem.F.slot_dict_get PySem.F.type_dict_get (fun b e => by injection e with e; subst e; exact ⟨o, ho, he.2.1⟩) h
theorem src_keys {prog : Program} {w : World} {b h : Heap} {src : Ledger} {xs : List (List Int × Addr × Value)} (H : Has b src) (k : ∀ a o, b.get? a = some o → h.get? a = some o) (hks : ∀ x ∈ xs, ∃ ok, (x.2.1, ok) ∈ src ∧ TupKeyObj (PySem.intKind prog w) x.1 ok) :
    ∀ x ∈ xs, ∃ ok, h.get? x.2.1 = some ok ∧ TupKeyObj (PySem.intKind prog w) x.1 ok := fun x hx => let ⟨ok, hm, t⟩ := hks x hx; ⟨ok, k _ _ (H _ hm), t⟩
theorem find_c {src : Ledger} {tab : Nat} {sec : Bool} {f : Int → Int → Option (Nat × VR × VR)} {x y : Int} {t t' : Tok} (HT : PairTab prog w src tab sec f) :
    Calls prog w 1 (.ref 594) [.ref tab, .int x t, .int y t'] src [] (fun _ r mu' => r = ((f x y).map fun t => Value.ref t.1).getD .none ∧ mu' = []) := by
  intro dp un fr gds s b R hdp hun S G H0 N k
  obtain ⟨X, p, loose, mean, mg, mb, T⟩ := G
  obtain ⟨⟨da, D, oD, es, ep, xs, k1, k2, m1, m2, m3, lo, he, hd, hes, hks, hnd, hkk, hat, hxl⟩, hval⟩ := HT
  have I3 := inst_has (H0 _ m1) (H0 _ m2)
  have hD := H0 _ m3
  refine' enter [("self", .ref tab), ("first", .int x t), ("second", .int y t')] S N X T ?k6 ?k7 ?k8 ?k9 ?kB ?_ ?c2 ?c3 ?c4 ?c5
  ( (case k6 | k7 => k_is); (case k8 => k_room); (case k9 => first | exact BindsTo.of_eq rfl | exact binds_K (by first | assumption | exact Frag.In.keeps (by assumption) (Sub.keep (by assumption))) rfl (by k_is) rfl rfl rfl); (case c5 => decide); (case kB => exact locs rfl); (case c2 | c3 | c4 => exact rfl); intro _ _ _ _ _ _; (try dsimp only); (try k_fold))
  repeat' (first | (k_unfold; (try dsimp only)) | ((fail_if_success (with_reducible show wpAny _ _ (call (Value.ref _) _) _ _ _)); first | walk1 | (dsimp only; walk1)))
  refine method_dictX (Fr.keep (by assumption) _ _ hD) he ?_
  repeat' (first | (k_unfold; (try dsimp only)) | ((fail_if_success (with_reducible show wpAny _ _ (call (Value.ref _) _) _ _ _)); first | walk1 | (dsimp only; walk1)))
  have hv : ((atKey xs [x, y]).map (·.2)).getD .none = ((f x y).map fun t => Value.ref t.1).getD .none := by rw [hat]
  refine call_getT (x := x) (y := y) (by simp only [units_deeper, cLine]; exact o_un (c := 5) hun rfl) (Fr.keep (by k_asm) _ _ hD) (News.get (by k_asm) (by k_mem)) lo he hd hes (src_keys H0 (Fr.keep (by k_asm)) hks) hnd hv fun tk => ?_
  repeat' (first | (k_unfold; (try dsimp only)) | ((fail_if_success (with_reducible show wpAny _ _ (call (Value.ref _) _) _ _ _)); first | walk1 | (dsimp only; walk1)))
  exact k _ _ _ [] ⟨rfl, rfl⟩ (sub_of_fr (by assumption)) Led.nil

theorem has_second_c {src : Ledger} {tab : Nat} {sec : Bool} {f : Int → Int → Option (Nat × VR × VR)} (HT : PairTab prog w src tab sec f) :
    Calls prog w 1 (.ref 645) [.ref tab] src [] (fun _ r mu' => r = .bool sec ∧ mu' = []) := by
  intro dp un fr gds s b R hdp hun S G H0 N k
  obtain ⟨X, p, loose, mean, mg, mb, T⟩ := G
  obtain ⟨⟨da, D, oD, es, ep, xs, k1, k2, m1, m2, m3, lo, he, hd, hes, hks, hnd, hkk, hat, hxl⟩, hval⟩ := HT
  have I3 := inst_has (H0 _ m1) (H0 _ m2)
  refine' enter [("table", .ref tab)] S N X T ?k6 ?k7 ?k8 ?k9 ?kB ?_ ?c2 ?c3 ?c4 ?c5
  ( (case k6 | k7 => k_is); (case k8 => k_room); (case k9 => first | exact BindsTo.of_eq rfl | exact binds_K (by first | assumption | exact Frag.In.keeps (by assumption) (Sub.keep (by assumption))) rfl (by k_is) rfl rfl rfl); (case c5 => decide); (case kB => exact locs rfl); (case c2 | c3 | c4 => exact rfl); intro _ _ _ _ _ _; (try dsimp only); (try k_fold))
  repeat' (first | (k_unfold; (try dsimp only)) | ((fail_if_success (with_reducible show wpAny _ _ (call (Value.ref _) _) _ _ _)); first | walk1 | (dsimp only; walk1)))
  exact k _ _ _ [] ⟨rfl, rfl⟩ (sub_of_fr (by assumption)) Led.nil
theorem item_tup2 {A : Around} {E : Value → Shared → Prop} {s : Shared} {value slice : PySem.Expr} {l : Addr} {n j : Nat} {vs : List Value} {k : Int} {u : Tok} {v : Value} {Q : Value → Shared → Prop}
    (ho : s.heap.get? l = some { cls := .type "tuple", data := .seq vs.toArray n }) (h0 : -(2 ^ 63) ≤ k) (hhi : k < 2 ^ 63) (hj : seqIndex? k vs.length = some j) (hx : vs[j]? = some v) (h : Q v s)
    (hs : subscripted slice false (.ref l) (.int k u) = operate [.ref l, .int k u] (getItem (.ref l) (.int k u)) := by with_unfolding_all rfl) :
    wpAny (model prog w) A (subscriptTail value slice (.ref l) (.int k u)) Q E s :=
  item_tupleT ⟨_, ho, rfl, _, rfl⟩ h0 hhi hj hx h hs
end
set_option hygiene false in
local macro_rules | `(tactic| walk_at "subscriptTail") => `(tactic| (k_here; (with_reducible show wpAny _ _ (subscriptTail _ _ (Value.ref _) (Value.int _ _)) _ _ _); k_dflt (refine' item_tup2 (Fr.keep (by k_asm) _ _ (by assumption)) (by decide) (by decide) rfl rfl ?_)))
section
variable {prog : Program} {w : World}
theorem SameRows.at' {rows rows' : List IR} (h : SameRows rows rows') {k : Nat} {q : IR} (hq : rows[k]? = some q) : ∃ q', rows'[k]? = some q' ∧ q'.x = q.x ∧ q'.dx = q.dx := by
  have e := congrArg (fun l => l[k]?) h
  simp only [List.getElem?_map, hq, Option.map_some] at e
  cases hc : rows'[k]? with
  | none => rw [hc] at e; cases e
  | some q' =>
    rw [hc] at e
    have := Option.some.inj e
    exact ⟨q', rfl, congrArg Prod.fst this, congrArg Prod.snd this⟩
theorem min_eq {l : List Int} {M : Int} (h : M ∈ l) (h' : ∀ a ∈ l, M ≤ a) : (l.min?).getD 0 = M := by
  rw [List.min?_eq_some_iff.mpr ⟨h, h'⟩]; rfl
theorem stepP_neg {flag : Int} {cls : Int → Int} {rs : List Rec} {a : Int} {sec : Bool} {f : Int → Int → Option (Nat × VR × VR)} (h : rs = [] ∨ nextI (igAt flag cls (rs.map (·.g))) rs.length a < 0) : Tab.step flag cls rs a (.pair sec f) = (-1, rs) := by
  simp only [Tab.step]
  split
  · rename_i h1 h2
    rcases h with rfl | h
    · simp at h1
    · rw [if_pos h]
  · rfl
theorem stepP_at {flag : Int} {cls : Int → Int} {rs : List Rec} {a l : Int} {r r2 : Rec} {sec : Bool} {f : Int → Int → Option (Nat × VR × VR)} (h1 : rs[a.toNat]? = some r) (h2 : rs[(nextI (igAt flag cls (rs.map (·.g))) rs.length a).toNat]? = some r2) (hl : nextI (igAt flag cls (rs.map (·.g))) rs.length a = l) (h0 : 0 ≤ l) :
    Tab.step flag cls rs a (.pair sec f) = match f r.g r2.g with
      | some t => (if sec then l + 1 else l, addAt (addAt (hungR rs a.toNat (l.toNat + 1)) a.toNat t.2.1) l.toNat t.2.2)
      | none => (-1, rs) := by
  rw [hl] at h2
  simp only [Tab.step, hl, h1, h2]
  rw [if_neg (by exact Int.not_lt.mpr h0)]
  all_goals (cases f r.g r2.g <;> rfl)
theorem apply_pair_c {z : Sc} {rows : List IR} {src : Ledger} {tab : Nat} {sec : Bool} {f : Int → Int → Option (Nat × VR × VR)} {cls : Int → Int} {at' : Int} {t : Tok} (HT : PairTab prog w src tab sec f) (HC : ClsOk prog w z.D z.oD cls) (hf : z.flag = 0 ∨ z.flag = 2 ∨ z.flag = 8) (hgs : ∀ q ∈ rows, 0 ≤ q.r.g ∧ q.r.g < 6) (hl : rows.length ≤ 6) (h0 : 0 ≤ at') (hat : at' < rows.length) (hn : (adrs rows).Nodup) :
    Calls prog w 7 (.ref 652) [.ref z.sc, .ref tab, .int at' t] (z.led w.params rows ++ src) (rowsLed w.params rows) (StepPost w.params rows (Tab.step z.flag cls (dataOf rows) at' (.pair sec f))) := by
  intro dp un fr gds s b R hdp hun S G H0 N k
  obtain ⟨X, p, loose, mean, mg, mb, T⟩ := G
  obtain ⟨I1, I2, hrow, HG, HL⟩ := H0.left.sc
  have HS : Has b src := H0.right
  have HZ := H0.left
  obtain ⟨da, D, oD, es, ep, xs, k1, k2, m1, m2, -⟩ := HT.ex
  have I3 := inst_has (HS _ m1) (HS _ m2)
  obtain ⟨q, hq⟩ : ∃ q, rows[at'.toNat]? = some q := ⟨rows[at'.toNat]'(by exact o_tn h0 hat), List.getElem?_eq_getElem _⟩
  have hx := refs_at hq
  have hqm : q ∈ rows := List.mem_of_getElem? hq
  have hlt : at' < 6 := by exact Int.lt_of_lt_of_le hat (Int.ofNat_le.mpr hl)
  refine' enter [("scene", .ref z.sc), ("table", .ref tab), ("at", .int at' t)] S N X T ?k6 ?k7 ?k8 ?k9 ?kB ?_ ?c2 ?c3 ?c4 ?c5
  ( (case k6 | k7 => k_is); (case k8 => k_room); (case k9 => first | exact BindsTo.of_eq rfl | exact binds_K (by first | assumption | exact Frag.In.keeps (by assumption) (Sub.keep (by assumption))) rfl (by k_is) rfl rfl rfl); (case c5 => decide); (case kB => exact locs rfl); (case c2 | c3 | c4 => exact rfl); intro _ _ _ _ _ _; (try dsimp only); (try k_fold))
  repeat' (first | (k_unfold; (try dsimp only)) | ((fail_if_success (with_reducible show wpAny _ _ (call (Value.ref _) _) _ _ _)); first | walk1 | (dsimp only; walk1)))
  refine' use0 (next_at_c HC hf hl h0 hgs hat) ?hdp ?hun ?F ?N ?X ?T ?hi ?_
  (case hi => exact fun p hp => (List.mem_append.mp hp).elim (fun h => Or.inr (HZ p h)) Or.inl)
  ( (case hdp | hun => kwd_inv); (case F | N | X | T => k_asm))
  rintro Gq hGq n1 _ h1 tk1 _ ⟨⟨l, tl, rfl, hnx⟩, rfl⟩
  refine hGq _ _ _ _ _ ?_
  clear hGq Gq
  rintro hlt1 hL1 F1 N1
  dsimp only [List.nil_append] at N1
  have hle : nextI (igAt z.flag cls ((dataOf rows).map (·.g))) (dataOf rows).length at' = l := by rw [← glyphs_data, dataOf_len]; exact hnx.eq h0
  rcases hnx.out with ⟨rfl, -⟩ | ⟨hl1, hl2, -, -⟩
  · repeat' (first | (k_unfold; (try dsimp only)) | ((fail_if_success (with_reducible show wpAny _ _ (call (Value.ref _) _) _ _ _)); first | walk1 | (dsimp only; walk1)))
    refine k _ _ _ _ ⟨?_, rows, rfl, ?_, rfl⟩ (sub_of_fr (by assumption)) (led_of_news (by assumption) (fun _ hp => hp))
    · rw [stepP_neg (Or.inr (by exact Int.lt_of_le_of_lt (Int.le_of_eq hle) (by decide)))]; exact ⟨_, rfl⟩
    · rw [stepP_neg (Or.inr (by exact Int.lt_of_le_of_lt (Int.le_of_eq hle) (by decide)))]
  · obtain ⟨q2, hq2⟩ : ∃ q2, rows[l.toNat]? = some q2 := ⟨rows[l.toNat]'(by exact o_tn (o_pos h0 hl1) hl2), List.getElem?_eq_getElem _⟩
    have hx2 := refs_at hq2
    have hqm2 : q2 ∈ rows := List.mem_of_getElem? hq2
    repeat' (first | (k_unfold; (try dsimp only)) | ((fail_if_success (with_reducible show wpAny _ _ (call (Value.ref _) _) _ _ _)); first | walk1 | (dsimp only; walk1)))
    refine' use0 (find_c HT) ?hdp ?hun ?F ?N ?X ?T ?hi ?_
    (case hi => exact fun p hp => Or.inr (HS p hp))
    ( (case hdp | hun => kwd_inv); (case F | N | X | T => k_asm))
    rintro Gq hGq n2 _ h2 tk2 _ ⟨hr, rfl⟩
    refine hGq _ _ _ _ _ ?_
    clear hGq Gq
    rintro hlt2 hL2 F2 N2
    dsimp only [List.nil_append] at N2
    have hst := stepP_at (sec := sec) (f := f) (flag := z.flag) (cls := cls) (dataOf_at hq) (l := l) (by rw [hle]; exact (dataOf_at hq2)) hle (by exact o_pos h0 hl1)
    cases hfv : f q.r.g q2.r.g with
    | none =>
      rw [hfv] at hr hst
      subst hr
      simp only [Option.map_none, Option.getD_none] at *
      repeat' (first | (k_unfold; (try dsimp only)) | ((fail_if_success (with_reducible show wpAny _ _ (call (Value.ref _) _) _ _ _)); first | walk1 | (dsimp only; walk1)))
      refine k _ _ _ _ ⟨?_, rows, rfl, ?_, rfl⟩ (sub_of_fr (by assumption)) (led_of_news (by assumption) (fun _ hp => hp))
      · rw [hst]; exact ⟨_, rfl⟩
      · rw [hst]
    | some v =>
      obtain ⟨pv, u1, u2⟩ := v
      rw [hfv] at hr hst
      subst hr
      simp only [Option.map_some, Option.getD_some] at *
      obtain ⟨⟨np, hpm⟩, hu1m, hu2m⟩ := HT.val _ _ _ hfv
      have hpv := HS _ hpm
      have HU1 : Has b (u1.led w.params) := fun p hp => HS _ (hu1m _ hp)
      have HU2 : Has b (u2.led w.params) := fun p hp => HS _ (hu2m _ hp)
      have hnu1 : u1.d ∉ adrs rows := notin_adrs N HU1.c.2.c.1
      have hnu2 : u2.d ∉ adrs rows := notin_adrs N HU2.c.2.c.1
      repeat' (first | (k_unfold; (try dsimp only)) | ((fail_if_success (with_reducible show wpAny _ _ (call (Value.ref _) _) _ _ _)); first | walk1 | (dsimp only; walk1)))
      refine' use (rest := []) (hang_c (rows := rows) (nrow := z.nrow) (rowl := z.rowl) (dbuf := z.dbuf) (kb := z.kb) h0 (by omega) (by exact hl2) hl hn) ?hdp ?hun ?F ?N ?X ?T ?hm ?hi ?hr ?_
      (case hm => exact fun _ hp => hp)
      (case hi => exact fun p hp => Or.inr (HZ _ (List.mem_append_right _ ((List.mem_append.mp hp).elim (fun h => List.mem_append_left _ h) fun h => List.mem_append_right _ (List.mem_singleton.mp h ▸ .head _)))))
      (case hr => exact fun _ hp => nomatch hp)
      ( (case hdp | hun => kwd_inv); (case F | N | X | T => k_asm))
      rintro Gq hGq n3 _ h3 tk3 _ ⟨rfl, M, rows1, ⟨hM1, hM2⟩, hS1, hd1, rfl⟩
      refine hGq _ _ _ _ _ ?_
      clear hGq Gq
      rintro hlt3 hL3 F3 N3
      rw [List.append_nil] at N3
      have el : (l + 1).toNat = l.toNat + 1 := by exact tn_succ (o_pos h0 hl1)
      rw [el] at hM1 hM2 hd1
      have hR1 : dataOf rows1 = hungR (dataOf rows) at'.toNat (l.toNat + 1) := by rw [hd1, hungR, min_eq hM1 hM2]
      obtain ⟨qa, hqa, exa, -⟩ := hS1.at' hq
      obtain ⟨qb, hqb, exb, -⟩ := hS1.at' hq2
      rw [← exa] at hx
      have hx2' := hx2
      rw [← exb] at hx2
      have hn1 : (adrs rows1).Nodup := hS1.adrs' ▸ hn
      repeat' (first | (k_unfold; (try dsimp only)) | ((fail_if_success (with_reducible show wpAny _ _ (call (Value.ref _) _) _ _ _)); first | walk1 | (dsimp only; walk1)))
      refine' use (rest := []) (add_row_c hn1 hqa (hS1.adrs' ▸ hnu1)) ?hdp ?hun ?F ?N ?X ?T ?hm ?hi ?hr ?_
      (case hm => exact fun _ hp => hp)
      (case hi => exact fun p hp => Or.inr (HU1 _ hp))
      (case hr => exact fun _ hp => nomatch hp)
      ( (case hdp | hun => kwd_inv); (case F | N | X | T => k_asm))
      rintro Gq hGq n4 _ h4 tk4 _ ⟨rfl, q4, hs4, hr4, rfl⟩
      refine hGq _ _ _ _ _ ?_
      clear hGq Gq
      rintro hlt4 hL4 F4 N4
      rw [List.append_nil] at N4
      have hS4 : SameRows rows (rows1.set at'.toNat q4) := hS1.trans' (SameRows.set' hqa hs4)
      have hR4 : dataOf (rows1.set at'.toNat q4) = addAt (hungR (dataOf rows) at'.toNat (l.toNat + 1)) at'.toNat u1 := by
        rw [dataOf_set, hr4, ← hR1, addAt, dataOf_at hqa]
      generalize rows1.set at'.toNat q4 = rows4 at hS4 hR4 N4
      obtain ⟨qc, hqc, exc, -⟩ := hS4.at' hq2
      clear hx2
      have hx2 := hx2'
      rw [← exc] at hx2
      clear hx2'
      repeat' (first | (k_unfold; (try dsimp only)) | ((fail_if_success (with_reducible show wpAny _ _ (call (Value.ref _) _) _ _ _)); first | walk1 | (dsimp only; walk1)))
      refine' use (rest := []) (add_row_c (hS4.adrs' ▸ hn) hqc (hS4.adrs' ▸ hnu2)) ?hdp ?hun ?F ?N ?X ?T ?hm ?hi ?hr ?_
      (case hm => exact fun _ hp => hp)
      (case hi => exact fun p hp => Or.inr (HU2 _ hp))
      (case hr => exact fun _ hp => nomatch hp)
      ( (case hdp | hun => kwd_inv); (case F | N | X | T => k_asm))
      rintro Gq hGq n5 _ h5 tk5 _ ⟨rfl, q5, hs5, hr5, rfl⟩
      refine hGq _ _ _ _ _ ?_
      clear hGq Gq
      rintro hlt5 hL5 F5 N5
      rw [List.append_nil] at N5
      have hS5 : SameRows rows (rows4.set l.toNat q5) := hS4.trans' (SameRows.set' hqc hs5)
      have hR5 : dataOf (rows4.set l.toNat q5) = addAt (addAt (hungR (dataOf rows) at'.toNat (l.toNat + 1)) at'.toNat u1) l.toNat u2 := by
        rw [dataOf_set, hr5, ← hR4, addAt, dataOf_at hqc]
      generalize rows4.set l.toNat q5 = rows5 at hS5 hR5 N5
      repeat' (first | (k_unfold; (try dsimp only)) | ((fail_if_success (with_reducible show wpAny _ _ (call (Value.ref _) _) _ _ _)); first | walk1 | (dsimp only; walk1)))
      refine' use0 (has_second_c HT) ?hdp ?hun ?F ?N ?X ?T ?hi ?_
      (case hi => exact fun p hp => Or.inr (HS p hp))
      ( (case hdp | hun => kwd_inv); (case F | N | X | T => k_asm))
      rintro Gq hGq n6 _ h6 tk6 _ ⟨rfl, rfl⟩
      refine hGq _ _ _ _ _ ?_
      clear hGq Gq
      rintro hlt6 hL6 F6 N6
      dsimp only [List.nil_append] at N6
      cases sec with
      | true =>
        repeat' (first | (k_unfold; (try dsimp only)) | ((fail_if_success (with_reducible show wpAny _ _ (call (Value.ref _) _) _ _ _)); first | walk1 | (dsimp only; walk1)))
        exact k _ _ _ _ ⟨by rw [hst]; exact ⟨_, rfl⟩, rows5, hS5, by rw [hst, hR5], rfl⟩ (sub_of_fr (by assumption)) (led_of_news (by assumption) (fun _ hp => hp))
      | false =>
        repeat' (first | (k_unfold; (try dsimp only)) | ((fail_if_success (with_reducible show wpAny _ _ (call (Value.ref _) _) _ _ _)); first | walk1 | (dsimp only; walk1)))
        exact k _ _ _ _ ⟨by rw [hst]; exact ⟨_, rfl⟩, rows5, hS5, by rw [hst, hR5], rfl⟩ (sub_of_fr (by assumption)) (led_of_news (by assumption) (fun _ hp => hp))
end

/-! one place -/
noncomputable def TabIs (prog : Program) (w : World) (src : Ledger) (kind : Str) (tab : Nat) : Tab → Prop
  | .adj f => kind = "adjust" ∧ AdjTab prog w src tab f
  | .pair sec f => kind = "pair" ∧ PairTab prog w src tab sec f
theorem nextI_ge {ig : Nat → Bool} {n : Nat} {a : Int} : -1 ≤ nextI ig n a := by
  unfold nextI; split <;> omega
theorem step_neg {flag : Int} {cls : Int → Int} {rs : List Rec} {a : Int} {t : Tab} (h0 : 0 ≤ a) (h : ¬ 0 ≤ (t.step flag cls rs a).1) : (t.step flag cls rs a).2 = rs := by
  cases t with
  | adj f =>
    simp only [Tab.step] at h ⊢
    cases e : rs[a.toNat]? with
    | none => rfl
    | some r =>
      rw [e] at h
      dsimp only at h ⊢
      cases e2 : f r.g with
      | none => rfl
      | some u => rw [e2] at h; dsimp only at h; exact absurd (Int.add_nonneg h0 (by decide)) h
  | pair sec f =>
    simp only [Tab.step] at h ⊢
    split
    · rename_i h1 h2
      rw [h1, h2] at h
      dsimp only at h
      by_cases hl : nextI (igAt flag cls (List.map (fun x => x.g) rs)) rs.length a < 0
      · rw [if_pos hl]
      · rw [if_neg hl] at h ⊢
        split
        · rename_i e3
          rw [e3] at h
          cases sec
          · simp only [Bool.false_eq_true, if_false] at h; exact absurd (Int.not_lt.mp hl) h
          · simp only [if_true] at h; exact absurd (Int.add_nonneg (Int.not_lt.mp hl) (by decide)) h
        · rfl
    · rfl
structure Fine (prog : Program) (w : World) (z : Sc) (rows : List IR) (cls : Int → Int) : Prop where
  C : ClsOk prog w z.D z.oD cls
  f : z.flag = 0 ∨ z.flag = 2 ∨ z.flag = 8
  gs : ∀ r ∈ dataOf rows, 0 ≤ r.g ∧ r.g < 6
  l : rows.length ≤ 6
  n : (adrs rows).Nodup
theorem Fine.gs' {prog : Program} {w : World} {z : Sc} {rows : List IR} {cls : Int → Int} (H : Fine prog w z rows cls) : ∀ q ∈ rows, 0 ≤ q.r.g ∧ q.r.g < 6 := fun q hq => H.gs q.r (List.mem_map_of_mem hq)
theorem led_same {P : Params} {z : Sc} {rows rows' : List IR} (h : SameRows rows rows') : z.led P rows' = z.led P rows := by unfold Sc.led; rw [h.refs']
section
variable {prog : Program} {w : World}
theorem apply_position_c {z : Sc} {rows : List IR} {src : Ledger} {kind : Str} {tab : Nat} {T : Tab} {cls : Int → Int} {at' : Int} {t tk : Tok} (HT : TabIs prog w src kind tab T) (HF : Fine prog w z rows cls) (h0 : 0 ≤ at') (hat : at' < rows.length) :
    Calls prog w 8 (.ref 659) [.str kind tk, .ref z.sc, .ref tab, .int at' t] (z.led w.params rows ++ src) (rowsLed w.params rows) (StepPost w.params rows (T.step z.flag cls (dataOf rows) at')) := by
  intro dp un fr gds s b R hdp hun S G H0 N k
  obtain ⟨X, p, loose, mean, mg, mb, T'⟩ := G
  have HZ := H0.left
  have HS : Has b src := H0.right
  cases T with
  | adj f =>
    obtain ⟨rfl, HT⟩ := HT
    refine' enter [("kind", .str "adjust" tk), ("scene", .ref z.sc), ("table", .ref tab), ("at", .int at' t)] S N X T' ?k6 ?k7 ?k8 ?k9 ?kB ?_ ?c2 ?c3 ?c4 ?c5
    ( (case k6 | k7 => k_is); (case k8 => k_room); (case k9 => first | exact BindsTo.of_eq rfl | exact binds_K (by first | assumption | exact Frag.In.keeps (by assumption) (Sub.keep (by assumption))) rfl (by k_is) rfl rfl rfl); (case c5 => decide); (case kB => exact locs rfl); (case c2 | c3 | c4 => exact rfl); intro _ _ _ _ _ _; (try dsimp only); (try k_fold))
    repeat' (first | (k_unfold; (try dsimp only)) | ((fail_if_success (first | (with_reducible show wpAny _ _ (call (Value.ref _) _) _ _ _) | (with_reducible show wpAny _ _ (exec (Stmt.For _ _ _ _ _) _) _ _ _))); first | walk1 | (dsimp only; walk1)))
    refine' use (rest := []) (apply_adjust_c (cls := cls) HT HF.l h0 hat HF.n) ?hdp ?hun ?F ?N ?X ?T ?hm ?hi ?hr ?_
    (case hm => exact fun _ hp => hp)
    (case hi => exact fun p hp => Or.inr (H0 p hp))
    (case hr => exact fun _ hp => nomatch hp)
    ( (case hdp | hun => kwd_inv); (case F | N | X | T => k_asm))
    rintro Gq hGq n1 v1 h1 tk1 mu1 ⟨⟨t1, rfl⟩, rows1, hS1, hd1, rfl⟩
    refine hGq _ _ _ _ _ ?_
    clear hGq Gq
    rintro hlt1 hL1 F1 N1
    rw [List.append_nil] at N1
    repeat' (first | (k_unfold; (try dsimp only)) | ((fail_if_success (first | (with_reducible show wpAny _ _ (call (Value.ref _) _) _ _ _) | (with_reducible show wpAny _ _ (exec (Stmt.For _ _ _ _ _) _) _ _ _))); first | walk1 | (dsimp only; walk1)))
    exact k _ _ _ _ ⟨⟨_, rfl⟩, rows1, hS1, hd1, rfl⟩ (sub_of_fr (by assumption)) (led_of_news (by assumption) (fun _ hp => hp))
  | pair sec f =>
    obtain ⟨rfl, HT⟩ := HT
    refine' enter [("kind", .str "pair" tk), ("scene", .ref z.sc), ("table", .ref tab), ("at", .int at' t)] S N X T' ?k6 ?k7 ?k8 ?k9 ?kB ?_ ?c2 ?c3 ?c4 ?c5
    ( (case k6 | k7 => k_is); (case k8 => k_room); (case k9 => first | exact BindsTo.of_eq rfl | exact binds_K (by first | assumption | exact Frag.In.keeps (by assumption) (Sub.keep (by assumption))) rfl (by k_is) rfl rfl rfl); (case c5 => decide); (case kB => exact locs rfl); (case c2 | c3 | c4 => exact rfl); intro _ _ _ _ _ _; (try dsimp only); (try k_fold))
    repeat' (first | (k_unfold; (try dsimp only)) | ((fail_if_success (first | (with_reducible show wpAny _ _ (call (Value.ref _) _) _ _ _) | (with_reducible show wpAny _ _ (exec (Stmt.For _ _ _ _ _) _) _ _ _))); first | walk1 | (dsimp only; walk1)))
    refine' use (rest := []) (apply_pair_c (cls := cls) HT HF.C HF.f HF.gs' HF.l h0 hat HF.n) ?hdp ?hun ?F ?N ?X ?T ?hm ?hi ?hr ?_
    (case hm => exact fun _ hp => hp)
    (case hi => exact fun p hp => Or.inr (H0 p hp))
    (case hr => exact fun _ hp => nomatch hp)
    ( (case hdp | hun => kwd_inv); (case F | N | X | T => k_asm))
    rintro Gq hGq n1 v1 h1 tk1 mu1 ⟨⟨t1, rfl⟩, rows1, hS1, hd1, rfl⟩
    refine hGq _ _ _ _ _ ?_
    clear hGq Gq
    rintro hlt1 hL1 F1 N1
    rw [List.append_nil] at N1
    repeat' (first | (k_unfold; (try dsimp only)) | ((fail_if_success (first | (with_reducible show wpAny _ _ (call (Value.ref _) _) _ _ _) | (with_reducible show wpAny _ _ (exec (Stmt.For _ _ _ _ _) _) _ _ _))); first | walk1 | (dsimp only; walk1)))
    exact k _ _ _ _ ⟨⟨_, rfl⟩, rows1, hS1, hd1, rfl⟩ (sub_of_fr (by assumption)) (led_of_news (by assumption) (fun _ hp => hp))

theorem adrs_mem {P : Params} {rows : List IR} {a : Nat} (h : a ∈ adrs rows) : ∃ p ∈ rowsLed P rows, p.1 = a := by
  obtain ⟨q, hq, h1⟩ := List.mem_flatMap.mp h
  simp only [List.mem_cons, List.not_mem_nil, or_false] at h1
  rcases h1 with rfl | rfl
  · exact ⟨_, (mem_rowsLed hq).1, rfl⟩
  · exact ⟨_, (mem_rowsLed hq).2, rfl⟩
theorem swap2 {x y : Str} (h : x ≠ y) {o v v' : Option Value} {m : Str → Option Value} : (fun z => if z = y then v else (fun z => if z = x then o else if z = y then v' else m z) z) = fun z => if z = x then o else if z = y then v else m z := by
  funext z
  by_cases h1 : z = x
  · subst h1; simp [h]
  · by_cases h2 : z = y
    · subst h2; simp [h1]
    · simp [h1, h2]
theorem swap0 {x y : Str} {m : Str → Option Value} (hx : m x = none) (hy : m y = none) : m = fun z => if z = x then none else if z = y then none else m z := by
  funext z
  by_cases h1 : z = x
  · subst h1; simp [hx]
  · by_cases h2 : z = y
    · subst h2; simp [h1, hy]
    · simp [h1, h2]
theorem upd_in {x : Str} {o : Option Value} {v : Value} {m : Str → Option Value} : (fun z => if z = x then some v else (fun z => if z = x then o else m z) z) = fun z => if z = x then some v else m z := by
  funext z
  by_cases h1 : z = x <;> simp [h1]

theorem position_at_c {z : Sc} {rows : List IR} {src : Ledger} {tts : List (Nat × Tab)} {nt : Nat} {cls : Int → Int} {at' : Int} {t : Tok} (HT : ∀ x ∈ tts, TabIs prog w src z.kind x.1 x.2) (htb : (z.tbl, listOf (tts.map fun x => Value.ref x.1).toArray nt) ∈ src) (hz : tts.length ≤ 9) (HF : Fine prog w z rows cls) (h0 : 0 ≤ at') (hat : at' < rows.length) :
    Calls prog w 9 (.ref 666) [.ref z.sc, .int at' t] (z.led w.params rows ++ src) (rowsLed w.params rows) (StepPost w.params rows (posAt z.flag cls (dataOf rows) at' (tts.map (·.2)))) := by
  intro dp un fr gds s b R hdp hun S G H0 N k
  obtain ⟨X, p, loose, mean, mg, mb, T'⟩ := G
  have HZ := H0.left
  have HS : Has b src := H0.right
  obtain ⟨I1, I2, hrow, HG, HL⟩ := HZ.sc
  have I4 := inst_has HL.c.1 HL.c.2.c.1
  have hTb := HS _ htb
  refine' enter [("scene", .ref z.sc), ("at", .int at' t)] S N X T' ?k6 ?k7 ?k8 ?k9 ?kB ?_ ?c2 ?c3 ?c4 ?c5
  ( (case k6 | k7 => k_is); (case k8 => k_room); (case k9 => first | exact BindsTo.of_eq rfl | exact binds_K (by first | assumption | exact Frag.In.keeps (by assumption) (Sub.keep (by assumption))) rfl (by k_is) rfl rfl rfl); (case c5 => decide); (case kB => exact locs rfl); (case c2 | c3 | c4 => exact rfl); intro _ _ _ _ _ _; (try dsimp only); (try k_fold))
  repeat' (first | (k_unfold; (try dsimp only)) | ((fail_if_success (first | (with_reducible show wpAny _ _ (call (Value.ref _) _) _ _ _) | (with_reducible show wpAny _ _ (exec (Stmt.For _ _ _ _ _) _) _ _ _))); first | walk1 | (dsimp only; walk1)))
  refine For_invV b (by rfl) (by rfl) ?_
  repeat' (first | (k_unfold; (try dsimp only)) | ((fail_if_success (first | (with_reducible show wpAny _ _ (call (Value.ref _) _) _ _ _) | (with_reducible show wpAny _ _ (exec (Stmt.For _ _ _ _ _) _) _ _ _))); first | walk1 | (dsimp only; walk1)))
  rename_i FA NA
  refine iter_list (fun c m nw => (∃ o v : Option Value, m = fun y => if y = Str.ofString "found" then o else if y = Str.ofString "table" then v else List.lookup y [(Str.ofString "scene", Value.ref z.sc), (Str.ofString "at", Value.int at' t)].reverse) ∧ (∃ rc, SameRows rows rc ∧ dataOf rc = dataOf rows ∧ nw = rowsLed w.params rc) ∧ posAt z.flag cls (dataOf rows) at' (tts.map (·.2)) = posAt z.flag cls (dataOf rows) at' ((tts.drop c).map (·.2)))
    rfl (by assumption) (by assumption) (.inl hTb) ⟨⟨none, none, ?_⟩, ⟨rows, rfl, rfl, rfl⟩, rfl⟩ ?_ ?_
  · exact swap0 rfl rfl
  · rintro c v I oI m1 nw h tk hv ⟨⟨o, v', rfl⟩, ⟨rc, hS, hd, rfl⟩, hpos⟩ hnI hAll F3 N3
    rw [swap2 (by decide)] at F3
    have hc : c < tts.length := by simpa using (List.getElem?_eq_some_iff.mp hv).1
    obtain ⟨x, hx⟩ : ∃ x, tts[c]? = some x := ⟨tts[c], List.getElem?_eq_getElem hc⟩
    obtain rfl : v = .ref x.1 := by
      rw [List.getElem?_map, hx] at hv
      exact (Option.some.inj hv).symm
    have HTx := HT x (List.mem_of_getElem? hx)
    repeat' (first | (k_unfold; (try dsimp only)) | ((fail_if_success (first | (with_reducible show wpAny _ _ (call (Value.ref _) _) _ _ _) | (with_reducible show wpAny _ _ (exec (Stmt.For _ _ _ _ _) _) _ _ _))); first | walk1 | (dsimp only; walk1)))
    have HF' : Fine prog w z rc cls := ⟨HF.C, HF.f, hd ▸ HF.gs, hS.len ▸ HF.l, hS.adrs' ▸ HF.n⟩
    refine' use (rest := [(I, oI)]) (apply_position_c (cls := cls) (src := src) HTx HF' h0 (hS.len ▸ hat)) ?hdp ?hun ?F ?N ?X ?T ?hm ?hi ?hr ?_
    ( (case hdp | hun => kwd_inv); (case F | N | X | T => k_asm))
    (case hm => exact fun _ hp => .tail _ hp)
    (case hi => exact fun p hp => Or.inr (H0 p (by rwa [led_same hS] at hp)))
    (case hr => exact fun p hp => ⟨List.mem_singleton.mp hp ▸ .head _, fun h => hnI _ h (congrArg Prod.fst (List.mem_singleton.mp hp))⟩)
    rintro Gq hGq n1 v1 h1 tk1 mu1 ⟨⟨t1, rfl⟩, rows1, hS1, hd1, rfl⟩
    refine hGq _ _ _ _ _ ?_
    clear hGq Gq
    rintro hlt1 hL1 F1 N1
    rw [hd] at hd1
    rw [hd]
    have hdr : (tts.drop c) = x :: tts.drop (c + 1) := by rw [List.drop_eq_getElem_cons hc]; rw [List.getElem?_eq_getElem hc] at hx; rw [Option.some.inj hx]
    rw [hdr, List.map_cons, posAt] at hpos
    have hS2 := hS.trans' hS1
    by_cases hge : 0 ≤ (x.2.step z.flag cls (dataOf rows) at').1
    · rw [if_pos hge] at hpos
      repeat' (first | (k_unfold; (try dsimp only)) | ((fail_if_success (first | (with_reducible show wpAny _ _ (call (Value.ref _) _) _ _ _) | (with_reducible show wpAny _ _ (exec (Stmt.For _ _ _ _ _) _) _ _ _))); first | walk1 | (dsimp only; walk1)))
      rw [← hpos]
      exact k _ _ _ _ ⟨⟨_, rfl⟩, rows1, hS2, by rw [hd1, hpos], rfl⟩ (sub_of_fr (by assumption)) (led_of_news (by assumption) (fun _ hp => List.mem_append_left _ hp))
    · rw [if_neg hge] at hpos
      rw [step_neg h0 hge] at hd1
      repeat' (first | (k_unfold; (try dsimp only)) | ((fail_if_success (first | (with_reducible show wpAny _ _ (call (Value.ref _) _) _ _ _) | (with_reducible show wpAny _ _ (exec (Stmt.For _ _ _ _ _) _) _ _ _))); first | walk1 | (dsimp only; walk1)))
      refine turn_end (news' := rowsLed w.params rows1) (.inl rfl) (by assumption) (by assumption) (fun p hp => ?_) (fun p hp e => ?_) (fun p hp => .inl (List.mem_singleton.mp hp ▸ hTb)) ⟨⟨_, _, upd_in⟩, ⟨rows1, hS2, hd1, rfl⟩, hpos⟩
      · rcases List.mem_cons.mp hp with h | hp
        · exact List.mem_append_right _ (h ▸ .head _)
        · exact List.mem_append_left _ hp
      · obtain ⟨p', hp', e'⟩ := adrs_mem (P := w.params) (hS1.adrs' ▸ adr_of_mem hp)
        exact hnI p' hp' (e'.trans e)
  · rintro m1 nw h tk ⟨-, ⟨rc, hS, hd, rfl⟩, hpos⟩ F3 N3
    dsimp only
    rw [List.drop_of_length_le (by simp)] at hpos
    repeat' (first | (k_unfold; (try dsimp only)) | ((fail_if_success (first | (with_reducible show wpAny _ _ (call (Value.ref _) _) _ _ _) | (with_reducible show wpAny _ _ (exec (Stmt.For _ _ _ _ _) _) _ _ _))); first | walk1 | (dsimp only; walk1)))
    exact k _ _ _ _ ⟨by rw [hpos]; exact ⟨_, rfl⟩, rc, hS, by rw [hpos]; exact hd, rfl⟩ (sub_of_fr (by assumption)) (led_of_news (by assumption) (fun _ hp => hp))
end

/-! a set of small ints -/
namespace SmS
open SetTable
noncomputable def lm (m : Nat) : List Nat := (List.range 6).filter fun i => m.testBit i
noncomputable def canonT (l : List Nat) (led : Bool) : SetTable := { mask := if l.length ≤ 4 then 7 else 31, place := l.toArray, dummies := #[], finger := 0, led, moves := if l.length ≤ 4 then 0 else 1, plain := true }
noncomputable def preT (l : List Nat) (led : Bool) : SetTable := { mask := if l.length ≤ 5 then 7 else 31, place := l.toArray, dummies := #[], finger := 0, led, moves := if l.length ≤ 5 then 0 else 1, plain := true }
noncomputable def hs (l : List Nat) : Array Int := (l.map fun i : Nat => (i : Int)).toArray
theorem lay_free : ∀ m : Nat, m < 64 → ∀ k : Nat, k < 6 → ∀ led : Bool, m.testBit k = false → (canonT (lm m) led).freeSlot (k : Int) = some (k, false) := by decide +kernel
theorem lay_put : ∀ m : Nat, m < 64 → ∀ k : Nat, k < 6 → ∀ led : Bool, m.testBit k = false → (canonT (lm m) led).put k = (preT (lm (m ||| 2 ^ k)) led, below (lm m).toArray k) := by decide +kernel
theorem lay_list : ∀ m : Nat, m < 64 → ∀ k : Nat, k < 6 → m.testBit k = false → (lm m).take (below (lm m).toArray k) ++ k :: (lm m).drop (below (lm m).toArray k) = lm (m ||| 2 ^ k) := by decide +kernel
theorem lay_fits : ∀ m : Nat, m < 64 → ∀ led : Bool, (preT (lm m) led).fits (lm m).length = true := by decide +kernel
theorem or_lt : ∀ m : Nat, m < 64 → ∀ k : Nat, k < 6 → m ||| 2 ^ k < 64 := by decide +kernel
theorem or_bit : ∀ m : Nat, m < 64 → ∀ k : Nat, k < 6 → ∀ i : Nat, i < 6 → ((m ||| 2 ^ k).testBit i = true ↔ (m.testBit i = true ∨ i = k)) := by decide +kernel
theorem full_all : ∀ m : Nat, m < 64 → ∀ led : Bool, (preT (lm m) led).tooFull = decide ((lm m).length = 5) ∧ ((lm m).length = 5 → (preT (lm m) led).relaid (hs (lm m)) (grown 5) = some (canonT (lm m) led, Array.range 5)) ∧ ((lm m).length ≠ 5 → preT (lm m) led = canonT (lm m) led) ∧ (canonT (lm m) led).fits (lm m).length = true := by decide +kernel
theorem mem_all : ∀ m : Nat, m < 64 → ∀ k : Nat, k < 6 → (k ∈ lm m ↔ m.testBit k = true) := by decide +kernel
theorem lt_all : ∀ m : Nat, m < 64 → (∀ i ∈ lm m, i < 6) ∧ (lm m).Nodup ∧ (lm m).length ≤ 6 := by decide +kernel
theorem walk_all : ∀ m : Nat, m < 64 → ∀ j : Nat, j < 7 → j ≤ (lm m).length → below (lm m).toArray (if j = 0 then 0 else (lm m).getD (j - 1) 0 + 1) = j := by decide +kernel
end SmS
namespace SmS
open SetTable
noncomputable def e6 (f : Nat → Tok) (k : Nat) : Int × Value := ((k : Int), Value.int k (f k))
noncomputable def Small (h : Heap) (a : Addr) (m : Nat) (led : Bool) : Prop :=
  ∃ o es ep f, h.get? a = some o ∧ o.ExactSet ∧ o.data = .set es ep (canonT (lm m) led) ∧ es.toList = (lm m).map (e6 f)
theorem hash6 {k : Nat} (h : k < 6) : hashInt (k : Int) = k := by
  rcases k with _ | _ | _ | _ | _ | _ | k <;> first | rfl | exact absurd h (Nat.not_lt.mpr (Nat.le_add_left 6 _))
section
variable {prog : Program} {w : World} {A : Around} {E : Value → Shared → Prop} {s : Shared}
theorem elems {m : Nat} (hm : m < 64) {f : Nat → Tok} {l : List (Int × Value)} (h : l = (lm m).map (e6 f)) : ElemsOf (PySem.intKind prog w) l := by
  subst h
  intro e he
  obtain ⟨k, hk, rfl⟩ := List.mem_map.mp he
  exact ⟨⟨(k : Int), by simp [PySem.intKind, Value.isInt, e6], (hash6 ((lt_all m hm).1 k hk)).symm⟩, rfl⟩
theorem find6 {m k : Nat} (hm : m < 64) (hk : k < 6) {f : Nat → Tok} {l : List (Int × Value)} (h : l = (lm m).map (e6 f)) : (l.findIdx? fun e => (PySem.intKind prog w).is (k : Int) e.2).isSome = m.testBit k := by
  subst h
  cases hb : m.testBit k with
  | true =>
    have := (mem_all m hm k hk).mpr hb
    rw [List.findIdx?_isSome, List.any_eq_true]
    exact ⟨_, List.mem_map_of_mem this, by simp [PySem.intKind, Value.isInt, e6]⟩
  | false =>
    rw [← Bool.not_eq_true, List.findIdx?_isSome, List.any_eq_true]
    rintro ⟨e, he, h2⟩
    obtain ⟨k', hk', rfl⟩ := List.mem_map.mp he
    have : k' = k := Int.ofNat.inj (by simpa [PySem.intKind, Value.isInt, e6] using h2)
    subst this
    rw [(mem_all m hm k' hk).mp hk'] at hb
    cases hb
theorem add6 {a : Addr} {m k : Nat} {led : Bool} {t : Tok} {Q : Bool → Shared → Prop} (hm : m < 64) (hk : k < 6) (hS : Small s.heap a m led)
    (h : ∀ h' b, Heap.SameBut a s.heap h' → Small h' a (m ||| 2 ^ k) led → Q b { s with heap := h' }) :
    wpAny (model prog w) A (setAddHashed a (.int k t) (hashInt k)) Q E s := by
  obtain ⟨o, es, ep, f, ho, hex, hd, hes⟩ := hS
  have hel : ElemsOf (PySem.intKind prog w) es.toList := elems hm hes
  have hln : es.size = (lm m).length := by rw [← Array.length_toList, hes, List.length_map]
  have hf : (canonT (lm m) led).fits es.size = true := by rw [hln]; exact (full_all m hm led).2.2.2
  have hb : es.size < scanBound := by rw [hln]; have := (lt_all m hm).2.2; unfold scanBound; exact Nat.lt_of_le_of_lt this (by decide)
  have hkey : (PySem.intKind prog w).is (k : Int) (.int k t) = true := by simp [PySem.intKind, Value.isInt]
  unfold setAddHashed setAddHashedIn
  refine wpAny_holding (wpAny_bind (wpAny_setState_of ho hd hf ?_))
  dsimp only
  rw [byScan_of (knd := PySem.intKind prog w) rfl hb hel]
  simp only [↓reduceIte]
  unfold setAddByScan
  refine wpAny_bind ?_
  refine wpAny_bind (wpAny_rule ?_)
  refine wpAny_bind (wpAny_setScan_of (knd := PySem.intKind prog w) hkey ho hd hf hel ?_)
  have hfi := find6 (prog := prog) (w := w) hm hk hes
  cases hr : List.findIdx? (fun e => (PySem.intKind prog w).is (k : Int) e.2) es.toList with
  | some j =>
    rw [hr] at hfi
    have hb2 : m.testBit k = true := hfi.symm
    have e1 : m ||| 2 ^ k = m := by
      apply Nat.eq_of_testBit_eq
      intro i
      rw [Nat.testBit_or, Nat.testBit_two_pow]
      by_cases e : k = i
      · subst e; simp [hb2]
      · simp [e]
    dsimp only
    refine wpAny_pure (wpAny_pure ?_)
    have e : s = { s with heap := s.heap } := by cases s; rfl
    rw [e]
    exact h s.heap false (Heap.SameBut.refl a s.heap) (e1.symm ▸ ⟨o, es, ep, f, ho, hex, hd, hes⟩)
  | none =>
    rw [hr] at hfi
    have hb2 : m.testBit k = false := hfi.symm
    dsimp only
    have hls : (SetTable.insertAt es (below (lm m).toArray k) ((k : Int), .int k t)).toList = (lm (m ||| 2 ^ k)).map (e6 fun i => if i = k then t else f i) := by
      have hnk : k ∉ lm m := fun q => by rw [(mem_all m hm k hk).mp q] at hb2; cases hb2
      have e2 : (lm m).map (e6 f) = (lm m).map (e6 fun i => if i = k then t else f i) := List.map_congr_left fun i hi => by
        have : i ≠ k := fun q => hnk (q ▸ hi)
        simp [e6, this]
      rw [SetTable.toList_insertAt, hes, e2, ← lay_list m hm k hk hb2, List.map_append, List.map_cons, List.map_take, List.map_drop]
      simp [e6]
    have hsz : (SetTable.insertAt es (below (lm m).toArray k) ((k : Int), .int k t)).size = (lm (m ||| 2 ^ k)).length := by rw [← Array.length_toList, hls, List.length_map]
    have hL : layNew (canonT (lm m) led) es (hashInt k) (.int k t) = (SetTable.insertAt es (below (lm m).toArray k) ((k : Int), .int k t), preT (lm (m ||| 2 ^ k)) led, false, false) := by
      unfold layNew
      rw [hash6 hk, lay_free m hm k hk led hb2]
      dsimp only
      rw [lay_put m hm k hk led hb2]
      dsimp only
      rw [hsz, SetTable.orStandIn, if_pos (lay_fits _ (or_lt m hm k hk) led), lay_fits _ (or_lt m hm k hk) led]
      rfl
    rw [hL]
    dsimp only
    refine wpAny_bind (wpAny_pure ?_)
    have hpl : (preT (lm (m ||| 2 ^ k)) led).plain = true := rfl
    rw [if_pos hpl]
    rw [hashByValue_scannable 8 (by rfl)]
    refine wpAny_bind (wpAny_pure ?_)
    simp only [plainKind, ↓reduceIte]
    refine wpAny_bind (wpAny_storeSet_of ho hd ?_ (by rw [hsz, sizeLine_eq]; have := (lt_all _ (or_lt m hm k hk)).2.2; exact o_le this rfl))
    have hg1 := Heap.get?_update_self (Obj.putSet (SetTable.insertAt es (below (lm m).toArray k) ((k : Int), .int k t)) (preT (lm (m ||| 2 ^ k)) led)) ho (by rw [putSet_of _ _ hd]; rfl)
    rw [putSet_of _ _ hd] at hg1
    have hsb1 := Heap.SameBut.update s.heap a (Obj.putSet (SetTable.insertAt es (below (lm m).toArray k) ((k : Int), .int k t)) (preT (lm (m ||| 2 ^ k)) led))
    obtain ⟨hfu, hre, hcn, hfc⟩ := full_all _ (or_lt m hm k hk) led
    rw [hfu]
    by_cases h5 : (lm (m ||| 2 ^ k)).length = 5
    · have hR : relayAll (preT (lm (m ||| 2 ^ k)) led) (SetTable.insertAt es (below (lm m).toArray k) ((k : Int), .int k t)) (grown (SetTable.insertAt es (below (lm m).toArray k) ((k : Int), .int k t)).size) = (SetTable.insertAt es (below (lm m).toArray k) ((k : Int), .int k t), canonT (lm (m ||| 2 ^ k)) led, false) := by
        have hes1 : (SetTable.insertAt es (below (lm m).toArray k) ((k : Int), .int k t)).map (·.1) = hs (lm (m ||| 2 ^ k)) := by
          apply Array.toList_inj.mp
          rw [Array.toList_map, hls, List.map_map]
          simp [hs, e6, Function.comp_def]
        have hfm : (Array.range 5).filterMap ((SetTable.insertAt es (below (lm m).toArray k) ((k : Int), .int k t))[·]?) = SetTable.insertAt es (below (lm m).toArray k) ((k : Int), .int k t) := by
          apply Array.toList_inj.mp
          rw [Array.toList_filterMap, Array.toList_range, ← h5, ← hsz]
          exact filterMap_getElem?_range _
        unfold relayAll
        rw [hes1, hsz, h5, hre h5]
        dsimp only
        have hc5 : coversAll (Array.range 5) 5 = true := by decide +kernel
        rw [h5] at hfc
        rw [hfm, hsz, h5, hfc, hc5]
        rfl
      rw [hR]
      simp only [h5, decide_true, Bool.not_false, Bool.and_self, ↓reduceIte]
      refine wpAny_bind (wpAny_pure ?_)
      refine wpAny_bind (wpAny_storeSet_of hg1 rfl ?_ (by rw [hsz, sizeLine_eq]; exact Nat.le_trans (Nat.le_of_eq h5) (by decide)))
      have hg2 := Heap.get?_update_self (Obj.putSet (SetTable.insertAt es (below (lm m).toArray k) ((k : Int), .int k t)) (canonT (lm (m ||| 2 ^ k)) led)) hg1 rfl
      exact wpAny_pure (wpAny_pure (h _ true (hsb1.trans (Heap.SameBut.update _ a _)) ⟨_, _, _, _, hg2, hex, rfl, hls⟩))
    · simp only [h5, decide_false, Bool.and_false, Bool.false_eq_true, ↓reduceIte]
      refine wpAny_pure (wpAny_pure (h _ true hsb1 ⟨_, _, _, _, hg1, hex, by rw [hcn h5], hls⟩))
/-- what has been met -/
noncomputable def acc (val : Nat → Nat) (i : Nat) : Nat := (List.range i).foldl (fun m j => m ||| 2 ^ val j) 0
theorem acc_succ (val : Nat → Nat) (i : Nat) : acc val (i + 1) = acc val i ||| 2 ^ val i := by simp [acc, List.range_succ]
theorem acc_lt (val : Nat → Nat) (n : Nat) (hv : ∀ i, i < n → val i < 6) : ∀ i, i ≤ n → acc val i < 64 := by
  intro i
  induction i with
  | zero => intro _; show (0 : Nat) < 64; decide
  | succ i ih => intro hi; rw [acc_succ]; exact or_lt _ (ih (by exact Nat.le_of_succ_le hi)) _ (hv i (by exact hi))
theorem acc_bit (val : Nat → Nat) (n : Nat) (hv : ∀ i, i < n → val i < 6) (k : Nat) (hk : k < 6) : ∀ i, i ≤ n → ((acc val i).testBit k = true ↔ ∃ j, j < i ∧ val j = k) := by
  intro i
  induction i with
  | zero => intro _; simp [acc]
  | succ i ih =>
    intro hi
    rw [acc_succ, or_bit _ (acc_lt val n hv i (by exact Nat.le_of_succ_le hi)) _ (hv i (by exact hi)) k hk, ih (by exact Nat.le_of_succ_le hi)]
    constructor
    · rintro (⟨j, h1, h2⟩ | h)
      · exact ⟨j, by exact Nat.lt_succ_of_lt h1, h2⟩
      · exact ⟨i, by exact Nat.lt_succ_self _, h.symm⟩
    · rintro ⟨j, h1, h2⟩
      by_cases e : j = i
      · subst e; exact .inr h2.symm
      · exact .inl ⟨j, by exact o_lt1 h1 e, h2⟩
theorem Small.at {h h' : Heap} {a : Addr} {m : Nat} {led : Bool} (S : Small h a m led) (e : ∀ o, h.get? a = some o → h'.get? a = some o) : Small h' a m led :=
  let ⟨o, es, ep, f, ho, r⟩ := S; ⟨o, es, ep, f, e o ho, r⟩
theorem loop6 {I S : Addr} {fp wr : List Addr} {n : Nat} {P : Nat → Value → Prop} {St : Nat → Heap → Prop} {R : Result → Shared → Prop} {led : Bool} (W : Walks prog w A.in1 I fp wr n P St) (hSf : S ∉ fp) (val : Nat → Nat) (hv : ∀ i, i < n → val i < 6) (hval : ∀ i v, P i v → ∃ t, v = .int (val i) t) :
    ∀ (k i : Nat) (s : Shared), n - i = k → i ≤ n → St i s.heap → Small s.heap S (acc val i) led →
      (∀ h' tk, (∀ b o, b ∉ S :: wr → s.heap.get? b = some o → h'.get? b = some o) → Small h' S (acc val n) led → R (.ok (.ret .none)) { s with heap := h', toks := tk }) →
      codeAny (model prog w) A (.builtin "set.update.loop" ⟨[.ref S, .ref I], []⟩) R s := by
  have hSw : S ∉ wr := fun h => hSf (W.sub _ h)
  intro k
  induction k with
  | zero =>
    intro i s hk hi hst hS hR
    obtain rfl : i = n := by exact eq_of_sub hk hi
    refine codeAny_builtin PyProof.Rows.F.entry_set_update_loop ?_
    rw [Around.under_plainId PyProof.Rows.F.plain_set_update_loop _]
    show wpAny _ A.in1 (pyNext (.ref I) >>= _) _ _ s
    refine wpAny_bind (W.done s _ _ hst fun h' tk hm => ?_)
    show wpAny _ A.in1 (ret Value.none) _ _ _
    exact wpAny_pure (hR h' tk (fun b o hb e => hm b o (fun h => hb (.tail _ h)) e) (hS.at fun o e => hm S o hSw e))
  | succ k ih =>
    intro i s hk hi hst hS hR
    have hlt : i < n := by exact lt_of_sub hk
    refine codeAny_builtin PyProof.Rows.F.entry_set_update_loop ?_
    rw [Around.under_plainId PyProof.Rows.F.plain_set_update_loop _]
    show wpAny _ A.in1 (pyNext (.ref I) >>= _) _ _ s
    refine wpAny_bind (W.item i s _ _ hlt hst fun v h' tk hP hst' hm => ?_)
    obtain ⟨t, rfl⟩ := hval i v hP
    show wpAny _ A.in1 (holding [Value.int (val i) t] (setAdd S (.int (val i) t)) >>= _) _ _ _
    refine wpAny_bind (wpAny_holding ?_)
    unfold setAdd
    refine wpAny_holding ?_
    refine wpAny_bind ((PySem.intKind prog w).pyHash (k := (val i : Int)) (intKind_is _ _ _ _) ?_)
    refine add6 (acc_lt val n hv i hi) (hv i hlt) (hS.at fun o e => hm S o hSw e) fun h2 b hsb hS2 => ?_
    refine wpAny_pure ⟨plainId_quiet PyProof.Rows.F.plain_set_update_loop _, ih (i + 1) _ (by exact succ_sub hk) hlt (W.frame _ _ _ hst' fun b hb o e => ?_) (by rw [acc_succ]; exact hS2) fun h3 tk3 hm3 hS3 => ?_⟩
    · show h2.get? b = some o
      rw [hsb.2 b (fun h : b = S => hSf (by rw [← h]; exact hb))]; exact e
    · refine hR h3 tk3 (fun b o hb e => hm3 b o hb ?_) hS3
      show h2.get? b = some o
      rw [hsb.2 b (fun h : b = S => hb (by rw [h]; exact List.mem_cons_self))]
      exact hm b o (fun h => hb (.tail _ h)) e
noncomputable abbrev ledOf (w : World) : Bool := !(w.params.followText "set-order")
theorem new6 (a : Value) {Q₁ : Value → Shared → Prop}
    (h : Q₁ (.ref s.heap.objs.size) { s with heap := s.heap.push { cls := .type "set", dict := none, data := .set #[] 0 (.fresh 0 0 (ledOf w)) } }) :
    codeAny (model prog w) A (.call (.builtin "set.__new__") ⟨[.type "set", a], []⟩) (wants Q₁ E) s := by
  refine codeAny_of_tree ?_
  show wpAny _ A.in1 (do checkBuiltinCall "set.__new__" ⟨[.type "set", a], []⟩; again (.builtin "set.__new__" ⟨[.type "set", a], []⟩)) _ _ s
  refine wpAny_bind (wpAny_of_eq (PySem.F.newCall_set_1 a) (wpAny_pure ⟨plainId_quiet PySem.F.plain_set_new _, codeAny_builtin PySem.F.entry_set_new ?_⟩))
  rw [Around.under_plainId PySem.F.plain_set_new _]
  unfold Builtin.«set.__new__» Builtin.Frozenset.newClass
  have hsub := sub_set_self
  obtain ⟨hp, g, d, tk, os⟩ := s
  dsimp only
  wp_walk
  refine wpAny_askSetting (wpAny_pure ?_)
  dsimp only
  simp only [newObj]
  refine wpAny_bind (wpAny_alloc (wpAny_pure ?_))
  exact wpAny_pure h
theorem set_codes {a : Value} {Q : Value → Shared → Prop}
    (h : wpAny (model prog w) A.in1.in1 (Builtin.«set.__init__» ⟨[.ref s.heap.objs.size, a], []⟩)
      (fun fin s' => match fin with | .done f => wants (fun r s₂ => r = .none ∧ Q (.ref s.heap.objs.size) s₂) E (.ok f) s' | .again c' => c'.quiet = true ∧ codeAny (model prog w) A.in1 c' (wants (fun r s₂ => r = .none ∧ Q (.ref s.heap.objs.size) s₂) E) s')
      (fun e s' => wants (fun r s₂ => r = .none ∧ Q (.ref s.heap.objs.size) s₂) E (.error e) s') { s with heap := s.heap.push { cls := .type "set", dict := none, data := .set #[] 0 (.fresh 0 0 (ledOf w)) } }) :
    wpAny (model prog w) A (call (.type "set") [a]) Q E s := by
  obtain ⟨c, tl, hmro⟩ := PySem.F.called_set.mro
  have hmade := PySem.F.called_set.made
  have hsub := PySem.F.called_set.sub
  refine wpAny_call (codeAny_of_tree ?_)
  show wpAny _ _ (callAny (.type "set") _) _ _ _
  refine wpAny_pure ⟨Code.quiet_builtin _ (by decide +kernel), codeAny_builtin PySem.F.entry_type_call ?_⟩
  rw [Around.under_plain (weight_type_call_type "set" [a] []) rfl]
  have h1 := PySem.F.called_set.notType
  have h2 := PySem.F.called_set.canCreate
  have hct := PySem.F.typeCall_set_1 a
  repeat (any_goals (first | assumption | wp_step))
  refine codeAny_mono (new6 a (E := E) (Q₁ := fun obj s₁ => obj = .ref s.heap.objs.size ∧ s₁ = { s with heap := s.heap.push { cls := .type "set", dict := none, data := .set #[] 0 (.fresh 0 0 (ledOf w)) } }) ⟨rfl, rfl⟩) fun r s₁ hr => ?_
  cases r with
  | error e => exact hr
  | ok fl =>
    cases fl with
    | ret obj =>
      obtain ⟨rfl, rfl⟩ := hr
      have hT : Shared.TypeIs { s with heap := s.heap.push { cls := .type "set", dict := none, data := .set #[] 0 (.fresh 0 0 (ledOf w)) } } (.ref s.heap.objs.size) "set" := ⟨_, Heap.get?_push_size _ rfl, rfl⟩
      have hli := PySem.F.called_set.init.lookup
      have hbi := PySem.F.called_set.init.bind (.ref s.heap.objs.size)
      repeat (any_goals (first | assumption | wp_step))
      refine codeAny_mono (codeAny_call_builtin PySem.F.called_set.init.plain PySem.F.entry_set_init (check_set_init_1 hT h)) fun r₂ s₂ hr₂ => ?_
      cases r₂ with
      | error e => exact hr₂
      | ok fl₂ =>
        cases fl₂ with
        | ret r =>
          obtain ⟨rfl, hq⟩ := hr₂
          repeat (any_goals (first | assumption | wp_step))
        | _ => exact hr₂.elim
    | _ => exact hr.elim
theorem call_set6 {l : Addr} {items : Array Value} {val : Nat → Nat} {Q : Value → Shared → Prop} (hh : A.handled = none) (hl : s.heap.IsList l items) (hv : ∀ i, i < items.size → val i < 6) (hval : ∀ (i : Nat) (v : Value), items[i]? = some v → ∃ t, v = Value.int (val i) t)
    (h : ∀ h' tk, (∀ b o, s.heap.get? b = some o → h'.get? b = some o) → Small h' s.heap.objs.size (acc val items.size) (ledOf w) → Q (.ref s.heap.objs.size) { s with heap := h', toks := tk }) :
    wpAny (model prog w) A (call (.type "set") [.ref l]) Q E s := by
  refine set_codes ?_
  have hS : (s.heap.push { cls := .type "set", dict := none, data := .set #[] 0 (.fresh 0 0 (ledOf w)) }).get? s.heap.objs.size = some { cls := .type "set", dict := none, data := .set #[] 0 (.fresh 0 0 (ledOf w)) } := Heap.get?_push_size _ rfl
  have hT : Shared.TypeIs { s with heap := s.heap.push { cls := .type "set", dict := none, data := .set #[] 0 (.fresh 0 0 (ledOf w)) } } (.ref s.heap.objs.size) "set" := ⟨_, hS, rfl⟩
  obtain ⟨ol, hol, hcl, nl, hdl⟩ := hl
  obtain ⟨ocls, odict, odata, oslots⟩ := ol
  simp only at hcl hdl
  subst hcl; subst hdl
  have hol' : (s.heap.push { cls := .type "set", dict := none, data := .set #[] 0 (.fresh 0 0 (ledOf w)) }).get? l = some { cls := .type "list", dict := odict, data := .seq items nl, slots := oslots } := Heap.get?_push_of_some _ hol
  have hsls := PySem.F.sub_list_set
  have hslf := PySem.F.sub_list_frozenset
  have hne : (Value.type "list" == Value.type "dict") = false := by decide
  have hl1 : (s.heap.push { cls := .type "set", dict := none, data := .set #[] 0 (.fresh 0 0 (ledOf w)) }).IsList l items := ⟨_, hol', rfl, nl, rfl⟩
  unfold Builtin.«set.__init__» noKeywords Builtin.Frozenset.updateFrom
  generalize hPI : pyIter = PI
  wp_walk
  subst hPI
  refine wpAny_pyIter_list hl1 ?_
  refine wpAny_bind (wpAny_runValue ?_)
  have hlS : l < s.heap.objs.size := Heap.lt_size hol
  have hh3 : A.in1.in1.in1.handled = none := by simp [hh]
  have hneI : l ≠ (s.heap.push { cls := .type "set", dict := none, data := .set #[] 0 (.fresh 0 0 (ledOf w)) }).objs.size := by
    rw [Heap.size_push]; exact Nat.ne_of_lt (Nat.lt_succ_of_lt hlS)
  have hSf : s.heap.objs.size ∉ [(s.heap.push { cls := .type "set", dict := none, data := .set #[] 0 (.fresh 0 0 (ledOf w)) }).objs.size, l] := by
    rw [Heap.size_push]; simp only [List.mem_cons, List.not_mem_nil, or_false, not_or]
    exact ⟨Nat.ne_of_lt (Nat.lt_succ_self _), Nat.ne_of_gt hlS⟩
  refine loop6 (led := ledOf w) (Walks.list hh3 _ l hneI items) hSf val hv hval (items.size - 0) 0 _ (by exact rfl) (Nat.zero_le _) ⟨⟨_, Heap.get?_push_size _ rfl, rfl, rfl⟩, (hl1.push _)⟩ ?_ ?_
  · have e0 : lm (acc val 0) = [] := by rw [show acc val 0 = 0 from rfl]; decide +kernel
    exact ⟨_, #[], 0, fun _ => 0, Heap.get?_push_of_some _ hS, ⟨rfl, rfl, rfl⟩, by rw [e0]; rfl, by rw [e0]; rfl⟩
  · intro h' tk hm hS'
    show wpAny _ _ _ _ _ _
    refine wpAny_pure ?_
    show wpAny _ _ (ret Value.none) _ _ _
    refine wpAny_pure ⟨rfl, h h' tk (fun b o e => ?_) hS'⟩
    have hb := Heap.lt_size e
    refine hm b o ?_ (Heap.get?_push_of_some _ (Heap.get?_push_of_some _ e))
    rw [Heap.size_push]
    simp only [List.mem_cons, List.not_mem_nil, or_false, not_or]
    exact ⟨Nat.ne_of_lt hb, Nat.ne_of_lt (Nat.lt_succ_of_lt hb)⟩
/-! walking it -/
noncomputable def At (h : Heap) (a : Addr) (es : Array (Int × Value)) (ep : Nat) (f : Nat → Tok) (m : Nat) (led : Bool) : Prop :=
  ∃ o, h.get? a = some o ∧ o.ExactSet ∧ o.data = .set es ep (canonT (lm m) led) ∧ es.toList = (lm m).map (e6 f)
theorem At.typeIs {s : Shared} {a : Addr} {es : Array (Int × Value)} {ep m : Nat} {f : Nat → Tok} {led : Bool} (x : At s.heap a es ep f m led) : s.TypeIs (.ref a) "set" := let ⟨o, ho, hc, _⟩ := x; ⟨o, ho, hc.1⟩
theorem At.at' {h h' : Heap} {a : Addr} {es : Array (Int × Value)} {ep m : Nat} {f : Nat → Tok} {led : Bool} (x : At h a es ep f m led) (e : ∀ o, h.get? a = some o → h'.get? a = some o) : At h' a es ep f m led := let ⟨o, ho, r⟩ := x; ⟨o, e o ho, r⟩
theorem At.fits {h : Heap} {a : Addr} {es : Array (Int × Value)} {ep m : Nat} {f : Nat → Tok} {led : Bool} (hm : m < 64) (x : At h a es ep f m led) : es.size = (lm m).length ∧ (canonT (lm m) led).fits es.size = true := by
  obtain ⟨o, ho, hc, hd, he⟩ := x
  have : es.size = (lm m).length := by rw [← Array.length_toList, he, List.length_map]
  exact ⟨this, by rw [this]; exact (full_all m hm led).2.2.2⟩
/-- the order in which it is walked -/
noncomputable def order (w : World) (a : Addr) (ep : Nat) (es : Array (Int × Value)) : Array (Int × Value) := if w.params.followText "set-order" then pickOrder (w.params.setOrder a ep) es else es
theorem erase_perm {α : Type} {l : List α} {i : Nat} (h : i < l.length) : (l[i] :: l.eraseIdx i).Perm l := by
  rw [List.eraseIdx_eq_take_drop_succ]
  refine List.perm_middle.symm.trans ?_
  rw [← List.drop_eq_getElem_cons h, List.take_append_drop]
theorem pick_perm {α : Type} (next : Nat → Nat) : ∀ (n k : Nat) (l : List α) (out : Array α), n = l.length → (pickOrder.go next n k l out).toList.Perm (out.toList ++ l)
  | 0, k, l, out, h => by
    have : l = [] := List.length_eq_zero_iff.mp h.symm
    subst this; simp [pickOrder.go]
  | n + 1, k, l, out, h => by
    have hl : 0 < l.length := by exact Nat.lt_of_lt_of_eq (Nat.succ_pos _) h
    have hlt : next k % l.length < l.length := Nat.mod_lt _ hl
    unfold pickOrder.go
    rw [List.getElem?_eq_getElem hlt]
    dsimp only
    refine (pick_perm next n (k + 1) _ _ (by rw [List.length_eraseIdx_of_lt hlt]; exact (Nat.sub_eq_of_eq_add (Eq.symm h)).symm)).trans ?_
    rw [Array.toList_push, List.append_assoc]
    exact List.Perm.append_left _ (erase_perm hlt)
theorem order_perm (w : World) (a : Addr) (ep : Nat) (es : Array (Int × Value)) : (order w a ep es).toList.Perm es.toList := by
  unfold order
  split
  · have := pick_perm (w.params.setOrder a ep) es.size 0 es.toList #[] (by simp)
    simpa [pickOrder] using this
  · exact .rfl
theorem slot_next : Slot "set_iterator" "__next__" "set_iterator.__next__" :=
  .of (owner := "set_iterator") (n := "__next__") (by rw [typeLookup_type, builtinLookup_eq_fast]; kernel_rfl) (by decide +kernel) (by decide +kernel) (by decide +kernel)
    (by first | exact .inl (by decide +kernel) | exact .inr (by decide +kernel)) (by rw [isSubtype_type]; kernel_rfl)
theorem slot_iter : Slot "set_iterator" "__iter__" "set_iterator.__iter__" :=
  .of (owner := "set_iterator") (n := "__iter__") (by rw [typeLookup_type, builtinLookup_eq_fast]; kernel_rfl) (by decide +kernel) (by decide +kernel) (by decide +kernel)
    (by first | exact .inl (by decide +kernel) | exact .inr (by decide +kernel)) (by rw [isSubtype_type]; kernel_rfl)
theorem entry_next : entryFor table "set_iterator.__next__" = some Builtin.«set_iterator.__next__» := entryFor_of_tree (by kernel_rfl)
theorem entry_itself : entryFor table "set_iterator.__iter__" = some Builtin.«dict_keyiterator.__iter__» := entryFor_alias (id' := "dict_keyiterator.__iter__") (by kernel_rfl) rfl (by decide +kernel) (by kernel_rfl)
theorem entry_iter : entryFor table "set.__iter__" = some Builtin.«frozenset.__iter__» := entryFor_alias (id' := "frozenset.__iter__") (by kernel_rfl) rfl (by decide +kernel) (by kernel_rfl)
theorem owner_it : Manifest.owners.lookup (String.ofList ['r', 'o', 't', 'a', 'r', 'e', 't', 'i', '_', 't', 'e', 's'].reverse) = some Manifest.sig_set_iterator := by kernel_rfl
theorem args_next (a : Value) : argsOk "set_iterator.__next__" ⟨[a], []⟩ := by
  unfold argsOk; rw [signature?_of (id := "set_iterator.__next__") (n := ['_', '_', 't', 'x', 'e', 'n', '_', '_']) (o := ['r', 'o', 't', 'a', 'r', 'e', 't', 'i', '_', 't', 'e', 's']) (by kernel_rfl) owner_it]; kernel_rfl
theorem args_itself (a : Value) : argsOk "set_iterator.__iter__" ⟨[a], []⟩ := by
  unfold argsOk; rw [signature?_of (id := "set_iterator.__iter__") (n := ['_', '_', 'r', 'e', 't', 'i', '_', '_']) (o := ['r', 'o', 't', 'a', 'r', 'e', 't', 'i', '_', 't', 'e', 's']) (by kernel_rfl) owner_it]; kernel_rfl
noncomputable def IsIt (h : Heap) (I a : Addr) (slot i n ep : Nat) : Prop := ∃ o, h.get? I = some o ∧ o.cls = .type "set_iterator" ∧ o.data = .fields #[.int slot 0, .int i 0, .ref a, .int n 0, .int ep 0]
theorem IsIt.typeIs {s : Shared} {I a : Addr} {slot i n ep : Nat} (x : IsIt s.heap I a slot i n ep) : s.TypeIs (.ref I) "set_iterator" := let ⟨o, ho, hc, _⟩ := x; ⟨o, ho, hc⟩
theorem IsIt.at' {h h' : Heap} {I a : Addr} {slot i n ep : Nat} (x : IsIt h I a slot i n ep) (e : ∀ o, h.get? I = some o → h'.get? I = some o) : IsIt h' I a slot i n ep := let ⟨o, ho, r⟩ := x; ⟨o, e o ho, r⟩
noncomputable def slotAt (w : World) (m i : Nat) : Nat := if w.params.followText "set-order" then 0 else if i = 0 then 0 else (lm m).getD (i - 1) 0 + 1
variable {a : Addr} {es : Array (Int × Value)} {ep m : Nat} {f : Nat → Tok}
theorem byText {Q : Bool → Shared → Prop} (h : Q (w.params.followText "set-order") s) : wpAny (model prog w) A setsByText Q E s := by
  unfold setsByText
  exact wpAny_bind (wpAny_askSetting (wpAny_pure h))
theorem drawn6 {Q : Bool → Shared → Prop} (hm : m < 64) (x : At s.heap a es ep f m (ledOf w)) (h : Q false s) : wpAny (model prog w) A (setDrawn a) Q E s := by
  have hf := (x.fits hm).2
  obtain ⟨o, ho, hc, hd, he⟩ := x
  unfold setDrawn
  refine wpAny_bind (wpAny_setState_of ho hd hf ?_)
  dsimp only
  refine wpAny_bind (byText ?_)
  refine wpAny_pure ?_
  cases w.params.followText "set-order" <;> exact h
theorem iter6 {Q : Value → Shared → Prop} (hm : m < 64) (x : At s.heap a es ep f m (ledOf w))
    (h : Q (.ref s.heap.objs.size) { s with heap := s.heap.push { cls := .type "set_iterator", data := .fields #[.int 0 0, .int 0 0, .ref a, .int (lm m).length 0, .int ep 0] } }) : wpAny (model prog w) A (pyIter (.ref a)) Q E s := by
  have hT := x.typeIs
  obtain ⟨hsz, hf⟩ := x.fits hm
  refine wpAny_pyIter_slot hT PySem.F.slot_set_iter (wpAny_call_entry PySem.F.slot_set_iter hT entry_iter ?_ (PySem.F.args_set_iter_1 _))
  unfold Builtin.«frozenset.__iter__» Builtin.Frozenset.slot0 slotArgs
  simp only [List.isEmpty_nil, Bool.not_true, Bool.false_eq_true, ↓reduceIte, bind_assoc, List.length_nil, bne_self_eq_false]
  unfold Builtin.Frozenset.addrOf Builtin.Frozenset.sizeOf
  obtain ⟨o, ho, hc, hd, he⟩ := id x
  generalize hSE : setEntries = SE
  generalize hSD : setDrawn = SD
  generalize hSP : setEpoch = SP
  wp_walk
  subst hSE
  refine wpAny_setEntries_of ho hd hf ?_
  wp_walk
  subst hSD
  refine drawn6 hm x ?_
  simp only [Bool.false_eq_true, ↓reduceIte]
  wp_walk
  subst hSP
  refine wpAny_setEpoch_of ho hd hf ?_
  wp_walk
  exact ⟨_, rfl, "set_iterator", _, ⟨_, Heap.get?_push_size _ rfl, rfl⟩, slot_next.lookup, by simpa [rawInt, hsz] using h⟩
theorem place6 {i : Nat} (hm : m < 64) (hi : i ≤ (lm m).length) (hb : w.params.followText "set-order" = false) : below (lm m).toArray (slotAt w m i) = i := by
  have := walk_all m hm i (by have := (lt_all m hm).2.2; exact Nat.lt_succ_of_le (Nat.le_trans hi this)) hi
  rw [slotAt, hb, if_neg (by decide)]
  exact this
theorem setNext6 {i : Nat} {Q : Option (Value × Nat) → Shared → Prop} (hm : m < 64) (x : At s.heap a es ep f m (ledOf w)) (hi : i ≤ (lm m).length)
    (h : Q (((order w a ep es)[i]?).map fun e => (e.2, slotAt w m (i + 1))) s) : wpAny (model prog w) A (setNext a (slotAt w m i) i ep) Q E s := by
  obtain ⟨hsz, hf⟩ := x.fits hm
  obtain ⟨o, ho, hc, hd, he⟩ := id x
  unfold setNext
  refine wpAny_bind (wpAny_setState_of ho hd hf ?_)
  dsimp only
  refine wpAny_bind (byText ?_)
  cases hb : w.params.followText "set-order" with
  | true =>
    rw [if_pos rfl, if_neg (by simp)]
    refine wpAny_bind ?_
    unfold setWalk
    refine wpAny_bind (wpAny_setState_of ho hd hf ?_)
    dsimp only
    refine wpAny_bind (byText ?_)
    rw [hb, if_pos rfl]
    refine wpAny_bind (wpAny_askSetting (wpAny_pure (wpAny_pure ?_)))
    have e1 : order w a ep es = pickOrder (w.params.setOrder a ep) es := by rw [order, if_pos hb]
    have e2 : ∀ j, slotAt w m j = 0 := fun j => by rw [slotAt, if_pos hb]
    rw [e1, e2] at h
    rw [e2]
    exact h
  | false =>
    have hled : ledOf w = true := by simp [ledOf, hb]
    rw [hled]
    rw [if_neg (by decide)]
    refine wpAny_bind (m := ite _ _ _) ?_
    rw [if_neg (by simp [canonT])]
    refine wpAny_pure (wpAny_pure ?_)
    have ep6 : (canonT (lm m) true).place = (lm m).toArray := rfl
    rw [ep6, place6 hm hi hb]
    have e1 : order w a ep es = es := by rw [order, hb, if_neg (by decide)]
    rw [e1] at h
    have h1 : es[i]? = ((lm m)[i]?).map (e6 f) := by rw [← Array.getElem?_toList, he, List.getElem?_map]
    rw [h1] at h ⊢
    rw [List.getElem?_toArray]
    cases hk : (lm m)[i]? with
    | none => rw [hk] at h; exact h
    | some k =>
      rw [hk] at h
      have e2 : slotAt w m (i + 1) = k + 1 := by
        rw [slotAt, hb, if_neg (by decide), if_neg (by exact Nat.succ_ne_zero _), Nat.add_sub_cancel, List.getD_eq_getElem?_getD, hk]; rfl
      rw [e2] at h
      exact h
theorem next6 {I i : Nat} {Q : Option Value → Shared → Prop} {e : Int × Value} (hm : m < 64) (x : At s.heap a es ep f m (ledOf w)) (it : IsIt s.heap I a (slotAt w m i) i (lm m).length ep) (hi : i < (lm m).length) (he : (order w a ep es)[i]? = some e)
    (hQ : ∀ h', IsIt h' I a (slotAt w m (i + 1)) (i + 1) (lm m).length ep → Heap.SameBut I s.heap h' → Q (some e.2) { s with heap := h' }) : wpAny (model prog w) A (pyNext (.ref I)) Q E s := by
  obtain ⟨hsz, hf⟩ := x.fits hm
  obtain ⟨od, hod, hcd, hdd, hes⟩ := id x
  obtain ⟨o, ho, hc, hd⟩ := id it
  unfold pyNext
  refine wpAny_bind (wpAny_attempt (wpAny_callSpecial?_slot (name := Str.ofString "__next__") it.typeIs slot_next
    (wpAny_call_entry slot_next it.typeIs entry_next ?_ (args_next _))))
  unfold Builtin.«set_iterator.__next__» slotArgs
  simp only [List.isEmpty_nil, Bool.not_true, Bool.false_eq_true, ↓reduceIte, bind_assoc, List.length_nil, bne_self_eq_false]
  refine wpAny_bind (wpAny_pure ?_)
  refine wpAny_bind (wpAny_fieldsOf ho hd ?_)
  dsimp only
  refine wpAny_bind (wpAny_setEntries_of hod hdd hf ?_)
  rw [if_neg (by simp [hsz])]
  simp only [Int.toNat_natCast]
  refine wpAny_bind (setNext6 hm x (by exact Nat.le_of_lt hi) ?_)
  rw [he]
  dsimp only [Option.map]
  refine wpAny_bind (wpAny_setField ho hd (by simp) ?_)
  have ho1 := Heap.get?_update_self (Obj.mapFields (·.setIfInBounds 0 (rawInt ((slotAt w m (i + 1) : Nat) : Int)))) ho (Obj.isFreed_of_fields (Obj.data_mapFields hd _))
  have hd1 := Obj.data_mapFields hd (·.setIfInBounds 0 (rawInt ((slotAt w m (i + 1) : Nat) : Int)))
  refine wpAny_bind (wpAny_setField ho1 hd1 (by simp) ?_)
  have ho2 := Heap.get?_update_self (Obj.mapFields (·.setIfInBounds 1 (rawInt ((i : Int) + 1)))) ho1 (Obj.isFreed_of_fields (Obj.data_mapFields hd1 _))
  have hd2 := Obj.data_mapFields hd1 (·.setIfInBounds 1 (rawInt ((i : Int) + 1)))
  refine wpAny_pure ⟨_, rfl, wpAny_pure (hQ _ ⟨_, ho2, ?_, ?_⟩ ((Heap.SameBut.update _ I _).trans (Heap.SameBut.update _ I _)))⟩
  · exact (Obj.cls_mapFields ..).trans ((Obj.cls_mapFields ..).trans hc)
  · rw [hd2]; simp [rawInt]
theorem end6 {I : Addr} {Q : Option Value → Shared → Prop} (hh : A.handled = none) (hm : m < 64) (x : At s.heap a es ep f m (ledOf w)) (it : IsIt s.heap I a (slotAt w m (lm m).length) (lm m).length (lm m).length ep)
    (hQ : ∀ h', Heap.ExtBut I s.heap h' → Q none { s with heap := h' }) : wpAny (model prog w) A (pyNext (.ref I)) Q E s := by
  obtain ⟨hsz, hf⟩ := x.fits hm
  obtain ⟨od, hod, hcd, hdd, hes⟩ := id x
  obtain ⟨o, ho, hc, hd⟩ := id it
  have hnone : (order w a ep es)[(lm m).length]? = none := by
    have h1 := (order_perm w a ep es).length_eq
    rw [hes, List.length_map, Array.length_toList] at h1
    rw [← h1]; simp
  unfold pyNext
  refine wpAny_bind (wpAny_attempt (wpAny_callSpecial?_slot (name := Str.ofString "__next__") it.typeIs slot_next
    (wpAny_call_entry slot_next it.typeIs entry_next ?_ (args_next _))))
  unfold Builtin.«set_iterator.__next__» slotArgs
  simp only [List.isEmpty_nil, Bool.not_true, Bool.false_eq_true, ↓reduceIte, bind_assoc, List.length_nil, bne_self_eq_false]
  refine wpAny_bind (wpAny_pure ?_)
  refine wpAny_bind (wpAny_fieldsOf ho hd ?_)
  dsimp only
  refine wpAny_bind (wpAny_setEntries_of hod hdd hf ?_)
  rw [if_neg (by simp [hsz])]
  simp only [Int.toNat_natCast]
  refine wpAny_bind (setNext6 hm x (Nat.le_refl _) ?_)
  rw [hnone]
  dsimp only [Option.map]
  refine wpAny_bind (wpAny_setField ho hd (by simp) ?_)
  refine wpAny_bind ?_
  simp only [newExc, newTuple]
  refine wpAny_bind (wpAny_newObj_type ?_ (by size_fits))
  refine wpAny_bind (m := firstArgMember _ _) (wpAny_of_eq (a := Value.none) (by first | rfl | (simp only [firstArgMember]; rfl)) ?_)
  refine wpAny_newObj_type ?_ (by size_fits)
  simp only [raiseNew]
  refine wpAny_bind (wpAny_handled ?_)
  rw [show A.in1.handled = none from hh]
  refine wpAny_bind (wpAny_pure (wpAny_throw ?_))
  refine wpAny_bind (wpAny_isInstance (T := "StopIteration") (b := true) ⟨_, Heap.get?_push_size _ rfl, rfl⟩ isSubtype_stop ?_)
  exact wpAny_pure (hQ _ (((Heap.SameBut.update ..).extBut.push _).push _))
theorem self6 {I : Addr} {slot i n : Nat} {Q : Value → Shared → Prop} (it : IsIt s.heap I a slot i n ep) (h : Q (.ref I) s) : wpAny (model prog w) A (pyIter (.ref I)) Q E s := by
  refine wpAny_pyIter_slot it.typeIs slot_iter (wpAny_call_entry slot_iter it.typeIs entry_itself ?_ (args_itself _))
  show wpAny _ _ (ret (.ref I)) _ _ s
  exact wpAny_pure ⟨_, rfl, "set_iterator", _, it.typeIs, slot_next.lookup, h⟩
theorem walks6 (hh : A.handled = none) (hm : m < 64) (I : Addr) (hne : a ≠ I) :
    Walks prog w A I [I, a] [I] (lm m).length (fun i v => ((order w a ep es)[i]?).map (·.2) = some v) (fun i h => IsIt h I a (slotAt w m i) i (lm m).length ep ∧ At h a es ep f m (ledOf w)) where
  sub := fun b hb => by simp at hb; simp [hb]
  frame := fun _ _ _ st hk => ⟨st.1.at' fun o e => hk I (by simp) o e, st.2.at' fun o e => hk a (by simp) o e⟩
  item := fun i s Q E hi st hQ => by
    obtain ⟨e, he⟩ : ∃ e, (order w a ep es)[i]? = some e := by
      have h1 := (order_perm w a ep es).length_eq
      have h2 := (st.2.fits hm).1
      rw [Array.length_toList, Array.length_toList, h2] at h1
      exact ⟨(order w a ep es)[i]'(by exact Nat.lt_of_lt_of_eq hi (Eq.symm h1)), Array.getElem?_eq_getElem _⟩
    refine next6 hm st.2 st.1 hi he fun h' it' hs' => ?_
    exact hQ e.2 h' s.toks (by rw [he]; rfl) ⟨it', st.2.at' fun o e => (hs'.2 a hne).trans e⟩ fun b o hb e => (hs'.2 b (fun h => hb (by simp [h]))).trans e
  done := fun s Q E st hQ => end6 hh hm st.2 st.1 fun h' he' => hQ h' s.toks fun b o hb e => he' b o (fun h => hb (by simp [h])) e
  self := fun _ _ _ _ st hQ => self6 st.1 hQ
end
end SmS

namespace SmS
open SetTable
section
variable {prog : Program} {w : World} {A : Around} {E : Value → Shared → Prop} {s : Shared} {a : Addr} {es : Array (Int × Value)} {ep m : Nat} {f : Nat → Tok}
theorem hint6 {Q : Bool → Shared → Prop} (hT : s.TypeIs (.ref a) "set") (h : Q false s) : wpAny (model prog w) A (Builtin.List.listLengthHint (.ref a)) Q E s := by
  unfold Builtin.List.listLengthHint
  refine wpAny_bind (wpAny_specialOf hT PySem.F.slot_set_len.lookup ?_)
  generalize hid : ("set.__len__" : String) = id0
  wp_delta
  rw [show splitId id0 = some ("set", "__len__") from by subst hid; decide +kernel]
  subst hid
  refine wpAny_bind (wpAny_isInstance (T := "set") (b := true) hT (by rw [isSubtype_type]; kernel_rfl) ?_)
  refine wpAny_ite_split (fun hab => absurd hab (by decide)) (fun _ => ?_)
  refine wpAny_ite_split (fun _ => ?_) (fun hab => absurd (by decide +kernel) hab)
  refine wpAny_bind (wpAny_typeOf hT ?_)
  exact wpAny_pure h
theorem src6 (hm : m < 64) : KdlSrc prog w "set" a a (lm m).length (fun i v => ((order w a ep es)[i]?).map (·.2) = some v) (fun h => At h a es ep f m (ledOf w)) where
  type := fun _ x => x.typeIs
  there := fun _ x => let ⟨o, ho, _⟩ := x; ⟨Heap.lt_size ho, Heap.lt_size ho⟩
  keep := fun _ _ x hk => x.at' fun o e => hk a (.inl rfl) o e
  notList := by decide
  notTuple := by decide
  hint := fun _ _ _ _ x hq => hint6 x.typeIs hq
  iter := fun A s hh x => ⟨_, _, (fun _ _ hq => iter6 hm x hq), walks6 hh hm _ (let ⟨o, ho, _⟩ := x; Nat.ne_of_lt (Heap.lt_size ho)), ⟨⟨_, Heap.get?_push_size _ rfl, rfl, by simp [slotAt]⟩, x.at' fun o e => Heap.get?_push_of_some _ e⟩⟩
theorem vals6 (x : At s.heap a es ep f m (ledOf w)) : ∃ ns, IntsAre ((order w a ep es).toList.map (·.2)) ns ∧ ns.Perm ((lm m).map fun k : Nat => (k : Int)) := by
  obtain ⟨o, ho, hc, hd, he⟩ := x
  have hp := order_perm w a ep es
  rw [he] at hp
  generalize (order w a ep es).toList = l at hp
  have key : ∀ l : List (Int × Value), (∀ e ∈ l, ∃ k : Nat, e = e6 f k) → IntsAre (l.map (·.2)) (l.map (·.1)) := by
    intro l
    induction l with
    | nil => intro _; exact .nil
    | cons e r ih =>
      intro h
      obtain ⟨k, rfl⟩ := h e (.head _)
      exact .cons _ _ (ih fun e' he' => h e' (.tail _ he'))
  refine ⟨l.map (·.1), key l fun e he' => ?_, ?_⟩
  · obtain ⟨k, _, rfl⟩ := List.mem_map.mp (hp.mem_iff.mp he')
    exact ⟨k, rfl⟩
  · have := hp.map (·.1)
    rwa [List.map_map] at this
theorem extend6 {R : Result → Shared → Prop} (hh : A.handled = none) (hm : m < 64) (x : At s.heap a es ep f m (ledOf w))
    (h : ∀ h' tk acc' c', (∀ b o, s.heap.get? b = some o → h'.get? b = some o) → h'.get? s.heap.objs.size = some { cls := .type "list", dict := none, data := .seq acc' c', slots := #[] } → acc'.toList = (order w a ep es).toList.map (·.2) → R (.ok (.ret (.ref s.heap.objs.size))) { s with heap := h', toks := tk }) :
    codeAny (model prog w) A (.builtin "proto.collect" ⟨[.ref a], []⟩) R s := by
  have hlen : (order w a ep es).size = (lm m).length := by
    have h1 := (order_perm w a ep es).length_eq
    rw [Array.length_toList, Array.length_toList, (x.fits hm).1] at h1
    exact h1
  obtain ⟨o, ho, _⟩ := id x
  refine codeAny_builtin PyProof.Rows.entry_proto_collect' ?_
  show wpAny _ _ (do again (.builtin "list.__iadd__" ⟨[← newList [], .ref a], []⟩)) _ _ s
  refine wpAny_bind (wpAny_newList (wpAny_pure ⟨Code.quiet_builtin _ (by decide +kernel), codeAny_builtin PyProof.Rows.entry_list_iadd' ?_⟩))
  show wpAny _ _ (Builtin.List.listExtendWith (.ref s.heap.objs.size) (.ref a) (.ref s.heap.objs.size)) _ _ { s with heap := s.heap.push (seqObj "list" #[] 0) }
  have hne : s.heap.objs.size ≠ a := Nat.ne_of_gt (Heap.lt_size ho)
  rw [Around.under_plainId (id := "list.__iadd__") (by decide +kernel) _]
  refine kdl_extend (s := { s with heap := s.heap.push (seqObj "list" #[] 0) }) (src6 (es := es) (ep := ep) (f := f) hm) hh (x.at' fun o e => Heap.get?_push_of_some _ e) s.heap.objs.size hne hne (.ref s.heap.objs.size) 0 (Heap.get?_push_size _ rfl) (fun h' tk acc' c' hk hS' hacc => ?_) (by rw [sizeLine_eq]; have := (lt_all m hm).2.2; exact o_le this rfl)
  refine h h' tk acc' c' (fun b o e => hk b o (Nat.ne_of_lt (Heap.lt_size e)) (Heap.get?_push_of_some _ e)) hS' ?_
  apply List.ext_getElem?
  intro j
  rw [List.getElem?_map, Array.getElem?_toList, Array.getElem?_toList]
  by_cases hj : j < acc'.size
  · rw [hacc.2 j _ (Array.getElem?_eq_getElem hj), Array.getElem?_eq_getElem hj]
  · rw [Array.getElem?_eq_none (by exact Nat.le_of_not_lt hj), Array.getElem?_eq_none (by rw [hlen, ← hacc.1]; exact Nat.le_of_not_lt hj)]; rfl
theorem collect6 {Q : List Value → Shared → Prop} (hh : A.handled = none) (hm : m < 64) (x : At s.heap a es ep f m (ledOf w))
    (h : ∀ h' tk, (∀ b o, s.heap.get? b = some o → h'.get? b = some o) → s.heap.objs.size ≤ h'.objs.size → Q ((order w a ep es).toList.map (·.2)) { s with heap := h', toks := tk }) :
    wpAny (model prog w) A (collect (.ref a)) Q E s := by
  unfold collect
  refine wpAny_bind (wpAny_runValue (extend6 hh hm x fun h' tk acc' c' hk hS hacc => ?_))
  show wpAny (model prog w) A (do
      let o ← load s.heap.objs.size
      match o.data with
      | .seq xs _ => pure xs.toList
      | _ => unsupported "internal:collect") Q E _
  refine wpAny_bind (wpAny_load hS ?_)
  show wpAny _ _ (pure acc'.toList) Q E _
  rw [hacc]
  exact wpAny_pure (h h' tk hk (Nat.le_of_lt (Heap.lt_size hS)))
theorem sorted6 {b : Heap} {L : Addr} {m' : Str → Option Value} {news : List (Addr × Obj)} {Q : Value → Shared → Prop} (hh : A.handled = none) (hm : m < 64) (x : At s.heap a es ep f m (ledOf w)) (F : Fr b L s.heap m') (N : News b L s.heap news)
    (h : ∀ D h' tk vs' ns' e, Fr b L h' m' → News b L h' ((D, PySem.W.listOf vs'.toArray e) :: news) → (∀ p ∈ news, p.1 < D) → IntsAre vs' ns' → ns'.Perm ((lm m).map fun k : Nat => (k : Int)) → Q (.ref D) { s with heap := h', toks := tk }) :
    wpAny (model prog w) A (call (.builtin "sorted") [.ref a]) Q E s := by
  obtain ⟨ns, hI, hp⟩ := vals6 x
  have h64 : ((order w a ep es).toList.map (·.2)).length < 64 := by
    have h1 := hp.length_eq
    have h2 := hI.length
    have := (lt_all m hm).2.2
    rw [List.length_map] at h1
    exact Nat.lt_of_le_of_lt (Nat.le_trans (Nat.le_of_eq (Eq.trans h2 h1)) this) (by decide)
  refine Calls.call_function_entry PyProof.Rows.kind_sorted PyProof.Rows.plain_sorted PyProof.Rows.entry_sorted (PyProof.Rows.args_sorted1 _) ?_
  unfold Builtin.«sorted»
  refine wpAny_bind (m := checkCount "sorted" 1 1 _) (wpAny_pure ?_)
  refine wpAny_bind (collect6 hh hm x fun h1 tk1 hk1 hle => ?_)
  refine wpAny_bind (wpAny_newList ?_)
  have hoL : (h1.push (seqObj "list" ((order w a ep es).toList.map (·.2)).toArray 0)).get? h1.objs.size = some (seqObj "list" ((order w a ep es).toList.map (·.2)).toArray 0) := Heap.get?_push_size _ rfl
  refine wpAny_bind (wpAny_holding (wpAny_call_entry PyProof.Rows.slot_list_sort ⟨_, hoL, rfl⟩ PyProof.Rows.entry_list_sort (PyProof.Rows.list_sort_tree hoL hI h64 fun out ns' a1 a2 a3 => ⟨_, rfl, ?_⟩) (PyProof.Rows.args_list_sort _)))
  refine wpAny_pure ⟨_, rfl, ?_⟩
  obtain ⟨e, he⟩ := PyProof.Rows.sortedHeap_at (out := out) hoL
  have kp : ∀ b o, s.heap.get? b = some o → (PyProof.Rows.sortedHeap (h1.push (seqObj "list" ((order w a ep es).toList.map (·.2)).toArray 0)) h1.objs.size ((order w a ep es).toList.map (·.2)) out).get? b = some o := fun b o e1 => by
    have e2 := hk1 b o e1
    have hlt := Heap.lt_size e2
    rw [PyProof.Rows.sortedHeap_old (Nat.ne_of_lt hlt) (by rw [PyProof.Rows.size_push']; exact Nat.lt_succ_of_lt hlt)]
    exact Heap.get?_push_of_some _ e2
  exact h h1.objs.size _ tk1 out.toList ns' e (F.kept kp) (N.kept_cons F kp hle he) (fun p hp => Nat.lt_of_lt_of_le (Heap.lt_size (N p hp).1) hle) a1 (a2.trans hp)
end
end SmS

/-! walking a dict's keys, whatever they are -/
namespace RawD
noncomputable def It (h : Heap) (I d : Addr) (i n ep : Nat) : Prop := ∃ o, h.get? I = some o ∧ o.cls = .type "dict_keyiterator" ∧ o.data = .fields #[.ref d, .int i 0, .int n 0, .int ep 0]
theorem It.typeIs {s : Shared} {I d : Addr} {i n ep : Nat} (x : It s.heap I d i n ep) : s.TypeIs (.ref I) "dict_keyiterator" := let ⟨o, ho, hc, _⟩ := x; ⟨o, ho, hc⟩
theorem It.at' {h h' : Heap} {I d : Addr} {i n ep : Nat} (x : It h I d i n ep) (e : ∀ o, h.get? I = some o → h'.get? I = some o) : It h' I d i n ep := let ⟨o, ho, r⟩ := x; ⟨o, e o ho, r⟩
noncomputable def Raw (h : Heap) (d : Addr) (es : Array DictEntry) (ep : Nat) : Prop := ∃ o, h.get? d = some o ∧ o.ExactDict ∧ o.data = .dict es ep
theorem Raw.at' {h h' : Heap} {d : Addr} {es : Array DictEntry} {ep : Nat} (x : Raw h d es ep) (e : ∀ o, h.get? d = some o → h'.get? d = some o) : Raw h' d es ep := let ⟨o, ho, r⟩ := x; ⟨o, e o ho, r⟩
section
variable {prog : Program} {w : World} {A : Around} {E : Value → Shared → Prop} {s : Shared} {I d : Addr} {es : Array DictEntry} {ep : Nat}
theorem pyIterD {Q : Value → Shared → Prop} (lo : NotSys d) (x : Raw s.heap d es ep)
    (h : Q (.ref s.heap.objs.size) { s with heap := s.heap.push { cls := .type "dict_keyiterator", data := .fields #[.ref d, .int 0 0, .int es.size 0, .int ep 0] } }) : wpAny (model prog w) A (pyIter (.ref d)) Q E s := by
  obtain ⟨o, ho, hc, hd⟩ := x
  have hT : s.TypeIs (.ref d) "dict" := ⟨o, ho, hc.1⟩
  refine wpAny_pyIter_slot hT PySem.F.slot_dict_iter (wpAny_call_entry PySem.F.slot_dict_iter hT PySem.F.entry_dict_iter ?_ (PySem.F.args_dict_iter_1 _))
  unfold Builtin.«dict.__iter__»
  refine wpAny_bind ?_
  unfold Builtin.Dict.dictSlotNone
  refine wpAny_bind (wpAny_notOrdered_dict hT ?_)
  show wpAny _ _ (pure (Value.ref d)) _ _ s
  refine wpAny_pure ?_
  show wpAny _ _ (Builtin.Dict.showsAll d >>= _) _ _ s
  unfold Builtin.Dict.showsAll
  rw [if_neg (by rw [lo]; exact Bool.false_ne_true)]
  refine wpAny_bind (wpAny_pure ?_)
  refine wpAny_bind (wpAny_dictEntries ho hd ?_)
  refine wpAny_bind (wpAny_dictEpoch ho hd ?_)
  refine wpAny_bind (wpAny_newObj_type (wpAny_pure ⟨_, rfl, "dict_keyiterator", _, ⟨_, Heap.get?_push_size _ rfl, rfl⟩, PySem.F.slot_dict_keyiterator_next.lookup, ?_⟩))
  simpa [rawInt] using h
theorem nextD {i : Nat} {e : DictEntry} {Q : Option Value → Shared → Prop} (it : It s.heap I d i es.size ep) (x : Raw s.heap d es ep) (hx : es[i]? = some e)
    (hQ : ∀ h', It h' I d (i + 1) es.size ep → Heap.SameBut I s.heap h' → Q (some e.key) { s with heap := h' }) : wpAny (model prog w) A (pyNext (.ref I)) Q E s := by
  obtain ⟨o, ho, hc, hd⟩ := id it
  obtain ⟨od, hod, hcd, hdd⟩ := x
  unfold pyNext
  refine wpAny_bind (wpAny_attempt (wpAny_callSpecial?_slot (name := Str.ofString "__next__") it.typeIs PySem.F.slot_dict_keyiterator_next
    (wpAny_call_entry PySem.F.slot_dict_keyiterator_next it.typeIs PySem.F.entry_dict_keyiterator_next ?_ (PySem.F.args_dict_keyiterator_next_1 _))))
  refine wpAny_bind (wpAny_pure ?_)
  refine wpAny_bind ?_
  refine wpAny_bind ?_
  first | refine wpAny_bind (wpAny_typeNameOfWhole_keyiter it.typeIs (wpAny_pure ?_)) | refine wpAny_bind (wpAny_typeNameOf_keyiter it.typeIs (wpAny_pure ?_))
  refine wpAny_bind (wpAny_fieldsOf ho hd ?_)
  have hown : Builtin.Dict_items.ownsTuple "dict_keyiterator" = false := by decide
  simp only [hown, Bool.false_eq_true, if_false]
  show wpAny _ _ (if (Value.ref d == Value.none) = true then _ else _) _ _ s
  rw [if_neg (show ¬ ((Value.ref d == Value.none) = true) from Bool.false_ne_true)]
  refine wpAny_bind (wpAny_pure ?_)
  refine wpAny_bind (wpAny_dictEntries hod hdd ?_)
  rw [if_neg (by simp)]
  refine wpAny_bind (wpAny_pure ?_)
  refine wpAny_bind (wpAny_dictEpoch hod hdd ?_)
  rw [if_neg (by simp)]
  refine wpAny_pure ?_
  simp only [show ¬ ((i : Int) < 0) from by exact Int.not_lt.mpr (Int.natCast_nonneg _), if_false, Int.toNat_natCast, hx]
  refine wpAny_bind ?_
  first | refine wpAny_bind (wpAny_typeNameOfWhole_keyiter it.typeIs (wpAny_pure ?_)) | refine wpAny_bind (wpAny_typeNameOf_keyiter it.typeIs (wpAny_pure ?_))
  refine wpAny_bind (wpAny_isOneOf_keyiter it.typeIs ?_)
  show wpAny _ _ (setField (.ref I) 1 (rawInt ((i : Int) + 1)) >>= _) _ _ s
  refine wpAny_bind (wpAny_setField ho hd (by simp) ?_)
  have hit' : It (s.heap.update I (Obj.mapFields (·.setIfInBounds 1 (rawInt ((i : Int) + 1))))) I d (i + 1) es.size ep :=
    ⟨_, Heap.get?_update_self _ ho (Obj.isFreed_of_fields (Obj.data_mapFields hd _)), (Obj.cls_mapFields ..).trans hc, by rw [Obj.data_mapFields hd]; simp [rawInt]⟩
  refine wpAny_bind (wpAny_holding ?_)
  refine wpAny_bind (wpAny_isOneOf_keyiter (s := { s with heap := s.heap.update I (Obj.mapFields (·.setIfInBounds 1 (rawInt ((i : Int) + 1)))) }) hit'.typeIs ?_)
  show wpAny _ _ (pure e.key) _ _ _
  exact wpAny_pure (wpAny_pure ⟨_, rfl, wpAny_pure (hQ _ hit' (Heap.SameBut.update ..))⟩)
theorem endD {Q : Option Value → Shared → Prop} (hh : A.handled = none) (it : It s.heap I d es.size es.size ep) (x : Raw s.heap d es ep)
    (hQ : ∀ h', Heap.ExtBut I s.heap h' → Q none { s with heap := h' }) : wpAny (model prog w) A (pyNext (.ref I)) Q E s := by
  obtain ⟨o, ho, hc, hd⟩ := id it
  obtain ⟨od, hod, hcd, hdd⟩ := x
  unfold pyNext
  refine wpAny_bind (wpAny_attempt (wpAny_callSpecial?_slot (name := Str.ofString "__next__") it.typeIs PySem.F.slot_dict_keyiterator_next
    (wpAny_call_entry PySem.F.slot_dict_keyiterator_next it.typeIs PySem.F.entry_dict_keyiterator_next ?_ (PySem.F.args_dict_keyiterator_next_1 _))))
  refine wpAny_bind (wpAny_pure ?_)
  refine wpAny_bind ?_
  refine wpAny_bind ?_
  first | refine wpAny_bind (wpAny_typeNameOfWhole_keyiter it.typeIs (wpAny_pure ?_)) | refine wpAny_bind (wpAny_typeNameOf_keyiter it.typeIs (wpAny_pure ?_))
  refine wpAny_bind (wpAny_fieldsOf ho hd ?_)
  have hown : Builtin.Dict_items.ownsTuple "dict_keyiterator" = false := by decide
  simp only [hown, Bool.false_eq_true, if_false]
  show wpAny _ _ (if (Value.ref d == Value.none) = true then _ else _) _ _ s
  rw [if_neg (show ¬ ((Value.ref d == Value.none) = true) from Bool.false_ne_true)]
  refine wpAny_bind (wpAny_pure ?_)
  refine wpAny_bind (wpAny_dictEntries hod hdd ?_)
  rw [if_neg (by simp)]
  refine wpAny_bind (wpAny_pure ?_)
  refine wpAny_bind (wpAny_dictEpoch hod hdd ?_)
  rw [if_neg (by simp)]
  refine wpAny_pure ?_
  simp only [show ¬ ((es.size : Int) < 0) from by exact Int.not_lt.mpr (Int.natCast_nonneg _), if_false, Int.toNat_natCast, Array.getElem?_eq_none (Nat.le_refl _)]
  refine wpAny_bind ?_
  first | refine wpAny_bind (wpAny_typeNameOfWhole_keyiter it.typeIs (wpAny_pure ?_)) | refine wpAny_bind (wpAny_typeNameOf_keyiter it.typeIs (wpAny_pure ?_))
  show wpAny _ _ (setField (.ref I) 0 .none >>= _) _ _ s
  refine wpAny_bind (wpAny_setField ho hd (by simp) ?_)
  show wpAny _ _ (newExc (.type "StopIteration") [] >>= _) _ _ _
  refine wpAny_bind ?_
  simp only [newExc, newTuple]
  refine wpAny_bind (wpAny_newObj_type ?_ (by size_fits))
  refine wpAny_bind (m := firstArgMember _ _) (wpAny_of_eq (a := Value.none) (by first | rfl | (simp only [firstArgMember]; rfl)) ?_)
  refine wpAny_newObj_type ?_ (by size_fits)
  simp only [raiseNew]
  refine wpAny_bind (wpAny_handled ?_)
  rw [show A.in1.handled = none from hh]
  refine wpAny_bind (wpAny_pure (wpAny_throw ?_))
  refine wpAny_bind (wpAny_isInstance (T := "StopIteration") (b := true) ⟨_, Heap.get?_push_size _ rfl, rfl⟩ isSubtype_stop ?_)
  exact wpAny_pure (hQ _ (((Heap.SameBut.update ..).extBut.push _).push _))
theorem selfD {i n : Nat} {Q : Value → Shared → Prop} (it : It s.heap I d i n ep) (h : Q (.ref I) s) : wpAny (model prog w) A (pyIter (.ref I)) Q E s := by
  refine wpAny_pyIter_slot it.typeIs PySem.F.slot_dict_keyiterator_iter (wpAny_call_entry PySem.F.slot_dict_keyiterator_iter it.typeIs PySem.F.entry_dict_keyiterator_iter ?_ (PySem.F.args_dict_keyiterator_iter_1 _))
  show wpAny _ _ (ret (.ref I)) _ _ s
  exact wpAny_pure ⟨_, rfl, "dict_keyiterator", _, it.typeIs, PySem.F.slot_dict_keyiterator_next.lookup, h⟩
theorem walksD (hh : A.handled = none) (I d : Addr) (hne : d ≠ I) (es : Array DictEntry) (ep : Nat) :
    Walks prog w A I [I, d] [I] es.size (fun i v => (es[i]?).map (·.key) = some v) (fun i h => It h I d i es.size ep ∧ Raw h d es ep) where
  sub := fun b hb => by simp at hb; simp [hb]
  frame := fun _ _ _ st hk => ⟨st.1.at' fun o e => hk I (by simp) o e, st.2.at' fun o e => hk d (by simp) o e⟩
  item := fun i s Q E hi st hQ => by
    have hx : es[i]? = some es[i] := Array.getElem?_eq_getElem hi
    refine nextD st.1 st.2 hx fun h' it' hs' => ?_
    exact hQ _ h' s.toks (by rw [hx]; rfl) ⟨it', st.2.at' fun o e => (hs'.2 d hne).trans e⟩ fun b o hb e => (hs'.2 b (fun h => hb (by simp [h]))).trans e
  done := fun s Q E st hQ => endD hh st.1 st.2 fun h' he' => hQ h' s.toks fun b o hb e => he' b o (fun h => hb (by simp [h])) e
  self := fun _ _ _ _ st hQ => selfD st.1 hQ
end

section
open LCg
noncomputable def SrcD (prog : Program) (w : World) (A : Around) (b : Heap) (L : Addr) (m : Str → Option Value) (env : Env) (elt : Expr) (x : Str) (scope : Scope) (cl : List (Str × Addr)) (Q : Value → Shared → Prop) (xv : Value) (s₁ : Shared) : Prop :=
    ∃ d es ep news, xv = .ref d ∧ A.handled = none ∧ Fr b L s₁.heap m ∧ News b L s₁.heap news ∧ Raw b d es ep ∧ NotSys d ∧ es.size ≤ 1000 ∧
      ∀ g, CompRest prog w A b L m env elt x scope cl { s₁ with heap := g } (fun _ => True) (fun i v => (es[i]?).map (·.key) = some v) (FinE b L m { s₁ with heap := g } Q) es.size 0 [] news
noncomputable def SrcDT (prog : Program) (w : World) (A : Around) (b : Heap) (L : Addr) (m : Str → Option Value) (env : Env) (ct elt : Expr) (x : Str) (scope : Scope) (cl : List (Str × Addr)) (Q : Value → Shared → Prop) (xv : Value) (s₁ : Shared) : Prop :=
    ∃ d es ep news, xv = .ref d ∧ A.handled = none ∧ Fr b L s₁.heap m ∧ News b L s₁.heap news ∧ Raw b d es ep ∧ NotSys d ∧ es.size ≤ 1000 ∧
      ∀ g, LCt.CompRestT prog w A b L m env ct elt x scope cl { s₁ with heap := g } (fun _ => True) (fun i v => (es[i]?).map (·.key) = some v) (FinE b L m { s₁ with heap := g } Q) es.size 0 [] news
variable {prog : Program} {w : World} {A : Around} {E : Value → Shared → Prop} {s : Shared} {b : Heap} {L : Addr} {m : Str → Option Value} {env : Env}
theorem ListComp_D {elt iter : Expr} {x : Str} {px : Pos} {scope : Scope} {cl : List (Str × Addr)} {pos : Pos} {Q : Value → Shared → Prop} (F₀ : Fr b L s.heap m)
    (hclos : closureFor scope env = pure cl) (hcell : ∀ y ∈ scope.names, y.2 ≠ .cell) (hkind : scope.kind = .function)
    (hnames : ∀ y ∈ scope.names, y.2 = .local → scope.names.lookup y.1 = some .local) (hx : scope.names.lookup x = some .local)
    (h : wpAny (model prog w) A (eval iter env) (SrcD prog w A b L m env elt x scope cl Q) E s)
    (hs : ∀ x, foldedSetIterable iter env x = pure x := by intro _; rfl) :
    wpAny (model prog w) A (eval (.ListComp elt [⟨.Name x px, iter, [], 0⟩] scope pos) env) Q E s := by
  rw [eval_ListComp]
  refine wpAny_comprehension_free (use := none) rfl hs hclos hkind hnames (wpAny_mono h (fun xv s₁ h₁ => ?_) fun _ _ e => e)
  obtain ⟨d, es, ep, news, rfl, hh, F, N, hr, lo, hsz, R⟩ := h₁
  have hr1 : Raw s₁.heap d es ep := hr.at' fun o e => F.keep _ _ e
  have hlt : d < s₁.heap.objs.size := let ⟨_, e, _⟩ := hr1; Heap.lt_size e
  refine pyIterD lo hr1 ?_
  have up : ∀ b o, s₁.heap.get? b = some o → (s₁.heap.push { cls := .type "dict_keyiterator", data := .fields #[.ref d, .int 0 0, .int es.size 0, .int ep 0] }).get? b = some o := fun b o e => Heap.get?_push_of_some _ e
  refine block_U (walksD hh s₁.heap.objs.size d (Nat.ne_of_lt hlt) es ep) (by rw [sizeLine_eq]; exact o_le hsz rfl) (fun i h st => by obtain ⟨o, e, _⟩ := st.1; exact ⟨o, e⟩)
    (S := fun _ => True) (fun i h h' o nw st e e' k N' S => ⟨by obtain ⟨o', q, r⟩ := st.1; rw [e] at q; cases q; exact ⟨o, e', r⟩, hr.at' fun o e => k _ _ e⟩) hcell hkind hx ⟨⟨_, Heap.get?_push_size _ rfl, rfl, rfl⟩, hr1.at' fun o e => up _ _ e⟩ (fun a ha => ?_)
    (F.keeps up) (N.grown up) (Nat.ne_of_lt F.ns.lt) (next_is_new F) (fun p hp => Nat.ne_of_lt (Heap.lt_size (N p hp).1)) trivial (R _) ?_
  · show a < (s₁.heap.push _).objs.size
    rw [Heap.size_push]
    rcases List.mem_cons.mp ha with rfl | ha
    · exact Nat.lt_succ_self _
    · rw [List.mem_singleton.mp ha]; exact Nat.lt_succ_of_lt hlt
  · intro D C h tk m' ys news' F' N' o1 hn hC₀ hD₀ hCL hDL hCD offC fin
    refine ⟨m', hn, fun h'' hs'' => fin D h'' tk (F'.change hs'' hCL hC₀) (fun p hp => ?_) o1⟩
    refine ⟨hs''.extBut _ _ ?_ (N' p hp).1, (N' p hp).2⟩
    rcases List.mem_cons.mp hp with rfl | hp
    · exact Ne.symm hCD
    · exact offC p hp
open LCt in
theorem ListComp_DT {ct elt iter : Expr} {x : Str} {px : Pos} {scope : Scope} {cl : List (Str × Addr)} {pos : Pos} {Q : Value → Shared → Prop} (F₀ : Fr b L s.heap m)
    (hclos : closureFor scope env = pure cl) (hcell : ∀ y ∈ scope.names, y.2 ≠ .cell) (hkind : scope.kind = .function)
    (hnames : ∀ y ∈ scope.names, y.2 = .local → scope.names.lookup y.1 = some .local) (hx : scope.names.lookup x = some .local)
    (h : wpAny (model prog w) A (eval iter env) (SrcDT prog w A b L m env ct elt x scope cl Q) E s)
    (hs : ∀ x, foldedSetIterable iter env x = pure x := by intro _; rfl) :
    wpAny (model prog w) A (eval (.ListComp elt [⟨.Name x px, iter, [ct], 0⟩] scope pos) env) Q E s := by
  rw [eval_ListComp]
  refine wpAny_comprehension_free (use := none) rfl hs hclos hkind hnames (wpAny_mono h (fun xv s₁ h₁ => ?_) fun _ _ e => e)
  obtain ⟨d, es, ep, news, rfl, hh, F, N, hr, lo, hsz, R⟩ := h₁
  have hr1 : Raw s₁.heap d es ep := hr.at' fun o e => F.keep _ _ e
  have hlt : d < s₁.heap.objs.size := let ⟨_, e, _⟩ := hr1; Heap.lt_size e
  refine pyIterD lo hr1 ?_
  have up : ∀ b o, s₁.heap.get? b = some o → (s₁.heap.push { cls := .type "dict_keyiterator", data := .fields #[.ref d, .int 0 0, .int es.size 0, .int ep 0] }).get? b = some o := fun b o e => Heap.get?_push_of_some _ e
  refine block_T (walksD hh s₁.heap.objs.size d (Nat.ne_of_lt hlt) es ep) (by rw [sizeLine_eq]; exact o_le hsz rfl) (fun i h st => by obtain ⟨o, e, _⟩ := st.1; exact ⟨o, e⟩)
    (S := fun _ => True) (fun i h h' o nw st e e' k N' S => ⟨by obtain ⟨o', q, r⟩ := st.1; rw [e] at q; cases q; exact ⟨o, e', r⟩, hr.at' fun o e => k _ _ e⟩) hcell hkind hx ⟨⟨_, Heap.get?_push_size _ rfl, rfl, rfl⟩, hr1.at' fun o e => up _ _ e⟩ (fun a ha => ?_)
    (F.keeps up) (N.grown up) (Nat.ne_of_lt F.ns.lt) (next_is_new F) (fun p hp => Nat.ne_of_lt (Heap.lt_size (N p hp).1)) trivial (R _) ?_
  · show a < (s₁.heap.push _).objs.size
    rw [Heap.size_push]
    rcases List.mem_cons.mp ha with rfl | ha
    · exact Nat.lt_succ_self _
    · rw [List.mem_singleton.mp ha]; exact Nat.lt_succ_of_lt hlt
  · intro D C h tk m' ys news' F' N' o1 hn hC₀ hD₀ hCL hDL hCD offC fin
    refine ⟨m', hn, fun h'' hs'' => fin D h'' tk (F'.change hs'' hCL hC₀) (fun p hp => ?_) o1⟩
    refine ⟨hs''.extBut _ _ ?_ (N' p hp).1, (N' p hp).2⟩
    rcases List.mem_cons.mp hp with rfl | hp
    · exact Ne.symm hCD
    · exact offC p hp
end
end RawD

/-! which glyphs begin -/
noncomputable def Tab.has : Tab → Int → Prop
  | .adj f, g => (f g).isSome = true
  | .pair _ f, g => ∃ y, (f g y).isSome = true
theorem mem_valueAt {kvs : List (Int × Value)} {g : Int} : g ∈ kvs.map (·.1) ↔ (valueAt kvs g).isSome = true := by
  unfold valueAt
  rw [Option.isSome_map, List.find?_isSome]
  constructor
  · intro h
    obtain ⟨x, hx, rfl⟩ := List.mem_map.mp h
    exact ⟨x, hx, by simp⟩
  · rintro ⟨x, hx, h⟩
    have : x.1 = g := by simpa using h
    exact this ▸ List.mem_map_of_mem hx
theorem mem_atKey {xs : List (List Int × Addr × Value)} {k : List Int} : (atKey xs k).isSome = true ↔ ∃ x ∈ xs, x.1 = k := by
  unfold atKey
  rw [Option.isSome_map, List.find?_isSome]
  simp
section
variable {prog : Program} {w : World}
theorem items2 {items : Array Value} {a b : Int} (h : ItemsAre (PySem.intKind prog w) [a, b] items.toList) : ∃ t t', items = [Value.int a t, Value.int b t'].toArray := by
  obtain ⟨l⟩ := items
  simp only at h
  cases h with
  | cons h1 h' =>
    cases h' with
    | cons h2 h'' =>
      cases h''
      obtain ⟨t, rfl⟩ := Value.isInt_shape h1
      obtain ⟨t', rfl⟩ := Value.isInt_shape h2
      exact ⟨t, t', rfl⟩
theorem beg_pair_c {src : Ledger} {tab : Nat} {sec : Bool} {f : Int → Int → Option (Nat × VR × VR)} (HT : PairTab prog w src tab sec f) :
    Calls prog w 1 (.ref 678) [.ref tab] src [] (fun _ r mu' => ∃ D vs ns c, r = .ref D ∧ mu' = [(D, listOf vs.toArray c)] ∧ IntsAre vs ns ∧ ns.length ≤ 1000 ∧ ∀ g, g ∈ ns ↔ ∃ y, (f g y).isSome = true) := by
  intro dp un fr gds s b R hdp hun S G H0 N k
  obtain ⟨X, p, loose, mean, mg, mb, T⟩ := G
  obtain ⟨⟨da, D, oD, es, ep, xs, k1, k2, m1, m2, m3, lo, he, hd, hes, hks, hnd, hkk, hat, hxl⟩, hval⟩ := HT
  have I3 := inst_has (H0 _ m1) (H0 _ m2)
  have hD := H0 _ m3
  refine' enter [("table", .ref tab)] S N X T ?k6 ?k7 ?k8 ?k9 ?kB ?_ ?c2 ?c3 ?c4 ?c5
  ( (case k6 | k7 => k_is); (case k8 => k_room); (case k9 => first | exact BindsTo.of_eq rfl | exact binds_K (by first | assumption | exact Frag.In.keeps (by assumption) (Sub.keep (by assumption))) rfl (by k_is) rfl rfl rfl); (case c5 => decide); (case kB => exact locs rfl); (case c2 | c3 | c4 => exact rfl); intro _ _ _ _ _ _; (try dsimp only); (try k_fold))
  repeat' (first | (k_unfold; (try dsimp only)) | ((fail_if_success (first | (with_reducible show wpAny _ _ (call (Value.ref _) _) _ _ _) | (with_reducible show wpAny _ _ (exec (Stmt.While _ _ _ _) _) _ _ _) | (with_reducible show wpAny _ _ (exec (Stmt.For _ _ _ _ _) _) _ _ _) | (with_reducible show wpAny _ _ (exec (Stmt.Assign [_] (Expr.ListComp _ _ _ _) _) _) _ _ _) | (with_reducible show wpAny _ _ (eval (Expr.ListComp _ _ _ _) _) _ _ _))); first | walk1 | (dsimp only; walk1)))
  have hes' : es.size = xs.length := by rw [← Array.length_toList, hes, List.length_map]
  refine RawD.ListComp_D (F₀ := by k_asm) (by rfl) (by decide) (by rfl) (by decide) (by rfl) ?_
  repeat' (first | (k_unfold; (try dsimp only)) | ((fail_if_success (first | (with_reducible show wpAny _ _ (call (Value.ref _) _) _ _ _) | (with_reducible show wpAny _ _ (exec (Stmt.While _ _ _ _) _) _ _ _) | (with_reducible show wpAny _ _ (exec (Stmt.For _ _ _ _ _) _) _ _ _) | (with_reducible show wpAny _ _ (exec (Stmt.Assign [_] (Expr.ListComp _ _ _ _) _) _) _ _ _) | (with_reducible show wpAny _ _ (eval (Expr.ListComp _ _ _ _) _) _ _ _))); first | walk1 | (dsimp only; walk1)))
  refine ⟨D, es, ep, [], rfl, rfl, by assumption, by assumption, ⟨oD, hD, he, hd⟩, lo, by exact Nat.le_trans (Nat.le_of_eq hes') hxl, fun g => ?_⟩
  refine comp_inv (fun c ys nw => nw = [] ∧ IntsAre ys ((xs.take c).map fun x => x.1.headD 0)) ⟨rfl, .nil⟩ ?_ ?_
  · rintro c ys nw v I oI C oC D2 m2 h tk E' hc ⟨rfl, hys⟩ hv hC hx F2 N2 off ne
    obtain ⟨x, hxc⟩ : ∃ x, xs[c]? = some x := ⟨xs[c]'(by exact Nat.lt_of_lt_of_eq hc hes'), List.getElem?_eq_getElem _⟩
    obtain ⟨y1, y2, hy⟩ := hkk x (List.mem_of_getElem? hxc)
    obtain ⟨ok, hokm, hoc, items, n, hod, hit⟩ := hks x (List.mem_of_getElem? hxc)
    obtain rfl : v = .ref x.2.1 := by
      rw [← Array.getElem?_toList, hes, List.getElem?_map, hxc] at hv
      exact (Option.some.inj hv).symm
    rw [hy] at hit
    obtain ⟨t1, t2, hitl⟩ := items2 hit
    have hok := H0 _ hokm
    repeat' (first | (k_unfold; (try dsimp only)) | ((fail_if_success (first | (with_reducible show wpAny _ _ (call (Value.ref _) _) _ _ _) | (with_reducible show wpAny _ _ (exec (Stmt.While _ _ _ _) _) _ _ _) | (with_reducible show wpAny _ _ (exec (Stmt.For _ _ _ _ _) _) _ _ _) | (with_reducible show wpAny _ _ (exec (Stmt.Assign [_] (Expr.ListComp _ _ _ _) _) _) _ _ _) | (with_reducible show wpAny _ _ (eval (Expr.ListComp _ _ _ _) _) _ _ _))); first | walk1 | (dsimp only; walk1)))
    refine item_tupleT (l := [.int y1 t1, .int y2 t2]) ⟨ok, Fr.keep (by k_asm) _ _ hok, hoc, n, by rw [hod, ← hitl]⟩ (by decide) (by decide) rfl rfl ?_
    repeat' (first | (k_unfold; (try dsimp only)) | ((fail_if_success (first | (with_reducible show wpAny _ _ (call (Value.ref _) _) _ _ _) | (with_reducible show wpAny _ _ (exec (Stmt.While _ _ _ _) _) _ _ _) | (with_reducible show wpAny _ _ (exec (Stmt.For _ _ _ _ _) _) _ _ _) | (with_reducible show wpAny _ _ (exec (Stmt.Assign [_] (Expr.ListComp _ _ _ _) _) _) _ _ _) | (with_reducible show wpAny _ _ (eval (Expr.ListComp _ _ _ _) _) _ _ _))); first | walk1 | (dsimp only; walk1)))
    rw [List.take_add_one, List.map_append, hxc]
    have : x.1.headD 0 = y1 := by rw [hy]; rfl
    simp only [Option.toList_some, List.map_cons, List.map_nil, this]
    exact hys.append (.cons _ _ .nil)
  · rintro ys nw ⟨rfl, hys⟩
    unfold LCg.FinE
    rw [List.take_of_length_le (by exact Nat.le_of_eq (Eq.symm hes'))] at hys
    intro D2 h2 tk2 F2 N2 o2
    repeat' (first | (k_unfold; (try dsimp only)) | ((fail_if_success (first | (with_reducible show wpAny _ _ (call (Value.ref _) _) _ _ _) | (with_reducible show wpAny _ _ (exec (Stmt.While _ _ _ _) _) _ _ _) | (with_reducible show wpAny _ _ (exec (Stmt.For _ _ _ _ _) _) _ _ _) | (with_reducible show wpAny _ _ (exec (Stmt.Assign [_] (Expr.ListComp _ _ _ _) _) _) _ _ _) | (with_reducible show wpAny _ _ (eval (Expr.ListComp _ _ _ _) _) _ _ _))); first | walk1 | (dsimp only; walk1)))
    refine k _ _ _ _ ⟨D2, ys, _, _, rfl, rfl, hys, by rw [List.length_map]; exact hxl, fun g => ?_⟩ (sub_of_fr (by assumption)) (led_of_news N2 (fun p hp => hp))
    constructor
    · intro hg
      obtain ⟨x, hx, rfl⟩ := List.mem_map.mp hg
      obtain ⟨y1, y2, hy⟩ := hkk x hx
      refine ⟨y2, ?_⟩
      have h1 := hat y1 y2
      have h2 : (atKey xs [y1, y2]).isSome = true := mem_atKey.mpr ⟨x, hx, hy⟩
      have h3 := congrArg Option.isSome h1
      rw [Option.isSome_map, Option.isSome_map, h2] at h3
      rw [hy]; exact h3.symm
    · rintro ⟨y, hy⟩
      have h1 := congrArg Option.isSome (hat g y)
      rw [Option.isSome_map, Option.isSome_map, hy] at h1
      obtain ⟨x, hx, hx1⟩ := mem_atKey.mp h1
      exact List.mem_map.mpr ⟨x, hx, by rw [hx1]; rfl⟩
end

section
variable {prog : Program} {w : World}
theorem ints_of {vs : List Value} : ∀ {ks : List Int}, vs.length = ks.length → (∀ (j : Nat) (v : Value), vs[j]? = some v → ∃ t, v = .int (ks.getD j 0) t) → IntsAre vs ks := by
  induction vs with
  | nil => intro ks h _; have : ks = [] := List.length_eq_zero_iff.mp h.symm; subst this; exact .nil
  | cons v vs ih =>
    intro ks h hv
    cases ks with
    | nil => simp at h
    | cons k ks =>
      obtain ⟨t, e⟩ := hv 0 v rfl
      simp at e
      subst e
      exact .cons _ _ (ih (by simpa using h) fun j u hu => by simpa using hv (j + 1) u (by simpa using hu))
theorem list_keys {A : Around} {E : Value → Shared → Prop} {s : Shared} {b : Heap} {L D : Addr} {m : Str → Option Value} {news : Ledger} {oD : Obj} {kvs : List (Int × Value)} {Q : Value → Shared → Prop} (hh : A.handled = none) (F : Fr b L s.heap m) (N : News b L s.heap news)
    (hD : s.heap.get? D = some oD) (hk : oD.IsDictOf (PySem.intKind prog w) kvs) (lo : NotSys D) (hl : kvs.length ≤ 1000)
    (h : ∀ B c h' tk vs, Fr b L h' m → News b L h' ((B, listOf vs.toArray c) :: news) → IntsAre vs (kvs.map (·.1)) → Q (.ref B) { s with heap := h', toks := tk }) :
    wpAny (model prog w) A (call (.type "list") [.ref D]) Q E s := by
  have hDD : s.heap.DictOf (PySem.intKind prog w) D kvs := Heap.dictOf_iff.mpr ⟨oD, hD, hk⟩
  obtain ⟨ep, hat⟩ := hDD.dictAt
  refine kdl_N (kdl_dict (knd := PySem.intKind prog w) (kvs := kvs) (ep := ep) lo) hh F N hat (by rw [sizeLine_eq]; exact o_le hl rfl) fun B c h' tk vs F' N' _ hlen hv => h B c h' tk vs F' N' (ints_of (by simpa using hlen) fun j v hj => ?_)
  obtain ⟨k, x, hx, hkv⟩ := hv j v hj
  obtain ⟨t, rfl⟩ := Value.isInt_shape hkv
  exact ⟨t, by rw [List.getD_eq_getElem?_getD, List.getElem?_map, hx]; rfl⟩
theorem set_N {A : Around} {E : Value → Shared → Prop} {s : Shared} {b : Heap} {L D : Addr} {m : Str → Option Value} {news : Ledger} {vs : List Value} {ns : List Int} {c : Nat} {Q : Value → Shared → Prop} (hh : A.handled = none) (F : Fr b L s.heap m) (N : News b L s.heap news)
    (hm : (D, listOf vs.toArray c) ∈ news) (hi : IntsAre vs ns) (h6 : ∀ g ∈ ns, 0 ≤ g ∧ g < 6)
    (h : ∀ S oS es ep f mm h' tk, mm < 64 → (∀ k : Nat, k < 6 → (k ∈ SmS.lm mm ↔ (k : Int) ∈ ns)) → (∀ g : Heap, g.get? S = some oS → SmS.At g S es ep f mm (SmS.ledOf w)) → Fr b L h' m → News b L h' ((S, oS) :: news) → Q (.ref S) { s with heap := h', toks := tk }) :
    wpAny (model prog w) A (call (.type "set") [.ref D]) Q E s := by
  have hv : ∀ i, i < vs.toArray.size → (ns.getD i 0).toNat < 6 := fun i hi' => by
    have hlen := hi.length
    have hlt : i < ns.length := by rw [← hlen]; simpa using hi'
    have : ns.getD i 0 ∈ ns := by simp [hlt]
    have := h6 _ this
    exact o_tn this.1 this.2
  refine SmS.call_set6 (val := fun i => (ns.getD i 0).toNat) hh ⟨_, (N _ hm).1, rfl, _, rfl⟩ hv (fun i v hv' => ?_) fun h' tk hk hS => ?_
  · rw [List.getElem?_toArray] at hv'
    obtain ⟨t, e⟩ := PyProof.Rows.IntsAre.int_at hi i v hv'
    refine ⟨t, ?_⟩
    have hlt : i < ns.length := by rw [← hi.length]; exact (List.getElem?_eq_some_iff.mp hv').1
    have : ns.getD i 0 ∈ ns := by simp [hlt]
    have h0 := (h6 _ this).1
    rw [e]
    congr 1
    exact tn_cast h0
  · obtain ⟨oS, es, ep, f, ho, hex, hd, hes⟩ := hS
    have hLt : L < s.heap.objs.size := F.ns.lt
    refine h s.heap.objs.size oS es ep f _ h' tk (SmS.acc_lt _ vs.toArray.size hv _ (Nat.le_refl _)) (fun k hk6 => ?_) (fun g hg => ⟨oS, hg, hex, hd, hes⟩) (F.keeps hk) fun p hp => ?_
    · rw [SmS.mem_all _ (SmS.acc_lt _ vs.toArray.size hv _ (Nat.le_refl _)) k hk6, SmS.acc_bit _ vs.toArray.size hv k hk6 _ (Nat.le_refl _)]
      have hlen := hi.length
      constructor
      · rintro ⟨j, hj, rfl⟩
        have hlt : j < ns.length := by rw [← hlen]; simpa using hj
        have hmem : ns.getD j 0 ∈ ns := by simp [hlt]
        have := (h6 _ hmem).1
        rw [show (((ns.getD j 0).toNat : Nat) : Int) = ns.getD j 0 by exact o_tnc this]
        exact hmem
      · intro hmem
        obtain ⟨j, hj, e⟩ := List.getElem_of_mem hmem
        exact ⟨j, by simpa using (hlen ▸ hj), by simp [hj, e]⟩
    · rcases List.mem_cons.mp hp with rfl | hp
      · exact ⟨ho, Nat.ne_of_gt hLt, next_is_new F⟩
      · exact ⟨hk _ _ (N p hp).1, (N p hp).2⟩
theorem beginnings_c {src : Ledger} {tab : Nat} {kind : Str} {T : Tab} {tk : Tok} (HT : TabIs prog w src kind tab T) (hb : ∀ g, T.has g → 0 ≤ g ∧ g < 6) :
    Calls prog w 2 (.ref 685) [.str kind tk, .ref tab] src [] (fun _ r mu' => ∃ D vs ns c, r = .ref D ∧ mu' = [(D, listOf vs.toArray c)] ∧ IntsAre vs ns ∧ ns.length ≤ 6 ∧ ∀ g, g ∈ ns ↔ T.has g) := by
  intro dp un fr gds s b R hdp hun S G H0 N k
  obtain ⟨X, p, loose, mean, mg, mb, T'⟩ := G
  have fin : ∀ (mm : Nat) (ns ns' : List Int), mm < 64 → (∀ g, g ∈ ns ↔ T.has g) → (∀ k : Nat, k < 6 → (k ∈ SmS.lm mm ↔ (k : Int) ∈ ns)) → ns'.Perm ((SmS.lm mm).map fun k : Nat => (k : Int)) → ns'.length ≤ 6 ∧ ∀ g, g ∈ ns' ↔ T.has g := by
    intro mm ns ns' hm h1 h2 h3
    have hlt := SmS.lt_all mm hm
    refine ⟨by rw [h3.length_eq, List.length_map]; exact hlt.2.2, fun g => ?_⟩
    rw [h3.mem_iff, ← h1, List.mem_map]
    constructor
    · rintro ⟨k, hk, rfl⟩
      exact (h2 k (hlt.1 k hk)).mp hk
    · intro hg
      have := hb g ((h1 g).mp hg)
      refine ⟨g.toNat, (h2 _ (by exact o_tn this.1 this.2)).mpr ?_, by exact o_tnc this.1⟩
      rw [show ((g.toNat : Nat) : Int) = g by exact o_tnc this.1]; exact hg
  cases T with
  | adj f =>
    obtain ⟨rfl, HT⟩ := HT
    obtain ⟨⟨da, D, oD, kvs, kt, m1, m2, m3, lo, hk, hkv, hkl⟩, hval⟩ := HT
    have I3 := inst_has (H0 _ m1) (H0 _ m2)
    have hD := H0 _ m3
    refine' enter [("kind", .str "adjust" tk), ("table", .ref tab)] S N X T' ?k6 ?k7 ?k8 ?k9 ?kB ?_ ?c2 ?c3 ?c4 ?c5
    ( (case k6 | k7 => k_is); (case k8 => k_room); (case k9 => first | exact BindsTo.of_eq rfl | exact binds_K (by first | assumption | exact Frag.In.keeps (by assumption) (Sub.keep (by assumption))) rfl (by k_is) rfl rfl rfl); (case c5 => decide); (case kB => exact locs rfl); (case c2 | c3 | c4 => exact rfl); intro _ _ _ _ _ _; (try dsimp only); (try k_fold))
    repeat' (first | (k_unfold; (try dsimp only)) | ((fail_if_success (first | (with_reducible show wpAny _ _ (call (Value.builtin "sorted") _) _ _ _) | (with_reducible show wpAny _ _ (call (Value.type "list") [Value.ref _]) _ _ _) | (with_reducible show wpAny _ _ (call (Value.type "set") _) _ _ _) | (with_reducible show wpAny _ _ (call (Value.ref _) _) _ _ _) | (with_reducible show wpAny _ _ (exec (Stmt.While _ _ _ _) _) _ _ _) | (with_reducible show wpAny _ _ (exec (Stmt.For _ _ _ _ _) _) _ _ _) | (with_reducible show wpAny _ _ (exec (Stmt.Assign [_] (Expr.ListComp _ _ _ _) _) _) _ _ _) | (with_reducible show wpAny _ _ (eval (Expr.ListComp _ _ _ _) _) _ _ _))); first | walk1 | (dsimp only; walk1)))
    refine list_keys rfl (by k_asm) (by k_asm) (Fr.keep (by k_asm) _ _ hD) hk lo hkl ?_
    intro B c h1 tk1 vs F1 N1 hi1
    repeat' (first | (k_unfold; (try dsimp only)) | ((fail_if_success (first | (with_reducible show wpAny _ _ (call (Value.builtin "sorted") _) _ _ _) | (with_reducible show wpAny _ _ (call (Value.type "list") [Value.ref _]) _ _ _) | (with_reducible show wpAny _ _ (call (Value.type "set") _) _ _ _) | (with_reducible show wpAny _ _ (call (Value.ref _) _) _ _ _) | (with_reducible show wpAny _ _ (exec (Stmt.While _ _ _ _) _) _ _ _) | (with_reducible show wpAny _ _ (exec (Stmt.For _ _ _ _ _) _) _ _ _) | (with_reducible show wpAny _ _ (exec (Stmt.Assign [_] (Expr.ListComp _ _ _ _) _) _) _ _ _) | (with_reducible show wpAny _ _ (eval (Expr.ListComp _ _ _ _) _) _ _ _))); first | walk1 | (dsimp only; walk1)))
    refine set_N rfl (by k_asm) (by k_asm) (by k_mem) hi1 (fun g hg => hb g ?_) ?_
    · show (f g).isSome = true
      have := mem_valueAt.mp hg
      rwa [hkv, Option.isSome_map] at this
    intro S2 oS es ep ff mm h2 tk2 hmm hbit hS F2 N2
    repeat' (first | (k_unfold; (try dsimp only)) | ((fail_if_success (first | (with_reducible show wpAny _ _ (call (Value.builtin "sorted") _) _ _ _) | (with_reducible show wpAny _ _ (call (Value.type "list") [Value.ref _]) _ _ _) | (with_reducible show wpAny _ _ (call (Value.type "set") _) _ _ _) | (with_reducible show wpAny _ _ (call (Value.ref _) _) _ _ _) | (with_reducible show wpAny _ _ (exec (Stmt.While _ _ _ _) _) _ _ _) | (with_reducible show wpAny _ _ (exec (Stmt.For _ _ _ _ _) _) _ _ _) | (with_reducible show wpAny _ _ (exec (Stmt.Assign [_] (Expr.ListComp _ _ _ _) _) _) _ _ _) | (with_reducible show wpAny _ _ (eval (Expr.ListComp _ _ _ _) _) _ _ _))); first | walk1 | (dsimp only; walk1)))
    refine SmS.sorted6 rfl hmm (hS _ (News.get (by k_asm) (by k_mem))) (by k_asm) (by k_asm) ?_
    intro D3 h3 tk3 vs3 ns3 e3 F3 N3 _ hi3 hp3
    repeat' (first | (k_unfold; (try dsimp only)) | ((fail_if_success (first | (with_reducible show wpAny _ _ (call (Value.builtin "sorted") _) _ _ _) | (with_reducible show wpAny _ _ (call (Value.type "list") [Value.ref _]) _ _ _) | (with_reducible show wpAny _ _ (call (Value.type "set") _) _ _ _) | (with_reducible show wpAny _ _ (call (Value.ref _) _) _ _ _) | (with_reducible show wpAny _ _ (exec (Stmt.While _ _ _ _) _) _ _ _) | (with_reducible show wpAny _ _ (exec (Stmt.For _ _ _ _ _) _) _ _ _) | (with_reducible show wpAny _ _ (exec (Stmt.Assign [_] (Expr.ListComp _ _ _ _) _) _) _ _ _) | (with_reducible show wpAny _ _ (eval (Expr.ListComp _ _ _ _) _) _ _ _))); first | walk1 | (dsimp only; walk1)))
    have := fin mm _ ns3 hmm (fun g => by rw [mem_valueAt, hkv, Option.isSome_map]; exact Iff.rfl) hbit hp3
    exact k _ _ _ _ ⟨D3, vs3, ns3, _, rfl, rfl, hi3, this.1, this.2⟩ (sub_of_fr (by assumption)) (led_of_news N3 (fun p hp => List.mem_singleton.mp hp ▸ .head _))
  | pair sec f =>
    obtain ⟨rfl, HT⟩ := HT
    refine' enter [("kind", .str "pair" tk), ("table", .ref tab)] S N X T' ?k6 ?k7 ?k8 ?k9 ?kB ?_ ?c2 ?c3 ?c4 ?c5
    ( (case k6 | k7 => k_is); (case k8 => k_room); (case k9 => first | exact BindsTo.of_eq rfl | exact binds_K (by first | assumption | exact Frag.In.keeps (by assumption) (Sub.keep (by assumption))) rfl (by k_is) rfl rfl rfl); (case c5 => decide); (case kB => exact locs rfl); (case c2 | c3 | c4 => exact rfl); intro _ _ _ _ _ _; (try dsimp only); (try k_fold))
    repeat' (first | (k_unfold; (try dsimp only)) | ((fail_if_success (first | (with_reducible show wpAny _ _ (call (Value.builtin "sorted") _) _ _ _) | (with_reducible show wpAny _ _ (call (Value.type "list") [Value.ref _]) _ _ _) | (with_reducible show wpAny _ _ (call (Value.type "set") _) _ _ _) | (with_reducible show wpAny _ _ (call (Value.ref _) _) _ _ _) | (with_reducible show wpAny _ _ (exec (Stmt.While _ _ _ _) _) _ _ _) | (with_reducible show wpAny _ _ (exec (Stmt.For _ _ _ _ _) _) _ _ _) | (with_reducible show wpAny _ _ (exec (Stmt.Assign [_] (Expr.ListComp _ _ _ _) _) _) _ _ _) | (with_reducible show wpAny _ _ (eval (Expr.ListComp _ _ _ _) _) _ _ _))); first | walk1 | (dsimp only; walk1)))
    refine' use0 (beg_pair_c HT) ?hdp ?hun ?F ?N ?X ?T ?hi ?_
    ( (case hdp | hun => kwd_inv); (case F | N | X | T => k_asm))
    (case hi => exact fun p hp => Or.inr (H0 p hp))
    rintro Gq hGq n1 v1 h1 tk1 mu1 ⟨B, vs, ns, c, rfl, rfl, hi1, hl1, hmem⟩
    refine hGq _ _ _ _ _ ?_
    clear hGq Gq
    rintro hlt1 hL1 F1 N1
    rw [List.append_nil] at N1
    repeat' (first | (k_unfold; (try dsimp only)) | ((fail_if_success (first | (with_reducible show wpAny _ _ (call (Value.builtin "sorted") _) _ _ _) | (with_reducible show wpAny _ _ (call (Value.type "list") [Value.ref _]) _ _ _) | (with_reducible show wpAny _ _ (call (Value.type "set") _) _ _ _) | (with_reducible show wpAny _ _ (call (Value.ref _) _) _ _ _) | (with_reducible show wpAny _ _ (exec (Stmt.While _ _ _ _) _) _ _ _) | (with_reducible show wpAny _ _ (exec (Stmt.For _ _ _ _ _) _) _ _ _) | (with_reducible show wpAny _ _ (exec (Stmt.Assign [_] (Expr.ListComp _ _ _ _) _) _) _ _ _) | (with_reducible show wpAny _ _ (eval (Expr.ListComp _ _ _ _) _) _ _ _))); first | walk1 | (dsimp only; walk1)))
    refine set_N rfl (by k_asm) (by k_asm) (by k_mem) hi1 (fun g hg => hb g ((hmem g).mp hg)) ?_
    intro S2 oS es ep ff mm h2 tk2 hmm hbit hS F2 N2
    repeat' (first | (k_unfold; (try dsimp only)) | ((fail_if_success (first | (with_reducible show wpAny _ _ (call (Value.builtin "sorted") _) _ _ _) | (with_reducible show wpAny _ _ (call (Value.type "list") [Value.ref _]) _ _ _) | (with_reducible show wpAny _ _ (call (Value.type "set") _) _ _ _) | (with_reducible show wpAny _ _ (call (Value.ref _) _) _ _ _) | (with_reducible show wpAny _ _ (exec (Stmt.While _ _ _ _) _) _ _ _) | (with_reducible show wpAny _ _ (exec (Stmt.For _ _ _ _ _) _) _ _ _) | (with_reducible show wpAny _ _ (exec (Stmt.Assign [_] (Expr.ListComp _ _ _ _) _) _) _ _ _) | (with_reducible show wpAny _ _ (eval (Expr.ListComp _ _ _ _) _) _ _ _))); first | walk1 | (dsimp only; walk1)))
    refine SmS.sorted6 rfl hmm (hS _ (News.get (by k_asm) (by k_mem))) (by k_asm) (by k_asm) ?_
    intro D3 h3 tk3 vs3 ns3 e3 F3 N3 _ hi3 hp3
    repeat' (first | (k_unfold; (try dsimp only)) | ((fail_if_success (first | (with_reducible show wpAny _ _ (call (Value.builtin "sorted") _) _ _ _) | (with_reducible show wpAny _ _ (call (Value.type "list") [Value.ref _]) _ _ _) | (with_reducible show wpAny _ _ (call (Value.type "set") _) _ _ _) | (with_reducible show wpAny _ _ (call (Value.ref _) _) _ _ _) | (with_reducible show wpAny _ _ (exec (Stmt.While _ _ _ _) _) _ _ _) | (with_reducible show wpAny _ _ (exec (Stmt.For _ _ _ _ _) _) _ _ _) | (with_reducible show wpAny _ _ (exec (Stmt.Assign [_] (Expr.ListComp _ _ _ _) _) _) _ _ _) | (with_reducible show wpAny _ _ (eval (Expr.ListComp _ _ _ _) _) _ _ _))); first | walk1 | (dsimp only; walk1)))
    have := fin mm _ ns3 hmm hmem hbit hp3
    exact k _ _ _ _ ⟨D3, vs3, ns3, _, rfl, rfl, hi3, this.1, this.2⟩ (sub_of_fr (by assumption)) (led_of_news N3 (fun p hp => List.mem_singleton.mp hp ▸ .head _))
end

/-! new objects of the text's classes -/
section
variable {prog : Program} {w : World}
theorem make_at {C fI : Addr} {lvl dp un : Nat} {fr : Option (List Env)} {gd : Option (List Code)} {s : Shared} {b : Heap} {args : List Value} {imm : Ledger} {PostI : Nat → Nat → Ledger → Prop} {R : Result → Shared → Prop}
    (G : Glo w b) (S : Sub b s.heap) (hm : makesIn (hd.heap_39 w.params) C = true) (hi : findIn (hd.heap_39 w.params) (.ref C) "__init__" = some (some (.ref fI))) (hf : typeIn (hd.heap_39 w.params) (.ref fI) = some (.type "function"))
    (CI : ∀ x dx : Nat, x ≠ dx → Calls prog w lvl (.ref fI) (.ref x :: args) imm [(x, instObj C dx), (dx, emptyDict)] (fun _ v mu' => v = .none ∧ PostI x dx mu')) (hdp : dp + 5 * (lvl + 1) < 900) (hun : un + 100 * (lvl + 1) < 9000) (H : Has b imm)
    (k : ∀ x dx h' tk mu', PostI x dx mu' → Sub b h' → Led b h' mu' → R (.ok (.ret (.ref x))) { s with heap := h', toks := tk }) :
    codeAny (model prog w) (ar dp un fr gd) (.call (.ref C) ⟨args, []⟩) R s := by
  have X' : (hd.heap_39 w.params).In s.heap := fun a o e => S.keep _ _ (G.X a o e)
  obtain ⟨hh, g, d, t, os⟩ := s
  refine make_core (makes_of X' hm) (looks_findIn X' hi) (fun self => bind_fn X' self hf) (.inl rfl) ?_
  have hsz := S.size
  simp only at hsz X' S
  have none_ge : ∀ a, hh.objs.size ≤ a → b.get? a = none := fun a ha => by
    cases e : b.get? a with
    | none => rfl
    | some o => have := Heap.lt_size e; exact absurd (Nat.lt_of_lt_of_le this (Nat.le_trans hsz ha)) (Nat.lt_irrefl _)
  have up : ∀ a o, hh.get? a = some o → ((hh.push emptyDict).push (instObj C hh.objs.size)).get? a = some o := fun a o e => Heap.get?_push_of_some _ (Heap.get?_push_of_some _ e)
  have e1 : ((hh.push emptyDict).push (instObj C hh.objs.size)).get? (hh.objs.size + 1) = some (instObj C hh.objs.size) := by heap_get
  have e2 : ((hh.push emptyDict).push (instObj C hh.objs.size)).get? hh.objs.size = some emptyDict := by heap_get
  have hu1 : ((ar dp un fr gd).under (.builtin "type.__call__" ⟨.ref C :: args, []⟩)).units = un + 1 := rfl
  have hC := CI (hh.objs.size + 1) hh.objs.size (Nat.succ_ne_self _) (dp + 1) ((ar dp un fr gd).under (.builtin "type.__call__" ⟨.ref C :: args, []⟩)).units ((ar dp un fr gd).under (.builtin "type.__call__" ⟨.ref C :: args, []⟩)).frames ((ar dp un fr gd).under (.builtin "type.__call__" ⟨.ref C :: args, []⟩)).guards ⟨(hh.push emptyDict).push (instObj C hh.objs.size), g, d, t, os⟩ b (InitBack (hh.objs.size + 1) R) (by omega) (by rw [hu1]; omega)
    ⟨by simp only [Heap.size_push]; exact Nat.le_succ_of_le (Nat.le_succ_of_le hsz), fun a o e => up _ _ (S.keep _ _ e)⟩ G H (fun p hp => by
      rcases List.mem_cons.mp hp with rfl | hp
      · exact ⟨e1, none_ge _ (Nat.le_succ _)⟩
      · rw [List.mem_singleton.mp hp]; exact ⟨e2, none_ge _ (Nat.le_refl _)⟩)
    (fun v h' tk mu' hP S' L' => by obtain ⟨rfl, hP⟩ := hP; exact ⟨rfl, k _ _ h' tk mu' hP S' L'⟩)
  exact hC
end
section
variable {prog : Program} {w : World}
theorem scene_init_c {x dx buf gd lks lk : Nat} {t : Tok} (hx : x ≠ dx) :
    Calls prog w 1 (.ref 62) [.ref x, .ref buf, .ref gd, .ref lks, .ref lk, .int 1 t] [] [(x, instObj 65 dx), (dx, emptyDict)] (fun _ v mu' => v = .none ∧ ∃ (st : Nat) (o : Obj) (ks : Nat → Tok), mu' = [(st, o), (x, instObj 65 dx), (dx, dictOf [ent w.params "buffer" (ks 0) (.ref buf), ent w.params "gdef" (ks 1) (.ref gd), ent w.params "lookups" (ks 2) (.ref lks), ent w.params "lookup" (ks 3) (.ref lk), ent w.params "mask" (ks 4) (.int 1 (ks 5)), ent w.params "depth" (ks 6) (.int 0 (ks 7)), ent w.params "steps" (ks 8) (.ref st)] 7)]) := by
  intro dp un fr gds s b R hdp hun S G H0 N k
  obtain ⟨X, p, loose, mean, mg, mb, T⟩ := G
  refine' enter [("self", .ref x), ("buffer", .ref buf), ("gdef", .ref gd), ("lookups", .ref lks), ("lookup", .ref lk), ("mask", .int 1 t), ("depth", .int 0 259)] S N X T ?k6 ?k7 ?k8 ?k9 ?kB ?_ ?c2 ?c3 ?c4 ?c5
  ( (case k6 | k7 => k_is); (case k8 => k_room); (case k9 => first | exact BindsTo.of_eq rfl | exact binds_K (by first | assumption | exact Frag.In.keeps (by assumption) (Sub.keep (by assumption))) rfl (by k_is) rfl rfl rfl); (case c5 => decide); (case kB => exact locs rfl); (case c2 | c3 | c4 => exact rfl); intro _ _ _ _ _ _; (try dsimp only); (try k_fold))
  repeat' (first | (k_unfold; (try dsimp only)) | walk1 | (dsimp only; walk1))
  have fin : ∀ (st : Nat) (o : Obj) (ks : Nat → Tok) l, l = [(st, o), (x, instObj 65 dx), (dx, dictOf [ent w.params "buffer" (ks 0) (.ref buf), ent w.params "gdef" (ks 1) (.ref gd), ent w.params "lookups" (ks 2) (.ref lks), ent w.params "lookup" (ks 3) (.ref lk), ent w.params "mask" (ks 4) (.int 1 (ks 5)), ent w.params "depth" (ks 6) (.int 0 (ks 7)), ent w.params "steps" (ks 8) (.ref st)] 7)] → ∀ h' tk, Sub b h' → Led b h' l → R (.ok (.ret .none)) { s with heap := h', toks := tk } := fun st o ks l e h' tk S' L' => k _ _ _ _ ⟨rfl, st, o, ks, e⟩ S' L'
  exact fin _ _ (fun i => if i = 0 then _ else if i = 1 then _ else if i = 2 then _ else if i = 3 then _ else if i = 4 then _ else if i = 5 then _ else if i = 6 then _ else if i = 7 then _ else _) _ rfl _ _ (sub_of_fr (by assumption)) (led_of_news (by assumption) (fun _ hp => hp))
end
section
variable {prog : Program} {w : World}
theorem scene_c {buf gd lks lk : Nat} {t : Tok} :
    Calls prog w 2 (.ref 65) [.ref buf, .ref gd, .ref lks, .ref lk, .int 1 t] [] [] (fun _ v mu' => ∃ (x dx st : Nat) (o : Obj) (ks : Nat → Tok), v = .ref x ∧ mu' = [(st, o), (x, instObj 65 dx), (dx, dictOf [ent w.params "buffer" (ks 0) (.ref buf), ent w.params "gdef" (ks 1) (.ref gd), ent w.params "lookups" (ks 2) (.ref lks), ent w.params "lookup" (ks 3) (.ref lk), ent w.params "mask" (ks 4) (.int 1 (ks 5)), ent w.params "depth" (ks 6) (.int 0 (ks 7)), ent w.params "steps" (ks 8) (.ref st)] 7)]) := by
  intro dp un fr gds s b R hdp hun S G H0 N k
  have X := G.X
  refine make_at G S (by k_is) (by k_is) (by k_is) (fun x dx h => scene_init_c h) (by exact hdp) (by exact hun) (fun _ h => nomatch h) ?_
  rintro x dx h' tk mu' ⟨st, o, ks, rfl⟩ S' L'
  exact k _ _ _ _ ⟨x, dx, st, o, ks, rfl, rfl⟩ S' L'
end

section
variable {prog : Program} {w : World} {p : Program} {loose : List Str} {mean : ExcName → Option Value} {mg mb : Str → Option Value}
/-- a call that changes nothing at hand; what it makes is new -/
theorem use0N {b : Heap} {L : Addr} {m : Str → Option Value} {news imm : Ledger} {Post : Nat → Value → Ledger → Prop} {lvl dp un : Nat} {fr : Option (List Env)} {gd : Option (List Code)} {s : Shared} {f : Value} {args : List Value}
    {Q : Value → Shared → Prop} {E : Value → Shared → Prop}
    (C : Calls prog w lvl f args imm [] Post) (hdp : dp + 5 * lvl < 900) (hun : un + 100 * lvl < 9000)
    (F : Fr b L s.heap m) (N : News b L s.heap news) (X : (hd.heap_39 w.params).In b) (T : Top p loose mean mg mb b)
    (hi : ∀ p ∈ imm, p ∈ news ∨ b.get? p.1 = some p.2)
    (k : ∀ G : Nat → Value → Heap → Nat → Ledger → Prop, (∀ n₀ v h' tk mu', ((∀ p ∈ mu', ∀ q ∈ news, @Ne Nat p.1 q.1) → Fr b L h' m → News b L h' (mu' ++ news) → Q v { s with heap := h', toks := tk }) → G n₀ v h' tk mu') → ∀ n₀ v h' tk mu', Post n₀ v mu' → G n₀ v h' tk mu') :
    wpAny (model prog w) (ar dp un fr gd) (call f args) Q E s := by
  have k := k _ fun _ _ _ _ _ x => x
  have G : Glo w s.heap := (Glo.mk X ⟨_, _, _, _, _, T⟩).keeps F.keep
  refine wpAny_call (C dp un fr gd s s.heap _ hdp hun ⟨Nat.le_refl _, fun _ _ e => e⟩ G (fun p hp => (hi p hp).elim (fun h => (N p h).1) fun h => F.keep _ _ h) Led.nil fun v h' tk mu' hP S' L' => ?_)
  obtain ⟨oL, es, ep, hL, hr'⟩ := F.ns
  refine k s.heap.objs.size v h' tk mu' hP (fun p hp q hq e => ?_) ⟨⟨oL, es, ep, S'.keep _ _ hL, hr'⟩, fun a o e => S'.keep _ _ (F.keep a o e), F.above⟩ fun p hp => ?_
  · have h1 := (L' p hp).2
    rw [show p.1 = q.1 from e, (N q hq).1] at h1; cases h1
  · rcases List.mem_append.mp hp with hp | hp
    · refine ⟨(L' p hp).1, fun q => ?_, ?_⟩
      · have h1 := (L' p hp).2; rw [q, hL] at h1; cases h1
      · cases q : b.get? p.1 with
        | none => rfl
        | some o => have h1 := (L' p hp).2; rw [F.keep _ _ q] at h1; cases h1
    · exact ⟨S'.keep _ _ (N p hp).1, (N p hp).2⟩
end

/-! a run along a row -/
noncomputable def gm (rs : List Rec) : List (Int × Int) := rs.map fun r => (r.g, r.mask)
theorem gm_addAt {rs : List Rec} {k : Nat} {u : VR} : gm (addAt rs k u) = gm rs := by
  unfold addAt
  cases h : rs[k]? with
  | none => rfl
  | some r =>
    dsimp only
    unfold gm
    rw [List.map_set]
    apply List.ext_getElem?
    intro j
    rw [List.getElem?_set]
    split
    · rename_i e
      subst e
      have hl := (List.getElem?_eq_some_iff.mp h).1
      have h2 := (List.getElem?_eq_some_iff.mp h).2
      simp [hl, Rec.add, h2]
    · rfl
theorem gm_markR {M : Int} {i j : Nat} {rs : List Rec} : gm (markR M i j rs) = gm rs := by
  unfold gm markR
  apply List.ext_getElem?
  intro k
  simp only [List.getElem?_map, List.getElem?_mapIdx, Option.map_map]
  cases rs[k]? with
  | none => rfl
  | some r =>
    simp only [Option.map_some, Function.comp]
    split <;> rfl
theorem gm_step {flag : Int} {cls : Int → Int} {rs : List Rec} {a : Int} {t : Tab} : gm (t.step flag cls rs a).2 = gm rs := by
  cases t with
  | adj f =>
    simp only [Tab.step]
    split
    · split
      · exact gm_addAt
      · rfl
    · rfl
  | pair sec f =>
    simp only [Tab.step]
    split
    · split
      · rfl
      · split
        · simp only [gm_addAt, hungR, gm_markR]
        · rfl
    · rfl
theorem gm_posAt {flag : Int} {cls : Int → Int} {rs : List Rec} {a : Int} : ∀ {ts : List Tab}, gm (posAt flag cls rs a ts).2 = gm rs
  | [] => rfl
  | t :: ts => by
    unfold posAt
    split
    · exact gm_step
    · exact gm_posAt
noncomputable def has1 (ts : List Tab) (g : Int) : Prop := ∃ t ∈ ts, t.has g
open Classical in
noncomputable def stepAt (flag : Int) (cls : Int → Int) (ts : List Tab) (rs : List Rec) (a : Int) (r : Rec) : Int × List Rec :=
  if has1 ts r.g ∧ r.mask ≠ 2 ∧ ign flag (cls r.g) = false then posAt flag cls rs a ts else (-1, rs)
inductive Run (st : List Rec → Int → Rec → Int × List Rec) : Int → List Rec → List Rec → Prop
  | stop {a : Int} {rs : List Rec} : (rs.length : Int) ≤ a → Run st a rs rs
  | step {a : Int} {rs out : List Rec} {r : Rec} : 0 ≤ a → rs[a.toNat]? = some r → Run st (max (st rs a r).1 (a + 1)) (st rs a r).2 out → Run st a rs out
theorem Run.det {st : List Rec → Int → Rec → Int × List Rec} {a : Int} {rs x y : List Rec} (h : Run st a rs x) (h' : Run st a rs y) : x = y := by
  induction h generalizing y with
  | stop hl =>
    cases h' with
    | stop _ => rfl
    | step h0 hr _ => have := (List.getElem?_eq_some_iff.mp hr).1; exact absurd ((Int.toNat_lt h0).mp this) (Int.not_lt.mpr hl)
  | step h0 hr _ ih =>
    cases h' with
    | stop hl => have := (List.getElem?_eq_some_iff.mp hr).1; exact absurd ((Int.toNat_lt h0).mp this) (Int.not_lt.mpr hl)
    | step h0' hr' h'' =>
      rw [hr] at hr'
      cases hr'
      exact ih h''
noncomputable def Sc.rest (P : Params) (z : Sc) (rows : List IR) : Ledger := bufLed P z.buf z.dbuf z.rowl z.kb ++ ((z.rowl, listOf (refs rows).toArray z.nrow) :: (z.gled P ++ z.lled P))
theorem led_rest {P : Params} {z : Sc} {rows : List IR} : z.led P rows = sceneLed P z ++ z.rest P rows := rfl
/-- the keys known -/
structure KnownO (prog : Program) (w : World) (o : Obj) (K : Int → Prop) (n : Nat) : Prop where
  ex : ∃ kvs D, o.IsDictOf (PySem.intKind prog w) kvs ∧ PyProof.V.FlatPairs PyData.int kvs D ∧ kvs.length ≤ n ∧ ∀ g, g ∈ kvs.map (·.1) ↔ K g
theorem KnownO.iff {prog : Program} {w : World} {o : Obj} {K K' : Int → Prop} {n n' : Nat} (h : KnownO prog w o K n) (e : ∀ g, K g ↔ K' g) (hn : n ≤ n') : KnownO prog w o K' n' := by
  obtain ⟨⟨kvs, D, h1, h2, h3, h4⟩⟩ := h
  exact ⟨⟨kvs, D, h1, h2, Nat.le_trans h3 hn, fun g => (h4 g).trans (e g)⟩⟩
theorem mem_stored {kvs : List (Int × Value)} {k g : Int} {v : Value} : g ∈ (stored kvs k v).map (·.1) ↔ g ∈ kvs.map (·.1) ∨ g = k := by
  unfold stored
  split
  · rename_i h
    rw [List.map_map]
    have e : ((fun x : Int × Value => x.1) ∘ fun kv : Int × Value => if kv.1 = k then (kv.1, v) else kv) = fun x => x.1 := by
      funext x; simp only [Function.comp]; split <;> rfl
    rw [e]
    refine ⟨.inl, fun h' => h'.elim id fun e2 => ?_⟩
    subst e2
    obtain ⟨x, hx, hk⟩ := List.any_eq_true.mp h
    exact List.mem_map.mpr ⟨x, hx, by simpa using hk⟩
  · rw [List.map_append, List.mem_append]; simp
theorem len_stored {kvs : List (Int × Value)} {k : Int} {v : Value} : (stored kvs k v).length ≤ kvs.length + 1 := by
  unfold stored; split <;> simp
section
variable {prog : Program} {w : World}
theorem n3 {x i f : Str} {A I Fo A' o1 o2 : Option Value} {m : Str → Option Value} : (fun y => if y = x then A else if y = i then I else if y = f then Fo else if y = x then A' else if y = i then o1 else if y = f then o2 else m y) = fun y => if y = x then A else if y = i then I else if y = f then Fo else m y := by
  funext y
  by_cases h1 : y = x <;> by_cases h2 : y = i <;> by_cases h3 : y = f <;> simp [h1, h2, h3]
theorem n4 {x i f : Str} (hfi : f ≠ i) {A I Fo Fo' A' o1 o2 : Option Value} {m : Str → Option Value} : (fun y => if y = x then A else if y = f then Fo else if y = i then I else if y = f then Fo' else if y = x then A' else if y = i then o1 else if y = f then o2 else m y) = fun y => if y = x then A else if y = i then I else if y = f then Fo else m y := by
  funext y
  by_cases h1 : y = x
  · simp [h1]
  · by_cases h2 : y = i
    · have : y ≠ f := fun e => hfi (e ▸ h2)
      simp [h1, h2, this, hfi.symm]
    · by_cases h3 : y = f
      · have : f ≠ x := fun e => h1 (h3.trans e)
        simp [h3, this, hfi]
      · simp [h1, h2, h3]
theorem gm_mem {a b : List Rec} (h : gm a = gm b) {r : Rec} (hr : r ∈ a) : ∃ r' ∈ b, r.g = r'.g ∧ r.mask = r'.mask := by
  have : (r.g, r.mask) ∈ gm b := h ▸ List.mem_map_of_mem hr
  obtain ⟨r', hr', e⟩ := List.mem_map.mp this
  exact ⟨r', hr', (congrArg Prod.fst e).symm, (congrArg Prod.snd e).symm⟩
theorem start3 {x y z : Str} {A : Option Value} {m : Str → Option Value} (hy : m y = none) (hz : m z = none) : (fun w => if w = x then A else m w) = fun w => if w = x then A else if w = y then none else if w = z then none else m w := by
  funext w
  by_cases h1 : w = x
  · simp [h1]
  · by_cases h2 : w = y
    · subst h2; simp [h1, hy]
    · by_cases h3 : w = z
      · subst h3; simp [h1, h2, hz]
      · simp [h1, h2, h3]
theorem known_put {A : Around} {E : Value → Shared → Prop} {s : Shared} {b : Heap} {L d : Addr} {m : Str → Option Value} {news : Ledger} {g : Obj → Ledger} {o : Obj} {K : Int → Prop} {n : Nat} {k : Int} {t : Tok} {Q : Unit → Shared → Prop}
    (F : Fr b L s.heap m) (N : News b L s.heap news) (U : UpdF d o news g) (hK : KnownO prog w o K n) (hn : n ≤ 1000)
    (h : ∀ h' o' tk, Fr b L h' m → News b L h' (g o') → KnownO prog w o' (fun y => K y ∨ y = k) (n + 1) → Q () { s with heap := h', toks := tk }) :
    wpAny (model prog w) A (setItem (.ref d) (.int k t) (.bool true)) Q E s := by
  obtain ⟨kvs, D, hd, hf, hl, hm⟩ := hK
  refine setItem_K PyProof.V.same_int (intKind_is _ _ _ _) (.bool true) F N U hd hf (fun h' o' F' N' hd' hf' => h h' o' _ F' N' ⟨_, _, hd', hf', Nat.le_trans len_stored (by exact Nat.succ_le_succ hl), fun y => by rw [mem_stored, hm]⟩) ?_
  have hfl := hf.length
  rw [sizeLine_eq]; exact Nat.le_trans (Nat.le_of_eq hfl) (Nat.le_trans hl (o_le hn rfl))
theorem known_in {A : Around} {E : Value → Shared → Prop} {s : Shared} {d : Addr} {o : Obj} {K : Int → Prop} {n : Nat} {k : Int} {t : Tok} {Q : Value → Shared → Prop} (ho : s.heap.get? d = some o) (lo : NotSys d) (hK : KnownO prog w o K n)
    (h : ∀ bb : Bool, (bb = true ↔ K k) → Q (.bool bb) { s with toks := s.toks + 1 }) : wpAny (model prog w) A (compareOp .In (.int k t) (.ref d)) Q E s := by
  obtain ⟨kvs, D, hd, hf, hl, hm⟩ := hK
  have hD : s.heap.DictOf (PySem.intKind prog w) d kvs := Heap.dictOf_iff.mpr ⟨o, ho, hd⟩
  refine wpAny_in_of (intKind_is _ _ _ _) lo hD.mapOf (h _ ?_)
  rw [← hm, mem_valueAt]
theorem known_nil {o : Obj} {K' : Type} [DecidableEq K'] {knd' : KeyKind prog w K'} (hd : o.IsDictOf knd' []) : KnownO prog w o (fun _ => False) 0 := by
  obtain ⟨es, ep, hc, hdat, hk, hp, hn⟩ := hd
  have he : es.toList = [] := List.length_eq_zero_iff.mp hp.length
  have he' : es = #[] := Array.toList_inj.mp he
  subst he'
  refine ⟨[], [], ⟨#[], ep, hc, hdat, ?_, .nil, .nil⟩, .nil, Nat.le_refl _, fun g => by simp⟩
  intro e h
  simp at h
theorem run_position_c {z : Sc} {rows : List IR} {src : Ledger} {lks nl : Nat} {tts : List (Nat × Tab)} {nt : Nat} {cls : Int → Int} {t t2 : Tok} (HT : ∀ x ∈ tts, TabIs prog w src z.kind x.1 x.2) (hb : ∀ x ∈ tts, ∀ g, x.2.has g → 0 ≤ g ∧ g < 6) (htb : (z.tbl, listOf (tts.map fun x => Value.ref x.1).toArray nt) ∈ src) (hz : tts.length ≤ 9) (HF : Fine prog w z rows cls) (hmk : ∀ r ∈ dataOf rows, r.mask = 1 ∨ r.mask = 2 ∨ r.mask = 3) :
    Calls prog w 12 (.ref 692) [.ref z.buf, .ref z.gd, .ref lks, .int 0 t, .int 1 t2] ((z.rest w.params rows ++ [(lks, listOf [Value.ref z.lk].toArray nl)]) ++ src) (rowsLed w.params rows) (fun _ v mu' => v = .none ∧ ∃ out, Run (stepAt z.flag cls (tts.map (·.2))) 0 (dataOf rows) out ∧ RowsPost w.params rows out mu') := by
  intro dp un fr gds s b R hdp hun S G H0 N k
  obtain ⟨X, p, loose, mean, mg, mb, T'⟩ := G
  have HZ : Has b (z.rest w.params rows) := H0.left.left
  have hlk := H0.left.right.c.1
  have HS : Has b src := H0.right
  have HB : Has b (bufLed w.params z.buf z.dbuf z.rowl z.kb) := HZ.left
  have I2 := inst_has HB.c.1 HB.c.2.c.1
  have hrow := HZ.right.c.1
  have HL : Has b (z.lled w.params) := HZ.right.c.2.right
  have I4 := inst_has HL.c.1 HL.c.2.c.1
  have hTb := HS _ htb
  have hlx : [Value.ref z.lk][(0 : Int).toNat]? = some (.ref z.lk) := rfl
  refine' enter [("buffer", .ref z.buf), ("gdef", .ref z.gd), ("lookups", .ref lks), ("number", .int 0 t), ("mask", .int 1 t2)] S N X T' ?k6 ?k7 ?k8 ?k9 ?kB ?_ ?c2 ?c3 ?c4 ?c5
  ( (case k6 | k7 => k_is); (case k8 => k_room); (case k9 => first | exact BindsTo.of_eq rfl | exact binds_K (by first | assumption | exact Frag.In.keeps (by assumption) (Sub.keep (by assumption))) rfl (by k_is) rfl rfl rfl); (case c5 => decide); (case kB => exact locs rfl); (case c2 | c3 | c4 => exact rfl); intro _ _ _ _ _ _; (try dsimp only); (try k_fold))
  repeat' (first | (k_unfold; (try dsimp only)) | ((fail_if_success (first | (with_reducible show wpAny _ _ (call (Value.ref _) _) _ _ _) | (with_reducible show wpAny _ _ (exec (Stmt.While _ _ _ _) _) _ _ _) | (with_reducible show wpAny _ _ (exec (Stmt.For _ _ _ _ _) _) _ _ _))); first | walk1 | (dsimp only; walk1)))
  rename_i hq1 kn hq2 oK0 ltK loK hsK fsK hiK fiK hq3 FA NA
  have hK0 : KnownO prog w oK0 (fun g => ∃ x ∈ tts.take 0, x.2.has g) (6 * 0) := by
    have := known_nil hiK
    obtain ⟨⟨kvs, D, h1, h2, h3, h4⟩⟩ := this
    exact ⟨⟨kvs, D, h1, h2, h3, fun g => by rw [h4]; simp⟩⟩
  clear hsK fsK hiK fiK
  have hrk : ∀ p ∈ rowsLed w.params rows, p.1 ≠ kn := fun p hp => Nat.ne_of_lt (ltK p hp)
  refine For_invV b (by rfl) (by rfl) ?_
  repeat' (first | (k_unfold; (try dsimp only)) | ((fail_if_success (first | (with_reducible show wpAny _ _ (call (Value.ref _) _) _ _ _) | (with_reducible show wpAny _ _ (exec (Stmt.While _ _ _ _) _) _ _ _) | (with_reducible show wpAny _ _ (exec (Stmt.For _ _ _ _ _) _) _ _ _))); first | walk1 | (dsimp only; walk1)))
  refine iter_listG (fun c m nw => (∃ o v : Option Value, m = fun y => if y = Str.ofString "glyph" then o else if y = Str.ofString "table" then v else (fun y => if y = Str.ofString "known" then some (Value.ref kn) else if y = Str.ofString "lookup" then some (Value.ref z.lk) else List.lookup y [(Str.ofString "buffer", Value.ref z.buf), (Str.ofString "gdef", Value.ref z.gd), (Str.ofString "lookups", Value.ref lks), (Str.ofString "number", Value.int 0 t), (Str.ofString "mask", Value.int 1 t2)].reverse) y) ∧ ∃ oK, nw = (kn, oK) :: rowsLed w.params rows ∧ KnownO prog w oK (fun g => ∃ x ∈ tts.take c, x.2.has g) (6 * c))
    rfl (by assumption) NA (.inl hTb) ⟨⟨none, none, swap0 rfl rfl⟩, oK0, rfl, hK0⟩ ?_ ?_
  · rintro c v I oI h tk hv Jq Gq hGq m1 nw ⟨⟨o, v', rfl⟩, oK, rfl, hK⟩
    refine hGq _ _ ?_
    clear hGq Gq
    rintro hnI hAll F3 N3 hJq
    rw [swap2 (by decide)] at F3
    have hc : c < tts.length := by simpa using (List.getElem?_eq_some_iff.mp hv).1
    obtain ⟨x, hx⟩ : ∃ x, tts[c]? = some x := ⟨tts[c], List.getElem?_eq_getElem hc⟩
    obtain rfl : v = .ref x.1 := by
      rw [List.getElem?_map, hx] at hv
      exact (Option.some.inj hv).symm
    have hxm := List.mem_of_getElem? hx
    have hIk : @Ne Nat I kn := (hnI (kn, oK) (.head _)).symm
    repeat' (first | (k_unfold; (try dsimp only)) | ((fail_if_success (first | (with_reducible show wpAny _ _ (call (Value.ref _) _) _ _ _) | (with_reducible show wpAny _ _ (exec (Stmt.While _ _ _ _) _) _ _ _) | (with_reducible show wpAny _ _ (exec (Stmt.For _ _ _ _ _) _) _ _ _))); first | walk1 | (dsimp only; walk1)))
    refine For_invV b (by rfl) (by rfl) ?_
    repeat' (first | (k_unfold; (try dsimp only)) | ((fail_if_success (first | (with_reducible show wpAny _ _ (call (Value.ref _) _) _ _ _) | (with_reducible show wpAny _ _ (exec (Stmt.While _ _ _ _) _) _ _ _) | (with_reducible show wpAny _ _ (exec (Stmt.For _ _ _ _ _) _) _ _ _))); first | walk1 | (dsimp only; walk1)))
    refine' use0 (beginnings_c (HT x hxm) (hb x hxm)) ?hdp ?hun ?F ?N ?X ?T ?hi ?_
    ( (case hdp | hun => kwd_inv); (case F | N | X | T => k_asm))
    (case hi => exact fun p hp => Or.inr (HS p hp))
    rintro Gq hGq n1 _ h1 tk1 _ ⟨D, vs, ns, cc, rfl, rfl, hi1, hl1, hmem⟩
    refine hGq _ _ _ _ _ ?_
    clear hGq Gq
    rintro hlt1 hL1 F4 N4
    have hDk : @Ne Nat D kn := fun e => by
      have e1 := (N4 (D, listOf vs.toArray cc) (List.mem_append_left _ (.head _))).1
      have e2 := (N4 (kn, oK) (List.mem_append_right _ (.tail _ (.head _)))).1
      obtain ⟨⟨kvs, D', ⟨es, ep, hex, -⟩, -⟩⟩ := hK
      rw [show D = kn from e] at e1
      have e3 : listOf vs.toArray cc = oK := Option.some.inj (e1.symm.trans e2)
      rw [← e3] at hex
      have e4 := hex.1
      injection e4 with h'
      exact absurd h' (by decide)
    repeat' (first | (k_unfold; (try dsimp only)) | ((fail_if_success (first | (with_reducible show wpAny _ _ (call (Value.ref _) _) _ _ _) | (with_reducible show wpAny _ _ (exec (Stmt.While _ _ _ _) _) _ _ _) | (with_reducible show wpAny _ _ (exec (Stmt.For _ _ _ _ _) _) _ _ _))); first | walk1 | (dsimp only; walk1)))
    refine iter_listG (fun i m nw => (∃ o : Option Value, m = fun y => if y = Str.ofString "glyph" then o else if y = Str.ofString "table" then some (.ref x.1) else (fun y => if y = Str.ofString "known" then some (Value.ref kn) else if y = Str.ofString "lookup" then some (Value.ref z.lk) else List.lookup y [(Str.ofString "buffer", Value.ref z.buf), (Str.ofString "gdef", Value.ref z.gd), (Str.ofString "lookups", Value.ref lks), (Str.ofString "number", Value.int 0 t), (Str.ofString "mask", Value.int 1 t2)].reverse) y) ∧ ∃ oK, nw = (D, listOf vs.toArray cc) :: (I, oI) :: (kn, oK) :: rowsLed w.params rows ∧ KnownO prog w oK (fun g => (∃ x ∈ tts.take c, x.2.has g) ∨ g ∈ ns.take i) (6 * c + i))
      rfl (by assumption) N4 (.inr (.head _)) ⟨⟨o, rfl⟩, oK, rfl, ?_⟩ ?_ ?_
    · obtain ⟨⟨kvs, D', g1, g2, g3, g4⟩⟩ := hK
      exact ⟨⟨kvs, D', g1, g2, g3, fun g => by rw [g4]; simp⟩⟩
    · rintro i v I2 oI2 h2 tk2 hv2 Jq Gq hGq m2 nw2 ⟨⟨o2, rfl⟩, oK2, rfl, hK2⟩
      refine hGq _ _ ?_
      clear hGq Gq
      rintro hnI2 hAll2 F5 N5 hJq
      obtain ⟨tv, rfl⟩ := PyProof.Rows.IntsAre.int_at hi1 i v hv2
      have hi2 : i < ns.length := by rw [← hi1.length]; exact (List.getElem?_eq_some_iff.mp hv2).1
      rw [upd_in] at F5
      repeat' (first | (k_unfold; (try dsimp only)) | ((fail_if_success (first | (with_reducible show wpAny _ _ (call (Value.ref _) _) _ _ _) | (with_reducible show wpAny _ _ (exec (Stmt.While _ _ _ _) _) _ _ _) | (with_reducible show wpAny _ _ (exec (Stmt.For _ _ _ _ _) _) _ _ _))); first | walk1 | (dsimp only; walk1)))
      refine known_put (by k_asm) N5 (.tail (hnI2 (kn, oK2) (.tail _ (.tail _ (.head _)))).symm (.tail hDk (.tail hIk (.head hrk)))) hK2 (by exact Nat.le_trans (Nat.add_le_add (Nat.mul_le_mul_left 6 (Nat.le_trans (Nat.le_of_lt hc) hz)) (Nat.le_trans (Nat.le_of_lt hi2) hl1)) (by decide)) ?_
      intro h3 oK3 tk3 F6 N6 hK3
      repeat' (first | (k_unfold; (try dsimp only)) | ((fail_if_success (first | (with_reducible show wpAny _ _ (call (Value.ref _) _) _ _ _) | (with_reducible show wpAny _ _ (exec (Stmt.While _ _ _ _) _) _ _ _) | (with_reducible show wpAny _ _ (exec (Stmt.For _ _ _ _ _) _) _ _ _))); first | walk1 | (dsimp only; walk1)))
      refine turn_end (news' := (D, listOf vs.toArray cc) :: (I, oI) :: (kn, oK3) :: rowsLed w.params rows) (.inl rfl) F6 N6 (fun p hp => hp) (fun p hp => ?_) (fun p hp => .inr (List.mem_singleton.mp hp ▸ .head _)) (hJq _ _ ⟨⟨_, rfl⟩, oK3, rfl, hK3.iff (fun g => ?_) (by exact Nat.le_refl _)⟩)
      · rcases List.mem_cons.mp hp with h | hp
        · exact hnI2 p (h ▸ .head _)
        rcases List.mem_cons.mp hp with h | hp
        · exact hnI2 p (h ▸ .tail _ (.head _))
        rcases List.mem_cons.mp hp with h | hp
        · rw [h]; exact hnI2 (kn, oK2) (.tail _ (.tail _ (.head _)))
        · exact hnI2 p (.tail _ (.tail _ (.tail _ hp)))
      · rw [List.take_add_one, List.mem_append, List.getElem?_eq_getElem hi2, show ns.getD i 0 = ns[i] by simp [hi2]]
        simp only [Option.toList_some, List.mem_singleton, or_assoc]
    · rintro h2 tk2 Gq hGq m2 nw2 ⟨⟨o2, rfl⟩, oK2, rfl, hK2⟩
      refine hGq _ _ ?_
      clear hGq Gq
      rintro F5 N5
      dsimp only
      repeat' (first | (k_unfold; (try dsimp only)) | ((fail_if_success (first | (with_reducible show wpAny _ _ (call (Value.ref _) _) _ _ _) | (with_reducible show wpAny _ _ (exec (Stmt.While _ _ _ _) _) _ _ _) | (with_reducible show wpAny _ _ (exec (Stmt.For _ _ _ _ _) _) _ _ _))); first | walk1 | (dsimp only; walk1)))
      rw [List.take_of_length_le (Nat.le_of_eq hi1.length.symm)] at hK2
      refine turn_end (news' := (kn, oK2) :: rowsLed w.params rows) (.inl rfl) F5 N5 (fun p hp => .tail _ hp) (fun p hp => ?_) (fun p hp => .inl (List.mem_singleton.mp hp ▸ hTb)) (hJq _ _ ⟨⟨_, _, rfl⟩, oK2, rfl, hK2.iff (fun g => ?_) (by have := hi1.length; exact Nat.add_le_add_left (Nat.le_trans (Nat.le_of_eq this) hl1) _)⟩)
      · rcases List.mem_cons.mp hp with h | hp
        · rw [h]; exact hnI (kn, oK) (.head _)
        · exact hnI p (.tail _ hp)
      · rw [List.take_add_one, hx, hmem]
        simp only [Option.toList_some, List.mem_append, List.mem_singleton]
        constructor
        · rintro (⟨y, hy, h⟩ | h)
          · exact ⟨y, .inl hy, h⟩
          · exact ⟨x, .inr rfl, h⟩
        · rintro ⟨y, hy | rfl, h⟩
          · exact .inl ⟨y, hy, h⟩
          · exact .inr h
  · rintro h tk Gq hGq m1 nw ⟨⟨o, v', rfl⟩, oK, rfl, hK⟩
    refine hGq _ _ ?_
    clear hGq Gq
    rintro F3 N3
    rw [List.take_of_length_le (by simp)] at hK
    dsimp only
    repeat' (first | (k_unfold; (try dsimp only)) | ((fail_if_success (first | (with_reducible show wpAny _ _ (call (Value.ref _) _) _ _ _) | (with_reducible show wpAny _ _ (exec (Stmt.While _ _ _ _) _) _ _ _) | (with_reducible show wpAny _ _ (exec (Stmt.For _ _ _ _ _) _) _ _ _))); first | walk1 | (dsimp only; walk1)))
    refine' use0N scene_c ?hdp ?hun ?F ?N ?X ?T ?hi ?_
    ( (case hdp | hun => kwd_inv); (case F | N | X | T => k_asm))
    (case hi => exact fun p hp => nomatch hp)
    rintro Gq hGq n1 _ h1 tk1 _ ⟨sx, sdx, st, oSt, ks, rfl, rfl⟩
    refine hGq _ _ _ _ _ ?_
    clear hGq Gq
    rintro hnew F4 N4
    have hoff : ∀ a ∈ adrs rows, @Ne Nat st a ∧ @Ne Nat sx a ∧ @Ne Nat sdx a ∧ @Ne Nat kn a := fun a ha => by
      obtain ⟨p, hp, rfl⟩ := adrs_mem (P := w.params) ha
      exact ⟨hnew _ (.head _) p (.tail _ hp), hnew _ (.tail _ (.head _)) p (.tail _ hp), hnew _ (.tail _ (.tail _ (.head _))) p (.tail _ hp), (hrk p hp).symm⟩
    repeat' (first | (k_unfold; (try dsimp only)) | ((fail_if_success (first | (with_reducible show wpAny _ _ (call (Value.ref _) _) _ _ _) | (with_reducible show wpAny _ _ (exec (Stmt.While _ _ _ _) _) _ _ _) | (with_reducible show wpAny _ _ (exec (Stmt.For _ _ _ _ _) _) _ _ _))); first | walk1 | (dsimp only; walk1)))
    refine While_inv2 (fun n m nw => ∃ (a : Int) (ta : Tok) (o1 o2 : Option Value) (rc : List IR), n = (7 - a).toNat ∧ 0 ≤ a ∧ m = (fun y => if y = Str.ofString "at" then some (.int a ta) else if y = Str.ofString "info" then o1 else if y = Str.ofString "found" then o2 else (fun y => if y = Str.ofString "scene" then some (Value.ref sx) else if y = Str.ofString "glyph" then o else if y = Str.ofString "table" then v' else (fun y => if y = Str.ofString "known" then some (Value.ref kn) else if y = Str.ofString "lookup" then some (Value.ref z.lk) else List.lookup y [(Str.ofString "buffer", Value.ref z.buf), (Str.ofString "gdef", Value.ref z.gd), (Str.ofString "lookups", Value.ref lks), (Str.ofString "number", Value.int 0 t), (Str.ofString "mask", Value.int 1 t2)].reverse) y) y) ∧
      nw = (st, oSt) :: (sx, instObj 65 sdx) :: (sdx, dictOf [ent w.params "buffer" (ks 0) (.ref z.buf), ent w.params "gdef" (ks 1) (.ref z.gd), ent w.params "lookups" (ks 2) (.ref lks), ent w.params "lookup" (ks 3) (.ref z.lk), ent w.params "mask" (ks 4) (.int 1 (ks 5)), ent w.params "depth" (ks 6) (.int 0 (ks 7)), ent w.params "steps" (ks 8) (.ref st)] 7) :: (kn, oK) :: rowsLed w.params rc ∧ SameRows rows rc ∧ gm (dataOf rc) = gm (dataOf rows) ∧ ∀ out, Run (stepAt z.flag cls (tts.map (·.2))) a (dataOf rc) out → Run (stepAt z.flag cls (tts.map (·.2))) 0 (dataOf rows) out) (by k_asm) (by k_asm) ⟨0, _, none, none, rows, rfl, by decide, start3 rfl rfl, rfl, rfl, rfl, fun _ h => h⟩ ?_
    rintro n m₁ news₁ h₁ tk₁ F₁ N₁ ⟨a, ta, o1, o2, rc, rfl, ha0, rfl, rfl, hS, hgm, hrun⟩
    by_cases hh : a < (rows.length : Int)
    · obtain ⟨q, hq⟩ : ∃ q, rc[a.toNat]? = some q := ⟨rc[a.toNat]'(by have := hS.len; exact Nat.lt_of_lt_of_eq (o_tn ha0 hh) (Eq.symm this)), List.getElem?_eq_getElem _⟩
      have hqm : q ∈ rc := List.mem_of_getElem? hq
      have hx := refs_at hq
      rw [hS.refs'] at hx
      have h6 : a < 6 := by have := HF.l; exact Int.lt_of_lt_of_le hh (Int.ofNat_le.mpr this)
      have hl6 := HF.l
      repeat' (first | (k_unfold; (try dsimp only)) | ((fail_if_success (first | (with_reducible show wpAny _ _ (call (Value.ref _) _) _ _ _) | (with_reducible show wpAny _ _ (exec (Stmt.While _ _ _ _) _) _ _ _) | (with_reducible show wpAny _ _ (exec (Stmt.For _ _ _ _ _) _) _ _ _))); first | walk1 | (dsimp only; walk1)))
      refine known_in (News.get (by k_asm) (by k_mem)) loK hK ?_
      intro bb hbb
      have hrd := dataOf_at hq
      obtain ⟨r0, hr0, hg0, hm0⟩ := gm_mem hgm (List.mem_of_getElem? hrd)
      have hgq : 0 ≤ q.r.g ∧ q.r.g < 6 := by rw [hg0]; exact HF.gs r0 hr0
      have hmq : q.r.mask = 1 ∨ q.r.mask = 2 ∨ q.r.mask = 3 := by rw [hm0]; exact hmk r0 hr0
      have hno : ∀ out, ¬ (has1 (tts.map (·.2)) q.r.g ∧ q.r.mask ≠ 2 ∧ ign z.flag (cls q.r.g) = false) → Run (stepAt z.flag cls (tts.map (·.2))) (if a + 1 > -1 then a + 1 else -1) (dataOf rc) out → Run (stepAt z.flag cls (tts.map (·.2))) 0 (dataOf rows) out := fun out hn h => hrun out (Run.step ha0 hrd (by
        rw [stepAt, if_neg hn]
        have : (if a + 1 > -1 then a + 1 else -1) = max (-1) (a + 1) := by split <;> omega
        rw [← this]; exact h))
      have hhas : has1 (tts.map (·.2)) q.r.g ↔ ∃ x ∈ tts, x.2.has q.r.g := ⟨fun ⟨t, ht, h⟩ => by obtain ⟨x, hx, rfl⟩ := List.mem_map.mp ht; exact ⟨x, hx, h⟩, fun ⟨x, hx, h⟩ => ⟨x.2, List.mem_map_of_mem hx, h⟩⟩
      have HF' : Fine prog w { z with sc := sx, dsc := sdx, st := st, ks := ks, lks := lks } rc cls := ⟨HF.C, HF.f, fun r hr => by obtain ⟨r', hr', e1, -⟩ := gm_mem hgm hr; rw [e1]; exact HF.gs r' hr', by have := hS.len; have := HF.l; exact Nat.le_trans (Nat.le_of_eq (by assumption)) hl6, hS.adrs' ▸ HF.n⟩
      cases bb with
      | false =>
        repeat' (first | (k_unfold; (try dsimp only)) | ((fail_if_success (first | (with_reducible show wpAny _ _ (call (Value.ref _) _) _ _ _) | (with_reducible show wpAny _ _ (exec (Stmt.While _ _ _ _) _) _ _ _) | (with_reducible show wpAny _ _ (exec (Stmt.For _ _ _ _ _) _) _ _ _))); first | walk1 | (dsimp only; walk1)))
        refine ⟨_, _, _, _, _, rfl, by k_asm, by k_asm, ?_, _, _, _, _, rc, rfl, ?_, n3, rfl, hS, hgm, fun out h => hno out (fun q' => ?_) h⟩
        · split <;> omega
        · split <;> omega
        · have := hbb.mpr (hhas.mp q'.1); cases this
      | true =>
        repeat' (first | (k_unfold; (try dsimp only)) | ((fail_if_success (first | (with_reducible show wpAny _ _ (call (Value.ref _) _) _ _ _) | (with_reducible show wpAny _ _ (exec (Stmt.While _ _ _ _) _) _ _ _) | (with_reducible show wpAny _ _ (exec (Stmt.For _ _ _ _ _) _) _ _ _))); first | walk1 | (dsimp only; walk1)))
        · rename_i hband
          have hm2 : q.r.mask ≠ 2 := fun e => hband (by rw [e]; decide)
          refine' use0 (passes_c (z := { z with sc := sx, dsc := sdx, st := st, ks := ks, lks := lks }) (rows := rc) (cls := cls) HF'.C HF'.f HF'.l ha0 hq hgq) ?hdp ?hun ?F ?N ?X ?T ?hi ?_
          ( (case hdp | hun => kwd_inv); (case F | N | X | T => k_asm))
          (case hi =>
            intro p hp
            rcases List.mem_append.mp hp with hp | hp
            · rw [led_same hS, led_rest] at hp
              rcases List.mem_append.mp hp with hp | hp
              · left
                rcases List.mem_cons.mp hp with h | hp
                · exact h ▸ .tail _ (.head _)
                · exact List.mem_singleton.mp hp ▸ .tail _ (.tail _ (.head _))
              · exact Or.inr (HZ p hp)
            · exact Or.inl (.tail _ (.tail _ (.tail _ (.tail _ hp)))))
          rintro Gq hGq n2 _ h2 tk2 _ ⟨rfl, rfl⟩
          refine hGq _ _ _ _ _ ?_
          clear hGq Gq
          rintro hlt2 hL2 F5 N5
          dsimp only [List.nil_append] at N5
          dsimp only
          cases hig : ign z.flag (cls q.r.g) with
          | true =>
            repeat' (first | (k_unfold; (try dsimp only)) | ((fail_if_success (first | (with_reducible show wpAny _ _ (call (Value.ref _) _) _ _ _) | (with_reducible show wpAny _ _ (exec (Stmt.While _ _ _ _) _) _ _ _) | (with_reducible show wpAny _ _ (exec (Stmt.For _ _ _ _ _) _) _ _ _))); first | walk1 | (dsimp only; walk1)))
            refine ⟨_, _, _, _, _, rfl, by k_asm, by k_asm, ?_, _, _, _, _, rc, rfl, ?_, n3, rfl, hS, hgm, fun out h => hno out (fun q' => ?_) h⟩
            · split <;> omega
            · split <;> omega
            · rw [hig] at q'; cases q'.2.2
          | false =>
            repeat' (first | (k_unfold; (try dsimp only)) | ((fail_if_success (first | (with_reducible show wpAny _ _ (call (Value.ref _) _) _ _ _) | (with_reducible show wpAny _ _ (exec (Stmt.While _ _ _ _) _) _ _ _) | (with_reducible show wpAny _ _ (exec (Stmt.For _ _ _ _ _) _) _ _ _))); first | walk1 | (dsimp only; walk1)))
            have hst : stepAt z.flag cls (tts.map (·.2)) (dataOf rc) a q.r = posAt z.flag cls (dataOf rc) a (tts.map (·.2)) := by rw [stepAt, if_pos ⟨hhas.mpr (hbb.mp rfl), hm2, hig⟩]
            have inA : ∀ {p : Addr × Obj} {x : Nat}, p.1 = x → p ∈ rowsLed w.params rc → x ∈ adrs rows := fun e q => hS.adrs' ▸ (e ▸ adr_of_mem q)
            refine' use (rest := [(st, oSt), (sx, instObj 65 sdx), (sdx, dictOf [ent w.params "buffer" (ks 0) (.ref z.buf), ent w.params "gdef" (ks 1) (.ref z.gd), ent w.params "lookups" (ks 2) (.ref lks), ent w.params "lookup" (ks 3) (.ref z.lk), ent w.params "mask" (ks 4) (.int 1 (ks 5)), ent w.params "depth" (ks 6) (.int 0 (ks 7)), ent w.params "steps" (ks 8) (.ref st)] 7), (kn, oK)]) (position_at_c (z := { z with sc := sx, dsc := sdx, st := st, ks := ks, lks := lks }) (rows := rc) (cls := cls) (src := src) HT htb hz HF' ha0 (by have := hS.len; exact o_lteq hh (congrArg _ (Eq.symm this)))) ?hdp ?hun ?F ?N ?X ?T ?hm ?hi ?hr ?_
            ( (case hdp | hun => kwd_inv); (case F | N | X | T => k_asm))
            (case hm => exact fun _ hp => .tail _ (.tail _ (.tail _ (.tail _ hp))))
            (case hi =>
              intro p hp
              rcases List.mem_append.mp hp with hp | hp
              · rw [led_same hS, led_rest] at hp
                rcases List.mem_append.mp hp with hp | hp
                · left
                  rcases List.mem_cons.mp hp with h | hp
                  · exact ⟨h ▸ .tail _ (.head _), fun q' => (hoff sx (inA (congrArg Prod.fst h) q')).2.1 rfl⟩
                  · exact ⟨List.mem_singleton.mp hp ▸ .tail _ (.tail _ (.head _)), fun q' => (hoff sdx (inA (congrArg Prod.fst (List.mem_singleton.mp hp)) q')).2.2.1 rfl⟩
                · exact Or.inr (HZ p hp)
              · exact Or.inr (HS p hp))
            (case hr =>
              intro p hp
              rcases List.mem_cons.mp hp with h | hp
              · exact ⟨h ▸ .head _, fun q' => (hoff st (inA (congrArg Prod.fst h) q')).1 rfl⟩
              rcases List.mem_cons.mp hp with h | hp
              · exact ⟨h ▸ .tail _ (.head _), fun q' => (hoff sx (inA (congrArg Prod.fst h) q')).2.1 rfl⟩
              rcases List.mem_cons.mp hp with h | hp
              · exact ⟨h ▸ .tail _ (.tail _ (.head _)), fun q' => (hoff sdx (inA (congrArg Prod.fst h) q')).2.2.1 rfl⟩
              have h := List.mem_singleton.mp hp
              exact ⟨h ▸ .tail _ (.tail _ (.tail _ (.head _))), fun q' => (hoff kn (inA (congrArg Prod.fst h) q')).2.2.2 rfl⟩)
            rintro Gq hGq n3' _ h3 tk3 _ ⟨⟨t3, rfl⟩, rows3, hS3, hd3, rfl⟩
            refine hGq _ _ _ _ _ ?_
            clear hGq Gq
            rintro hlt3 hL3 F6 N6
            have hd3 : dataOf rows3 = (posAt z.flag cls (dataOf rc) a (tts.map (·.2))).2 := hd3
            repeat' (first | (k_unfold; (try dsimp only)) | ((fail_if_success (first | (with_reducible show wpAny _ _ (call (Value.ref _) _) _ _ _) | (with_reducible show wpAny _ _ (exec (Stmt.While _ _ _ _) _) _ _ _) | (with_reducible show wpAny _ _ (exec (Stmt.For _ _ _ _ _) _) _ _ _))); first | walk1 | (dsimp only; walk1)))
            refine ⟨_, _, _, _, _, rfl, by k_asm, fun p hp => ‹News _ _ _ (rowsLed w.params rows3 ++ _)› p ?_, ?_, _, _, _, _, rows3, rfl, ?_, n4 (by decide), rfl, hS.trans' hS3, ?_, fun out h => hrun out (Run.step ha0 hrd ?_)⟩
            · rcases List.mem_cons.mp hp with h | hp
              · exact List.mem_append_right _ (h ▸ .head _)
              rcases List.mem_cons.mp hp with h | hp
              · exact List.mem_append_right _ (h ▸ .tail _ (.head _))
              rcases List.mem_cons.mp hp with h | hp
              · exact List.mem_append_right _ (h ▸ .tail _ (.tail _ (.head _)))
              rcases List.mem_cons.mp hp with h | hp
              · exact List.mem_append_right _ (h ▸ .tail _ (.tail _ (.tail _ (.head _))))
              · exact List.mem_append_left _ hp
            · split <;> omega
            · split <;> omega
            · rw [hd3, gm_posAt]; exact hgm
            · rw [hst, ← hd3]
              have e : (if a + 1 > (posAt z.flag cls (dataOf rc) a (tts.map (·.2))).1 then a + 1 else (posAt z.flag cls (dataOf rc) a (tts.map (·.2))).1) = max (posAt z.flag cls (dataOf rc) a (tts.map (·.2))).1 (a + 1) := by split <;> omega
              rw [← e]; exact h
        · refine ⟨_, _, _, _, _, rfl, by k_asm, by k_asm, ?_, _, _, _, _, rc, rfl, ?_, n3, rfl, hS, hgm, fun out h => hno out (fun q' => ?_) h⟩
          · split <;> omega
          · split <;> omega
          · have hz0 := ‹Builtin.bitAnd q.r.mask 1 = 0›
            rcases hmq with e | e | e
            · rw [e] at hz0; exact absurd hz0 (by decide)
            · exact q'.2.1 e
            · rw [e] at hz0; exact absurd hz0 (by decide)
    · have hl6 := HF.l
      repeat' (first | (k_unfold; (try dsimp only)) | ((fail_if_success (first | (with_reducible show wpAny _ _ (call (Value.ref _) _) _ _ _) | (with_reducible show wpAny _ _ (exec (Stmt.While _ _ _ _) _) _ _ _) | (with_reducible show wpAny _ _ (exec (Stmt.For _ _ _ _ _) _) _ _ _))); first | walk1 | (dsimp only; walk1)))
      exact k _ _ _ _ ⟨rfl, dataOf rc, hrun _ (Run.stop (by rw [dataOf_len, hS.len]; exact Int.not_lt.mp hh)), rc, hS, rfl, rfl⟩ (sub_of_fr (by assumption)) (led_of_news (by assumption) (fun _ hp => .tail _ (.tail _ (.tail _ (.tail _ hp)))))
end

section
variable {prog : Program} {w : World}
theorem info_init_c {x dx : Nat} {g cl : Int} {t1 t2 t3 : Tok} (hx : x ≠ dx) :
    Calls prog w 1 (.ref 118) [.ref x, .int 65 t1, .int g t2, .int cl t3] [] [(x, instObj 135 dx), (dx, emptyDict)] (fun _ v mu' => v = .none ∧ ∃ k v', mu' = (IR.mk x dx k v' ⟨g, cl, 0, false, 0, 0, 0, 0⟩).led w.params) := by
  intro dp un fr gds s b R hdp hun S G H0 N k
  obtain ⟨X, p, loose, mean, mg, mb, T⟩ := G
  refine' enter [("self", .ref x), ("code", .int 65 t1), ("glyph", .int g t2), ("cluster", .int cl t3)] S N X T ?k6 ?k7 ?k8 ?k9 ?kB ?_ ?c2 ?c3 ?c4 ?c5
  ( (case k6 | k7 => k_is); (case k8 => k_room); (case k9 => first | exact BindsTo.of_eq rfl | exact binds_K (by first | assumption | exact Frag.In.keeps (by assumption) (Sub.keep (by assumption))) rfl (by k_is) rfl rfl rfl); (case c5 => decide); (case kB => exact locs rfl); (case c2 | c3 | c4 => exact rfl); intro _ _ _ _ _ _; (try dsimp only); (try k_fold))
  repeat' (first | (k_unfold; (try dsimp only)) | ((fail_if_success (with_reducible show wpAny _ _ (call (Value.ref _) _) _ _ _)); first | walk1 | (dsimp only; walk1)))
  have fin : ∀ (kk v' : Nat → Tok) l, l = (IR.mk x dx kk v' ⟨g, cl, 0, false, 0, 0, 0, 0⟩).led w.params → ∀ h' tk, Sub b h' → Led b h' l → R (.ok (.ret .none)) { s with heap := h', toks := tk } := fun kk v' l e h' tk S' L' => k _ _ _ _ ⟨rfl, kk, v', e⟩ S' L'
  exact fin (fun i => if i = 0 then _ else if i = 1 then _ else if i = 2 then _ else if i = 3 then _ else if i = 4 then _ else if i = 5 then _ else if i = 6 then _ else if i = 7 then _ else if i = 8 then _ else if i = 9 then _ else if i = 10 then _ else if i = 11 then _ else if i = 12 then _ else if i = 13 then _ else if i = 14 then _ else _) (fun i => if i = 0 then _ else if i = 1 then _ else if i = 2 then _ else if i = 3 then _ else if i = 5 then _ else if i = 6 then _ else if i = 7 then _ else if i = 8 then _ else if i = 9 then _ else if i = 10 then _ else if i = 11 then _ else if i = 12 then _ else if i = 13 then _ else if i = 14 then _ else _) _ rfl _ _ (sub_of_fr (by assumption)) (led_of_news (by assumption) (fun _ hp => hp))
theorem info_c {g cl : Int} {t1 t2 t3 : Tok} :
    Calls prog w 2 (.ref 135) [.int 65 t1, .int g t2, .int cl t3] [] [] (fun _ v mu' => ∃ q : IR, v = .ref q.x ∧ q.x ≠ q.dx ∧ q.r = ⟨g, cl, 0, false, 0, 0, 0, 0⟩ ∧ mu' = q.led w.params) := by
  intro dp un fr gds s b R hdp hun S G H0 N k
  have X := G.X
  refine make_at (PostI := fun x dx mu' => x ≠ dx ∧ ∃ k v', mu' = (IR.mk x dx k v' ⟨g, cl, 0, false, 0, 0, 0, 0⟩).led w.params) G S (by k_is) (by k_is) (by k_is) (fun x dx h => (info_init_c h).wide (rest := []) (fun _ h => h) (fun _ h => h) (fun _ h => nomatch h) fun n v mu' ⟨e, k, v', e2⟩ => ⟨mu', ⟨e, h, k, v', e2⟩, fun p hp => List.mem_append_left _ hp⟩) (by exact hdp) (by exact hun) (fun _ h => nomatch h) ?_
  rintro x dx h' tk mu' ⟨hx, kk, v', rfl⟩ S' L'
  exact k _ _ _ _ ⟨_, rfl, hx, rfl, rfl⟩ S' L'
theorem buffer_init_c {x dx l : Nat} (hx : x ≠ dx) :
    Calls prog w 1 (.ref 154) [.ref x, .ref l] [] [(x, instObj 188 dx), (dx, emptyDict)] (fun _ v mu' => v = .none ∧ ∃ kb, mu' = bufLed w.params x dx l kb) := by
  intro dp un fr gds s b R hdp hun S G H0 N k
  obtain ⟨X, p, loose, mean, mg, mb, T⟩ := G
  refine' enter [("self", .ref x), ("infos", .ref l), ("is_backward", .bool false)] S N X T ?k6 ?k7 ?k8 ?k9 ?kB ?_ ?c2 ?c3 ?c4 ?c5
  ( (case k6 | k7 => k_is); (case k8 => k_room); (case k9 => first | exact BindsTo.of_eq rfl | exact binds_K (by first | assumption | exact Frag.In.keeps (by assumption) (Sub.keep (by assumption))) rfl (by k_is) rfl rfl rfl); (case c5 => decide); (case kB => exact locs rfl); (case c2 | c3 | c4 => exact rfl); intro _ _ _ _ _ _; (try dsimp only); (try k_fold))
  repeat' (first | (k_unfold; (try dsimp only)) | ((fail_if_success (with_reducible show wpAny _ _ (call (Value.ref _) _) _ _ _)); first | walk1 | (dsimp only; walk1)))
  have fin : ∀ (kk : Nat → Tok) l', l' = bufLed w.params x dx l kk → ∀ h' tk, Sub b h' → Led b h' l' → R (.ok (.ret .none)) { s with heap := h', toks := tk } := fun kk l e h' tk S' L' => k _ _ _ _ ⟨rfl, kk, e⟩ S' L'
  exact fin (fun i => if i = 0 then _ else if i = 1 then _ else if i = 2 then _ else if i = 3 then _ else if i = 4 then _ else _) _ rfl _ _ (sub_of_fr (by assumption)) (led_of_news (by assumption) (fun _ hp => hp))
theorem buffer_c {l : Nat} :
    Calls prog w 2 (.ref 188) [.ref l] [] [] (fun _ v mu' => ∃ (x dx : Nat) (kb : Nat → Tok), v = .ref x ∧ mu' = bufLed w.params x dx l kb) := by
  intro dp un fr gds s b R hdp hun S G H0 N k
  have X := G.X
  refine make_at G S (by k_is) (by k_is) (by k_is) (fun x dx h => buffer_init_c h) (by exact hdp) (by exact hun) (fun _ h => nomatch h) ?_
  rintro x dx h' tk mu' ⟨kb, rfl⟩ S' L'
  exact k _ _ _ _ ⟨x, dx, kb, rfl, rfl⟩ S' L'
theorem copied_c {q : IR} : Calls prog w 3 (.ref 125) [.ref q.x] (q.led w.params) [] (fun _ v mu' => ∃ q' : IR, v = .ref q'.x ∧ q'.x ≠ q'.dx ∧ q'.r = q.r ∧ mu' = q'.led w.params) := by
  intro dp un fr gds s b R hdp hun S G H0 N k
  obtain ⟨X, p, loose, mean, mg, mb, T⟩ := G
  have I1 := inst_has H0.c.1 H0.c.2.c.1
  refine' enter [("self", .ref q.x)] S N X T ?k6 ?k7 ?k8 ?k9 ?kB ?_ ?c2 ?c3 ?c4 ?c5
  ( (case k6 | k7 => k_is); (case k8 => k_room); (case k9 => first | exact BindsTo.of_eq rfl | exact binds_K (by first | assumption | exact Frag.In.keeps (by assumption) (Sub.keep (by assumption))) rfl (by k_is) rfl rfl rfl); (case c5 => decide); (case kB => exact locs rfl); (case c2 | c3 | c4 => exact rfl); intro _ _ _ _ _ _; (try dsimp only); (try k_fold))
  repeat' (first | (k_unfold; (try dsimp only)) | ((fail_if_success (with_reducible show wpAny _ _ (call (Value.ref _) _) _ _ _)); first | walk1 | (dsimp only; walk1)))
  refine' use0 info_c ?hdp ?hun ?F ?N ?X ?T ?hi ?_
  ( (case hdp | hun => kwd_inv); (case F | N | X | T => k_asm))
  (case hi => exact fun p hp => nomatch hp)
  rintro Gq hGq n1 _ h1 tk1 _ ⟨q1, rfl, hne, hr, rfl⟩
  refine hGq _ _ _ _ _ ?_
  clear hGq Gq
  rintro hlt1 hL1 F1 N1
  rw [List.append_nil] at N1
  obtain ⟨x1, dx1, k1, v1, r1⟩ := q1
  simp only at hr hne N1
  subst hr
  repeat' (first | (k_unfold; (try dsimp only)) | ((fail_if_success (with_reducible show wpAny _ _ (call (Value.ref _) _) _ _ _)); first | walk1 | (dsimp only; walk1)))
  have fin : ∀ (v' : Nat → Tok) l, l = (IR.mk x1 dx1 k1 v' q.r).led w.params → ∀ h' tk, Sub b h' → Led b h' l → R (.ok (.ret (.ref x1))) { s with heap := h', toks := tk } := fun v' l e h' tk S' L' => k _ _ _ _ ⟨IR.mk x1 dx1 k1 v' q.r, rfl, hne, rfl, e⟩ S' L'
  exact fin (fun i => if i = 0 then _ else if i = 1 then _ else if i = 2 then _ else if i = 3 then _ else if i = 5 then _ else if i = 6 then _ else if i = 7 then _ else if i = 8 then _ else if i = 9 then _ else if i = 10 then _ else if i = 11 then _ else if i = 12 then _ else if i = 13 then _ else if i = 14 then _ else _) _ rfl _ _ (sub_of_fr (by assumption)) (led_of_news (by assumption) (fun _ hp => hp))
end

noncomputable def rowD (r : Rec) : PyData := .tuple [.tuple [.int r.g, .int r.cl, .int r.xa, .int r.ya, .int r.xo, .int r.yo], .bool r.un]
noncomputable def rowsD (rs : List Rec) : PyData := .list (rs.map rowD)
theorem eqvAll_rows : ∀ rs : List Rec, PyData.eqvAll (rs.map rowD) (rs.map rowD) = true
  | [] => by simp [PyData.eqvAll]
  | r :: rs => by simp [PyData.eqvAll, rowD, PyData.eqv, eqvAll_rows rs]
theorem eqv_rows (rs : List Rec) : PyData.eqv (rowsD rs) (rowsD rs) = true := by simp [rowsD, PyData.eqv, eqvAll_rows]
theorem shaped_rows (rs : List Rec) : SeqAt.shaped (rowsD rs) = true := by
  have h1 : PyData.canLayAll0 (rs.map rowD) = true := by
    induction rs with
    | nil => simp [PyData.canLayAll0]
    | cons r rs ih => simp [PyData.canLayAll0, rowD, PyData.canLay0, ih]
  have h2 : PyData.depthAll (rs.map rowD) ≤ 10 := by
    induction rs with
    | nil => simp [PyData.depthAll]
    | cons r rs ih =>
      have : PyData.depth (rowD r) ≤ 10 := by simp [rowD, PyData.depth, PyData.depthAll]
      simp only [List.map_cons, PyData.depthAll]
      have ih' := ih (by simpa [PyData.canLayAll0, rowD, PyData.canLay0] using h1)
      exact Nat.max_le.mpr ⟨this, ih'⟩
  simp only [SeqAt.shaped, rowsD, PyData.canLay0, PyData.depth, Bool.and_eq_true, decide_eq_true_eq]
  first | exact ⟨h1, by exact Nat.le_trans (Nat.succ_le_succ h2) (by decide)⟩ | done
section
variable {prog : Program} {w : World}
theorem told_c {q : IR} : Calls prog w 1 (.ref 132) [.ref q.x] (q.led w.params) [] (fun _ v mu' => ∃ (T n : Nat) (t : Nat → Tok), v = .ref T ∧ mu' = [(T, { cls := .type "tuple", data := .seq #[.int q.r.g (t 0), .int q.r.cl (t 1), .int q.r.xa (t 2), .int q.r.ya (t 3), .int q.r.xo (t 4), .int q.r.yo (t 5)] n })]) := by
  intro dp un fr gds s b R hdp hun S G H0 N k
  obtain ⟨X, p, loose, mean, mg, mb, T⟩ := G
  have I1 := inst_has H0.c.1 H0.c.2.c.1
  refine' enter [("self", .ref q.x)] S N X T ?k6 ?k7 ?k8 ?k9 ?kB ?_ ?c2 ?c3 ?c4 ?c5
  ( (case k6 | k7 => k_is); (case k8 => k_room); (case k9 => first | exact BindsTo.of_eq rfl | exact binds_K (by first | assumption | exact Frag.In.keeps (by assumption) (Sub.keep (by assumption))) rfl (by k_is) rfl rfl rfl); (case c5 => decide); (case kB => exact locs rfl); (case c2 | c3 | c4 => exact rfl); intro _ _ _ _ _ _; (try dsimp only); (try k_fold))
  repeat' (first | (k_unfold; (try dsimp only)) | ((fail_if_success (first | (with_reducible show wpAny _ _ (call (Value.ref _) _) _ _ _) | (with_reducible show wpAny _ _ (eval (Expr.ListComp _ _ _ _) _) _ _ _))); first | walk1 | (dsimp only; walk1)))
  have fin : ∀ (T n : Nat) (t : Nat → Tok) l, l = [(T, ({ cls := .type "tuple", data := .seq #[.int q.r.g (t 0), .int q.r.cl (t 1), .int q.r.xa (t 2), .int q.r.ya (t 3), .int q.r.xo (t 4), .int q.r.yo (t 5)] n } : Obj))] → ∀ h' tk, Sub b h' → Led b h' l → R (.ok (.ret (.ref T))) { s with heap := h', toks := tk } := fun T n t l e h' tk S' L' => k _ _ _ _ ⟨T, n, t, rfl, e⟩ S' L'
  exact fin _ _ (fun i => if i = 0 then _ else if i = 1 then _ else if i = 2 then _ else if i = 3 then _ else if i = 4 then _ else _) _ rfl _ _ (sub_of_fr (by assumption)) (led_of_news (by assumption) (fun _ hp => hp))
theorem mem_led {P : Params} {rows : List IR} {q : IR} (h : q ∈ rows) {p : Addr × Obj} (hp : p ∈ q.led P) : p ∈ rowsLed P rows := List.mem_flatMap.mpr ⟨q, h, hp⟩
noncomputable def ReadBy (nw : Ledger) (vs : List Value) (ds : List PyData) : Prop := ∀ h : Heap, (∀ p ∈ nw, h.get? p.1 = some p.2) → ReadsAll h vs ds []
theorem readsAll_snoc {h : Heap} {v : Value} {d : PyData} (h2 : Reads h v d []) : ∀ {vs : List Value} {ds : List PyData}, ReadsAll h vs ds [] → ReadsAll h (vs ++ [v]) (ds ++ [d]) [] := by
  intro vs
  induction vs with
  | nil =>
    intro ds h1
    generalize hq : ([] : List Addr) = as at h1
    cases h1
    exact ReadsAll.cons (as := []) (bs := []) h2 .nil
  | cons u us ih =>
    intro ds h1
    generalize hq : ([] : List Addr) = as at h1
    cases h1 with
    | cons a1 a2 =>
      obtain ⟨e1, e2⟩ := List.append_eq_nil_iff.mp hq.symm
      subst e1 e2
      exact ReadsAll.cons (as := []) (bs := []) a1 (ih a2)
theorem ReadBy.snoc {nw nw' : Ledger} {vs : List Value} {ds : List PyData} {v : Value} {d : PyData} (h : ReadBy nw vs ds) (hs : ∀ p ∈ nw, p ∈ nw') (h' : ∀ g : Heap, (∀ p ∈ nw', g.get? p.1 = some p.2) → Reads g v d []) : ReadBy nw' (vs ++ [v]) (ds ++ [d]) :=
  fun g hg => readsAll_snoc (h' g hg) (h g fun p hp => hg p (hs p hp))
theorem reads_pair {g : Heap} {T1 T2 nT n2 : Nat} {r : Rec} {t : Nat → Tok} (h1 : g.get? T1 = some { cls := .type "tuple", data := .seq #[.int r.g (t 0), .int r.cl (t 1), .int r.xa (t 2), .int r.ya (t 3), .int r.xo (t 4), .int r.yo (t 5)] nT })
    (h2 : g.get? T2 = some { cls := .type "tuple", data := .seq #[.ref T1, .bool r.un] n2 }) : Reads g (.ref T2) (rowD r) [] := by
  have i : ∀ i t, Reads g (.int i t) (.int i) [] := fun i t => .int i t
  have c : ∀ {v vs d ds}, Reads g v d [] → ReadsAll g vs ds [] → ReadsAll g (v :: vs) (d :: ds) [] := fun a b => ReadsAll.cons (as := []) (bs := []) a b
  refine Reads.tuple h2 rfl rfl ?_
  refine c (Reads.tuple h1 rfl rfl ?_) (c (.bool _) .nil)
  exact c (i _ _) (c (i _ _) (c (i _ _) (c (i _ _) (c (i _ _) (c (i _ _) .nil)))))
theorem law_told_c {buf dbuf rowl nrow : Nat} {kb : Nat → Tok} {rows : List IR} (hl : rows.length ≤ 6) :
    Calls prog w 2 (.ref 828) [.ref buf] ((bufLed w.params buf dbuf rowl kb ++ [(rowl, listOf (refs rows).toArray nrow)]) ++ rowsLed w.params rows) [] (fun _ v mu' => ∃ T : Nat, v = .ref T ∧ ∀ h : Heap, (∀ p ∈ mu', h.get? p.1 = some p.2) → Reads h (.ref T) (rowsD (dataOf rows)) [T]) := by
  intro dp un fr gds s b R hdp hun S G H0 N k
  obtain ⟨X, p, loose, mean, mg, mb, T⟩ := G
  have I1 := inst_has H0.left.left.c.1 H0.left.left.c.2.c.1
  have hrow := H0.left.right.c.1
  have HR := H0.right
  refine' enter [("buffer", .ref buf)] S N X T ?k6 ?k7 ?k8 ?k9 ?kB ?_ ?c2 ?c3 ?c4 ?c5
  ( (case k6 | k7 => k_is); (case k8 => k_room); (case k9 => first | exact BindsTo.of_eq rfl | exact binds_K (by first | assumption | exact Frag.In.keeps (by assumption) (Sub.keep (by assumption))) rfl (by k_is) rfl rfl rfl); (case c5 => decide); (case kB => exact locs rfl); (case c2 | c3 | c4 => exact rfl); intro _ _ _ _ _ _; (try dsimp only); (try k_fold))
  repeat' (first | (k_unfold; (try dsimp only)) | ((fail_if_success (first | (with_reducible show wpAny _ _ (call (Value.ref _) _) _ _ _) | (with_reducible show wpAny _ _ (eval (Expr.ListComp _ _ _ _) _) _ _ _))); first | walk1 | (dsimp only; walk1)))
  refine LCg.ListComp_U (F₀ := by k_asm) (by rfl) (by decide) (by rfl) (by decide) (by rfl) ?_
  repeat' (first | (k_unfold; (try dsimp only)) | ((fail_if_success (first | (with_reducible show wpAny _ _ (call (Value.ref _) _) _ _ _) | (with_reducible show wpAny _ _ (eval (Expr.ListComp _ _ _ _) _) _ _ _))); first | walk1 | (dsimp only; walk1)))
  refine LCg.CompSrc.base (its := (refs rows).toArray) (by rfl) (by k_asm) (by k_asm) ⟨_, hrow, rfl, _, rfl⟩ (by simp [refs, sizeLine_eq]; exact o_le hl rfl) ?_
  intro g
  refine comp_inv (fun c ys nw => ReadBy nw ys (((dataOf rows).take c).map rowD)) (fun _ _ => .nil) ?_ ?_
  · rintro c ys nw v I oI C oC D2 m2 h tk E' hc hys hv hC hx F2 N2 off ne
    obtain ⟨q, hq⟩ : ∃ q, rows[c]? = some q := ⟨rows[c]'(by simpa [refs] using hc), List.getElem?_eq_getElem _⟩
    obtain rfl : v = .ref q.x := by
      have := refs_at hq
      simp only [List.getElem?_toArray] at hv
      rw [this] at hv; exact (Option.some.inj hv).symm
    have Iq := inst_row HR (List.mem_of_getElem? hq)
    repeat' (first | (k_unfold; (try dsimp only)) | ((fail_if_success (first | (with_reducible show wpAny _ _ (call (Value.ref _) _) _ _ _) | (with_reducible show wpAny _ _ (eval (Expr.ListComp _ _ _ _) _) _ _ _))); first | walk1 | (dsimp only; walk1)))
    refine' use0N told_c ?hdp ?hun ?F ?N ?X ?T ?hi ?_
    ( (case hdp | hun => kwd_inv); (case F | N | X | T => k_asm))
    (case hi => exact fun p hp => Or.inr (HR p (mem_led (List.mem_of_getElem? hq) hp)))
    rintro Gq hGq n1 _ h1 tk1 _ ⟨T1, nT, tt, rfl, rfl⟩
    refine hGq _ _ _ _ _ ?_
    clear hGq Gq
    rintro hnew F3 N3
    repeat' (first | (k_unfold; (try dsimp only)) | ((fail_if_success (first | (with_reducible show wpAny _ _ (call (Value.ref _) _) _ _ _) | (with_reducible show wpAny _ _ (eval (Expr.ListComp _ _ _ _) _) _ _ _))); first | walk1 | (dsimp only; walk1)))
    rename_i D3 h3 F4 N4 l4
    refine LCg.CompEnd.intro F4 N4 ((D3, { cls := .type "tuple", data := .seq #[.ref T1, .bool q.r.un] }) :: (T1, { cls := .type "tuple", data := .seq #[.int q.r.g (tt 0), .int q.r.cl (tt 1), .int q.r.xa (tt 2), .int q.r.ya (tt 3), .int q.r.xo (tt 4), .int q.r.yo (tt 5)] nT }) :: nw) (fun p hp => ?_) (LCg.Off3.of fun p hp => ?_) (.inl ⟨_, hrow, rfl, _, rfl⟩) ?_
    · rcases List.mem_cons.mp hp with h | hp
      · exact h ▸ .tail _ (.tail _ (.head _))
      rcases List.mem_cons.mp hp with h | hp
      · exact h ▸ .tail _ (.tail _ (.tail _ (.head _)))
      rcases List.mem_cons.mp hp with h | hp
      · exact h ▸ .tail _ (.tail _ (.tail _ (.tail _ (.head _))))
      rcases List.mem_cons.mp hp with h | hp
      · exact h ▸ .head _
      rcases List.mem_cons.mp hp with h | hp
      · exact h ▸ .tail _ (.head _)
      · exact .tail _ (.tail _ (.tail _ (.tail _ (.tail _ hp))))
    · rcases List.mem_cons.mp hp with h | hp
      · rw [h]
        exact ⟨Nat.ne_of_gt (l4 (I, oI) (.tail _ (.head _))), Nat.ne_of_gt (l4 (C, oC) (.tail _ (.tail _ (.head _)))), Nat.ne_of_gt (l4 (D2, LCg.lst ys) (.tail _ (.tail _ (.tail _ (.head _)))))⟩
      rcases List.mem_cons.mp hp with h | hp
      · rw [h]
        exact ⟨hnew _ (.head _) (I, oI) (.head _), hnew _ (.head _) (C, oC) (.tail _ (.head _)), hnew _ (.head _) (D2, LCg.lst ys) (.tail _ (.tail _ (.head _)))⟩
      · exact off.mem p hp
    · rw [List.take_add_one, List.map_append, dataOf_at hq]
      exact hys.snoc (fun p hp => .tail _ (.tail _ hp)) fun g hg => reads_pair (hg _ (.tail _ (.head _))) (hg _ (.head _))
  · rintro ys nw hys
    unfold LCg.FinE
    rw [List.take_of_length_le (by simp [dataOf, refs])] at hys
    intro D2 h2 tk2 F2 N2 o2
    dsimp only
    repeat' (first | (k_unfold; (try dsimp only)) | ((fail_if_success (first | (with_reducible show wpAny _ _ (call (Value.ref _) _) _ _ _) | (with_reducible show wpAny _ _ (eval (Expr.ListComp _ _ _ _) _) _ _ _))); first | walk1 | (dsimp only; walk1)))
    refine k _ _ _ ((D2, LCg.lst ys) :: nw) ⟨D2, rfl, fun h hh => ?_⟩ (sub_of_fr (by assumption)) (led_of_news N2 fun p hp => hp)
    exact Reads.list (hh _ (.head _)) rfl rfl (hys h fun p hp => hh p (.tail _ hp))
end

theorem rowsLed_snoc {P : Params} {rows : List IR} {q : IR} : rowsLed P (rows ++ [q]) = rowsLed P rows ++ q.led P := by simp [rowsLed]
theorem adrs_snoc {rows : List IR} {q : IR} : adrs (rows ++ [q]) = adrs rows ++ [q.x, q.dx] := by simp [adrs]
theorem nodup_snoc {P : Params} {rows : List IR} {q : IR} (h : (adrs rows).Nodup) (hq : q.x ≠ q.dx) (hn : ∀ p ∈ q.led P, ∀ p' ∈ rowsLed P rows, @Ne Nat p.1 p'.1) : (adrs (rows ++ [q])).Nodup := by
  rw [adrs_snoc]
  refine List.nodup_append.mpr ⟨h, by simp [hq], fun a ha c hc e => ?_⟩
  obtain ⟨p', hp', e'⟩ := adrs_mem (P := P) ha
  simp only [List.mem_cons, List.not_mem_nil, or_false] at hc
  rcases hc with hc | hc
  · exact hn _ (.head _) p' hp' ((hc.symm.trans e.symm).trans e'.symm)
  · exact hn _ (.tail _ (.head _)) p' hp' ((hc.symm.trans e.symm).trans e'.symm)
/-- a buffer -/
structure Bf where
  buf : Nat
  dbuf : Nat
  rowl : Nat
  n : Nat
  kb : Nat → Tok
  rows : List IR
noncomputable def Bf.head (P : Params) (B : Bf) : Ledger := bufLed P B.buf B.dbuf B.rowl B.kb ++ [(B.rowl, listOf (refs B.rows).toArray B.n)]
noncomputable def Bf.all (P : Params) (B : Bf) : Ledger := B.head P ++ rowsLed P B.rows
theorem off1_mem {D : Addr} : ∀ {l : Ledger}, LCg.Off1 D l → ∀ p ∈ l, @Ne Nat p.1 D
  | [], _, _, h => nomatch h
  | _ :: _, x, p, h => by
    rcases List.mem_cons.mp h with rfl | h
    · exact x.1
    · exact off1_mem x.2 p h
section
variable {prog : Program} {w : World}
theorem law_buffer_c {infl ni : Nat} {infos : List IR} (hl : infos.length ≤ 6) :
    Calls prog w 4 (.ref 823) [.ref infl] ((infl, listOf (refs infos).toArray ni) :: rowsLed w.params infos) [] (fun _ v mu' => ∃ B : Bf, v = .ref B.buf ∧ dataOf B.rows = dataOf infos ∧ (adrs B.rows).Nodup ∧ mu' = B.all w.params ∧ ∀ p ∈ B.head w.params, p.1 ∉ adrs B.rows) := by
  intro dp un fr gds s b R hdp hun S G H0 N k
  obtain ⟨X, p, loose, mean, mg, mb, T⟩ := G
  have hinf := H0.c.1
  have HR := H0.c.2
  refine' enter [("infos", .ref infl)] S N X T ?k6 ?k7 ?k8 ?k9 ?kB ?_ ?c2 ?c3 ?c4 ?c5
  ( (case k6 | k7 => k_is); (case k8 => k_room); (case k9 => first | exact BindsTo.of_eq rfl | exact binds_K (by first | assumption | exact Frag.In.keeps (by assumption) (Sub.keep (by assumption))) rfl (by k_is) rfl rfl rfl); (case c5 => decide); (case kB => exact locs rfl); (case c2 | c3 | c4 => exact rfl); intro _ _ _ _ _ _; (try dsimp only); (try k_fold))
  repeat' (first | (k_unfold; (try dsimp only)) | ((fail_if_success (first | (with_reducible show wpAny _ _ (call (Value.ref _) _) _ _ _) | (with_reducible show wpAny _ _ (eval (Expr.ListComp _ _ _ _) _) _ _ _))); first | walk1 | (dsimp only; walk1)))
  refine LCg.ListComp_U (F₀ := by k_asm) (by rfl) (by decide) (by rfl) (by decide) (by rfl) ?_
  repeat' (first | (k_unfold; (try dsimp only)) | ((fail_if_success (first | (with_reducible show wpAny _ _ (call (Value.ref _) _) _ _ _) | (with_reducible show wpAny _ _ (eval (Expr.ListComp _ _ _ _) _) _ _ _))); first | walk1 | (dsimp only; walk1)))
  refine LCg.CompSrc.base (its := (refs infos).toArray) (by rfl) (by k_asm) (by k_asm) ⟨_, hinf, rfl, _, rfl⟩ (by simp [refs, sizeLine_eq]; exact o_le hl rfl) ?_
  intro g
  refine comp_inv (fun c ys nw => ∃ made, nw = rowsLed w.params made ∧ ys = refs made ∧ dataOf made = (dataOf infos).take c ∧ (adrs made).Nodup) ⟨[], rfl, rfl, rfl, List.nodup_nil⟩ ?_ ?_
  · rintro c ys nw v I oI C oC D2 m2 h tk E' hc ⟨made, rfl, rfl, hd, hnd⟩ hv hC hx F2 N2 off ne
    obtain ⟨q, hq⟩ : ∃ q, infos[c]? = some q := ⟨infos[c]'(by simpa [refs] using hc), List.getElem?_eq_getElem _⟩
    obtain rfl : v = .ref q.x := by
      have := refs_at hq
      simp only [List.getElem?_toArray] at hv
      rw [this] at hv; exact (Option.some.inj hv).symm
    have Iq := inst_row HR (List.mem_of_getElem? hq)
    repeat' (first | (k_unfold; (try dsimp only)) | ((fail_if_success (first | (with_reducible show wpAny _ _ (call (Value.ref _) _) _ _ _) | (with_reducible show wpAny _ _ (eval (Expr.ListComp _ _ _ _) _) _ _ _))); first | walk1 | (dsimp only; walk1)))
    refine' use0N copied_c ?hdp ?hun ?F ?N ?X ?T ?hi ?_
    ( (case hdp | hun => kwd_inv); (case F | N | X | T => k_asm))
    (case hi => exact fun p hp => Or.inr (HR p (mem_led (List.mem_of_getElem? hq) hp)))
    rintro Gq hGq n1 _ h1 tk1 _ ⟨q', rfl, hne', hr', rfl⟩
    refine hGq _ _ _ _ _ ?_
    clear hGq Gq
    rintro hnew F3 N3
    repeat' (first | (k_unfold; (try dsimp only)) | ((fail_if_success (first | (with_reducible show wpAny _ _ (call (Value.ref _) _) _ _ _) | (with_reducible show wpAny _ _ (eval (Expr.ListComp _ _ _ _) _) _ _ _))); first | walk1 | (dsimp only; walk1)))
    refine LCg.CompEnd.intro F3 N3 (rowsLed w.params (made ++ [q'])) (fun p hp => ?_) (LCg.Off3.of fun p hp => ?_) (.inl ⟨_, hinf, rfl, _, rfl⟩) ⟨made ++ [q'], rfl, by simp [refs], ?_, nodup_snoc (P := w.params) hnd hne' fun p hp p' hp' => hnew p hp p' (.tail _ (.tail _ (.tail _ hp')))⟩
    · rcases List.mem_cons.mp hp with h | hp
      · exact List.mem_append_right _ (h ▸ .head _)
      rcases List.mem_cons.mp hp with h | hp
      · exact List.mem_append_right _ (h ▸ .tail _ (.head _))
      rcases List.mem_cons.mp hp with h | hp
      · exact List.mem_append_right _ (h ▸ .tail _ (.tail _ (.head _)))
      rw [rowsLed_snoc] at hp
      rcases List.mem_append.mp hp with hp | hp
      · exact List.mem_append_right _ (.tail _ (.tail _ (.tail _ hp)))
      · exact List.mem_append_left _ hp
    · rw [rowsLed_snoc] at hp
      rcases List.mem_append.mp hp with hp | hp
      · exact off.mem p hp
      · exact ⟨hnew p hp (I, oI) (.head _), hnew p hp (C, oC) (.tail _ (.head _)), hnew p hp (D2, LCg.lst (refs made)) (.tail _ (.tail _ (.head _)))⟩
    · rw [List.take_add_one, dataOf_at hq, ← hd]
      simp [dataOf, hr']
  · rintro ys nw ⟨made, rfl, rfl, hd, hnd⟩
    unfold LCg.FinE
    rw [List.take_of_length_le (by simp [dataOf, refs])] at hd
    intro D2 h2 tk2 F2 N2 o2
    dsimp only
    repeat' (first | (k_unfold; (try dsimp only)) | ((fail_if_success (first | (with_reducible show wpAny _ _ (call (Value.ref _) _) _ _ _) | (with_reducible show wpAny _ _ (eval (Expr.ListComp _ _ _ _) _) _ _ _))); first | walk1 | (dsimp only; walk1)))
    refine' use0N buffer_c ?hdp ?hun ?F ?N ?X ?T ?hi ?_
    ( (case hdp | hun => kwd_inv); (case F | N | X | T => k_asm))
    (case hi => exact fun p hp => nomatch hp)
    rintro Gq hGq n1 _ h1 tk1 _ ⟨x, dx, kb, rfl, rfl⟩
    refine hGq _ _ _ _ _ ?_
    clear hGq Gq
    rintro hnew F3 N3
    repeat' (first | (k_unfold; (try dsimp only)) | ((fail_if_success (first | (with_reducible show wpAny _ _ (call (Value.ref _) _) _ _ _) | (with_reducible show wpAny _ _ (eval (Expr.ListComp _ _ _ _) _) _ _ _))); first | walk1 | (dsimp only; walk1)))
    refine k _ _ _ (Bf.all w.params ⟨x, dx, D2, (refs made).length, kb, made⟩) ⟨⟨x, dx, D2, (refs made).length, kb, made⟩, rfl, hd, hnd, rfl, fun p hp ha => ?_⟩ (sub_of_fr (by assumption)) (led_of_news N3 fun p hp => ?_)
    · obtain ⟨q, hq, e⟩ := adrs_mem (P := w.params) ha
      rcases List.mem_append.mp hp with hp | hp
      · exact hnew p hp q (.tail _ hq) e.symm
      · have := off1_mem o2 q hq
        rw [List.mem_singleton.mp hp] at e
        exact this e
    · rcases List.mem_append.mp hp with hp | hp
      · rcases List.mem_append.mp hp with hp | hp
        · exact List.mem_append_left _ hp
        · exact List.mem_append_right _ (List.mem_singleton.mp hp ▸ .head _)
      · exact List.mem_append_right _ (.tail _ hp)
end

section
variable {prog : Program} {w : World}
/-- what a lookup with its tables is -/
structure LkOk (prog : Program) (w : World) (src : Ledger) (z : Sc) (tts : List (Nat × Tab)) (nt : Nat) : Prop where
  T : ∀ x ∈ tts, TabIs prog w src z.kind x.1 x.2
  b : ∀ x ∈ tts, ∀ g, x.2.has g → 0 ≤ g ∧ g < 6
  t : (z.tbl, listOf (tts.map fun x => Value.ref x.1).toArray nt) ∈ src
  l : tts.length ≤ 9
variable {p : Program} {loose : List Str} {mean : ExcName → Option Value} {mg mb : Str → Option Value}
theorem head_same {P : Params} {B : Bf} {rows' : List IR} (h : SameRows B.rows rows') : Bf.head P { B with rows := rows' } = Bf.head P B := by
  unfold Bf.head; rw [h.refs']
theorem run_at {b : Heap} {L : Addr} {m : Str → Option Value} {news rest src : Ledger} {dp un : Nat} {fr : Option (List Env)} {gd : Option (List Code)} {s : Shared} {Q : Value → Shared → Prop} {E : Value → Shared → Prop} {z : Sc} {B : Bf} {tts : List (Nat × Tab)} {nt lks gv : Nat} {t t2 : Tok} {cls : Int → Int} (hgv : gv = z.gd)
    (OK : LkOk prog w src z tts nt) (HC : ClsOk prog w z.D z.oD cls) (hf : z.flag = 0 ∨ z.flag = 2 ∨ z.flag = 8) (hgs : ∀ r ∈ dataOf B.rows, 0 ≤ r.g ∧ r.g < 6) (hmk : ∀ r ∈ dataOf B.rows, r.mask = 1 ∨ r.mask = 2 ∨ r.mask = 3) (hl : B.rows.length ≤ 6) (hn : (adrs B.rows).Nodup)
    (ho : ∀ p ∈ B.head w.params, p.1 ∉ adrs B.rows) (hlk : lks ∉ adrs B.rows) (hdp : dp + 5 * 12 < 900) (hun : un + 100 * 12 < 9000)
    (F : Fr b L s.heap m) (N : News b L s.heap news) (X : (hd.heap_39 w.params).In b) (T : Top p loose mean mg mb b)
    (hB : ∀ p ∈ B.all w.params, p ∈ news) (hL : (lks, listOf [Value.ref z.lk].toArray 0) ∈ news) (HG : Has b (z.gled w.params)) (HL : Has b (z.lled w.params)) (HS : Has b src) (hr : ∀ p ∈ rest, p ∈ news ∧ p.1 ∉ adrs B.rows)
    (k : ∀ h' tk rows' out, Run (stepAt z.flag cls (tts.map (·.2))) 0 (dataOf B.rows) out → SameRows B.rows rows' → dataOf rows' = out → Fr b L h' m → News b L h' (rowsLed w.params rows' ++ rest) → Q .none { s with heap := h', toks := tk }) :
    wpAny (model prog w) (ar dp un fr gd) (call (.ref 692) [.ref B.buf, .ref gv, .ref lks, .int 0 t, .int 1 t2]) Q E s := by
  subst hgv
  refine use (rest := rest) (run_position_c (z := { z with buf := B.buf, dbuf := B.dbuf, rowl := B.rowl, nrow := B.n, kb := B.kb }) (rows := B.rows) (src := src) (lks := lks) (nl := 0) (cls := cls) OK.T OK.b OK.t OK.l ⟨HC, hf, hgs, hl, hn⟩ hmk) hdp hun F N X T (fun p hp => hB p (List.mem_append_right _ hp)) ?_ (fun p hp => ⟨(hr p hp).1, fun q => (hr p hp).2 (adr_of_mem q)⟩) ?_
  · intro p hp
    rcases List.mem_append.mp hp with hp | hp
    · rcases List.mem_append.mp hp with hp | hp
      · rcases List.mem_append.mp hp with hp | hp
        · have hp' : p ∈ B.head w.params := List.mem_append_left _ hp
          exact .inl ⟨hB p (List.mem_append_left _ hp'), fun q => ho p hp' (adr_of_mem q)⟩
        · rcases List.mem_cons.mp hp with h | hp
          · have hp' : p ∈ B.head w.params := List.mem_append_right _ (h ▸ .head _)
            exact .inl ⟨hB p (List.mem_append_left _ hp'), fun q => ho p hp' (adr_of_mem q)⟩
          · exact .inr ((List.mem_append.mp hp).elim (HG p) (HL p))
      · have h := List.mem_singleton.mp hp
        exact .inl ⟨h ▸ hL, fun q => hlk (by have := adr_of_mem q; rw [h] at this; exact this)⟩
    · exact .inr (HS p hp)
  · rintro Gq hGq n1 _ h' tk _ ⟨rfl, out, hrun, rows', hS, hd, rfl⟩
    refine hGq _ _ _ _ _ ?_
    clear hGq Gq
    rintro _ _ F' N'
    exact k h' tk rows' out hrun hS hd F' N'
theorem told_at {b : Heap} {L : Addr} {m : Str → Option Value} {news : Ledger} {dp un : Nat} {fr : Option (List Env)} {gd : Option (List Code)} {s : Shared} {Q : Value → Shared → Prop} {E : Value → Shared → Prop} {B : Bf} (hl : B.rows.length ≤ 6) (hdp : dp + 5 * 2 < 900) (hun : un + 100 * 2 < 9000)
    (F : Fr b L s.heap m) (N : News b L s.heap news) (X : (hd.heap_39 w.params).In b) (T : Top p loose mean mg mb b) (hB : ∀ p ∈ B.all w.params, p ∈ news)
    (k : ∀ (D : Nat) h' tk more, (∀ h : Heap, (∀ p ∈ more, h.get? p.1 = some p.2) → Reads h (.ref D) (rowsD (dataOf B.rows)) [D]) → Fr b L h' m → News b L h' (more ++ news) → Q (.ref D) { s with heap := h', toks := tk }) :
    wpAny (model prog w) (ar dp un fr gd) (call (.ref 828) [.ref B.buf]) Q E s := by
  refine use0 (law_told_c (dbuf := B.dbuf) (rowl := B.rowl) (nrow := B.n) (kb := B.kb) (rows := B.rows) hl) hdp hun F N X T (fun p hp => .inl (hB p hp)) ?_
  rintro Gq hGq n1 _ h' tk more ⟨D, rfl, hD⟩
  refine hGq _ _ _ _ _ ?_
  clear hGq Gq
  rintro _ _ F' N'
  exact k D h' tk more hD F' N'
theorem posn_at {b : Heap} {L : Addr} {m : Str → Option Value} {news rest src : Ledger} {dp un : Nat} {fr : Option (List Env)} {gd : Option (List Code)} {s : Shared} {Q : Value → Shared → Prop} {E : Value → Shared → Prop} {z : Sc} {B : Bf} {tts : List (Nat × Tab)} {nt : Nat} {at' : Int} {t : Tok} {cls : Int → Int}
    (OK : LkOk prog w src z tts nt) (HC : ClsOk prog w z.D z.oD cls) (hf : z.flag = 0 ∨ z.flag = 2 ∨ z.flag = 8) (hgs : ∀ r ∈ dataOf B.rows, 0 ≤ r.g ∧ r.g < 6) (hl : B.rows.length ≤ 6) (hn : (adrs B.rows).Nodup) (h0 : 0 ≤ at') (hat : at' < B.rows.length)
    (ho : ∀ p ∈ B.head w.params, p.1 ∉ adrs B.rows) (hso : z.sc ∉ adrs B.rows ∧ z.dsc ∉ adrs B.rows) (hdp : dp + 5 * 9 < 900) (hun : un + 100 * 9 < 9000)
    (F : Fr b L s.heap m) (N : News b L s.heap news) (X : (hd.heap_39 w.params).In b) (T : Top p loose mean mg mb b)
    (hB : ∀ p ∈ B.all w.params, p ∈ news) (hSc : ∀ p ∈ sceneLed w.params { z with buf := B.buf }, p ∈ news) (HG : Has b (z.gled w.params)) (HL : Has b (z.lled w.params)) (HS : Has b src) (hr : ∀ p ∈ rest, p ∈ news ∧ p.1 ∉ adrs B.rows)
    (k : ∀ h' tk rows' x t', SameRows B.rows rows' → (x, dataOf rows') = posAt z.flag cls (dataOf B.rows) at' (tts.map (·.2)) → Fr b L h' m → News b L h' (rowsLed w.params rows' ++ rest) → Q (.int x t') { s with heap := h', toks := tk }) :
    wpAny (model prog w) (ar dp un fr gd) (call (.ref 666) [.ref z.sc, .int at' t]) Q E s := by
  refine use (rest := rest) (position_at_c (z := { z with buf := B.buf, dbuf := B.dbuf, rowl := B.rowl, nrow := B.n, kb := B.kb }) (rows := B.rows) (src := src) (cls := cls) OK.T OK.t OK.l ⟨HC, hf, hgs, hl, hn⟩ h0 hat) hdp hun F N X T (fun p hp => hB p (List.mem_append_right _ hp)) ?_ (fun p hp => ⟨(hr p hp).1, fun q => (hr p hp).2 (adr_of_mem q)⟩) ?_
  · intro p hp
    rcases List.mem_append.mp hp with hp | hp
    · rcases List.mem_append.mp hp with hp | hp
      · refine .inl ⟨hSc p hp, fun q => ?_⟩
        have q' := adr_of_mem q
        rcases List.mem_cons.mp hp with h | hp
        · rw [h] at q'; exact hso.1 q'
        · rw [List.mem_singleton.mp hp] at q'; exact hso.2 q'
      · rcases List.mem_append.mp hp with hp | hp
        · have hp' : p ∈ B.head w.params := List.mem_append_left _ hp
          exact .inl ⟨hB p (List.mem_append_left _ hp'), fun q => ho p hp' (adr_of_mem q)⟩
        · rcases List.mem_cons.mp hp with h | hp
          · have hp' : p ∈ B.head w.params := List.mem_append_right _ (h ▸ .head _)
            exact .inl ⟨hB p (List.mem_append_left _ hp'), fun q => ho p hp' (adr_of_mem q)⟩
          · exact .inr ((List.mem_append.mp hp).elim (HG p) (HL p))
    · exact .inr (HS p hp)
  · rintro Gq hGq n1 _ h' tk _ ⟨⟨t', rfl⟩, rows', hS, hd, rfl⟩
    refine hGq _ _ _ _ _ ?_
    clear hGq Gq
    rintro _ _ F' N'
    exact k h' tk rows' _ t' hS (by rw [hd]) F' N'
theorem notin2 {P : Params} (x : Nat) (B : Bf) (h : ∀ q ∈ B.all P, @Ne Nat x q.1) : x ∉ adrs B.rows := fun ha => by
  obtain ⟨q, hq, e⟩ := adrs_mem (P := P) ha
  exact h q (List.mem_append_right _ hq) e.symm
theorem bag_of {xs : List Str} {m' m : Str → Option Value} (h : ∀ y, xs.contains y = false → m' y = m y) : ∃ o : Str → Option Value, m' = fun y => if xs.contains y = true then o y else m y :=
  ⟨m', funext fun y => by
    by_cases hc : xs.contains y = true
    · rw [if_pos hc]
    · rw [if_neg hc]; exact h y (by simpa using hc)⟩
theorem bag4 {a b c d y : Str} (h : [a, b, c, d].contains y = false) : y ≠ a ∧ y ≠ b ∧ y ≠ c ∧ y ≠ d := by
  simpa using h
theorem alike_c {infl ni : Nat} {infos : List IR} {src : Ledger} {z1 z2 : Sc} {tts1 tts2 : List (Nat × Tab)} {nt1 nt2 : Nat} {cls : Int → Int} (h1 : LkOk prog w src z1 tts1 nt1) (h2 : LkOk prog w src z2 tts2 nt2)
    (hg : z2.gled w.params = z1.gled w.params ∧ z2.gd = z1.gd ∧ z2.D = z1.D ∧ z2.oD = z1.oD) (hfl : z2.flag = z1.flag) (HC : ClsOk prog w z1.D z1.oD cls) (hf : z1.flag = 0 ∨ z1.flag = 2 ∨ z1.flag = 8)
    (hgs : ∀ r ∈ dataOf infos, 0 ≤ r.g ∧ r.g < 6) (hmk : ∀ r ∈ dataOf infos, r.mask = 1 ∨ r.mask = 2 ∨ r.mask = 3) (hl : infos.length ≤ 6)
    (heq : ∀ rs a, posAt z1.flag cls rs a (tts1.map (·.2)) = posAt z1.flag cls rs a (tts2.map (·.2))) (hhas : ∀ g, has1 (tts1.map (·.2)) g ↔ has1 (tts2.map (·.2)) g) :
    Calls prog w 14 (.ref 835) [.ref infl, .ref z1.gd, .ref z1.lk, .ref z2.lk] (((infl, listOf (refs infos).toArray ni) :: rowsLed w.params infos) ++ (z1.gled w.params ++ (z1.lled w.params ++ (z2.lled w.params ++ src)))) [] (fun _ v mu' => v = .bool true ∧ mu' = []) := by
  intro dp un fr gds s b R hdp hun S G H0 N k
  obtain ⟨X, p', loose', mean', mg', mb', T⟩ := G
  have HI := H0.left
  have HG := H0.right.left
  have HL1 := H0.right.right.left
  have HL2 := H0.right.right.right.left
  have HS := H0.right.right.right.right
  have hinf := HI.c.1
  have HR := HI.c.2
  refine' enter [("infos", .ref infl), ("gdef", .ref z1.gd), ("one", .ref z1.lk), ("other", .ref z2.lk)] S N X T ?k6 ?k7 ?k8 ?k9 ?kB ?_ ?c2 ?c3 ?c4 ?c5
  ( (case k6 | k7 => k_is); (case k8 => k_room); (case k9 => first | exact BindsTo.of_eq rfl | exact binds_K (by first | assumption | exact Frag.In.keeps (by assumption) (Sub.keep (by assumption))) rfl (by k_is) rfl rfl rfl); (case c5 => decide); (case kB => exact locs rfl); (case c2 | c3 | c4 => exact rfl); intro _ _ _ _ _ _; (try dsimp only); (try k_fold))
  repeat' (first | (k_unfold; (try dsimp only)) | ((fail_if_success (first | (with_reducible show wpAny _ _ (pyIter (Value.ref _)) _ _ _) | (with_reducible show wpAny _ _ (call (Value.ref _) _) _ _ _) | (with_reducible show wpAny _ _ (exec (Stmt.For _ _ _ _ _) _) _ _ _))); first | walk1 | (dsimp only; walk1)))
  refine' use0N (law_buffer_c hl) ?hdp ?hun ?F ?N ?X ?T ?hi ?_
  ( (case hdp | hun => kwd_inv); (case F | N | X | T => k_asm))
  (case hi => exact fun p hp => Or.inr (HI p hp))
  rintro Gq hGq n1 _ g1 tk1 _ ⟨B1, rfl, hd1, hn1, rfl, ho1⟩
  refine hGq _ _ _ _ _ ?_
  clear hGq Gq
  rintro - F1 N1
  rw [List.append_nil] at N1
  repeat' (first | (k_unfold; (try dsimp only)) | ((fail_if_success (first | (with_reducible show wpAny _ _ (pyIter (Value.ref _)) _ _ _) | (with_reducible show wpAny _ _ (call (Value.ref _) _) _ _ _) | (with_reducible show wpAny _ _ (exec (Stmt.For _ _ _ _ _) _) _ _ _))); first | walk1 | (dsimp only; walk1)))
  refine' use0N (law_buffer_c hl) ?hdp ?hun ?F ?N ?X ?T ?hi ?_
  ( (case hdp | hun => kwd_inv); (case F | N | X | T => k_asm))
  (case hi => exact fun p hp => Or.inr (HI p hp))
  rintro Gq hGq n2 _ g2 tk2 _ ⟨B2, rfl, hd2, hn2, rfl, ho2⟩
  refine hGq _ _ _ _ _ ?_
  clear hGq Gq
  rintro hnew F2 N2
  have hx12 : ∀ p ∈ B1.all w.params, p.1 ∉ adrs B2.rows := fun p hp ha => by
    obtain ⟨q, hq, e⟩ := adrs_mem (P := w.params) ha
    exact hnew q (List.mem_append_right _ hq) p hp e
  have hx21 : ∀ p ∈ B2.all w.params, p.1 ∉ adrs B1.rows := fun p hp ha => by
    obtain ⟨q, hq, e⟩ := adrs_mem (P := w.params) ha
    exact hnew p hp q (List.mem_append_right _ hq) e.symm
  have hl1 : B1.rows.length ≤ 6 := by rw [← dataOf_len, hd1, dataOf_len]; exact hl
  have hl2 : B2.rows.length ≤ 6 := by rw [← dataOf_len, hd2, dataOf_len]; exact hl
  have hst : stepAt z1.flag cls (tts1.map (·.2)) = stepAt z1.flag cls (tts2.map (·.2)) := by
    funext rs a r
    unfold stepAt
    rw [heq]
    by_cases h : has1 (tts1.map (·.2)) r.g ∧ r.mask ≠ 2 ∧ ign z1.flag (cls r.g) = false
    · rw [if_pos h, if_pos ⟨(hhas _).mp h.1, h.2⟩]
    · rw [if_neg h, if_neg fun h' => h ⟨(hhas _).mpr h'.1, h'.2⟩]
  repeat' (first | (k_unfold; (try dsimp only)) | ((fail_if_success (first | (with_reducible show wpAny _ _ (pyIter (Value.ref _)) _ _ _) | (with_reducible show wpAny _ _ (call (Value.ref _) _) _ _ _) | (with_reducible show wpAny _ _ (exec (Stmt.For _ _ _ _ _) _) _ _ _))); first | walk1 | (dsimp only; walk1)))
  rename_i lks h9 F9 N9 l9
  have a9 := kst_ltOf l9.2
  have notin : ∀ (x : Nat) (B : Bf), (∀ p ∈ B.all w.params, p.1 < x) → x ∉ adrs B.rows := fun x B hx ha => by
    obtain ⟨q, hq, e⟩ := adrs_mem (P := w.params) ha
    have := hx q (List.mem_append_right _ hq)
    rw [e] at this
    exact Nat.lt_irrefl _ this
  refine run_at (rest := B1.head w.params ++ B2.all w.params) rfl h1 HC hf (hd1 ▸ hgs) (hd1 ▸ hmk) hl1 hn1 ho1 (notin _ _ fun p hp => a9 p (List.mem_append_right _ hp)) (by kwd_inv) (by kwd_inv) F9 N9 X T (fun p hp => .tail _ (.tail _ (List.mem_append_right _ hp))) (.head _) HG HL1 HS (fun p hp => ?_) ?_
  · rcases List.mem_append.mp hp with hp | hp
    · exact ⟨.tail _ (.tail _ (List.mem_append_right _ (List.mem_append_left _ hp))), ho1 p hp⟩
    · exact ⟨.tail _ (.tail _ (List.mem_append_left _ hp)), hx21 p hp⟩
  intro h10 tk10 rows1 out1 hrun1 hS1 hdo1 F10 N10
  repeat' (first | (k_unfold; (try dsimp only)) | ((fail_if_success (first | (with_reducible show wpAny _ _ (pyIter (Value.ref _)) _ _ _) | (with_reducible show wpAny _ _ (call (Value.ref _) _) _ _ _) | (with_reducible show wpAny _ _ (exec (Stmt.For _ _ _ _ _) _) _ _ _))); first | walk1 | (dsimp only; walk1)))
  rename_i lks2 h11 F11 N11 l11
  have a11 := l11
  have hB1 : ∀ p ∈ Bf.all w.params { B1 with rows := rows1 }, p ∈ rowsLed w.params rows1 ++ (B1.head w.params ++ B2.all w.params) := fun p hp => by
    rcases List.mem_append.mp hp with hp | hp
    · rw [head_same hS1] at hp; exact List.mem_append_right _ (List.mem_append_left _ hp)
    · exact List.mem_append_left _ hp
  have hx12' : ∀ p ∈ Bf.all w.params { B1 with rows := rows1 }, p.1 ∉ adrs B2.rows := fun p hp => by
    rcases List.mem_append.mp hp with hp | hp
    · rw [head_same hS1] at hp; exact hx12 p (List.mem_append_left _ hp)
    · obtain ⟨q, hq, e⟩ := adrs_mem (P := w.params) (hS1.adrs' ▸ adr_of_mem hp : p.1 ∈ adrs B1.rows)
      rw [← e]; exact hx12 q (List.mem_append_right _ hq)
  refine run_at (rest := Bf.all w.params { B1 with rows := rows1 } ++ B2.head w.params) hg.2.1.symm h2 (by rw [hg.2.2.1, hg.2.2.2]; exact HC) (by rw [hfl]; exact hf) (hd2 ▸ hgs) (hd2 ▸ hmk) hl2 hn2 ho2 (notin _ _ fun p hp => a11 p (List.mem_append_right _ (List.mem_append_right _ hp))) (by kwd_inv) (by kwd_inv) F11 N11 X T (fun p hp => .tail _ (List.mem_append_right _ (List.mem_append_right _ hp))) (.head _) (by rw [hg.1]; exact HG) HL2 HS (fun p hp => ?_) ?_
  · rcases List.mem_append.mp hp with hp | hp
    · exact ⟨.tail _ (hB1 p hp), hx12' p hp⟩
    · exact ⟨.tail _ (List.mem_append_right _ (List.mem_append_right _ (List.mem_append_left _ hp))), ho2 p hp⟩
  intro h12 tk12 rows2 out2 hrun2 hS2 hdo2 F12 N12
  have hout : dataOf rows2 = dataOf rows1 := by
    rw [hdo2, hdo1]
    rw [hfl, ← hst, hd2, ← hd1] at hrun2
    exact hrun2.det hrun1
  repeat' (first | (k_unfold; (try dsimp only)) | ((fail_if_success (first | (with_reducible show wpAny _ _ (pyIter (Value.ref _)) _ _ _) | (with_reducible show wpAny _ _ (call (Value.ref _) _) _ _ _) | (with_reducible show wpAny _ _ (exec (Stmt.For _ _ _ _ _) _) _ _ _))); first | walk1 | (dsimp only; walk1)))
  refine told_at (B := { B1 with rows := rows1 }) (by have := hS1.len; show rows1.length ≤ 6; exact Nat.le_trans (Nat.le_of_eq this) hl1) (by kwd_inv) (by kwd_inv) (by k_asm) N12 X T (fun p hp => List.mem_append_right _ (List.mem_append_left _ hp)) ?_
  intro D1 h13 tk13 more1 hD1 F13 N13
  repeat' (first | (k_unfold; (try dsimp only)) | ((fail_if_success (first | (with_reducible show wpAny _ _ (pyIter (Value.ref _)) _ _ _) | (with_reducible show wpAny _ _ (call (Value.ref _) _) _ _ _) | (with_reducible show wpAny _ _ (exec (Stmt.For _ _ _ _ _) _) _ _ _))); first | walk1 | (dsimp only; walk1)))
  refine told_at (B := { B2 with rows := rows2 }) (by have := hS2.len; show rows2.length ≤ 6; exact Nat.le_trans (Nat.le_of_eq this) hl2) (by kwd_inv) (by kwd_inv) (by k_asm) N13 X T (fun p hp => List.mem_append_right _ ?_) ?_
  · rcases List.mem_append.mp hp with hp | hp
    · rw [head_same hS2] at hp; exact List.mem_append_right _ (List.mem_append_right _ hp)
    · exact List.mem_append_left _ hp
  intro D2 h14 tk14 more2 hD2 F14 N14
  repeat' (first | (k_unfold; (try dsimp only)) | ((fail_if_success (first | (with_reducible show wpAny _ _ (pyIter (Value.ref _)) _ _ _) | (with_reducible show wpAny _ _ (call (Value.ref _) _) _ _ _) | (with_reducible show wpAny _ _ (exec (Stmt.For _ _ _ _ _) _) _ _ _))); first | walk1 | (dsimp only; walk1)))
  refine ne_dataH (hD1 _ fun p hp => (N14 p (List.mem_append_right _ (List.mem_append_left _ hp))).1) (hD2 _ fun p hp => (N14 p (List.mem_append_left _ hp)).1) (shaped_rows _) (shaped_rows _) (by kwd_inv) ?_
  rw [show PyData.eqv (rowsD (dataOf rows1)) (rowsD (dataOf rows2)) = true by rw [hout]; exact eqv_rows _]
  repeat' (first | (k_unfold; (try dsimp only)) | ((fail_if_success (first | (with_reducible show wpAny _ _ (pyIter (Value.ref _)) _ _ _) | (with_reducible show wpAny _ _ (call (Value.ref _) _) _ _ _) | (with_reducible show wpAny _ _ (exec (Stmt.For _ _ _ _ _) _) _ _ _))); first | walk1 | (dsimp only; walk1)))
  refine For_invV b (by rfl) (by rfl) ?_
  repeat' (first | (k_unfold; (try dsimp only)) | ((fail_if_success (first | (with_reducible show wpAny _ _ (pyIter (Value.ref _)) _ _ _) | (with_reducible show wpAny _ _ (call (Value.ref _) _) _ _ _) | (with_reducible show wpAny _ _ (exec (Stmt.For _ _ _ _ _) _) _ _ _))); first | walk1 | (dsimp only; walk1)))
  refine iter_rangeG (n := infos.length) (news := []) (fun i m nw => (∃ o : Str → Option Value, m = (fun y => if [Str.ofString "at", Str.ofString "first", Str.ofString "second", Str.ofString "heard"].contains y = true then o y else List.lookup y [(Str.ofString "infos", Value.ref infl), (Str.ofString "gdef", Value.ref z1.gd), (Str.ofString "one", Value.ref z1.lk), (Str.ofString "other", Value.ref z2.lk)].reverse)) ∧ nw = []) rfl (by k_asm) rfl (by exact o_le hl rfl) (by k_asm) (fun _ h => nomatch h) ⟨bag_of fun y hy => by obtain ⟨e1, e2, e3, e4⟩ := bag4 hy; simp only [e1, e2, e3, e4, if_false], rfl⟩ ?_ ?_
  · rintro i ti I oI h15 tk15 hi Jq Gq hGq m3 nw3 ⟨⟨o, rfl⟩, rfl⟩
    refine hGq _ _ ?_
    clear hGq Gq
    rintro hnI F15 N15 hJq
    repeat' (first | (k_unfold; (try dsimp only)) | ((fail_if_success (first | (with_reducible show wpAny _ _ (pyIter (Value.ref _)) _ _ _) | (with_reducible show wpAny _ _ (call (Value.ref _) _) _ _ _) | (with_reducible show wpAny _ _ (exec (Stmt.For _ _ _ _ _) _) _ _ _))); first | walk1 | (dsimp only; walk1)))
    refine' use0N (law_buffer_c hl) ?hdp ?hun ?F ?N ?X ?T ?hi ?_
    ( (case hdp | hun => kwd_inv); (case F | N | X | T => k_asm))
    (case hi => exact fun p hp => Or.inr (HI p hp))
    rintro Gq hGq n1 _ g1 tk1 _ ⟨B1, rfl, hd1, hn1, rfl, ho1⟩
    refine hGq _ _ _ _ _ ?_
    clear hGq Gq
    rintro hnew1 F1 N1
    repeat' (first | (k_unfold; (try dsimp only)) | ((fail_if_success (first | (with_reducible show wpAny _ _ (pyIter (Value.ref _)) _ _ _) | (with_reducible show wpAny _ _ (call (Value.ref _) _) _ _ _) | (with_reducible show wpAny _ _ (exec (Stmt.For _ _ _ _ _) _) _ _ _))); first | walk1 | (dsimp only; walk1)))
    refine' use0N (law_buffer_c hl) ?hdp ?hun ?F ?N ?X ?T ?hi ?_
    ( (case hdp | hun => kwd_inv); (case F | N | X | T => k_asm))
    (case hi => exact fun p hp => Or.inr (HI p hp))
    rintro Gq hGq n2 _ g2 tk2 _ ⟨B2, rfl, hd2, hn2, rfl, ho2⟩
    refine hGq _ _ _ _ _ ?_
    clear hGq Gq
    rintro hnew2 F2 N2
    have hx12 : ∀ p ∈ B1.all w.params, p.1 ∉ adrs B2.rows := fun p hp ha => by
      obtain ⟨q, hq, e⟩ := adrs_mem (P := w.params) ha
      exact hnew2 q (List.mem_append_right _ hq) p (List.mem_append_left _ hp) e
    have hx21 : ∀ p ∈ B2.all w.params, p.1 ∉ adrs B1.rows := fun p hp ha => by
      obtain ⟨q, hq, e⟩ := adrs_mem (P := w.params) ha
      exact hnew2 p hp q (List.mem_append_left _ (List.mem_append_right _ hq)) e.symm
    have hI1 : I ∉ adrs B1.rows := fun ha => by
      obtain ⟨q, hq, e⟩ := adrs_mem (P := w.params) ha
      exact hnew1 q (List.mem_append_right _ hq) (I, oI) (.head _) e
    have hI2 : I ∉ adrs B2.rows := fun ha => by
      obtain ⟨q, hq, e⟩ := adrs_mem (P := w.params) ha
      exact hnew2 q (List.mem_append_right _ hq) (I, oI) (List.mem_append_right _ (.head _)) e
    have hl1 : B1.rows.length ≤ 6 := by rw [← dataOf_len, hd1, dataOf_len]; exact hl
    have hl2 : B2.rows.length ≤ 6 := by rw [← dataOf_len, hd2, dataOf_len]; exact hl
    have hat1 : (i : Int) < B1.rows.length := by rw [← dataOf_len, hd1, dataOf_len]; exact Int.ofNat_lt.mpr hi
    have hat2 : (i : Int) < B2.rows.length := by rw [← dataOf_len, hd2, dataOf_len]; exact Int.ofNat_lt.mpr hi
    repeat' (first | (k_unfold; (try dsimp only)) | ((fail_if_success (first | (with_reducible show wpAny _ _ (pyIter (Value.ref _)) _ _ _) | (with_reducible show wpAny _ _ (call (Value.ref _) _) _ _ _) | (with_reducible show wpAny _ _ (exec (Stmt.For _ _ _ _ _) _) _ _ _))); first | walk1 | (dsimp only; walk1)))
    rename_i lks h9 F9 N9 l9
    refine' use0N scene_c ?hdp ?hun ?F ?N ?X ?T ?hi ?_
    ( (case hdp | hun => kwd_inv); (case F | N | X | T => k_asm))
    (case hi => exact fun p hp => nomatch hp)
    rintro Gq hGq n3 _ g3 tk3 _ ⟨sx, sdx, st, oSt, ks, rfl, rfl⟩
    refine hGq _ _ _ _ _ ?_
    clear hGq Gq
    rintro hnew3 F3 N3
    repeat' (first | (k_unfold; (try dsimp only)) | ((fail_if_success (first | (with_reducible show wpAny _ _ (pyIter (Value.ref _)) _ _ _) | (with_reducible show wpAny _ _ (call (Value.ref _) _) _ _ _) | (with_reducible show wpAny _ _ (exec (Stmt.For _ _ _ _ _) _) _ _ _))); first | walk1 | (dsimp only; walk1)))
    refine posn_at (z := { z1 with sc := sx, dsc := sdx, st := st, ks := ks, lks := lks }) (B := B1) (rest := B1.head w.params ++ (B2.all w.params ++ [(I, oI)])) (cls := cls) ⟨h1.T, h1.b, h1.t, h1.l⟩ HC hf (hd1 ▸ hgs) hl1 hn1 (by exact Int.natCast_nonneg _) hat1 ho1 ?_ (by kwd_inv) (by kwd_inv) (by k_asm) N3 X T ?_ ?_ HG HL1 HS ?_ ?_
    · exact ⟨notin2 _ _ fun q hq => hnew3 _ (.tail _ (.head _)) q (.tail _ (.tail _ (List.mem_append_right _ (List.mem_append_left _ hq)))), notin2 _ _ fun q hq => hnew3 _ (.tail _ (.tail _ (.head _))) q (.tail _ (.tail _ (List.mem_append_right _ (List.mem_append_left _ hq))))⟩
    · exact fun p hp => List.mem_append_right _ (.tail _ (.tail _ (List.mem_append_right _ (List.mem_append_left _ hp))))
    · intro p hp
      rcases List.mem_cons.mp hp with h | hp
      · exact List.mem_append_left _ (h ▸ .tail _ (.head _))
      · exact List.mem_append_left _ (List.mem_singleton.mp hp ▸ .tail _ (.tail _ (.head _)))
    · intro p hp
      rcases List.mem_append.mp hp with hp | hp
      · exact ⟨List.mem_append_right _ (.tail _ (.tail _ (List.mem_append_right _ (List.mem_append_left _ (List.mem_append_left _ hp))))), ho1 p hp⟩
      rcases List.mem_append.mp hp with hp | hp
      · exact ⟨List.mem_append_right _ (.tail _ (.tail _ (List.mem_append_left _ hp))), hx21 p hp⟩
      · have h := List.mem_singleton.mp hp
        exact ⟨List.mem_append_right _ (.tail _ (.tail _ (List.mem_append_right _ (List.mem_append_right _ hp)))), by rw [h]; exact hI1⟩
    intro g4 tk4 rows1 xx t4 hS1 hdo1 F4 N4
    have hx12' : ∀ p ∈ Bf.all w.params { B1 with rows := rows1 }, p.1 ∉ adrs B2.rows := fun p hp => by
      rcases List.mem_append.mp hp with hp | hp
      · rw [head_same hS1] at hp; exact hx12 p (List.mem_append_left _ hp)
      · obtain ⟨q, hq, e⟩ := adrs_mem (P := w.params) (hS1.adrs' ▸ adr_of_mem hp : p.1 ∈ adrs B1.rows)
        rw [← e]; exact hx12 q (List.mem_append_right _ hq)
    have hB1 : ∀ p ∈ Bf.all w.params { B1 with rows := rows1 }, p ∈ rowsLed w.params rows1 ++ (B1.head w.params ++ (B2.all w.params ++ [(I, oI)])) := fun p hp => by
      rcases List.mem_append.mp hp with hp | hp
      · rw [head_same hS1] at hp; exact List.mem_append_right _ (List.mem_append_left _ hp)
      · exact List.mem_append_left _ hp
    repeat' (first | (k_unfold; (try dsimp only)) | ((fail_if_success (first | (with_reducible show wpAny _ _ (pyIter (Value.ref _)) _ _ _) | (with_reducible show wpAny _ _ (call (Value.ref _) _) _ _ _) | (with_reducible show wpAny _ _ (exec (Stmt.For _ _ _ _ _) _) _ _ _))); first | walk1 | (dsimp only; walk1)))
    rename_i lks2 h11 F11 N11 l11
    refine' use0N scene_c ?hdp ?hun ?F ?N ?X ?T ?hi ?_
    ( (case hdp | hun => kwd_inv); (case F | N | X | T => k_asm))
    (case hi => exact fun p hp => nomatch hp)
    rintro Gq hGq n5 _ g5 tk5 _ ⟨sx2, sdx2, st2, oSt2, ks2, rfl, rfl⟩
    refine hGq _ _ _ _ _ ?_
    clear hGq Gq
    rintro hnew5 F5 N5
    have hin5 : ∀ p ∈ B2.all w.params, p ∈ (lks2, listOf [Value.ref z2.lk].toArray 0) :: (rowsLed w.params rows1 ++ (B1.head w.params ++ (B2.all w.params ++ [(I, oI)]))) := fun p hp => .tail _ (List.mem_append_right _ (List.mem_append_right _ (List.mem_append_left _ hp)))
    repeat' (first | (k_unfold; (try dsimp only)) | ((fail_if_success (first | (with_reducible show wpAny _ _ (pyIter (Value.ref _)) _ _ _) | (with_reducible show wpAny _ _ (call (Value.ref _) _) _ _ _) | (with_reducible show wpAny _ _ (exec (Stmt.For _ _ _ _ _) _) _ _ _))); first | walk1 | (dsimp only; walk1)))
    refine posn_at (z := { z2 with sc := sx2, dsc := sdx2, st := st2, ks := ks2, lks := lks2 }) (B := B2) (rest := Bf.all w.params { B1 with rows := rows1 } ++ (B2.head w.params ++ [(I, oI)])) (cls := cls) ⟨h2.T, h2.b, h2.t, h2.l⟩ (by show ClsOk prog w z2.D z2.oD cls; rw [hg.2.2.1, hg.2.2.2]; exact HC) (by show z2.flag = 0 ∨ z2.flag = 2 ∨ z2.flag = 8; rw [hfl]; exact hf) (hd2 ▸ hgs) hl2 hn2 (by exact Int.natCast_nonneg _) hat2 ho2 ?_ (by kwd_inv) (by kwd_inv) (by k_asm) N5 X T ?_ ?_ (by show Has b (z2.gled w.params); rw [hg.1]; exact HG) HL2 HS ?_ ?_
    · exact ⟨notin2 _ _ fun q hq => hnew5 _ (.tail _ (.head _)) q (hin5 q hq), notin2 _ _ fun q hq => hnew5 _ (.tail _ (.tail _ (.head _))) q (hin5 q hq)⟩
    · exact fun p hp => List.mem_append_right _ (hin5 p hp)
    · intro p hp
      have hp' : p ∈ [(sx2, instObj 65 sdx2), (sdx2, dictOf [ent w.params "buffer" (ks2 0) (.ref B2.buf), ent w.params "gdef" (ks2 1) (.ref z2.gd), ent w.params "lookups" (ks2 2) (.ref lks2), ent w.params "lookup" (ks2 3) (.ref z2.lk), ent w.params "mask" (ks2 4) (.int 1 (ks2 5)), ent w.params "depth" (ks2 6) (.int 0 (ks2 7)), ent w.params "steps" (ks2 8) (.ref st2)] 7)] := hp
      rw [hg.2.1] at hp'
      rcases List.mem_cons.mp hp' with h | hp
      · exact List.mem_append_left _ (h ▸ .tail _ (.head _))
      · exact List.mem_append_left _ (List.mem_singleton.mp hp ▸ .tail _ (.tail _ (.head _)))
    · intro p hp
      rcases List.mem_append.mp hp with hp | hp
      · exact ⟨List.mem_append_right _ (.tail _ (hB1 p hp)), hx12' p hp⟩
      rcases List.mem_append.mp hp with hp | hp
      · exact ⟨List.mem_append_right _ (hin5 p (List.mem_append_left _ hp)), ho2 p hp⟩
      · have h := List.mem_singleton.mp hp
        exact ⟨List.mem_append_right _ (.tail _ (List.mem_append_right _ (List.mem_append_right _ (List.mem_append_right _ hp)))), by rw [h]; exact hI2⟩
    intro g6 tk6 rows2 yy t6 hS2 hdo2 F6 N6
    have hpe : posAt z2.flag cls (dataOf B2.rows) (i : Int) (tts2.map (·.2)) = posAt z1.flag cls (dataOf B1.rows) (i : Int) (tts1.map (·.2)) := by rw [hfl, ← heq, hd2, hd1]
    have hall : (yy, dataOf rows2) = (xx, dataOf rows1) := hdo2.trans (hpe.trans hdo1.symm)
    have hout : dataOf rows2 = dataOf rows1 := congrArg Prod.snd hall
    obtain rfl : yy = xx := congrArg Prod.fst hall
    clear hall hpe hdo2 hdo1
    repeat' (first | (k_unfold; (try dsimp only)) | ((fail_if_success (first | (with_reducible show wpAny _ _ (pyIter (Value.ref _)) _ _ _) | (with_reducible show wpAny _ _ (call (Value.ref _) _) _ _ _) | (with_reducible show wpAny _ _ (exec (Stmt.For _ _ _ _ _) _) _ _ _))); first | walk1 | (dsimp only; walk1)))
    · exact absurd rfl (by assumption : yy ≠ yy)
    refine told_at (B := { B1 with rows := rows1 }) (by have := hS1.len; show rows1.length ≤ 6; exact Nat.le_trans (Nat.le_of_eq this) hl1) (by kwd_inv) (by kwd_inv) F6 N6 X T (fun p hp => List.mem_append_right _ (List.mem_append_left _ hp)) ?_
    intro E1 h13 tk13 more1 hE1 F13 N13
    repeat' (first | (k_unfold; (try dsimp only)) | ((fail_if_success (first | (with_reducible show wpAny _ _ (pyIter (Value.ref _)) _ _ _) | (with_reducible show wpAny _ _ (call (Value.ref _) _) _ _ _) | (with_reducible show wpAny _ _ (exec (Stmt.For _ _ _ _ _) _) _ _ _))); first | walk1 | (dsimp only; walk1)))
    refine told_at (B := { B2 with rows := rows2 }) (by have := hS2.len; show rows2.length ≤ 6; exact Nat.le_trans (Nat.le_of_eq this) hl2) (by kwd_inv) (by kwd_inv) F13 N13 X T (fun p hp => List.mem_append_right _ ?_) ?_
    · rcases List.mem_append.mp hp with hp | hp
      · rw [head_same hS2] at hp; exact List.mem_append_right _ (List.mem_append_right _ (List.mem_append_left _ hp))
      · exact List.mem_append_left _ hp
    intro E2 h14' tk14' more2' hE2 F14' N14'
    repeat' (first | (k_unfold; (try dsimp only)) | ((fail_if_success (first | (with_reducible show wpAny _ _ (pyIter (Value.ref _)) _ _ _) | (with_reducible show wpAny _ _ (call (Value.ref _) _) _ _ _) | (with_reducible show wpAny _ _ (exec (Stmt.For _ _ _ _ _) _) _ _ _))); first | walk1 | (dsimp only; walk1)))
    refine ne_dataH (hE1 _ fun p hp => (N14' p (List.mem_append_right _ (List.mem_append_left _ hp))).1) (hE2 _ fun p hp => (N14' p (List.mem_append_left _ hp)).1) (shaped_rows _) (shaped_rows _) (by kwd_inv) ?_
    rw [show PyData.eqv (rowsD (dataOf rows1)) (rowsD (dataOf rows2)) = true by rw [hout]; exact eqv_rows _]
    repeat' (first | (k_unfold; (try dsimp only)) | ((fail_if_success (first | (with_reducible show wpAny _ _ (pyIter (Value.ref _)) _ _ _) | (with_reducible show wpAny _ _ (call (Value.ref _) _) _ _ _) | (with_reducible show wpAny _ _ (exec (Stmt.For _ _ _ _ _) _) _ _ _))); first | walk1 | (dsimp only; walk1)))
    refine turn_end (news' := []) (.inl rfl) F14' N14' (fun p hp => ?_) (fun _ h => nomatch h) (fun _ h => nomatch h) (hJq _ _ ⟨bag_of fun y hy => ?_, rfl⟩)
    · exact List.mem_append_right _ (List.mem_append_right _ (List.mem_append_right _ (List.mem_append_right _ (List.mem_append_right _ hp))))
    · obtain ⟨e1, e2, e3, e4⟩ := bag4 hy
      simp only [e1, e2, e3, e4, if_false, hy, Bool.false_eq_true]
  · rintro h15 tk15 Gq hGq m3 nw3 ⟨-, rfl⟩
    refine hGq _ _ ?_
    clear hGq Gq
    rintro F15 N15
    dsimp only
    repeat' (first | (k_unfold; (try dsimp only)) | ((fail_if_success (first | (with_reducible show wpAny _ _ (pyIter (Value.ref _)) _ _ _) | (with_reducible show wpAny _ _ (call (Value.ref _) _) _ _ _) | (with_reducible show wpAny _ _ (exec (Stmt.For _ _ _ _ _) _) _ _ _))); first | walk1 | (dsimp only; walk1)))
    exact k _ _ _ _ ⟨rfl, rfl⟩ (sub_of_fr (by assumption)) Led.nil
end

section
variable {prog : Program} {w : World}
theorem value_init_c {x dx : Nat} {xo yo xa : Int} {t1 t2 t3 t4 : Tok} (hx : x ≠ dx) :
    Calls prog w 1 (.ref 499) [.ref x, .int xo t1, .int yo t2, .int xa t3, .int 0 t4] [] [(x, instObj 516 dx), (dx, emptyDict)] (fun _ v mu' => v = .none ∧ ∃ kk v', mu' = (VR.mk x dx kk v' xo yo xa).led w.params) := by
  intro dp un fr gds s b R hdp hun S G H0 N k
  obtain ⟨X, p, loose, mean, mg, mb, T⟩ := G
  refine' enter [("self", .ref x), ("x_offset", .int xo t1), ("y_offset", .int yo t2), ("x_advance", .int xa t3), ("y_advance", .int 0 t4)] S N X T ?k6 ?k7 ?k8 ?k9 ?kB ?_ ?c2 ?c3 ?c4 ?c5
  ( (case k6 | k7 => k_is); (case k8 => k_room); (case k9 => first | exact BindsTo.of_eq rfl | exact binds_K (by first | assumption | exact Frag.In.keeps (by assumption) (Sub.keep (by assumption))) rfl (by k_is) rfl rfl rfl); (case c5 => decide); (case kB => exact locs rfl); (case c2 | c3 | c4 => exact rfl); intro _ _ _ _ _ _; (try dsimp only); (try k_fold))
  repeat' (first | (k_unfold; (try dsimp only)) | walk1 | (dsimp only; walk1))
  have fin : ∀ (kk v' : Nat → Tok) l, l = (VR.mk x dx kk v' xo yo xa).led w.params → ∀ h' tk, Sub b h' → Led b h' l → R (.ok (.ret .none)) { s with heap := h', toks := tk } := fun kk v' l e h' tk S' L' => k _ _ _ _ ⟨rfl, kk, v', e⟩ S' L'
  exact fin (fun i => if i = 0 then _ else if i = 1 then _ else if i = 2 then _ else _) (fun i => if i = 0 then _ else if i = 1 then _ else if i = 2 then _ else _) _ rfl _ _ (sub_of_fr (by assumption)) (led_of_news (by assumption) (fun _ hp => hp))
theorem value_c {xo yo xa : Int} {t1 t2 t3 t4 : Tok} :
    Calls prog w 2 (.ref 516) [.int xo t1, .int yo t2, .int xa t3, .int 0 t4] [] [] (fun _ v mu' => ∃ u : VR, v = .ref u.a ∧ u.xo = xo ∧ u.yo = yo ∧ u.xa = xa ∧ mu' = u.led w.params) := by
  intro dp un fr gds s b R hdp hun S G H0 N k
  have X := G.X
  refine make_at G S (by k_is) (by k_is) (by k_is) (fun x dx h => value_init_c h) (by exact hdp) (by exact hun) (fun _ h => nomatch h) ?_
  rintro x dx h' tk mu' ⟨kk, v', rfl⟩ S' L'
  exact k _ _ _ _ ⟨_, rfl, rfl, rfl, rfl, rfl⟩ S' L'
theorem adjust_init_c {x dx D : Nat} (hx : x ≠ dx) :
    Calls prog w 1 (.ref 541) [.ref x, .ref D] [] [(x, instObj 549 dx), (dx, emptyDict)] (fun _ v mu' => v = .none ∧ ∃ kt, mu' = [(x, instObj 549 dx), (dx, dictOf [ent w.params "values" kt (.ref D)] 1)]) := by
  intro dp un fr gds s b R hdp hun S G H0 N k
  obtain ⟨X, p, loose, mean, mg, mb, T⟩ := G
  refine' enter [("self", .ref x), ("values", .ref D)] S N X T ?k6 ?k7 ?k8 ?k9 ?kB ?_ ?c2 ?c3 ?c4 ?c5
  ( (case k6 | k7 => k_is); (case k8 => k_room); (case k9 => first | exact BindsTo.of_eq rfl | exact binds_K (by first | assumption | exact Frag.In.keeps (by assumption) (Sub.keep (by assumption))) rfl (by k_is) rfl rfl rfl); (case c5 => decide); (case kB => exact locs rfl); (case c2 | c3 | c4 => exact rfl); intro _ _ _ _ _ _; (try dsimp only); (try k_fold))
  repeat' (first | (k_unfold; (try dsimp only)) | walk1 | (dsimp only; walk1))
  exact k _ _ _ _ ⟨rfl, _, rfl⟩ (sub_of_fr (by assumption)) (led_of_news (by assumption) (fun _ hp => hp))
theorem adjust_c {D : Nat} :
    Calls prog w 2 (.ref 549) [.ref D] [] [] (fun _ v mu' => ∃ (x dx : Nat) (kt : Tok), v = .ref x ∧ mu' = [(x, instObj 549 dx), (dx, dictOf [ent w.params "values" kt (.ref D)] 1)]) := by
  intro dp un fr gds s b R hdp hun S G H0 N k
  have X := G.X
  refine make_at G S (by k_is) (by k_is) (by k_is) (fun x dx h => adjust_init_c h) (by exact hdp) (by exact hun) (fun _ h => nomatch h) ?_
  rintro x dx h' tk mu' ⟨kt, rfl⟩ S' L'
  exact k _ _ _ _ ⟨x, dx, kt, rfl, rfl⟩ S' L'
theorem lookup_init_c {x dx tbl : Nat} {kind : Str} {flag : Int} {t1 t2 t3 : Tok} (hx : x ≠ dx) :
    Calls prog w 1 (.ref 35) [.ref x, .str kind t1, .int flag t2, .int 0 t3, .ref tbl] [] [(x, instObj 43 dx), (dx, emptyDict)] (fun _ v mu' => v = .none ∧ ∃ kk, mu' = lookLed w.params x dx tbl kind flag kk) := by
  intro dp un fr gds s b R hdp hun S G H0 N k
  obtain ⟨X, p, loose, mean, mg, mb, T⟩ := G
  refine' enter [("self", .ref x), ("kind", .str kind t1), ("flag", .int flag t2), ("mark_set", .int 0 t3), ("tables", .ref tbl)] S N X T ?k6 ?k7 ?k8 ?k9 ?kB ?_ ?c2 ?c3 ?c4 ?c5
  ( (case k6 | k7 => k_is); (case k8 => k_room); (case k9 => first | exact BindsTo.of_eq rfl | exact binds_K (by first | assumption | exact Frag.In.keeps (by assumption) (Sub.keep (by assumption))) rfl (by k_is) rfl rfl rfl); (case c5 => decide); (case kB => exact locs rfl); (case c2 | c3 | c4 => exact rfl); intro _ _ _ _ _ _; (try dsimp only); (try k_fold))
  repeat' (first | (k_unfold; (try dsimp only)) | walk1 | (dsimp only; walk1))
  have fin : ∀ (kk : Nat → Tok) l, l = lookLed w.params x dx tbl kind flag kk → ∀ h' tk, Sub b h' → Led b h' l → R (.ok (.ret .none)) { s with heap := h', toks := tk } := fun kk l e h' tk S' L' => k _ _ _ _ ⟨rfl, kk, e⟩ S' L'
  exact fin (fun i => if i = 0 then _ else if i = 1 then _ else if i = 2 then _ else if i = 3 then _ else if i = 4 then _ else if i = 5 then _ else _) _ rfl _ _ (sub_of_fr (by assumption)) (led_of_news (by assumption) (fun _ hp => hp))
theorem lookup_c {tbl : Nat} {kind : Str} {flag : Int} {t1 t2 t3 : Tok} :
    Calls prog w 2 (.ref 43) [.str kind t1, .int flag t2, .int 0 t3, .ref tbl] [] [] (fun _ v mu' => ∃ (x dx : Nat) (kk : Nat → Tok), v = .ref x ∧ mu' = lookLed w.params x dx tbl kind flag kk) := by
  intro dp un fr gds s b R hdp hun S G H0 N k
  have X := G.X
  refine make_at G S (by k_is) (by k_is) (by k_is) (fun x dx h => lookup_init_c h) (by exact hdp) (by exact hun) (fun _ h => nomatch h) ?_
  rintro x dx h' tk mu' ⟨kk, rfl⟩ S' L'
  exact k _ _ _ _ ⟨x, dx, kk, rfl, rfl⟩ S' L'
theorem classdef_init_c {x dx D : Nat} (hx : x ≠ dx) :
    Calls prog w 1 (.ref 706) [.ref x, .ref D] [] [(x, instObj 735 dx), (dx, emptyDict)] (fun _ v mu' => v = .none ∧ ∃ kt, mu' = [(x, instObj 735 dx), (dx, dictOf [ent w.params "classes" kt (.ref D)] 1)]) := by
  intro dp un fr gds s b R hdp hun S G H0 N k
  obtain ⟨X, p, loose, mean, mg, mb, T⟩ := G
  refine' enter [("self", .ref x), ("classes", .ref D)] S N X T ?k6 ?k7 ?k8 ?k9 ?kB ?_ ?c2 ?c3 ?c4 ?c5
  ( (case k6 | k7 => k_is); (case k8 => k_room); (case k9 => first | exact BindsTo.of_eq rfl | exact binds_K (by first | assumption | exact Frag.In.keeps (by assumption) (Sub.keep (by assumption))) rfl (by k_is) rfl rfl rfl); (case c5 => decide); (case kB => exact locs rfl); (case c2 | c3 | c4 => exact rfl); intro _ _ _ _ _ _; (try dsimp only); (try k_fold))
  repeat' (first | (k_unfold; (try dsimp only)) | walk1 | (dsimp only; walk1))
  exact k _ _ _ _ ⟨rfl, _, rfl⟩ (sub_of_fr (by assumption)) (led_of_news (by assumption) (fun _ hp => hp))
theorem classdef_c {D : Nat} :
    Calls prog w 2 (.ref 735) [.ref D] [] [] (fun _ v mu' => ∃ (x dx : Nat) (kt : Tok), v = .ref x ∧ mu' = [(x, instObj 735 dx), (dx, dictOf [ent w.params "classes" kt (.ref D)] 1)]) := by
  intro dp un fr gds s b R hdp hun S G H0 N k
  have X := G.X
  refine make_at G S (by k_is) (by k_is) (by k_is) (fun x dx h => classdef_init_c h) (by exact hdp) (by exact hun) (fun _ h => nomatch h) ?_
  rintro x dx h' tk mu' ⟨kt, rfl⟩ S' L'
  exact k _ _ _ _ ⟨x, dx, kt, rfl, rfl⟩ S' L'
theorem gdef_init_c {x dx c at_ sets : Nat} (hx : x ≠ dx) :
    Calls prog w 1 (.ref 754) [.ref x, .ref c, .ref at_, .ref sets] [] [(x, instObj 783 dx), (dx, emptyDict)] (fun _ v mu' => v = .none ∧ ∃ (kk : Nat → Tok) (pts car : Value) (more : Ledger), mu' = (x, instObj 783 dx) :: (dx, dictOf [ent w.params "classes" (kk 0) (.ref c), ent w.params "attach" (kk 1) (.ref at_), ent w.params "sets" (kk 2) (.ref sets), ent w.params "points" (kk 3) pts, ent w.params "carets" (kk 4) car] 5) :: more) := by
  intro dp un fr gds s b R hdp hun S G H0 N k
  obtain ⟨X, p, loose, mean, mg, mb, T⟩ := G
  refine' enter [("self", .ref x), ("classes", .ref c), ("attach", .ref at_), ("sets", .ref sets), ("points", .none), ("carets", .none)] S N X T ?k6 ?k7 ?k8 ?k9 ?kB ?_ ?c2 ?c3 ?c4 ?c5
  ( (case k6 | k7 => k_is); (case k8 => k_room); (case k9 => first | exact BindsTo.of_eq rfl | exact binds_K (by first | assumption | exact Frag.In.keeps (by assumption) (Sub.keep (by assumption))) rfl (by k_is) rfl rfl rfl); (case c5 => decide); (case kB => exact locs rfl); (case c2 | c3 | c4 => exact rfl); intro _ _ _ _ _ _; (try dsimp only); (try k_fold))
  repeat' (first | (k_unfold; (try dsimp only)) | walk1 | (dsimp only; walk1))
  have fin : ∀ (kk : Nat → Tok) (pts car : Value) l, l = [(x, instObj 783 dx), (dx, dictOf [ent w.params "classes" (kk 0) (.ref c), ent w.params "attach" (kk 1) (.ref at_), ent w.params "sets" (kk 2) (.ref sets), ent w.params "points" (kk 3) pts, ent w.params "carets" (kk 4) car] 5)] → ∀ h' tk, Sub b h' → Led b h' l → R (.ok (.ret .none)) { s with heap := h', toks := tk } := fun kk pts car l e h' tk S' L' => k _ _ _ _ ⟨rfl, kk, pts, car, [], e⟩ S' L'
  exact fin (fun i => if i = 0 then _ else if i = 1 then _ else if i = 2 then _ else if i = 3 then _ else _) _ _ _ rfl _ _ (sub_of_fr (by assumption)) (led_of_news (by assumption) (fun _ hp => .tail _ (.tail _ hp)))
theorem gdef_c {c at_ sets : Nat} :
    Calls prog w 2 (.ref 783) [.ref c, .ref at_, .ref sets] [] [] (fun _ v mu' => ∃ (x dx : Nat) (kk : Nat → Tok) (pts car : Value) (more : Ledger), v = .ref x ∧ mu' = (x, instObj 783 dx) :: (dx, dictOf [ent w.params "classes" (kk 0) (.ref c), ent w.params "attach" (kk 1) (.ref at_), ent w.params "sets" (kk 2) (.ref sets), ent w.params "points" (kk 3) pts, ent w.params "carets" (kk 4) car] 5) :: more) := by
  intro dp un fr gds s b R hdp hun S G H0 N k
  have X := G.X
  refine make_at G S (by k_is) (by k_is) (by k_is) (fun x dx h => gdef_init_c h) (by exact hdp) (by exact hun) (fun _ h => nomatch h) ?_
  rintro x dx h' tk mu' ⟨kk, pts, car, more, rfl⟩ S' L'
  exact k _ _ _ _ ⟨x, dx, kk, pts, car, more, rfl, rfl⟩ S' L'
end

/-! walking a dict's values, whatever its keys are -/
namespace RawV
open RawD (Raw)
noncomputable def It (h : Heap) (I d : Addr) (i n ep : Nat) : Prop := ∃ o, h.get? I = some o ∧ o.cls = .type "dict_valueiterator" ∧ o.data = .fields #[.ref d, .int i 0, .int n 0, .int ep 0]
theorem It.typeIs {s : Shared} {I d : Addr} {i n ep : Nat} (x : It s.heap I d i n ep) : s.TypeIs (.ref I) "dict_valueiterator" := let ⟨o, ho, hc, _⟩ := x; ⟨o, ho, hc⟩
theorem It.at' {h h' : Heap} {I d : Addr} {i n ep : Nat} (x : It h I d i n ep) (e : ∀ o, h.get? I = some o → h'.get? I = some o) : It h' I d i n ep := let ⟨o, ho, r⟩ := x; ⟨o, e o ho, r⟩
section
variable {prog : Program} {w : World} {A : Around} {E : Value → Shared → Prop} {s : Shared} {I d v : Addr} {es : Array DictEntry} {ep : Nat}
theorem meetsV (d : Addr) (hd : NotSys d) : MeetsIn prog w (Builtin.«dict.values» ⟨[.ref d], []⟩) (fun _ R s => s.TypeIs (.ref d) "dict" ∧
      R (.ok (.ret (.ref s.heap.objs.size))) { s with heap := s.heap.push { cls := .type "dict_values", data := .fields #[.ref d] } }) :=
  .of_wp fun A R s ⟨hT, h⟩ => by
    refine wpAny_bind ?_
    unfold Builtin.Dict.noArgs
    refine wpAny_bind (wpAny_notOrdered_dict hT ?_)
    show wpAny _ _ (pure d) _ _ s
    refine wpAny_pure ?_
    show wpAny _ _ (Builtin.Dict.showsAll d >>= _) _ _ s
    unfold Builtin.Dict.showsAll
    rw [if_neg (by rw [hd]; exact Bool.false_ne_true)]
    refine wpAny_bind (wpAny_pure ?_)
    exact wpAny_bind (wpAny_newObj_type (wpAny_pure ⟨_, rfl, h⟩))
theorem call_values {Q : Value → Shared → Prop} (x : Raw s.heap d es ep) (lo : NotSys d) (h : Q (.ref s.heap.objs.size) { s with heap := s.heap.push { cls := .type "dict_values", data := .fields #[.ref d] } }) :
    wpAny (model prog w) A (call (.builtin "dict.values") [.ref d]) Q E s := by
  obtain ⟨o, ho, hc, hd⟩ := x
  exact call_meetsIn PySem.F.slot_dict_values ⟨o, ho, hc.1⟩ PySem.F.entry_dict_values (PySem.F.args_dict_values_1 _) (meetsV d lo) ⟨⟨o, ho, hc.1⟩, h⟩
theorem method_values {pl : Sem Bool} {Q : Value × List Value → Shared → Prop} (x : Raw s.heap d es ep) (h : Q (.builtin "dict.values", [.ref d]) s) : wpAny (model prog w) A (getMethod (.ref d) "values" pl) Q E s := by
  obtain ⟨o, ho, hc, hd⟩ := x
  exact getMethod_builtin ⟨o, ho, hc.1⟩ PySem.F.plainAttrs_dict PySem.F.slot_dict_values PySem.F.type_dict_values (fun b e => by injection e with e; subst e; exact ⟨o, ho, hc.2.1⟩) h
theorem pyIterV {Q : Value → Shared → Prop} (hv : s.heap.get? v = some { cls := .type "dict_values", data := .fields #[.ref d] }) (x : Raw s.heap d es ep)
    (h : Q (.ref s.heap.objs.size) { s with heap := s.heap.push { cls := .type "dict_valueiterator", data := .fields #[.ref d, .int 0 0, .int es.size 0, .int ep 0] } }) : wpAny (model prog w) A (pyIter (.ref v)) Q E s := by
  obtain ⟨o, ho, hc, hd⟩ := x
  have hT : s.TypeIs (.ref v) "dict_values" := ⟨_, hv, rfl⟩
  refine wpAny_pyIter_slot hT PySem.F.slot_dict_values_iter (wpAny_call_entry PySem.F.slot_dict_values_iter hT PySem.F.entry_dict_values_iter ?_ (PySem.F.args_dict_values_iter_1 _))
  unfold Builtin.«dict_values.__iter__»
  refine wpAny_bind (wpAny_pure ?_)
  refine wpAny_bind ?_
  unfold Builtin.Dict_items.dictOf
  refine wpAny_bind (wpAny_field hv rfl (x := .ref d) rfl (wpAny_pure ?_))
  refine wpAny_bind ?_
  unfold Builtin.Dict_items.newIterator
  refine wpAny_bind (wpAny_dictEntries ho hd ?_)
  refine wpAny_bind (wpAny_dictEpoch ho hd ?_)
  have hown : Builtin.Dict_items.ownsTuple "dict_valueiterator" = false := by decide
  simp only [hown, Bool.false_eq_true, if_false]
  refine wpAny_newObj_type (wpAny_pure ⟨_, rfl, "dict_valueiterator", _, ⟨_, Heap.get?_push_size _ rfl, rfl⟩, PySem.F.slot_dict_valueiterator_next.lookup, ?_⟩)
  simpa [rawInt] using h
theorem nextV {i : Nat} {e : DictEntry} {Q : Option Value → Shared → Prop} (it : It s.heap I d i es.size ep) (x : Raw s.heap d es ep) (hx : es[i]? = some e)
    (hQ : ∀ h', It h' I d (i + 1) es.size ep → Heap.SameBut I s.heap h' → Q (some e.val) { s with heap := h' }) : wpAny (model prog w) A (pyNext (.ref I)) Q E s := by
  obtain ⟨o, ho, hc, hd⟩ := id it
  obtain ⟨od, hod, hcd, hdd⟩ := x
  unfold pyNext
  refine wpAny_bind (wpAny_attempt (wpAny_callSpecial?_slot (name := Str.ofString "__next__") it.typeIs PySem.F.slot_dict_valueiterator_next
    (wpAny_call_entry PySem.F.slot_dict_valueiterator_next it.typeIs PySem.F.entry_dict_valueiterator_next ?_ (PySem.F.args_dict_valueiterator_next_1 _))))
  refine wpAny_bind (wpAny_pure ?_)
  refine wpAny_bind ?_
  refine wpAny_bind ?_
  first | refine wpAny_bind (wpAny_typeNameOfWhole_valiter it.typeIs (wpAny_pure ?_)) | refine wpAny_bind (wpAny_typeNameOf_valiter it.typeIs (wpAny_pure ?_))
  refine wpAny_bind (wpAny_fieldsOf ho hd ?_)
  have hown : Builtin.Dict_items.ownsTuple "dict_valueiterator" = false := by decide
  simp only [hown, Bool.false_eq_true, if_false]
  show wpAny _ _ (if (Value.ref d == Value.none) = true then _ else _) _ _ s
  rw [if_neg (show ¬ ((Value.ref d == Value.none) = true) from Bool.false_ne_true)]
  refine wpAny_bind (wpAny_pure ?_)
  refine wpAny_bind (wpAny_dictEntries hod hdd ?_)
  rw [if_neg (by simp)]
  refine wpAny_bind (wpAny_pure ?_)
  refine wpAny_bind (wpAny_dictEpoch hod hdd ?_)
  rw [if_neg (by simp)]
  refine wpAny_pure ?_
  simp only [show ¬ ((i : Int) < 0) from by exact Int.not_lt.mpr (Int.natCast_nonneg _), if_false, Int.toNat_natCast, hx]
  refine wpAny_bind ?_
  first | refine wpAny_bind (wpAny_typeNameOfWhole_valiter it.typeIs (wpAny_pure ?_)) | refine wpAny_bind (wpAny_typeNameOf_valiter it.typeIs (wpAny_pure ?_))
  refine wpAny_bind (wpAny_isOneOf_valiter it.typeIs ?_)
  show wpAny _ _ (setField (.ref I) 1 (rawInt ((i : Int) + 1)) >>= _) _ _ s
  refine wpAny_bind (wpAny_setField ho hd (by simp) ?_)
  have hit' : It (s.heap.update I (Obj.mapFields (·.setIfInBounds 1 (rawInt ((i : Int) + 1))))) I d (i + 1) es.size ep :=
    ⟨_, Heap.get?_update_self _ ho (Obj.isFreed_of_fields (Obj.data_mapFields hd _)), (Obj.cls_mapFields ..).trans hc, by rw [Obj.data_mapFields hd]; simp [rawInt]⟩
  refine wpAny_bind (wpAny_holding ?_)
  refine wpAny_bind (wpAny_isOneOf_valiter (s := { s with heap := s.heap.update I (Obj.mapFields (·.setIfInBounds 1 (rawInt ((i : Int) + 1)))) }) hit'.typeIs ?_)
  rw [if_neg (by decide)]
  refine wpAny_bind (wpAny_isOneOf_valiter (s := { s with heap := s.heap.update I (Obj.mapFields (·.setIfInBounds 1 (rawInt ((i : Int) + 1)))) }) hit'.typeIs ?_)
  show wpAny _ _ (pure e.val) _ _ _
  exact wpAny_pure (wpAny_pure ⟨_, rfl, wpAny_pure (hQ _ hit' (Heap.SameBut.update ..))⟩)
theorem endV {Q : Option Value → Shared → Prop} (hh : A.handled = none) (it : It s.heap I d es.size es.size ep) (x : Raw s.heap d es ep)
    (hQ : ∀ h', Heap.ExtBut I s.heap h' → Q none { s with heap := h' }) : wpAny (model prog w) A (pyNext (.ref I)) Q E s := by
  obtain ⟨o, ho, hc, hd⟩ := id it
  obtain ⟨od, hod, hcd, hdd⟩ := x
  unfold pyNext
  refine wpAny_bind (wpAny_attempt (wpAny_callSpecial?_slot (name := Str.ofString "__next__") it.typeIs PySem.F.slot_dict_valueiterator_next
    (wpAny_call_entry PySem.F.slot_dict_valueiterator_next it.typeIs PySem.F.entry_dict_valueiterator_next ?_ (PySem.F.args_dict_valueiterator_next_1 _))))
  refine wpAny_bind (wpAny_pure ?_)
  refine wpAny_bind ?_
  refine wpAny_bind ?_
  first | refine wpAny_bind (wpAny_typeNameOfWhole_valiter it.typeIs (wpAny_pure ?_)) | refine wpAny_bind (wpAny_typeNameOf_valiter it.typeIs (wpAny_pure ?_))
  refine wpAny_bind (wpAny_fieldsOf ho hd ?_)
  have hown : Builtin.Dict_items.ownsTuple "dict_valueiterator" = false := by decide
  simp only [hown, Bool.false_eq_true, if_false]
  show wpAny _ _ (if (Value.ref d == Value.none) = true then _ else _) _ _ s
  rw [if_neg (show ¬ ((Value.ref d == Value.none) = true) from Bool.false_ne_true)]
  refine wpAny_bind (wpAny_pure ?_)
  refine wpAny_bind (wpAny_dictEntries hod hdd ?_)
  rw [if_neg (by simp)]
  refine wpAny_bind (wpAny_pure ?_)
  refine wpAny_bind (wpAny_dictEpoch hod hdd ?_)
  rw [if_neg (by simp)]
  refine wpAny_pure ?_
  simp only [show ¬ ((es.size : Int) < 0) from by exact Int.not_lt.mpr (Int.natCast_nonneg _), if_false, Int.toNat_natCast, Array.getElem?_eq_none (Nat.le_refl _)]
  refine wpAny_bind ?_
  first | refine wpAny_bind (wpAny_typeNameOfWhole_valiter it.typeIs (wpAny_pure ?_)) | refine wpAny_bind (wpAny_typeNameOf_valiter it.typeIs (wpAny_pure ?_))
  show wpAny _ _ (setField (.ref I) 0 .none >>= _) _ _ s
  refine wpAny_bind (wpAny_setField ho hd (by simp) ?_)
  show wpAny _ _ (newExc (.type "StopIteration") [] >>= _) _ _ _
  refine wpAny_bind ?_
  simp only [newExc, newTuple]
  refine wpAny_bind (wpAny_newObj_type ?_ (by size_fits))
  refine wpAny_bind (m := firstArgMember _ _) (wpAny_of_eq (a := Value.none) (by first | rfl | (simp only [firstArgMember]; rfl)) ?_)
  refine wpAny_newObj_type ?_ (by size_fits)
  simp only [raiseNew]
  refine wpAny_bind (wpAny_handled ?_)
  rw [show A.in1.handled = none from hh]
  refine wpAny_bind (wpAny_pure (wpAny_throw ?_))
  refine wpAny_bind (wpAny_isInstance (T := "StopIteration") (b := true) ⟨_, Heap.get?_push_size _ rfl, rfl⟩ isSubtype_stop ?_)
  exact wpAny_pure (hQ _ (((Heap.SameBut.update ..).extBut.push _).push _))
theorem selfV {i n : Nat} {Q : Value → Shared → Prop} (it : It s.heap I d i n ep) (h : Q (.ref I) s) : wpAny (model prog w) A (pyIter (.ref I)) Q E s := by
  refine wpAny_pyIter_slot it.typeIs PySem.F.slot_dict_valueiterator_iter (wpAny_call_entry PySem.F.slot_dict_valueiterator_iter it.typeIs PySem.entry_dict_valueiterator_iter ?_ (PySem.F.args_dict_valueiterator_iter_1 _))
  show wpAny _ _ (ret (.ref I)) _ _ s
  exact wpAny_pure ⟨_, rfl, "dict_valueiterator", _, it.typeIs, PySem.F.slot_dict_valueiterator_next.lookup, h⟩
theorem walksV (hh : A.handled = none) (I d : Addr) (hne : d ≠ I) (es : Array DictEntry) (ep : Nat) :
    Walks prog w A I [I, d] [I] es.size (fun i v => (es[i]?).map (·.val) = some v) (fun i h => It h I d i es.size ep ∧ Raw h d es ep) where
  sub := fun b hb => by simp at hb; simp [hb]
  frame := fun _ _ _ st hk => ⟨st.1.at' fun o e => hk I (by simp) o e, st.2.at' fun o e => hk d (by simp) o e⟩
  item := fun i s Q E hi st hQ => by
    have hx : es[i]? = some es[i] := Array.getElem?_eq_getElem hi
    refine nextV st.1 st.2 hx fun h' it' hs' => ?_
    exact hQ _ h' s.toks (by rw [hx]; rfl) ⟨it', st.2.at' fun o e => (hs'.2 d hne).trans e⟩ fun b o hb e => (hs'.2 b (fun h => hb (by simp [h]))).trans e
  done := fun s Q E st hQ => endV hh st.1 st.2 fun h' he' => hQ h' s.toks fun b o hb e => he' b o (fun h => hb (by simp [h])) e
  self := fun _ _ _ _ st hQ => selfV st.1 hQ
end


section
open LCg
noncomputable def SrcVT (prog : Program) (w : World) (A : Around) (b : Heap) (L : Addr) (m : Str → Option Value) (env : Env) (ct elt : Expr) (x : Str) (scope : Scope) (cl : List (Str × Addr)) (Q : Value → Shared → Prop) (xv : Value) (s₁ : Shared) : Prop :=
    ∃ v d es ep news, xv = .ref v ∧ s₁.heap.get? v = some { cls := .type "dict_values", data := .fields #[.ref d] } ∧ A.handled = none ∧ Fr b L s₁.heap m ∧ News b L s₁.heap news ∧ Raw b d es ep ∧ es.size ≤ 1000 ∧
      ∀ g, LCt.CompRestT prog w A b L m env ct elt x scope cl { s₁ with heap := g } (fun _ => True) (fun i v => (es[i]?).map (·.val) = some v) (FinE b L m { s₁ with heap := g } Q) es.size 0 [] news
variable {prog : Program} {w : World} {A : Around} {E : Value → Shared → Prop} {s : Shared} {b : Heap} {L : Addr} {m : Str → Option Value} {env : Env}
open LCt in
theorem ListComp_VT {ct elt iter : Expr} {x : Str} {px : Pos} {scope : Scope} {cl : List (Str × Addr)} {pos : Pos} {Q : Value → Shared → Prop} (F₀ : Fr b L s.heap m)
    (hclos : closureFor scope env = pure cl) (hcell : ∀ y ∈ scope.names, y.2 ≠ .cell) (hkind : scope.kind = .function)
    (hnames : ∀ y ∈ scope.names, y.2 = .local → scope.names.lookup y.1 = some .local) (hx : scope.names.lookup x = some .local)
    (h : wpAny (model prog w) A (eval iter env) (SrcVT prog w A b L m env ct elt x scope cl Q) E s)
    (hs : ∀ x, foldedSetIterable iter env x = pure x := by intro _; rfl) :
    wpAny (model prog w) A (eval (.ListComp elt [⟨.Name x px, iter, [ct], 0⟩] scope pos) env) Q E s := by
  rw [eval_ListComp]
  refine wpAny_comprehension_free (use := none) rfl hs hclos hkind hnames (wpAny_mono h (fun xv s₁ h₁ => ?_) fun _ _ e => e)
  obtain ⟨v, d, es, ep, news, rfl, hv, hh, F, N, hr, hsz, R⟩ := h₁
  have hr1 : Raw s₁.heap d es ep := hr.at' fun o e => F.keep _ _ e
  have hlt : d < s₁.heap.objs.size := let ⟨_, e, _⟩ := hr1; Heap.lt_size e
  refine pyIterV hv hr1 ?_
  have up : ∀ b o, s₁.heap.get? b = some o → (s₁.heap.push { cls := .type "dict_valueiterator", data := .fields #[.ref d, .int 0 0, .int es.size 0, .int ep 0] }).get? b = some o := fun b o e => Heap.get?_push_of_some _ e
  refine block_T (walksV hh s₁.heap.objs.size d (Nat.ne_of_lt hlt) es ep) (by rw [sizeLine_eq]; exact o_le hsz rfl) (fun i h st => by obtain ⟨o, e, _⟩ := st.1; exact ⟨o, e⟩)
    (S := fun _ => True) (fun i h h' o nw st e e' k N' S => ⟨by obtain ⟨o', q, r⟩ := st.1; rw [e] at q; cases q; exact ⟨o, e', r⟩, hr.at' fun o e => k _ _ e⟩) hcell hkind hx ⟨⟨_, Heap.get?_push_size _ rfl, rfl, rfl⟩, hr1.at' fun o e => up _ _ e⟩ (fun a ha => ?_)
    (F.keeps up) (N.grown up) (Nat.ne_of_lt F.ns.lt) (next_is_new F) (fun p hp => Nat.ne_of_lt (Heap.lt_size (N p hp).1)) trivial (R _) ?_
  · show a < (s₁.heap.push _).objs.size
    rw [Heap.size_push]
    rcases List.mem_cons.mp ha with rfl | ha
    · exact Nat.lt_succ_self _
    · rw [List.mem_singleton.mp ha]; exact Nat.lt_succ_of_lt hlt
  · intro D C h tk m' ys news' F' N' o1 hn hC₀ hD₀ hCL hDL hCD offC fin
    refine ⟨m', hn, fun h'' hs'' => fin D h'' tk (F'.change hs'' hCL hC₀) (fun p hp => ?_) o1⟩
    refine ⟨hs''.extBut _ _ ?_ (N' p hp).1, (N' p hp).2⟩
    rcases List.mem_cons.mp hp with rfl | hp
    · exact Ne.symm hCD
    · exact offC p hp
end
end RawV

/-! a table of pairs, made -/
structure PairD (prog : Program) (w : World) (src : Ledger) (D : Nat) (f : Int → Int → Option (Nat × VR × VR)) : Prop where
  ex : ∃ (oD : Obj) (es : Array DictEntry) (ep : Nat) (xs : List (List Int × Addr × Value)), (D, oD) ∈ src ∧ NotSys D ∧
    oD.ExactDict ∧ oD.data = .dict es ep ∧ es.toList = xs.map (entryOfKey (tupleKind (PySem.intKind prog w))) ∧ (∀ x ∈ xs, ∃ ok, (x.2.1, ok) ∈ src ∧ TupKeyObj (PySem.intKind prog w) x.1 ok) ∧ (xs.map (·.1)).Nodup ∧ (∀ x ∈ xs, ∃ a b, x.1 = [a, b]) ∧
    (∀ a b, (atKey xs [a, b]).map (·.2) = (f a b).map fun t => Value.ref t.1) ∧ xs.length ≤ 1000
  val : ∀ a b t, f a b = some t → (∃ n, (t.1, ({ cls := .type "tuple", data := .seq #[.ref t.2.1.a, .ref t.2.2.a] n } : Obj)) ∈ src) ∧ (∀ p ∈ t.2.1.led w.params, p ∈ src) ∧ ∀ p ∈ t.2.2.led w.params, p ∈ src
theorem PairD.tab {prog : Program} {w : World} {src src2 : Ledger} {D tab da : Nat} {sec : Bool} {f : Int → Int → Option (Nat × VR × VR)} {k k' : Tok} (h : PairD prog w src D f) (hs : ∀ p ∈ src, p ∈ src2) (h1 : (tab, instObj 602 da) ∈ src2) (h2 : (da, dictOf [ent w.params "pairs" k (.ref D), ent w.params "is_second" k' (.bool sec)] 2) ∈ src2) : PairTab prog w src2 tab sec f := by
  obtain ⟨⟨oD, es, ep, xs, m3, lo, he, hd, hes, hks, hnd, hkk, hat, hxl⟩, hval⟩ := h
  exact ⟨⟨da, D, oD, es, ep, xs, k, k', h1, h2, hs _ m3, lo, he, hd, hes, fun x hx => let ⟨ok, a, b⟩ := hks x hx; ⟨ok, hs _ a, b⟩, hnd, hkk, hat, hxl⟩, fun a b t ht => let ⟨⟨n, a1⟩, a2, a3⟩ := hval a b t ht; ⟨⟨n, hs _ a1⟩, fun p hp => hs _ (a2 p hp), fun p hp => hs _ (a3 p hp)⟩⟩
noncomputable def VR.Zero (u : VR) : Prop := u.xo = 0 ∧ u.yo = 0 ∧ u.xa = 0
theorem atKey_mem {xs : List (List Int × Addr × Value)} {x : List Int × Addr × Value} (hn : (xs.map (·.1)).Nodup) (hx : x ∈ xs) : atKey xs x.1 = some x.2 := by
  induction xs with
  | nil => cases hx
  | cons y ys ih =>
    rw [List.map_cons, List.nodup_cons] at hn
    unfold atKey
    rcases List.mem_cons.mp hx with rfl | hx
    · simp
    · have hne : y.1 ≠ x.1 := fun e => hn.1 (e ▸ List.mem_map_of_mem hx)
      have := ih hn.2 hx
      unfold atKey at this
      simp [hne, this]
section
variable {prog : Program} {w : World}
theorem value_told_c {u : VR} (hz : u.Zero) : Calls prog w 1 (.ref 506) [.ref u.a] (u.led w.params) [] (fun _ v mu' => ∃ (T n : Nat) (t : Nat → Tok), v = .ref T ∧ mu' = [(T, { cls := .type "tuple", data := .seq #[.int 0 (t 0), .int 0 (t 1), .int 0 (t 2), .int 0 (t 3)] n })]) := by
  intro dp un fr gds s b R hdp hun S G H0 N k
  obtain ⟨X, p, loose, mean, mg, mb, T⟩ := G
  have I1 := inst_has H0.c.1 H0.c.2.c.1
  obtain ⟨e1, e2, e3⟩ := hz
  rw [e1, e2, e3] at I1
  refine' enter [("self", .ref u.a)] S N X T ?k6 ?k7 ?k8 ?k9 ?kB ?_ ?c2 ?c3 ?c4 ?c5
  ( (case k6 | k7 => k_is); (case k8 => k_room); (case k9 => first | exact BindsTo.of_eq rfl | exact binds_K (by first | assumption | exact Frag.In.keeps (by assumption) (Sub.keep (by assumption))) rfl (by k_is) rfl rfl rfl); (case c5 => decide); (case kB => exact locs rfl); (case c2 | c3 | c4 => exact rfl); intro _ _ _ _ _ _; (try dsimp only); (try k_fold))
  repeat' (first | (k_unfold; (try dsimp only)) | ((fail_if_success (first | (with_reducible show wpAny _ _ (call (Value.ref _) _) _ _ _) | (with_reducible show wpAny _ _ (eval (Expr.ListComp _ _ _ _) _) _ _ _))); first | walk1 | (dsimp only; walk1)))
  have fin : ∀ (T n : Nat) (t : Nat → Tok) l, l = [(T, ({ cls := .type "tuple", data := .seq #[.int 0 (t 0), .int 0 (t 1), .int 0 (t 2), .int 0 (t 3)] n } : Obj))] → ∀ h' tk, Sub b h' → Led b h' l → R (.ok (.ret (.ref T))) { s with heap := h', toks := tk } := fun T n t l e h' tk S' L' => k _ _ _ _ ⟨T, n, t, rfl, e⟩ S' L'
  exact fin _ _ (fun i => if i = 0 then _ else if i = 1 then _ else if i = 2 then _ else _) _ rfl _ _ (sub_of_fr (by assumption)) (led_of_news (by assumption) (fun _ hp => hp))
theorem is_nothing_c {u : VR} (hz : u.Zero) : Calls prog w 2 (.ref 513) [.ref u.a] (u.led w.params) [] (fun _ v mu' => v = .bool true ∧ mu' = []) := by
  intro dp un fr gds s b R hdp hun S G H0 N k
  obtain ⟨X, p, loose, mean, mg, mb, T⟩ := G
  have I1 := inst_has H0.c.1 H0.c.2.c.1
  refine' enter [("self", .ref u.a)] S N X T ?k6 ?k7 ?k8 ?k9 ?kB ?_ ?c2 ?c3 ?c4 ?c5
  ( (case k6 | k7 => k_is); (case k8 => k_room); (case k9 => first | exact BindsTo.of_eq rfl | exact binds_K (by first | assumption | exact Frag.In.keeps (by assumption) (Sub.keep (by assumption))) rfl (by k_is) rfl rfl rfl); (case c5 => decide); (case kB => exact locs rfl); (case c2 | c3 | c4 => exact rfl); intro _ _ _ _ _ _; (try dsimp only); (try k_fold))
  repeat' (first | (k_unfold; (try dsimp only)) | ((fail_if_success (first | (with_reducible show wpAny _ _ (call (Value.ref _) _) _ _ _) | (with_reducible show wpAny _ _ (eval (Expr.ListComp _ _ _ _) _) _ _ _))); first | walk1 | (dsimp only; walk1)))
  refine' use0 (value_told_c hz) ?hdp ?hun ?F ?N ?X ?T ?hi ?_
  ( (case hdp | hun => kwd_inv); (case F | N | X | T => k_asm))
  (case hi => exact fun p hp => Or.inr (H0 p hp))
  rintro Gq hGq n1 _ h1 tk1 _ ⟨T1, nT, tt, rfl, rfl⟩
  refine hGq _ _ _ _ _ ?_
  clear hGq Gq
  rintro hlt1 hL1 F1 N1
  rw [List.append_nil] at N1
  repeat' (first | (k_unfold; (try dsimp only)) | ((fail_if_success (first | (with_reducible show wpAny _ _ (call (Value.ref _) _) _ _ _) | (with_reducible show wpAny _ _ (eval (Expr.ListComp _ _ _ _) _) _ _ _))); first | walk1 | (dsimp only; walk1)))
  exact k _ _ _ [] ⟨rfl, rfl⟩ (sub_of_fr (by assumption)) Led.nil
theorem moves_second_c {src : Ledger} {v D : Nat} {f : Int → Int → Option (Nat × VR × VR)} (HD : PairD prog w src D f) (hz : ∀ a b t, f a b = some t → t.2.2.Zero) :
    Calls prog w 3 (.ref 572) [.ref v] ((v, { cls := .type "dict_values", data := .fields #[.ref D] }) :: src) [] (fun _ r mu' => r = .bool false ∧ mu' = []) := by
  intro dp un fr gds s b R hdp hun S G H0 N k
  obtain ⟨X, p, loose, mean, mg, mb, T⟩ := G
  obtain ⟨⟨oD, es, ep, xs, m3, lo, he, hd, hes, hks, hnd, hkk, hat, hxl⟩, hval⟩ := HD
  have hv := H0.c.1
  have HS := H0.c.2
  have hD := HS _ m3
  have hes' : es.size = xs.length := by rw [← Array.length_toList, hes, List.length_map]
  refine' enter [("pairs", .ref v)] S N X T ?k6 ?k7 ?k8 ?k9 ?kB ?_ ?c2 ?c3 ?c4 ?c5
  ( (case k6 | k7 => k_is); (case k8 => k_room); (case k9 => first | exact BindsTo.of_eq rfl | exact binds_K (by first | assumption | exact Frag.In.keeps (by assumption) (Sub.keep (by assumption))) rfl (by k_is) rfl rfl rfl); (case c5 => decide); (case kB => exact locs rfl); (case c2 | c3 | c4 => exact rfl); intro _ _ _ _ _ _; (try dsimp only); (try k_fold))
  repeat' (first | (k_unfold; (try dsimp only)) | ((fail_if_success (first | (with_reducible show wpAny _ _ (call (Value.ref _) _) _ _ _) | (with_reducible show wpAny _ _ (eval (Expr.ListComp _ _ _ _) _) _ _ _))); first | walk1 | (dsimp only; walk1)))
  refine RawV.ListComp_VT (F₀ := by k_asm) (by rfl) (by decide) (by rfl) (by decide) (by rfl) ?_
  repeat' (first | (k_unfold; (try dsimp only)) | ((fail_if_success (first | (with_reducible show wpAny _ _ (call (Value.ref _) _) _ _ _) | (with_reducible show wpAny _ _ (eval (Expr.ListComp _ _ _ _) _) _ _ _))); first | walk1 | (dsimp only; walk1)))
  refine ⟨v, D, es, ep, [], rfl, Fr.keep (by k_asm) _ _ hv, rfl, by assumption, by assumption, ⟨oD, hD, he, hd⟩, by exact Nat.le_trans (Nat.le_of_eq hes') hxl, fun g => ?_⟩
  refine comp_invT (fun c ys nw => nw = [] ∧ ys = []) ⟨rfl, rfl⟩ ?_ ?_
  · rintro c ys nw vv I oI C oC D2 m2 h tk E' hc ⟨rfl, rfl⟩ hvv hC hx F2 N2 off ne
    obtain ⟨x, hxc⟩ : ∃ x, xs[c]? = some x := ⟨xs[c]'(by exact Nat.lt_of_lt_of_eq hc hes'), List.getElem?_eq_getElem _⟩
    have hxm := List.mem_of_getElem? hxc
    obtain ⟨y1, y2, hy⟩ := hkk x hxm
    have hax : atKey xs [y1, y2] = some x.2 := hy ▸ atKey_mem hnd hxm
    have hfx := hat y1 y2
    rw [hax] at hfx
    obtain ⟨t, hft, hte⟩ := Option.map_eq_some_iff.mp hfx.symm
    obtain ⟨⟨np, hpm⟩, -, hu2⟩ := hval _ _ _ hft
    obtain rfl : vv = .ref t.1 := by
      rw [← Array.getElem?_toList, hes, List.getElem?_map, hxc] at hvv
      rw [hte]
      exact (Option.some.inj hvv).symm
    have hpv := HS _ hpm
    have HU2 : Has b (t.2.2.led w.params) := fun p hp => HS _ (hu2 _ hp)
    have I9 := inst_has HU2.c.1 HU2.c.2.c.1
    repeat' (first | (k_unfold; (try dsimp only)) | ((fail_if_success (first | (with_reducible show wpAny _ _ (call (Value.ref _) _) _ _ _) | (with_reducible show wpAny _ _ (eval (Expr.ListComp _ _ _ _) _) _ _ _))); first | walk1 | (dsimp only; walk1)))
    refine' use0 (is_nothing_c (hz _ _ _ hft)) ?hdp ?hun ?F ?N ?X ?T ?hi ?_
    ( (case hdp | hun => kwd_inv); (case F | N | X | T => k_asm))
    (case hi => exact fun p hp => Or.inr (HU2 p hp))
    rintro Gq hGq n1 _ h1 tk1 _ ⟨rfl, rfl⟩
    refine hGq _ _ _ _ _ ?_
    clear hGq Gq
    rintro hlt1 hL1 F3 N3
    dsimp only [List.nil_append] at N3
    repeat' (first | (k_unfold; (try dsimp only)) | ((fail_if_success (first | (with_reducible show wpAny _ _ (call (Value.ref _) _) _ _ _) | (with_reducible show wpAny _ _ (eval (Expr.ListComp _ _ _ _) _) _ _ _))); first | walk1 | (dsimp only; walk1)))
    done
  · rintro ys nw ⟨rfl, rfl⟩
    unfold LCg.FinE
    intro D2 h2 tk2 F2 N2 o2
    repeat' (first | (k_unfold; (try dsimp only)) | ((fail_if_success (first | (with_reducible show wpAny _ _ (call (Value.ref _) _) _ _ _) | (with_reducible show wpAny _ _ (eval (Expr.ListComp _ _ _ _) _) _ _ _))); first | walk1 | (dsimp only; walk1)))
    exact k _ _ _ [] ⟨rfl, rfl⟩ (sub_of_fr (by assumption)) Led.nil
theorem values_N {A : Around} {E : Value → Shared → Prop} {s : Shared} {b : Heap} {L d : Addr} {m : Str → Option Value} {news : Ledger} {es : Array DictEntry} {ep : Nat} {Q : Value → Shared → Prop} (F : Fr b L s.heap m) (N : News b L s.heap news) (x : RawD.Raw s.heap d es ep) (lo : NotSys d)
    (h : ∀ (V : Nat) h', Fr b L h' m → News b L h' ((V, { cls := .type "dict_values", data := .fields #[.ref d] }) :: news) → (∀ p ∈ news, @LT.lt Nat _ p.1 V) → Q (.ref V) { s with heap := h' }) :
    wpAny (model prog w) A (call (.builtin "dict.values") [.ref d]) Q E s :=
  RawV.call_values x lo (h _ _ (F.push _) (N.push F _) fun p hp => Heap.lt_size (N p hp).1)
theorem pairs_init_c {src : Ledger} {x dx D : Nat} {sec : Bool} {f : Int → Int → Option (Nat × VR × VR)} (HD : PairD prog w src D f) (hz : sec = false → ∀ a b t, f a b = some t → t.2.2.Zero) (hx : x ≠ dx) :
    Calls prog w 4 (.ref 587) [.ref x, .ref D, .bool sec] src [(x, instObj 602 dx), (dx, emptyDict)] (fun _ v mu' => v = .none ∧ ∃ k k', mu' = [(x, instObj 602 dx), (dx, dictOf [ent w.params "pairs" k (.ref D), ent w.params "is_second" k' (.bool sec)] 2)]) := by
  intro dp un fr gds s b R hdp hun S G H0 N k
  obtain ⟨X, p, loose, mean, mg, mb, T⟩ := G
  have HD' := HD
  obtain ⟨⟨oD, es, ep, xs, m3, lo, he, hd, -⟩, -⟩ := HD'
  have hD := H0 _ m3
  cases sec with
  | true =>
    refine' enter [("self", .ref x), ("pairs", .ref D), ("is_second", .bool true)] S N X T ?k6 ?k7 ?k8 ?k9 ?kB ?_ ?c2 ?c3 ?c4 ?c5
    ( (case k6 | k7 => k_is); (case k8 => k_room); (case k9 => first | exact BindsTo.of_eq rfl | exact binds_K (by first | assumption | exact Frag.In.keeps (by assumption) (Sub.keep (by assumption))) rfl (by k_is) rfl rfl rfl); (case c5 => decide); (case kB => exact locs rfl); (case c2 | c3 | c4 => exact rfl); intro _ _ _ _ _ _; (try dsimp only); (try k_fold))
    repeat' (first | (k_unfold; (try dsimp only)) | ((fail_if_success (first | (with_reducible show wpAny _ _ (call (Value.ref _) _) _ _ _) | (with_reducible show wpAny _ _ (eval (Expr.ListComp _ _ _ _) _) _ _ _))); first | walk1 | (dsimp only; walk1)))
    exact k _ _ _ _ ⟨rfl, _, _, rfl⟩ (sub_of_fr (by assumption)) (led_of_news (by assumption) (fun _ hp => hp))
  | false =>
    refine' enter [("self", .ref x), ("pairs", .ref D), ("is_second", .bool false)] S N X T ?k6 ?k7 ?k8 ?k9 ?kB ?_ ?c2 ?c3 ?c4 ?c5
    ( (case k6 | k7 => k_is); (case k8 => k_room); (case k9 => first | exact BindsTo.of_eq rfl | exact binds_K (by first | assumption | exact Frag.In.keeps (by assumption) (Sub.keep (by assumption))) rfl (by k_is) rfl rfl rfl); (case c5 => decide); (case kB => exact locs rfl); (case c2 | c3 | c4 => exact rfl); intro _ _ _ _ _ _; (try dsimp only); (try k_fold))
    repeat' (first | (k_unfold; (try dsimp only)) | ((fail_if_success (first | (with_reducible show wpAny _ _ (call (Value.ref _) _) _ _ _) | (with_reducible show wpAny _ _ (eval (Expr.ListComp _ _ _ _) _) _ _ _))); first | walk1 | (dsimp only; walk1)))
    refine RawV.method_values ⟨oD, Fr.keep (by k_asm) _ _ hD, he, hd⟩ ?_
    repeat' (first | (k_unfold; (try dsimp only)) | ((fail_if_success (first | (with_reducible show wpAny _ _ (call (Value.ref _) _) _ _ _) | (with_reducible show wpAny _ _ (eval (Expr.ListComp _ _ _ _) _) _ _ _))); first | walk1 | (dsimp only; walk1)))
    refine values_N (by k_asm) (by k_asm) ⟨oD, Fr.keep (by k_asm) _ _ hD, he, hd⟩ lo ?_
    intro V hV FV NV lV
    have lV1 := lV _ (.head _)
    have lV2 := lV _ (.tail _ (.head _))
    simp only at lV1 lV2
    repeat' (first | (k_unfold; (try dsimp only)) | ((fail_if_success (first | (with_reducible show wpAny _ _ (call (Value.ref _) _) _ _ _) | (with_reducible show wpAny _ _ (eval (Expr.ListComp _ _ _ _) _) _ _ _))); first | walk1 | (dsimp only; walk1)))
    refine' use0 (moves_second_c HD (hz rfl)) ?hdp ?hun ?F ?N ?X ?T ?hi ?_
    ( (case hdp | hun => kwd_inv); (case F | N | X | T => k_asm))
    (case hi => exact fun p hp => (List.mem_cons.mp hp).elim (fun h => Or.inl (h ▸ .head _)) fun h => Or.inr (H0 p h))
    rintro Gq hGq n1 _ h1 tk1 _ ⟨rfl, rfl⟩
    refine hGq _ _ _ _ _ ?_
    clear hGq Gq
    rintro hlt1 hL1 F3 N3
    dsimp only [List.nil_append] at N3
    repeat' (first | (k_unfold; (try dsimp only)) | ((fail_if_success (first | (with_reducible show wpAny _ _ (call (Value.ref _) _) _ _ _) | (with_reducible show wpAny _ _ (eval (Expr.ListComp _ _ _ _) _) _ _ _))); first | walk1 | (dsimp only; walk1)))
    exact k _ _ _ _ ⟨rfl, _, _, rfl⟩ (sub_of_fr (by assumption)) (led_of_news (by assumption) (fun _ hp => .tail _ hp))
theorem pairs_c {src : Ledger} {D : Nat} {sec : Bool} {f : Int → Int → Option (Nat × VR × VR)} (HD : PairD prog w src D f) (hz : sec = false → ∀ a b t, f a b = some t → t.2.2.Zero) :
    Calls prog w 5 (.ref 602) [.ref D, .bool sec] src [] (fun _ v mu' => ∃ (x dx : Nat) (k k' : Tok), v = .ref x ∧ mu' = [(x, instObj 602 dx), (dx, dictOf [ent w.params "pairs" k (.ref D), ent w.params "is_second" k' (.bool sec)] 2)]) := by
  intro dp un fr gds s b R hdp hun S G H0 N k
  have X := G.X
  refine make_at G S (by k_is) (by k_is) (by k_is) (fun x dx h => pairs_init_c HD hz h) (by exact hdp) (by exact hun) H0 ?_
  rintro x dx h' tk mu' ⟨k1, k2, rfl⟩ S' L'
  exact k _ _ _ _ ⟨x, dx, k1, k2, rfl, rfl⟩ S' L'
end

/-! the draws -/
noncomputable abbrev penObj (cells : Nat) (spot rest : Int) (t1 t2 : Tok) (n : Nat) : Obj := listOf [Value.ref cells, .int spot t1, .int rest t2].toArray n
section
variable {prog : Program} {w : World}
theorem slice_take {vs : List Value} {k : Nat} : (slicePick vs.toArray none (some (k : Int)) none).toList = vs.take k := by
  have h := PySem.slicePick_run vs.toArray 0 (min k vs.length) (by simp; exact Nat.min_le_right _ _) (by exact Nat.zero_le _)
  have e : slicePick vs.toArray none (some (k : Int)) none = slicePick vs.toArray (some ((0 : Nat) : Int)) (some ((min k vs.length : Nat) : Int)) none := by
    unfold slicePick
    have e1 : sliceBounds none (some (k : Int)) none vs.toArray.size = sliceBounds (some ((0 : Nat) : Int)) (some ((min k vs.length : Nat) : Int)) none vs.toArray.size := by
      simp only [sliceBounds, Option.getD_none, List.size_toArray]
      have h1 : ¬ ((k : Int) < 0) := by exact Int.not_lt.mpr (Int.natCast_nonneg _)
      have h2 : ¬ (((min k vs.length : Nat) : Int) < 0) := by omega
      simp [h1, h2]
      omega
    rw [e1]
  rw [e, h]
  simp [List.take_eq_take_iff]
theorem slice_one {v : Value} {vs : List Value} : (slicePick (v :: vs).toArray none (some 1) none).toList = [v] := slice_take (k := 1)
theorem pow_some {A : Around} {E : Value → Shared → Prop} {s : Shared} {a k : Int} {t u : Tok} {Q : Value → Shared → Prop} (hk : 2 ≤ k ∧ k ≤ 20) (ha : a.natAbs < 2 ^ 64) (h : ∀ y t' tk, Q (.int y t') { s with toks := tk }) : wpAny (model prog w) A (binaryOp .Pow (.int a t) (.int k u)) Q E s := by
  by_cases h1 : (a == 0 || a == 1) = true
  · exact PySem.AutoIntOps.pow_1 (by omega) (by simp; omega) h1 (h _ _ _)
  · by_cases h2 : (a == -1) = true
    · exact PySem.AutoIntOps.pow_2 (by omega) (by simp; omega) h1 h2 (h _ _ _)
    · refine PySem.AutoIntOps.pow_4 (by omega) (by simp; omega) h1 h2 ?_ (h _ _ _)
      have hb : Builtin.Int.intBits a ≤ 64 := by
        unfold Builtin.Int.intBits
        split
        · decide
        · rename_i h0
          have h0' : a.natAbs ≠ 0 := by simpa using h0
          have := (Nat.log2_lt h0').mpr ha
          exact this
      have hb' : ((Builtin.Int.intBits a : Nat) : Int) * k ≤ 64 * 20 := Int.mul_le_mul (by exact Int.ofNat_le.mpr hb) (by omega) (by omega) (by decide)
      unfold Builtin.Int.intTooBig
      have h27 : (bitsLine : Int) = 134217728 := by decide
      rw [h27]
      simp only [decide_eq_true_eq, Int.not_lt, gt_iff_lt]
      omega
end
set_option hygiene false in
local macro_rules | `(tactic| walk_at "call builtin:len") => `(tactic| (k_here; (with_reducible show wpAny _ _ (call (Value.builtin "len") [Value.ref _]) _ _ _); k_dflt (refine' len_row (Fr.keep (by k_asm) _ _ (by assumption)) (by first | omega | (simp only [List.length_nil]; omega)) ?_)))
section
variable {prog : Program} {w : World}
theorem ten18 {prog : Program} {w : World} {A : Around} {E : Value → Shared → Prop} {s : Shared} {t u : Tok} {Q : Value → Shared → Prop} (h : ∀ t' tk, Q (.int 1000000000000000000 t') { s with toks := tk }) : wpAny (model prog w) A (binaryOp .Pow (.int 10 t) (.int 18 u)) Q E s :=
  PySem.AutoIntOps.pow_4 (by decide) (by decide) (by decide) (by decide) (by decide +kernel) (h _ _)
theorem fm_lt {x m : Int} (hm : 0 < m) : 0 ≤ x.fmod m ∧ x.fmod m < m := by
  rw [Int.fmod_eq_emod_of_nonneg _ (by exact Int.le_of_lt hm)]
  exact ⟨Int.emod_nonneg _ (by exact Int.ne_of_gt hm), Int.emod_lt_of_pos _ hm⟩
theorem base1 {x spot : Int} (hs : 0 ≤ spot ∧ spot ≤ 10000) : (x.fmod 2147483587 + 20947 * spot + 3571).natAbs < 2 ^ 64 := by
  have := fm_lt (x := x) (m := 2147483587) (by decide)
  omega
theorem base2 {x spot : Int} (hs : 0 ≤ spot ∧ spot ≤ 10000) : (x.fmod 2147483629 * (2 * spot + 7207) + 20947 * spot * spot + 31).natAbs < 2 ^ 64 := by
  have h1 := fm_lt (x := x) (m := 2147483629) (by decide)
  have h2 : x.fmod 2147483629 * (2 * spot + 7207) ≤ 2147483629 * 27207 := Int.mul_le_mul (by exact Int.le_of_lt h1.2) (by omega) (by omega) (by decide)
  have h3 : 0 ≤ x.fmod 2147483629 * (2 * spot + 7207) := Int.mul_nonneg h1.1 (by omega)
  have h4 : 20947 * spot * spot ≤ 20947 * 10000 * 10000 := Int.mul_le_mul (by omega) (by exact hs.2) (by exact hs.1) (by decide)
  have h5 : 0 ≤ 20947 * spot * spot := Int.mul_nonneg (by omega) (by exact hs.1)
  generalize x.fmod 2147483629 * (2 * spot + 7207) = p at h2 h3 ⊢
  generalize 20947 * spot * spot = q at h4 h5 ⊢
  omega
/-- ways that meet behind a statement: they are walked on once -/
theorem cutNext {M : Model} {A : Around} {b : Heap} {L : Addr} {m : Str → Option Value} {news : Ledger} {t : Sem Flow} {Q : Flow → Shared → Prop} {E : Value → Shared → Prop} {s : Shared} (_ : Fr b L s.heap m) (_ : News b L s.heap news)
    (h : wpAny M A t (fun fl s' => (fl = .next ∧ ∃ h tk, s' = { s with heap := h, toks := tk } ∧ Fr b L h m ∧ News b L h news) ∨ Q fl s') E s) (k : ∀ h tk, Fr b L h m → News b L h news → Q .next { s with heap := h, toks := tk }) : wpAny M A t Q E s :=
  wpAny_mono h (fun fl s' x => by
    rcases x with ⟨rfl, h, tk, rfl, F, N⟩ | x
    · exact k h tk F N
    · exact x) fun _ _ e => e
/-- the same: what stands in `cell` is some int -/
noncomputable def CellE (b : Heap) (L : Addr) (m : Str → Option Value) (news : Ledger) (s : Shared) (fl : Flow) (s' : Shared) : Prop :=
  ∃ c u h tk, fl = .next ∧ s' = { s with heap := h, toks := tk } ∧ Fr b L h (fun y => if y = "cell" then some (.int c u) else m y) ∧ News b L h news
theorem CellE.mk {b : Heap} {L : Addr} {m : Str → Option Value} {news : Ledger} {s : Shared} {c : Int} {u : Tok} {h : Heap} {tk : Nat} (F : Fr b L h (fun y => if y = "cell" then some (.int c u) else m y)) (N : News b L h news) : CellE b L m news s .next { s with heap := h, toks := tk } :=
  ⟨c, u, h, tk, rfl, rfl, F, N⟩
theorem cutCell {M : Model} {A : Around} {b : Heap} {L : Addr} {m : Str → Option Value} {news : Ledger} {t : Sem Flow} {Q : Flow → Shared → Prop} {E : Value → Shared → Prop} {s : Shared} (_ : Fr b L s.heap m) (_ : News b L s.heap news)
    (h : wpAny M A t (CellE b L m news s) E s)
    (k : ∀ c u h tk, Fr b L h (fun y => if y = "cell" then some (.int c u) else m y) → News b L h news → Q .next { s with heap := h, toks := tk }) : wpAny M A t Q E s :=
  wpAny_mono h (fun fl s' x => by
    obtain ⟨c, u, h, tk, rfl, rfl, F, N⟩ := x
    exact k c u h tk F N) fun _ _ e => e
theorem cell_same {b h : Heap} {L : Addr} {m : Str → Option Value} {x : Str} {v : Option Value} (F : Fr b L h (fun y => if y = x then v else m y)) : Fr b L h (fun y => if y = x then v else (fun y => if y = x then v else m y) y) := by
  have e : (fun y => if y = x then v else (fun y => if y = x then v else m y) y) = fun y => if y = x then v else m y := funext fun y => by
    by_cases h : y = x
    · rw [if_pos h, if_pos h]
    · rw [if_neg h]
  rw [e]; exact F
theorem draw_c {pen cells nc n : Nat} {vs : List Value} {ns : List Int} {spot rest many : Int} {t1 t2 t : Tok} (hi : IntsAre vs ns) (hl : ns.length ≤ 40) (hs : 0 ≤ spot ∧ spot ≤ 10000) (hr : 0 ≤ rest) (hm : 1 ≤ many ∧ many ≤ 100) (hne : pen ≠ cells) :
    Calls prog w 1 (.ref 799) [.ref pen, .int many t] [(cells, listOf vs.toArray nc)] [(pen, penObj cells spot rest t1 t2 n)] (fun _ v mu' => ∃ (d spot' rest' : Int) (t' t1' t2' : Tok) (n' : Nat), v = .int d t' ∧ 0 ≤ d ∧ d < many ∧ (spot' = spot ∨ spot' = spot + 1) ∧ 0 ≤ rest' ∧ mu' = [(pen, penObj cells spot' rest' t1' t2' n')]) := by
  intro dp un fr gds s b R hdp hun S G H0 N k
  obtain ⟨X, p, loose, mean, mg, mb, T⟩ := G
  have hc := H0.c.1
  have hlen : vs.length ≤ 40 := Nat.le_trans (Nat.le_of_eq hi.length) hl
  have hl3 : vs.length ≤ 1000 := o_le hlen rfl
  have hm0 : 0 < many := Int.lt_of_lt_of_le (by decide) hm.1
  have hm1 : 0 ≤ many := Int.le_of_lt hm0
  refine' enter [("pen", .ref pen), ("many", .int many t)] S N X T ?k6 ?k7 ?k8 ?k9 ?kB ?_ ?c2 ?c3 ?c4 ?c5
  ( (case k6 | k7 => k_is); (case k8 => k_room); (case k9 => first | exact BindsTo.of_eq rfl | exact binds_K (by first | assumption | exact Frag.In.keeps (by assumption) (Sub.keep (by assumption))) rfl (by k_is) rfl rfl rfl); (case c5 => decide); (case kB => exact locs rfl); (case c2 | c3 | c4 => exact rfl); intro _ _ _ _ _ _; (try dsimp only); (try k_fold))
  repeat' (first | (k_unfold; (try dsimp only)) | ((fail_if_success (first | (with_reducible show wpAny _ _ (exec (Stmt.Assign [_] (Expr.BinOp (Expr.BinOp _ _ _ _) _ (Expr.BinOp _ _ _ _) _) _) _) _ _ _) | (with_reducible show wpAny _ _ (exec (Stmt.If _ _ _ _) _) _ _ _) | (with_reducible show wpAny _ _ (binaryOp Operator.Pow _ _) _ _ _))); first | walk1 | (dsimp only; walk1)))
  walk1
  repeat' (first | (k_unfold; (try dsimp only)) | ((fail_if_success (first | (with_reducible show wpAny _ _ (exec (Stmt.Assign [_] (Expr.BinOp (Expr.BinOp _ _ _ _) _ (Expr.BinOp _ _ _ _) _) _) _) _ _ _) | (with_reducible show wpAny _ _ (exec (Stmt.If _ _ _ _) _) _ _ _) | (with_reducible show wpAny _ _ (binaryOp Operator.Pow _ _) _ _ _))); first | walk1 | (dsimp only; walk1)))
  · have e1 : rest.fmod many = rest % many := Int.fmod_eq_emod_of_nonneg _ hm1
    have e2 : rest.fdiv many = rest / many := Int.fdiv_eq_ediv_of_nonneg _ hm1
    refine k _ _ _ _ ⟨_, spot, _, _, _, _, _, rfl, ?_, ?_, .inl rfl, ?_, rfl⟩ (sub_of_fr (by assumption)) (led_of_news (by assumption) (fun _ hp => hp))
    · rw [e1]; exact Int.emod_nonneg _ (Int.ne_of_gt hm0)
    · rw [e1]; exact Int.emod_lt_of_pos _ hm0
    · rw [e2]; exact Int.ediv_nonneg hr hm1
  · refine cutCell (by k_asm) (by k_asm) ?_ ?_
    · walk1
      repeat' (first | (k_unfold; (try dsimp only)) | ((fail_if_success (first | (with_reducible show wpAny _ _ (exec (Stmt.Assign [_] (Expr.BinOp (Expr.BinOp _ _ _ _) _ (Expr.BinOp _ _ _ _) _) _) _) _ _ _) | (with_reducible show wpAny _ _ (exec (Stmt.If _ _ _ _) _) _ _ _) | (with_reducible show wpAny _ _ (binaryOp Operator.Pow _ _) _ _ _))); first | walk1 | (dsimp only; walk1)))
      cases ns with
      | nil =>
        obtain rfl : vs = [] := by cases hi; rfl
        refine kmk_slice_lit (zs := []) (lo := none) (hi := some 1) (by k_asm) (by k_asm) ⟨_, Fr.keep (by k_asm) _ _ hc, rfl, _, rfl⟩ .none (.int _ _) (by decide +kernel) ?_ (by with_unfolding_all rfl) (by intro _; with_unfolding_all rfl) (by simp [sizeLine_eq])
        intro D h9 F9 N9 l9
        repeat' (first | (k_unfold; (try dsimp only)) | ((fail_if_success (first | (with_reducible show wpAny _ _ (exec (Stmt.Assign [_] (Expr.BinOp (Expr.BinOp _ _ _ _) _ (Expr.BinOp _ _ _ _) _) _) _) _ _ _) | (with_reducible show wpAny _ _ (exec (Stmt.If _ _ _ _) _) _ _ _) | (with_reducible show wpAny _ _ (binaryOp Operator.Pow _ _) _ _ _))); first | walk1 | (dsimp only; walk1)))
        rename_i F10 N10
        exact CellE.mk F10 fun p hp => N10 p (.tail _ hp)
      | cons n0 ns =>
        cases hi with
        | cons _ tn hi' =>
        rename_i vs'
        refine kmk_slice_lit (zs := [Value.int n0 tn]) (lo := none) (hi := some 1) (by k_asm) (by k_asm) ⟨_, Fr.keep (by k_asm) _ _ hc, rfl, _, rfl⟩ .none (.int _ _) slice_one ?_ (by with_unfolding_all rfl) (by intro _; with_unfolding_all rfl) (by rw [sizeLine_eq]; simp; exact Nat.le_trans (Nat.le_of_succ_le hl3) (by decide))
        intro D h9 F9 N9 l9
        repeat' (first | (k_unfold; (try dsimp only)) | ((fail_if_success (first | (with_reducible show wpAny _ _ (exec (Stmt.Assign [_] (Expr.BinOp (Expr.BinOp _ _ _ _) _ (Expr.BinOp _ _ _ _) _) _) _) _ _ _) | (with_reducible show wpAny _ _ (exec (Stmt.If _ _ _ _) _) _ _ _) | (with_reducible show wpAny _ _ (binaryOp Operator.Pow _ _) _ _ _))); first | walk1 | (dsimp only; walk1)))
        rename_i F10 N10
        exact CellE.mk F10 fun p hp => N10 p (.tail _ hp)
    · intro c0 u0 h2 tk2 F2 N2
      repeat' (first | (k_unfold; (try dsimp only)) | ((fail_if_success (first | (with_reducible show wpAny _ _ (exec (Stmt.Assign [_] (Expr.BinOp (Expr.BinOp _ _ _ _) _ (Expr.BinOp _ _ _ _) _) _) _) _ _ _) | (with_reducible show wpAny _ _ (exec (Stmt.If _ _ _ _) _) _ _ _) | (with_reducible show wpAny _ _ (binaryOp Operator.Pow _ _) _ _ _))); first | walk1 | (dsimp only; walk1)))
      refine cutCell (by k_asm) (by k_asm) ?_ ?_
      · walk1
        repeat' (first | (k_unfold; (try dsimp only)) | ((fail_if_success (first | (with_reducible show wpAny _ _ (exec (Stmt.Assign [_] (Expr.BinOp (Expr.BinOp _ _ _ _) _ (Expr.BinOp _ _ _ _) _) _) _) _ _ _) | (with_reducible show wpAny _ _ (exec (Stmt.If _ _ _ _) _) _ _ _) | (with_reducible show wpAny _ _ (binaryOp Operator.Pow _ _) _ _ _))); first | walk1 | (dsimp only; walk1)))
        by_cases hns : ns = []
        · subst hns
          refine ke_ne_ints (ns := []) (ms := []) ⟨_, Fr.keep (by k_asm) _ _ hc, rfl, _, rfl⟩ ⟨_, News.get (by k_asm) (by k_mem), rfl, _, rfl⟩ hi .nil (by kwd_inv) ?_
          simp only [Bool.not_true, decide_true]
          repeat' (first | (k_unfold; (try dsimp only)) | ((fail_if_success (first | (with_reducible show wpAny _ _ (exec (Stmt.Assign [_] (Expr.BinOp (Expr.BinOp _ _ _ _) _ (Expr.BinOp _ _ _ _) _) _) _) _ _ _) | (with_reducible show wpAny _ _ (exec (Stmt.If _ _ _ _) _) _ _ _) | (with_reducible show wpAny _ _ (binaryOp Operator.Pow _ _) _ _ _))); first | walk1 | (dsimp only; walk1)))
          rename_i F10 N10 l10
          exact CellE.mk (cell_same F10) fun p hp => N10 p (.tail _ hp)
        · have hl0 : 0 < vs.length := by
            rw [hi.length]; exact List.length_pos_iff.mpr hns
          have hl1 : (0 : Int) < (vs.length : Int) := Int.ofNat_lt.mpr hl0
          have hl2 : (0 : Int) ≤ (vs.length : Int) := Int.natCast_nonneg _
          have hl4 : (vs.length : Int) ≠ 0 := Int.ne_of_gt hl1
          have hfm := fm_lt (x := spot) hl1
          have hlt : (spot.fmod (vs.length : Int)).toNat < vs.length := o_tn hfm.1 hfm.2
          obtain ⟨tc, etc⟩ := PyProof.Rows.IntsAre.int_at hi _ _ (List.getElem?_eq_getElem hlt)
          have hidx := (List.getElem?_eq_getElem hlt).trans (congrArg some etc)
          refine ke_ne_ints (ns := ns) (ms := []) ⟨_, Fr.keep (by k_asm) _ _ hc, rfl, _, rfl⟩ ⟨_, News.get (by k_asm) (by k_mem), rfl, _, rfl⟩ hi .nil (by kwd_inv) ?_
          simp only [hns, decide_false, Bool.not_false]
          repeat' (first | (k_unfold; (try dsimp only)) | ((fail_if_success (first | (with_reducible show wpAny _ _ (exec (Stmt.Assign [_] (Expr.BinOp (Expr.BinOp _ _ _ _) _ (Expr.BinOp _ _ _ _) _) _) _) _ _ _) | (with_reducible show wpAny _ _ (exec (Stmt.If _ _ _ _) _) _ _ _) | (with_reducible show wpAny _ _ (binaryOp Operator.Pow _ _) _ _ _))); first | walk1 | (dsimp only; walk1)))
          rename_i F10 N10
          exact CellE.mk F10 fun p hp => N10 p (.tail _ hp)
      · intro c u h20 tk20 F20 N20
        repeat' (first | (k_unfold; (try dsimp only)) | ((fail_if_success (first | (with_reducible show wpAny _ _ (exec (Stmt.Assign [_] (Expr.BinOp (Expr.BinOp _ _ _ _) _ (Expr.BinOp _ _ _ _) _) _) _) _ _ _) | (with_reducible show wpAny _ _ (exec (Stmt.If _ _ _ _) _) _ _ _) | (with_reducible show wpAny _ _ (binaryOp Operator.Pow _ _) _ _ _))); first | walk1 | (dsimp only; walk1)))
        refine cutNext (by k_asm) (by k_asm) ?_ ?_
        · walk1
          repeat' (first | (k_unfold; (try dsimp only)) | ((fail_if_success (first | (with_reducible show wpAny _ _ (exec (Stmt.Assign [_] (Expr.BinOp (Expr.BinOp _ _ _ _) _ (Expr.BinOp _ _ _ _) _) _) _) _ _ _) | (with_reducible show wpAny _ _ (exec (Stmt.If _ _ _ _) _) _ _ _) | (with_reducible show wpAny _ _ (binaryOp Operator.Pow _ _) _ _ _))); first | walk1 | (dsimp only; walk1)))
          · refine ten18 fun t5 tk5 => ?_
            repeat' (first | (k_unfold; (try dsimp only)) | ((fail_if_success (first | (with_reducible show wpAny _ _ (exec (Stmt.Assign [_] (Expr.BinOp (Expr.BinOp _ _ _ _) _ (Expr.BinOp _ _ _ _) _) _) _) _ _ _) | (with_reducible show wpAny _ _ (exec (Stmt.If _ _ _ _) _) _ _ _) | (with_reducible show wpAny _ _ (binaryOp Operator.Pow _ _) _ _ _))); first | walk1 | (dsimp only; walk1)))
            · refine ten18 fun t6 tk6 => ?_
              repeat' (first | (k_unfold; (try dsimp only)) | ((fail_if_success (first | (with_reducible show wpAny _ _ (exec (Stmt.Assign [_] (Expr.BinOp (Expr.BinOp _ _ _ _) _ (Expr.BinOp _ _ _ _) _) _) _) _ _ _) | (with_reducible show wpAny _ _ (exec (Stmt.If _ _ _ _) _) _ _ _) | (with_reducible show wpAny _ _ (binaryOp Operator.Pow _ _) _ _ _))); first | walk1 | (dsimp only; walk1)))
              refine .inr ?_
              have hgr : 0 ≤ 2 * ((if c < 0 then -c else c) - 1000000000000000000) + if decide (c < 0) = true then 1 else 0 := by
                have := (by assumption : 1000000000000000000 ≤ if c < 0 then -c else c)
                have h2 : (0 : Int) ≤ if decide (c < 0) = true then 1 else 0 := by split <;> decide
                exact Int.add_nonneg (Int.mul_nonneg (by decide) (Int.sub_nonneg_of_le this)) h2
              refine k _ _ _ _ ⟨_, spot + 1, _, _, _, _, _, rfl, (fm_lt hm0).1, (fm_lt hm0).2, .inr rfl, ?_, rfl⟩ (sub_of_fr (by assumption)) (led_of_news (by assumption) (fun _ hp => hp))
              rw [Int.fdiv_eq_ediv_of_nonneg _ hm1]
              exact Int.ediv_nonneg hgr hm1
            · exact .inl ⟨rfl, _, _, rfl, by k_asm, by k_asm⟩
          · exact .inl ⟨rfl, _, _, rfl, by k_asm, by k_asm⟩
        · intro h21 tk21 F21 N21
          repeat' (first | (k_unfold; (try dsimp only)) | ((fail_if_success (first | (with_reducible show wpAny _ _ (exec (Stmt.Assign [_] (Expr.BinOp (Expr.BinOp _ _ _ _) _ (Expr.BinOp _ _ _ _) _) _) _) _ _ _) | (with_reducible show wpAny _ _ (exec (Stmt.If _ _ _ _) _) _ _ _) | (with_reducible show wpAny _ _ (binaryOp Operator.Pow _ _) _ _ _))); first | walk1 | (dsimp only; walk1)))
          refine pow_some ⟨by decide, by decide⟩ (base1 hs) ?_
          intro y ty tky
          repeat' (first | (k_unfold; (try dsimp only)) | ((fail_if_success (first | (with_reducible show wpAny _ _ (exec (Stmt.Assign [_] (Expr.BinOp (Expr.BinOp _ _ _ _) _ (Expr.BinOp _ _ _ _) _) _) _) _ _ _) | (with_reducible show wpAny _ _ (exec (Stmt.If _ _ _ _) _) _ _ _) | (with_reducible show wpAny _ _ (binaryOp Operator.Pow _ _) _ _ _))); first | walk1 | (dsimp only; walk1)))
          refine pow_some ⟨by decide, by decide⟩ (base2 hs) ?_
          intro z tz tkz
          repeat' (first | (k_unfold; (try dsimp only)) | ((fail_if_success (first | (with_reducible show wpAny _ _ (exec (Stmt.Assign [_] (Expr.BinOp (Expr.BinOp _ _ _ _) _ (Expr.BinOp _ _ _ _) _) _) _) _ _ _) | (with_reducible show wpAny _ _ (exec (Stmt.If _ _ _ _) _) _ _ _) | (with_reducible show wpAny _ _ (binaryOp Operator.Pow _ _) _ _ _))); first | walk1 | (dsimp only; walk1)))
          exact k _ _ _ _ ⟨_, spot + 1, rest, _, _, _, _, rfl, (fm_lt hm0).1, (fm_lt hm0).2, .inr rfl, hr, rfl⟩ (sub_of_fr (by assumption)) (led_of_news (by assumption) (fun _ hp => hp))
end

/-! dict(list of pairs) -/
namespace DPairs
theorem lk_list_keys : typeLookup (.type "list") (Str.ofString "keys") = pure none := am_miss_of_fast (by decide +kernel)
theorem entry_loop : entryFor table "dict.update.loop" = some Builtin.«dict.update.loop» := entryFor_of_tree (by kernel_rfl)
theorem plain_loop : plainId "dict.update.loop" = true := by decide +kernel
section
variable {prog : Program} {w : World} {A : Around} {E : Value → Shared → Prop} {s : Shared}
theorem no_keys {a : Addr} {xs : Array Value} {k : Nat} {Q : Option Value → Shared → Prop} (hx : s.heap.get? a = some { cls := .type "list", data := .seq xs k }) (hA : A.handled = none)
    (h : ∀ h' tk, (∀ b o, s.heap.get? b = some o → h'.get? b = some o) → Q none { s with heap := h', toks := tk }) :
    wpAny (model prog w) A (getAttr? (.ref a) "keys") Q E s := by
  obtain ⟨hp, g, d, tk, os⟩ := s
  have hT : ∀ tk', (⟨hp, g, d, tk', os⟩ : Shared).TypeIs (.ref a) "list" := fun _ => ⟨_, hx, rfl⟩
  have f1 := sub_AttributeError
  have f3 := F.slot_list_getattribute.lookup
  have f4 := F.slot_list_getattribute.bind (.ref a)
  have f5 := am_list_getattr_none
  unfold getAttr? getAttrBy? getAttrBy
  repeat (any_goals (first | assumption | exact hT _ | ((with_reducible show wpAny _ _ (call (Value.builtin "list.__getattribute__") _ _) _ _ _); refine call_meets F.slot_list_getattribute (hT _) am_entry_list_getattribute (F.args_list_getattribute_2 _ _) (meets_getattribute_miss_list a xs k #[] _ _ lk_list_keys (by decide +kernel) (by decide +kernel)) ⟨hx, hA, fun h' tk' e hx' => ?_⟩) | wp_step))
  obtain ⟨t', u', he⟩ := hx'.there
  show wpAny _ _ (getattributeRaised _ _ _ _ _ _ _) _ _ _
  unfold getattributeRaised
  repeat (any_goals (first | assumption | wp_step))
  exact h _ _ hx'.keeps
/-- the walk over the pairs -/
theorem loopP {I d : Addr} {fp wr : List Addr} {n : Nat} {P : Nat → Value → Prop} {St : Nat → Heap → Prop} {R : Result → Shared → Prop} (W : Walks prog w A.in1 I fp wr n P St) (hdf : d ∉ fp) {base : Heap} (hdb : base.get? d = none) (hwb : ∀ a ∈ wr, base.get? a = none)
    (key val : Nat → Value) (hP : ∀ i v, i < n → P i v → ∃ T k, v = .ref T ∧ base.get? T = some { cls := .type "tuple", data := .seq #[key i, val i] k })
    (D : Nat → Obj → Prop)
    (step : ∀ i (s : Shared) o Q, i < n → s.heap.get? d = some o → D i o → (∀ b o, base.get? b = some o → s.heap.get? b = some o) → (∀ h' o' tk, h'.get? d = some o' → D (i + 1) o' → Heap.SameBut d s.heap h' → Q () { s with heap := h', toks := tk }) → wpAny (model prog w) A.in1 (dictSet d (key i) (val i)) Q (fun e s' => R (.error e) s') s) :
    ∀ (k i : Nat) (s : Shared) (o : Obj) (t : Tok), n - i = k → i ≤ n → St i s.heap → s.heap.get? d = some o → D i o → (∀ b o, base.get? b = some o → s.heap.get? b = some o) →
      (∀ h' o' tk, (∀ b o, base.get? b = some o → h'.get? b = some o) → h'.get? d = some o' → D n o' → R (.ok (.ret .none)) { s with heap := h', toks := tk }) →
      codeAny (model prog w) A (.builtin "dict.update.loop" ⟨[.ref d, .ref I, .int i t, .none], []⟩) R s := by
  have hdw : d ∉ wr := fun h => hdf (W.sub _ h)
  intro k
  induction k with
  | zero =>
    intro i s o t hk hi hst ho hD hb hR
    obtain rfl : i = n := by exact eq_of_sub hk hi
    refine codeAny_builtin entry_loop ?_
    rw [Around.under_plainId plain_loop _]
    show wpAny _ A.in1 (pyNext (.ref I) >>= _) _ _ s
    refine wpAny_bind (W.done s _ _ hst fun h' tk hm => ?_)
    show wpAny _ A.in1 (Builtin.Dict.addKeywords d [] >>= _) _ _ _
    refine wpAny_bind (wpAny_pure ?_)
    exact wpAny_pure (hR h' o tk (fun b o e => hm b o (fun h => by rw [hwb _ h] at *; simp_all) (hb b o e)) (hm d o hdw ho) hD)
  | succ k ih =>
    intro i s o t hk hi hst ho hD hb hR
    have hlt : i < n := by exact lt_of_sub hk
    refine codeAny_builtin entry_loop ?_
    rw [Around.under_plainId plain_loop _]
    show wpAny _ A.in1 (pyNext (.ref I) >>= _) _ _ s
    refine wpAny_bind (W.item i s _ _ hlt hst fun v h' tk hPv hst' hm => ?_)
    obtain ⟨T, kT, rfl, hT⟩ := hP i v hlt hPv
    have keep' : ∀ b o, base.get? b = some o → h'.get? b = some o := fun b o e => hm b o (fun h => by rw [hwb _ h] at e; cases e) (hb b o e)
    have hT' := keep' _ _ hT
    refine wpAny_bind (wpAny_holding ?_)
    refine wpAny_bind (wpAny_tryCatch ?_)
    unfold Builtin.Dict.pairItems
    have hTT : Shared.TypeIs { s with heap := h', toks := tk } (.ref T) "tuple" := ⟨_, hT', rfl⟩
    refine wpAny_bind (wpAny_typeOf hTT ?_)
    rw [if_pos (by decide)]
    refine wpAny_bind (wpAny_seqItems hT' rfl ?_)
    refine wpAny_pure ?_
    show wpAny _ A.in1 (holding [key i, val i] (dictSet d (key i) (val i))) _ _ _
    refine wpAny_holding ?_
    refine step i { s with heap := h', toks := tk } o _ hlt (hm d o hdw ho) hD keep' fun h2 o2 tk2 ho2 hD2 hsb => ?_
    refine wpAny_pure ⟨plainId_quiet plain_loop _, ih (i + 1) _ o2 _ (by exact succ_sub hk) hlt (W.frame _ _ _ hst' fun b hb' o' e => ?_) ho2 hD2 (fun b o' e => ?_) fun h3 o3 tk3 hb3 ho3 hD3 => hR h3 o3 tk3 hb3 ho3 hD3⟩
    · show h2.get? b = some o'
      rw [hsb.2 b (fun h : b = d => hdf (by rw [← h]; exact hb'))]; exact e
    · show h2.get? b = some o'
      rw [hsb.2 b (fun h : b = d => by rw [h, hdb] at e; cases e)]
      exact keep' b o' e
theorem call_dictP {l : Addr} {items : Array Value} {k : Nat} {Q : Value → Shared → Prop} (hh : A.handled = none) (hl : s.heap.get? l = some { cls := .type "list", data := .seq items k })
    (key val : Nat → Value) (hP : ∀ i v, items[i]? = some v → ∃ T k, v = .ref T ∧ s.heap.get? T = some { cls := .type "tuple", data := .seq #[key i, val i] k })
    (D : Nat → Obj → Prop) (h0 : D 0 { cls := .type "dict", data := .dict #[] })
    (step : ∀ i (s' : Shared) (A' : Around) o Q E, A'.units ≤ A.units + 10 → A'.handled = none → i < items.size → s'.heap.get? s.heap.objs.size = some o → D i o → (∀ b o, s.heap.get? b = some o → s'.heap.get? b = some o) → (∀ h' o' tk, h'.get? s.heap.objs.size = some o' → D (i + 1) o' → Heap.SameBut s.heap.objs.size s'.heap h' → Q () { s' with heap := h', toks := tk }) → wpAny (model prog w) A' (dictSet s.heap.objs.size (key i) (val i)) Q E s')
    (h : ∀ h' o' tk, (∀ b o, s.heap.get? b = some o → h'.get? b = some o) → h'.get? s.heap.objs.size = some o' → D items.size o' → Q (.ref s.heap.objs.size) { s with heap := h', toks := tk }) :
    wpAny (model prog w) A (call (.type "dict") [.ref l]) Q E s := by
  refine callType_codes (Q₁ := fun obj s₁ => obj = .ref s.heap.objs.size ∧ s₁ = { s with heap := s.heap.push { cls := .type "dict", data := .dict #[] } }) F.kt_called_dict (F.kt_typeCall_dict_1 _) F.entry_dict_init (kt_code_dict_new _ ⟨rfl, rfl⟩) ?_
  rintro obj s₁ ⟨rfl, rfl⟩
  have hnew : (s.heap.push { cls := .type "dict", data := .dict #[] }).get? s.heap.objs.size = some { cls := .type "dict", data := .dict #[] } := Heap.get?_push_size _ rfl
  have hT : Shared.TypeIs { s with heap := s.heap.push { cls := .type "dict", data := .dict #[] } } (.ref s.heap.objs.size) "dict" := ⟨_, hnew, rfl⟩
  refine ⟨hT, F.args_dict_init_2 _ _, ?_⟩
  unfold Builtin.«dict.__init__»
  refine wpAny_bind ?_
  unfold Builtin.Dict.selfAndRest
  refine wpAny_bind (wpAny_notOrdered_dict hT ?_)
  show wpAny _ _ (pure (s.heap.objs.size, [Value.ref l])) _ _ _
  refine wpAny_pure ?_
  show wpAny _ _ (Builtin.Dict.updateFrom "dict.__init__" s.heap.objs.size (.ref l) [] .none) _ _ _
  unfold Builtin.Dict.updateFrom
  have hl1 : (s.heap.push { cls := .type "dict", data := .dict #[] }).get? l = some { cls := .type "list", data := .seq items k } := Heap.get?_push_of_some _ hl
  have hLT : Shared.TypeIs { s with heap := s.heap.push { cls := .type "dict", data := .dict #[] } } (.ref l) "list" := ⟨_, hl1, rfl⟩
  refine wpAny_bind (wpAny_typeOf hLT ?_)
  rw [if_pos (by decide)]
  refine wpAny_bind (no_keys hl1 hh fun h1 tk1 hk1 => ?_)
  show wpAny _ _ (rule _ >>= _) _ _ _
  refine wpAny_bind (wpAny_rule ?_)
  have hl2 : h1.IsList l items := ⟨_, hk1 _ _ hl1, rfl, k, rfl⟩
  have up1 : ∀ b o, s.heap.get? b = some o → h1.get? b = some o := fun b o e => hk1 _ _ (Heap.get?_push_of_some _ e)
  have hdn : s.heap.get? s.heap.objs.size = none := Heap.get?_none_of_le (Nat.le_refl _)
  have hlS : l < h1.objs.size := Heap.lt_size (hk1 _ _ hl1)
  have hdlt : s.heap.objs.size < h1.objs.size := Heap.lt_size (hk1 _ _ hnew)
  have hlne : l ≠ s.heap.objs.size := Nat.ne_of_lt (Heap.lt_size hl)
  refine wpAny_bind (wpAny_pyIter_list (s := { s with heap := h1, toks := tk1 }) hl2 ?_)
  refine wpAny_pure ⟨plainId_quiet plain_loop _, ?_⟩
  have hh3 : A.in1.in1.handled = none := by simp [hh]
  refine loopP (base := s.heap) (d := s.heap.objs.size) (Walks.list hh3 _ l (Nat.ne_of_lt hlS) items) ?_ hdn (fun a ha => ?_) key val (fun i v hi hP' => hP i v hP') D ?_ (items.size - 0) 0 _ _ _ (by exact rfl) (Nat.zero_le _) ⟨⟨_, Heap.get?_push_size _ rfl, rfl, rfl⟩, hl2.push _⟩ (Heap.get?_push_of_some _ (hk1 _ _ hnew)) h0 (fun b o e => Heap.get?_push_of_some _ (up1 b o e)) ?_
  · simp only [List.mem_cons, List.not_mem_nil, or_false, not_or]
    exact ⟨Nat.ne_of_lt hdlt, Ne.symm hlne⟩
  · rw [List.mem_singleton.mp ha]
    exact Heap.get?_none_of_le (Nat.le_of_lt hdlt)
  · intro i s' o Q' hi ho hD hb hq
    exact step i s' A.in1.in1 o Q' _ (by simp only [units_in1]; exact Nat.add_le_add_left (by decide : 2 ≤ 10) _) hh3 hi ho hD hb hq
  · intro h' o' tk hb ho hD
    exact ⟨rfl, h h' o' tk hb ho hD⟩
theorem stored_new {K : Type} [DecidableEq K] {kvs : List (K × Value)} {k : K} {v : Value} (h : k ∉ kvs.map (·.1)) : stored kvs k v = kvs ++ [(k, v)] := by
  unfold stored
  rw [if_neg]
  intro hc
  obtain ⟨x, hx, e⟩ := List.any_eq_true.mp hc
  exact h (List.mem_map.mpr ⟨x, hx, by simpa using e⟩)
theorem take_fresh {α β : Type} {f : α → β} {l : List α} {i : Nat} {x : α} (hn : (l.map f).Nodup) (hx : l[i]? = some x) : f x ∉ (l.take i).map f ∧ l.take (i + 1) = l.take i ++ [x] := by
  have hi := (List.getElem?_eq_some_iff.mp hx).1
  refine ⟨fun hm => ?_, by rw [List.take_add_one, hx]; rfl⟩
  have e : l = l.take i ++ x :: l.drop (i + 1) := by
    have h2 := List.drop_eq_getElem_cons hi
    rw [List.getElem?_eq_getElem hi] at hx
    rw [Option.some.inj hx] at h2
    rw [← h2, List.take_append_drop]
  rw [e, List.map_append, List.nodup_append] at hn
  exact hn.2.2 _ hm _ (List.mem_map_of_mem (.head _)) rfl
variable {b : Heap} {L : Addr} {m : Str → Option Value} {news : List (Addr × Obj)}
theorem dict_ints {l k : Nat} {items : Array Value} {Q : Value → Shared → Prop} (hh : A.handled = none) (F : Fr b L s.heap m) (N : News b L s.heap news) (hbig : sysModules < b.objs.size) (hl : s.heap.get? l = some { cls := .type "list", data := .seq items k })
    (kvs : List (Int × Value)) (hn : (kvs.map (·.1)).Nodup) (hlen : items.size = kvs.length) (h1 : kvs.length ≤ 1000)
    (hP : ∀ (i : Nat) (v : Value) (kv : Int × Value), items[i]? = some v → kvs[i]? = some kv → ∃ T k t, v = .ref T ∧ s.heap.get? T = some { cls := .type "tuple", data := .seq #[.int kv.1 t, kv.2] k })
    (h : ∀ (d : Nat) o h' tk, Fr b L h' m → News b L h' ((d, o) :: news) → NotSys d → o.IsDictOf (PySem.intKind prog w) kvs → (∀ p ∈ news, @LT.lt Nat _ p.1 d) → Q (.ref d) { s with heap := h', toks := tk }) :
    wpAny (model prog w) A (call (.type "dict") [.ref l]) Q E s := by
  have hex : ∀ i : Nat, ∃ kv' : Value × Value, ∀ v : Value, items[i]? = some v → ∃ (T k : Nat) (t : Tok) (c : Int × Value), v = .ref T ∧ s.heap.get? T = some { cls := .type "tuple", data := .seq #[kv'.1, kv'.2] k } ∧ kvs[i]? = some c ∧ kv'.1 = .int c.1 t ∧ kv'.2 = c.2 := by
    intro i
    cases hi : items[i]? with
    | none => exact ⟨(.none, .none), fun v hv => nomatch hv⟩
    | some v =>
      have hlt : i < items.size := (Array.getElem?_eq_some_iff.mp hi).1
      obtain ⟨T, k, t, e1, e2⟩ := hP i v _ hi (List.getElem?_eq_getElem (by exact Nat.lt_of_lt_of_eq hlt hlen))
      exact ⟨(.int _ t, _), fun v' hv' => ⟨T, k, t, _, by rw [← Option.some.inj hv']; exact e1, e2, List.getElem?_eq_getElem (by exact Nat.lt_of_lt_of_eq hlt hlen), rfl, rfl⟩⟩
  obtain ⟨f, hf⟩ := Classical.axiomOfChoice hex
  refine call_dictP hh hl (fun i => (f i).1) (fun i => (f i).2) (fun i v hv => ?_) (fun i o => o.IsDictOf (PySem.intKind prog w) (kvs.take i)) ?_ ?_ ?_
  · obtain ⟨T, k, t, c, e1, e2, -⟩ := hf i v hv
    exact ⟨T, k, e1, e2⟩
  · exact ⟨#[], 0, ⟨rfl, rfl, rfl⟩, rfl, fun e he => by simp at he, .nil, by simp⟩
  · intro i s' A' o Q' E' hu hA' hi ho hD hb hq
    obtain ⟨T, kT, t, c, e1, e2, hc, e3, e4⟩ := hf i _ (Array.getElem?_eq_getElem hi)
    simp only [e3, e4]
    obtain ⟨hnew, htk⟩ := take_fresh (f := fun x : Int × Value => x.1) hn hc
    refine wpAny_dictSet_pairs (intKind_is _ _ _ _) (Heap.dictOf_iff.mpr ⟨o, ho, hD⟩) (fun h' hd hs => ?_) (by rw [sizeLine_eq, List.length_take]; exact Nat.le_trans (Nat.min_le_right _ _) (o_le h1 rfl))
    obtain ⟨o', ho', hk'⟩ := Heap.dictOf_iff.mp hd
    rw [stored_new hnew, show ((c.1, c.2) : Int × Value) = c from rfl, ← htk] at hk'
    exact hq h' o' _ ho' hk' hs
  · intro h' o' tk hb ho hD
    rw [hlen, List.take_length] at hD
    refine h _ o' h' tk (F.keeps hb) (fun p hp => ?_) (F.notModules hbig) hD (fun p hp => Heap.lt_size (N p hp).1)
    rcases List.mem_cons.mp hp with rfl | hp
    · exact ⟨ho, Nat.ne_of_gt F.ns.lt, next_is_new F⟩
    · exact ⟨hb _ _ (N p hp).1, (N p hp).2⟩
theorem dict_tups {l k : Nat} {items : Array Value} {Q : Value → Shared → Prop} (hh : A.handled = none) (hu : A.units + 10 < cLine) (F : Fr b L s.heap m) (N : News b L s.heap news) (hbig : sysModules < b.objs.size) (hl : s.heap.get? l = some { cls := .type "list", data := .seq items k })
    (xs : List (List Int × Addr × Value)) (hn : (xs.map (·.1)).Nodup) (hlen : items.size = xs.length) (h1 : xs.length ≤ 1000) (hks : ∀ x ∈ xs, ∃ ok, s.heap.get? x.2.1 = some ok ∧ TupKeyObj (PySem.intKind prog w) x.1 ok)
    (hP : ∀ (i : Nat) (v : Value) (x : List Int × Addr × Value), items[i]? = some v → xs[i]? = some x → ∃ T k, v = .ref T ∧ s.heap.get? T = some { cls := .type "tuple", data := .seq #[.ref x.2.1, x.2.2] k })
    (h : ∀ (d : Nat) o h' tk es ep, Fr b L h' m → News b L h' ((d, o) :: news) → NotSys d → o.ExactDict → o.data = .dict es ep → es.toList = xs.map (entryOfKey (tupleKind (PySem.intKind prog w))) → (∀ p ∈ news, @LT.lt Nat _ p.1 d) → Q (.ref d) { s with heap := h', toks := tk }) :
    wpAny (model prog w) A (call (.type "dict") [.ref l]) Q E s := by
  refine call_dictP hh hl (fun i => ((xs[i]?).map fun x => Value.ref x.2.1).getD .none) (fun i => ((xs[i]?).map fun x => x.2.2).getD .none) (fun i v hv => ?_) (fun i o => ∃ es ep, o.ExactDict ∧ o.data = .dict es ep ∧ es.toList = (xs.take i).map (entryOfKey (tupleKind (PySem.intKind prog w)))) ?_ ?_ ?_
  · have hlt : i < items.size := (Array.getElem?_eq_some_iff.mp hv).1
    obtain ⟨T, k, e1, e2⟩ := hP i v _ hv (List.getElem?_eq_getElem (by exact Nat.lt_of_lt_of_eq hlt hlen))
    refine ⟨T, k, e1, ?_⟩
    rw [List.getElem?_eq_getElem (show i < xs.length by exact Nat.lt_of_lt_of_eq hlt hlen)]
    exact e2
  · exact ⟨#[], 0, ⟨rfl, rfl, rfl⟩, rfl, by simp⟩
  · intro i s' A' o Q' E' hu' hA' hi ho ⟨es, ep, hex, hd, hes⟩ hb hq
    have hx := List.getElem?_eq_getElem (show i < xs.length by exact Nat.lt_of_lt_of_eq hi hlen)
    generalize xs[i] = x at hx
    rw [hx]
    obtain ⟨hnew, htk⟩ := take_fresh (f := fun x : List Int × Addr × Value => x.1) hn hx
    have hkey : ∀ y ∈ xs, (tupleKind (PySem.intKind prog w)).is s'.heap y.1 y.2.1 := fun y hy => let ⟨ok, e1, e2⟩ := hks y hy; e2.key (hb _ _ e1)
    refine wpAny_dictSet_heap (knd := tupleKind (PySem.intKind prog w)) (xs := xs.take i) (show A'.units < cLine by exact Nat.lt_of_le_of_lt hu' hu) (hkey x (List.mem_of_getElem? hx)) ⟨o, es, ep, ho, hex, hd, hes, fun y hy => hkey y (List.mem_of_mem_take hy), ?_⟩ (fun h' hd' hs => ?_) (by rw [sizeLine_eq, List.length_take]; exact Nat.le_trans (Nat.min_le_right _ _) (o_le h1 rfl))
    · rw [List.map_take]; exact hn.sublist (List.take_sublist _ _)
    · obtain ⟨o', es', ep', ho', hex', hdat', hes', -, -⟩ := hd'
      rw [storedH_new] at hes'
      · simp only [Option.map_some, Option.getD_some] at hes'
        rw [← htk] at hes'
        exact hq h' o' _ ho' ⟨es', ep', hex', hdat', hes'⟩ hs
      · cases hq' : atKey (xs.take i) x.1 with
        | none => rfl
        | some p =>
          exfalso
          unfold atKey at hq'
          obtain ⟨y, hy, -⟩ := Option.map_eq_some_iff.mp hq'
          exact hnew (List.mem_map.mpr ⟨y, List.mem_of_find?_eq_some hy, by simpa using List.find?_some hy⟩)
  · rintro h' o' tk hb ho ⟨es, ep, hex, hd, hes⟩
    rw [hlen, List.take_length] at hes
    refine h _ o' h' tk es ep (F.keeps hb) (fun p hp => ?_) (F.notModules hbig) hex hd hes (fun p hp => Heap.lt_size (N p hp).1)
    rcases List.mem_cons.mp hp with rfl | hp
    · exact ⟨ho, Nat.ne_of_gt F.ns.lt, next_is_new F⟩
    · exact ⟨hb _ _ (N p hp).1, (N p hp).2⟩
end
end DPairs

/-! frames with cells; lambdas -/
section
variable {prog : Program} {w : World} {p : Program} {loose : List Str} {mean : ExcName → Option Value} {mg mb : Str → Option Value}
theorem enterC {K : Frag} {A : Around} {s : Shared} {b : Heap} {news : Ledger}
    {R : Result → Shared → Prop} {name qual : Str} {params : Arguments} {body : List Stmt} {scope : Scope} {dV kV doc pm cdv ct oc : Value} {an od : Option Addr} {osl : Array (Option Value)} {f : Addr} {args : Args} (binds : List (Str × Value))
    (S : Sub b s.heap) (N : Led b s.heap news) (X : K.In b) (T : Top p loose mean mg mb b)
    (ho : K.lookup f = some ⟨oc, od, .func (fnOf name qual params body scope dV kV doc pm an cdv ct), osl⟩) (hcd : codeIn K cdv qual = true) (hroom : A.depth < recursionLimit)
    (hbind : BindsTo s (fnOf name qual params body scope dV kV doc pm an cdv ct) args binds) (hkind : (binds.all fun y => scope.names.lookup y.1 == some .local || scope.names.lookup y.1 == some .cell) = true)
    (hnd : ((cellsFrom 0 scope.names []).map (·.1)).Nodup)
    (h : ∀ L' h₁ tk cells, s.heap.objs.size ≤ L' → Fr b L' h₁ (bindL (envOfC qual scope L' f cdv).kindOf binds fun _ => none) → News b L' h₁ (cells ++ news) →
      CellsAre (bindC (envOfC qual scope L' f cdv).kindOf binds fun _ => none) (cellsFrom (L' + 1) scope.names []) cells → (∀ p ∈ news, p.1 < L') →
      wpAny (model prog w) (A.deeper (envOfC qual scope L' f cdv)) (execs body (envOfC qual scope L' f cdv))
        (fun fl s' => R (.ok (.ret (match fl with | .ret v => v | _ => .none))) s')
        (fun _ _ => False)
        { s with heap := h₁, toks := tk })
    (hco : scope.isCoroutine = false := by rfl) (hgen : scope.isGenerator = false := by rfl) (hk : scope.kind = .function := by rfl) : codeAny (model prog w) A (.call (.ref f) args) R s := by
  have X' : K.In s.heap := fun a o e => S.keep _ _ (X a o e)
  refine codeAny_call_function hroom (X' _ _ ho) rfl hco hgen rfl (codeRec_of X' hcd) (hbind _ _ _ _ ?_)
  refine wpAny_newFunctionEnv_cells hk (kindsX hkind _) fun env' he s' x => ?_
  subst he
  refine ⟨(T.nolimit.keeps S.keep).keeps x.toInCall.keep, codeAny_func ?_⟩
  obtain ⟨h₁, tk, rfl, _⟩ := x.done
  have hk₁ := x.toInCall.keep
  obtain ⟨cells, NC, Y⟩ := Cl.news (h₀ := s.heap) (Nat.le_refl _) fun n c hm => ⟨x.cell n c (lookup_of_mem_nodup (cellsFrom_names scope.names 0 (s.heap.objs.size + 1) [] [] rfl ▸ hnd) hm), x.above n c hm⟩
  refine wpAny_mono (h s.heap.objs.size h₁ tk cells (Nat.le_refl _) ⟨x.toInCall.ns, fun b o e => hk₁ b o (S.keep _ _ e), S.size⟩ (fun p hp => ?_) Y (fun p hp => Heap.lt_size (N p hp).1)) (fun fl s' hl => hl) fun _ _ y => y.elim
  rcases List.mem_append.mp hp with hp | hp
  · refine ⟨(NC p hp).1, (NC p hp).2.1, ?_⟩
    cases q : b.get? p.1 with
    | none => rfl
    | some o => have := S.keep _ _ q; rw [(NC p hp).2.2] at this; cases this
  · exact ⟨hk₁ _ _ (N p hp).1, Nat.ne_of_lt (Heap.lt_size (N p hp).1), (N p hp).2⟩
theorem enterL {A : Around} {s : Shared} {b : Heap} {news : Ledger} {R : Result → Shared → Prop} {name qual : Str} {params : Arguments} {body : Expr} {scope : Scope} {cl : List (Str × Addr)} {pm ctv : Value} {c' f : Addr} {args : Args} (binds : List (Str × Value))
    (S : Sub b s.heap) (N : Led b s.heap news) (T : Top p loose mean mg mb b)
    (ho : b.get? f = some (kla_obj name qual params body scope cl pm c' ctv)) (hcd : b.CodeRec (.ref c') qual) (hroom : A.depth < recursionLimit)
    (hbind : bindArgs (kla_fn name qual params body scope cl pm (.ref c') ctv) args = pure binds) (hloc : ∀ y ∈ binds, scope.names.lookup y.1 = some .local)
    (h : ∀ L' h₁ tk, s.heap.objs.size ≤ L' → Fr b L' h₁ (fun y => binds.reverse.lookup y) → News b L' h₁ news →
      wpAny (model prog w) (A.deeper (envX qual scope L' f (.ref c') cl)) (eval body (envX qual scope L' f (.ref c') cl))
        (fun v s' => R (.ok (.ret v)) s') (fun _ _ => False) { s with heap := h₁, toks := tk })
    (hco : scope.isCoroutine = false := by rfl) (hgen : scope.isGenerator = false := by rfl) (hk : scope.kind = .function := by rfl)
    (hcell : ∀ x ∈ scope.names, x.2 ≠ .cell := by decide) : codeAny (model prog w) A (.call (.ref f) args) R s := by
  refine kla_callFunE hroom (S.keep _ _ ho) rfl hco hgen rfl (hcd.keeps S.keep) ?_
  rw [hbind]
  refine wpAny_pure (wpAny_newFunctionEnv hcell hloc (fun h₁ hns hsb => ⟨((T.nolimit).keeps S.keep).fresh _ hsb, ?_⟩) hk)
  show codeAny _ _ (.expr body (envX qual scope s.heap.objs.size f (.ref c') cl)) _ _
  have hk₁ : ∀ b o, s.heap.get? b = some o → h₁.get? b = some o := fun b o e => hsb.extBut b o (Nat.ne_of_lt (Heap.lt_size e)) (Heap.get?_push_of_some _ e)
  exact kla_codeExpr (wpAny_mono (h s.heap.objs.size h₁ _ (Nat.le_refl _) ⟨hns, fun b o e => hk₁ b o (S.keep _ _ e), S.size⟩
    (fun p hp => ⟨hk₁ _ _ (N p hp).1, Nat.ne_of_lt (Heap.lt_size (N p hp).1), (N p hp).2⟩)) (fun v s' hl => hl) fun _ _ y => y.elim)
end
local macro_rules | `(tactic| one_sign) => `(tactic| (
  (case k6 | k7 => k_is); (case k8 => k_room); (case k9 => first | exact BindsTo.of_eq rfl | exact binds_K (by first | assumption | exact Frag.In.keeps (by assumption) (Sub.keep (by assumption))) rfl (by k_is) rfl rfl rfl); (case kB => exact rfl); (case kD => decide +kernel); (case c2 | c3 | c4 => exact rfl)
  intro L' h' tk' cells' hL' F' N' Y' l1; k_cells Y'; (try simp only [List.cons_append, List.nil_append] at N'); (try dsimp only); (try k_fold)))
/-! the pen -/
structure PenOk (cells : Nat) (B : Int) (o : Obj) : Prop where
  ex : ∃ (spot rest : Int) (t1 t2 : Tok) (n : Nat), o = penObj cells spot rest t1 t2 n ∧ 0 ≤ spot ∧ spot ≤ B ∧ 0 ≤ rest
structure CellsOk (o : Obj) : Prop where
  ex : ∃ (vs : List Value) (ns : List Int) (nc : Nat), o = listOf vs.toArray nc ∧ IntsAre vs ns ∧ ns.length ≤ 40
theorem PenOk.mono {cells : Nat} {B B' : Int} {o : Obj} (h : PenOk cells B o) (hB : B ≤ B') : PenOk cells B' o :=
  let ⟨⟨s, r, t1, t2, n, e, h1, h2, h3⟩⟩ := h; ⟨⟨s, r, t1, t2, n, e, h1, by exact Int.le_trans h2 hB, h3⟩⟩
section
variable {prog : Program} {w : World}
theorem draw_p {pen cells : Nat} {oC oP : Obj} {B many : Int} {t : Tok} (HC : CellsOk oC) (HP : PenOk cells B oP) (hB : B ≤ 9000) (hm : 1 ≤ many ∧ many ≤ 100) :
    Calls prog w 1 (.ref 799) [.ref pen, .int many t] [(cells, oC)] [(pen, oP)] (fun _ v mu' => ∃ (d : Int) (t' : Tok) (oP' : Obj), v = .int d t' ∧ 0 ≤ d ∧ d < many ∧ PenOk cells (B + 1) oP' ∧ mu' = [(pen, oP')]) := by
  obtain ⟨vs, ns, nc, rfl, hi, hl⟩ := HC
  obtain ⟨spot, rest, t1, t2, n, rfl, h1, h2, h3⟩ := HP
  intro dp un fr gds s b R hdp hun S G H0 N k
  have hne : pen ≠ cells := fun e => by
    have e1 := (N _ (.head _)).2
    have e2 := H0.c.1
    rw [show ((pen, penObj cells spot rest t1 t2 n) : Addr × Obj).1 = pen from rfl, e, e2] at e1
    cases e1
  refine draw_c hi hl ⟨h1, by exact Int.le_trans h2 (o_ile hB rfl)⟩ h3 hm hne dp un fr gds s b R hdp hun S G H0 N ?_
  rintro v h' tk mu' ⟨d, spot', rest', t', t1', t2', n', rfl, hd0, hd1, hs, hr, rfl⟩ S' L'
  exact k _ _ _ _ ⟨d, t', _, rfl, hd0, hd1, ⟨⟨spot', rest', t1', t2', n', rfl, by omega, by omega, hr⟩⟩, rfl⟩ S' L'
theorem pick_p {pen cells l n : Nat} {oC oP : Obj} {B : Int} {vs : List Value} (HC : CellsOk oC) (HP : PenOk cells B oP) (hB : B ≤ 9000) (hl : 1 ≤ vs.length ∧ vs.length ≤ 100) :
    Calls prog w 2 (.ref 806) [.ref pen, .ref l] [(cells, oC), (l, listOf vs.toArray n)] [(pen, oP)] (fun _ v mu' => ∃ (j : Nat) (oP' : Obj), vs[j]? = some v ∧ PenOk cells (B + 1) oP' ∧ mu' = [(pen, oP')]) := by
  intro dp un fr gds s b R hdp hun S G H0 N k
  obtain ⟨X, p, loose, mean, mg, mb, T⟩ := G
  have hL := H0.c.2.c.1
  refine' enter [("pen", .ref pen), ("some", .ref l)] S N X T ?k6 ?k7 ?k8 ?k9 ?kB ?_ ?c2 ?c3 ?c4 ?c5
  ( (case k6 | k7 => k_is); (case k8 => k_room); (case k9 => first | exact BindsTo.of_eq rfl | exact binds_K (by first | assumption | exact Frag.In.keeps (by assumption) (Sub.keep (by assumption))) rfl (by k_is) rfl rfl rfl); (case c5 => decide); (case kB => exact locs rfl); (case c2 | c3 | c4 => exact rfl); intro _ _ _ _ _ _; (try dsimp only); (try k_fold))
  repeat' (first | (k_unfold; (try dsimp only)) | ((fail_if_success (with_reducible show wpAny _ _ (call (Value.ref _) _) _ _ _)); first | walk1 | (dsimp only; walk1)))
  refine' use (rest := []) (draw_p HC HP hB (many := (vs.length : Int)) (by exact ⟨Int.ofNat_le.mpr hl.1, Int.ofNat_le.mpr hl.2⟩)) ?hdp ?hun ?F ?N ?X ?T ?hm ?hi ?hr ?_
  ( (case hdp | hun => kwd_inv); (case F | N | X | T => k_asm))
  (case hm => exact fun _ hp => hp)
  (case hi => exact fun p hp => Or.inr (List.mem_singleton.mp hp ▸ H0.c.1))
  (case hr => exact fun _ hp => nomatch hp)
  rintro Gq hGq n1 _ h1 tk1 _ ⟨d, t', oP', rfl, hd0, hd1, HP', rfl⟩
  refine hGq _ _ _ _ _ ?_
  clear hGq Gq
  rintro hlt1 hL1 F1 N1
  rw [List.append_nil] at N1
  have hx : vs[d.toNat]? = some (vs[d.toNat]'(by exact o_tn (by assumption) hd1)) := List.getElem?_eq_getElem _
  generalize vs[d.toNat] = x at hx
  repeat' (first | (k_unfold; (try dsimp only)) | ((fail_if_success (with_reducible show wpAny _ _ (call (Value.ref _) _) _ _ _)); first | walk1 | (dsimp only; walk1)))
  exact k _ _ _ _ ⟨d.toNat, oP', hx, HP', rfl⟩ (sub_of_fr (by assumption)) (led_of_news (by assumption) (fun _ hp => hp))
end
section
variable {prog : Program} {w : World} {p : Program} {loose : List Str} {mean : ExcName → Option Value} {mg mb : Str → Option Value}
/-- a call that changes one object of the ledger -/
theorem useU {b : Heap} {L : Addr} {m : Str → Option Value} {news imm : Ledger} {c : Nat} {o : Obj} {g : Obj → Ledger} {Post : Nat → Value → Ledger → Prop} {lvl dp un : Nat} {fr : Option (List Env)} {gd : Option (List Code)} {s : Shared} {f : Value} {args : List Value}
    {Q : Value → Shared → Prop} {E : Value → Shared → Prop}
    (C : Calls prog w lvl f args imm [(c, o)] Post) (hdp : dp + 5 * lvl < 900) (hun : un + 100 * lvl < 9000)
    (F : Fr b L s.heap m) (N : News b L s.heap news) (X : (hd.heap_39 w.params).In b) (T : Top p loose mean mg mb b)
    (U : UpdF c o news g) (hi : ∀ p ∈ imm, (p ∈ news ∧ @Ne Nat p.1 c) ∨ b.get? p.1 = some p.2)
    (k : ∀ G : Nat → Value → Heap → Nat → Ledger → Prop, (∀ n₀ v h' tk mu', (Fr b L h' m → (∀ o' more, (∀ q ∈ (c, o') :: more, q ∈ mu') → News b L h' (more ++ g o')) → (∀ q ∈ mu', @Ne Nat q.1 c → ∀ r ∈ news, @Ne Nat r.1 q.1) → Q v { s with heap := h', toks := tk }) → G n₀ v h' tk mu') → ∀ n₀ v h' tk mu', Post n₀ v mu' → G n₀ v h' tk mu') :
    wpAny (model prog w) (ar dp un fr gd) (call f args) Q E s := by
  have k := k _ fun _ _ _ _ _ x => x
  obtain ⟨own, rest, rfl, hg, h1, h2⟩ := U.split
  have hmem : (c, o) ∈ own ++ (c, o) :: rest := List.mem_append_right _ (.head _)
  have ne : ∀ p, p ∈ own ++ (c, o) :: rest → @Ne Nat p.1 c → p.1 ∉ [c] := fun p _ hn q => hn (List.mem_singleton.mp q)
  have Nc := N _ hmem
  have bn : ∀ a o', b.get? a = some o' → a ∉ [c] := fun a o' e q => by
    rw [List.mem_singleton.mp q, Nc.2.2] at e; cases e
  have bb : ∀ a o', b.get? a = some o' → (hideAll s.heap [c]).get? a = some o' := fun a o' e => hideAll_get _ (F.keep a o' e) (bn a o' e)
  have G : Glo w (hideAll s.heap [c]) := (Glo.mk X ⟨_, _, _, _, _, T⟩).keeps bb
  have Lm : L ∉ [c] := fun q => Nc.2.1 (List.mem_singleton.mp q).symm
  refine wpAny_call (C dp un fr gd s (hideAll s.heap [c]) _ hdp hun ⟨Nat.le_of_eq (hideAll_size _ _), fun a o e => of_hideAll _ e⟩ G (fun p hp => ?_) (fun p hp => ?_) fun v h' tk mu' hP S' L' => ?_)
  · rcases hi p hp with ⟨h3, h4⟩ | h3
    · exact hideAll_get _ (N p h3).1 (ne p h3 h4)
    · exact bb _ _ h3
  · rw [List.mem_singleton.mp hp]; exact ⟨Nc.1, hideAll_none _ (.head _)⟩
  · obtain ⟨oL, es, ep, hL, hr'⟩ := F.ns
    have hLg := hideAll_get [c] hL Lm
    refine k s.heap.objs.size v h' tk mu' hP ⟨⟨oL, es, ep, S'.keep _ _ hLg, hr'⟩, fun a o e => S'.keep _ _ (bb a o e), F.above⟩ (fun o' more hs p hp => ?_) (fun q hq hqc r hr => ?_)
    · have fromMu : ∀ p ∈ mu', h'.get? p.1 = some p.2 ∧ p.1 ≠ L ∧ b.get? p.1 = none := fun p hp => by
        refine ⟨(L' p hp).1, fun q => ?_, ?_⟩
        · have := (L' p hp).2; rw [q, hLg] at this; cases this
        · cases q : b.get? p.1 with
          | none => rfl
          | some o => have := (L' p hp).2; rw [bb _ _ q] at this; cases this
      have fromN : ∀ p ∈ own ++ (c, o) :: rest, p.1 ≠ c → h'.get? p.1 = some p.2 ∧ p.1 ≠ L ∧ b.get? p.1 = none := fun p hp hn => ⟨S'.keep _ _ (hideAll_get _ (N p hp).1 (ne p hp hn)), (N p hp).2⟩
      rcases List.mem_append.mp hp with hp | hp
      · exact fromMu p (hs p (.tail _ hp))
      · rw [hg] at hp
        rcases List.mem_append.mp hp with hp | hp
        · exact fromN p (List.mem_append_left _ hp) (h1 p hp)
        · rcases List.mem_cons.mp hp with rfl | hp
          · exact fromMu _ (hs _ (.head _))
          · exact fromN p (List.mem_append_right _ (.tail _ hp)) (h2 p hp)
    · intro e
      have h3 := (L' q hq).2
      have h4 := hideAll_get [c] (N r hr).1 (ne r hr (by rw [e]; exact hqc))
      rw [show q.1 = r.1 from e.symm, h4] at h3
      cases h3
end

section
variable {prog : Program} {w : World}
theorem law_pen_c {sc n : Nat} {oS : Obj} {vs : List Value} {ns : List Int} (hoc : oS.cls = .type "list") (hod : oS.data = .seq vs.toArray n) (hi : IntsAre vs ns) (hl : vs.length ≤ 1000) :
    Calls prog w 1 (.ref 792) [.ref sc] [(sc, oS)] [] (fun _ v mu' => ∃ (pen cells : Nat) (oP oC : Obj), v = .ref pen ∧ PenOk cells 0 oP ∧ CellsOk oC ∧ @Ne Nat cells pen ∧ mu' = [(pen, oP), (cells, oC)]) := by
  intro dp un fr gds s b R hdp hun S G H0 N k
  obtain ⟨X, p, loose, mean, mg, mb, T⟩ := G
  have hs := H0.c.1
  refine' enter [("script", .ref sc)] S N X T ?k6 ?k7 ?k8 ?k9 ?kB ?_ ?c2 ?c3 ?c4 ?c5
  ( (case k6 | k7 => k_is); (case k8 => k_room); (case k9 => first | exact BindsTo.of_eq rfl | exact binds_K (by first | assumption | exact Frag.In.keeps (by assumption) (Sub.keep (by assumption))) rfl (by k_is) rfl rfl rfl); (case c5 => decide); (case kB => exact locs rfl); (case c2 | c3 | c4 => exact rfl); intro _ _ _ _ _ _; (try dsimp only); (try k_fold))
  repeat' (first | (k_unfold; (try dsimp only)) | ((fail_if_success (first | (with_reducible show wpAny _ _ (call (Value.ref _) _) _ _ _) | (with_reducible show wpAny _ _ (eval (Expr.ListComp _ _ _ _) _) _ _ _))); first | walk1 | (dsimp only; walk1)))
  refine LCg.ListComp_U (F₀ := by k_asm) (by rfl) (by decide) (by rfl) (by decide) (by rfl) ?_
  repeat' (first | (k_unfold; (try dsimp only)) | ((fail_if_success (first | (with_reducible show wpAny _ _ (call (Value.ref _) _) _ _ _) | (with_reducible show wpAny _ _ (eval (Expr.ListComp _ _ _ _) _) _ _ _))); first | walk1 | (dsimp only; walk1)))
  refine kmk_slice_lit (zs := vs.take 40) (lo := none) (hi := some 40) (by k_asm) (by k_asm) ⟨_, Fr.keep (by k_asm) _ _ hs, hoc, _, hod⟩ .none (.int _ _) slice_take ?_ (by with_unfolding_all rfl) (by intro _; with_unfolding_all rfl) (by rw [sizeLine_eq]; simp; exact o_le hl rfl)
  intro D1 h1 F1 N1 l1
  repeat' (first | (k_unfold; (try dsimp only)) | ((fail_if_success (first | (with_reducible show wpAny _ _ (call (Value.ref _) _) _ _ _) | (with_reducible show wpAny _ _ (eval (Expr.ListComp _ _ _ _) _) _ _ _))); first | walk1 | (dsimp only; walk1)))
  have hi' := hi.take 40
  refine LCg.CompSrc.ledger (its := (vs.take 40).toArray) (by rfl) (by k_asm) (by k_asm) (by k_mem) (by simp [sizeLine_eq]; exact Nat.le_trans (Nat.min_le_left _ _) (by decide)) ?_
  intro g
  refine comp_inv (fun c ys nw => nw = [(D1, listOf (vs.take 40).toArray 0)] ∧ IntsAre ys ((ns.take 40).take c)) ⟨rfl, .nil⟩ ?_ ?_
  · rintro c ys nw v I oI C oC D2 m2 h tk E' hc ⟨rfl, hys⟩ hv hC hx F2 N2 off ne
    simp only [List.getElem?_toArray] at hv
    obtain ⟨t, rfl⟩ := PyProof.Rows.IntsAre.int_at hi' c v hv
    repeat' (first | (k_unfold; (try dsimp only)) | ((fail_if_success (first | (with_reducible show wpAny _ _ (call (Value.ref _) _) _ _ _) | (with_reducible show wpAny _ _ (eval (Expr.ListComp _ _ _ _) _) _ _ _))); first | walk1 | (dsimp only; walk1)))
    refine LCg.CompEnd.intro F2 N2 _ (fun p hp => hp) off (.inr ⟨_, .head _, rfl, _, rfl⟩) ⟨rfl, ?_⟩
    have hlt : c < (ns.take 40).length := by rw [← hi'.length]; simpa using hc
    generalize ns.take 40 = ms at hlt hys ⊢
    rw [List.take_add_one, List.getElem?_eq_getElem hlt, show ms.getD c 0 = ms[c] by simp [List.getD_eq_getElem?_getD, List.getElem?_eq_getElem hlt]]
    exact hys.append (.cons _ _ .nil)
  · rintro ys nw ⟨rfl, hys⟩
    unfold LCg.FinE
    rw [List.take_of_length_le (by rw [← hi'.length]; simp)] at hys
    intro D2 h2 tk2 F2 N2 o2
    repeat' (first | (k_unfold; (try dsimp only)) | ((fail_if_success (first | (with_reducible show wpAny _ _ (call (Value.ref _) _) _ _ _) | (with_reducible show wpAny _ _ (eval (Expr.ListComp _ _ _ _) _) _ _ _))); first | walk1 | (dsimp only; walk1)))
    rename_i D3 h3 F3 N3 l3
    exact k _ _ _ _ ⟨D3, D2, _, _, rfl, ⟨⟨0, 0, _, _, _, rfl, by decide, by decide, by decide⟩⟩, ⟨⟨ys, _, _, rfl, hys, by simp; exact Nat.min_le_left _ _⟩⟩, Nat.ne_of_lt l3.1, rfl⟩ (sub_of_fr (by assumption)) (led_of_news N3 (fun p hp => by
      rcases List.mem_cons.mp hp with h | hp
      · exact h ▸ .head _
      · exact List.mem_singleton.mp hp ▸ .tail _ (.head _)))
theorem law_value_c {pen cells : Nat} {oC oP : Obj} {B : Int} (HC : CellsOk oC) (HP : PenOk cells B oP) (hB : B ≤ 8000) :
    Calls prog w 3 (.ref 813) [.ref pen] [(cells, oC)] [(pen, oP)] (fun _ v mu' => ∃ (u : VR) (oP' : Obj), v = .ref u.a ∧ PenOk cells (B + 3) oP' ∧ mu' = (pen, oP') :: u.led w.params ∧ @Ne Nat u.a pen ∧ @Ne Nat u.d pen) := by
  intro dp un fr gds s b R hdp hun S G H0 N k
  obtain ⟨X, p, loose, mean, mg, mb, T⟩ := G
  have hc := H0.c.1
  refine' enter [("pen", .ref pen)] S N X T ?k6 ?k7 ?k8 ?k9 ?kB ?_ ?c2 ?c3 ?c4 ?c5
  ( (case k6 | k7 => k_is); (case k8 => k_room); (case k9 => first | exact BindsTo.of_eq rfl | exact binds_K (by first | assumption | exact Frag.In.keeps (by assumption) (Sub.keep (by assumption))) rfl (by k_is) rfl rfl rfl); (case c5 => decide); (case kB => exact locs rfl); (case c2 | c3 | c4 => exact rfl); intro _ _ _ _ _ _; (try dsimp only); (try k_fold))
  repeat' (first | (k_unfold; (try dsimp only)) | ((fail_if_success (first | (with_reducible show wpAny _ _ (call (Value.ref _) _) _ _ _) | (with_reducible show wpAny _ _ (eval (Expr.ListComp _ _ _ _) _) _ _ _))); first | walk1 | (dsimp only; walk1)))
  refine' useU (pick_p HC HP (by exact o_ile hB rfl) ?hl) ?hdp ?hun ?F ?N ?X ?T ?U ?hi ?_
  (( (case hdp | hun => kwd_inv); (case F | N | X | T => k_asm)); (case U => k_updF); (case hi => repeat (first | exact List.forall_mem_nil _ | (refine List.forall_mem_cons.mpr ⟨?_, ?_⟩; first | exact Or.inr (by assumption) | exact Or.inl ⟨by k_mem, by k_ne⟩))))
  (case hl => exact ⟨Nat.le_of_ble_eq_true rfl, Nat.le_of_ble_eq_true rfl⟩)
  rintro Gq hGq n1 v1 h1 tk1 _ ⟨j1, oP1, hv1, HP1, rfl⟩
  refine hGq _ _ _ _ _ ?_
  clear hGq Gq
  rintro F1 N1 -
  have N1 := N1 oP1 [] (fun _ h => h)
  dsimp only [List.nil_append] at N1
  obtain ⟨x1, t1, rfl⟩ : ∃ x t, v1 = Value.int x t := by
    rcases j1 with _ | _ | _ | j1 <;> first | exact ⟨_, _, (Option.some.inj hv1).symm⟩ | (simp at hv1)
  repeat' (first | (k_unfold; (try dsimp only)) | ((fail_if_success (first | (with_reducible show wpAny _ _ (call (Value.ref _) _) _ _ _) | (with_reducible show wpAny _ _ (eval (Expr.ListComp _ _ _ _) _) _ _ _))); first | walk1 | (dsimp only; walk1)))
  refine' useU (pick_p HC HP1 (by exact o_cap1 hB rfl) ?hl) ?hdp ?hun ?F ?N ?X ?T ?U ?hi ?_
  (( (case hdp | hun => kwd_inv); (case F | N | X | T => k_asm)); (case U => k_updF); (case hi => repeat (first | exact List.forall_mem_nil _ | (refine List.forall_mem_cons.mpr ⟨?_, ?_⟩; first | exact Or.inr (by assumption) | exact Or.inl ⟨by k_mem, by k_ne⟩))))
  (case hl => exact ⟨Nat.le_of_ble_eq_true rfl, Nat.le_of_ble_eq_true rfl⟩)
  rintro Gq hGq n2 v2 h2 tk2 _ ⟨j2, oP2, hv2, HP2, rfl⟩
  refine hGq _ _ _ _ _ ?_
  clear hGq Gq
  rintro F2 N2 -
  have N2 := N2 oP2 [] (fun _ h => h)
  dsimp only [List.nil_append] at N2
  obtain ⟨x2, t2, rfl⟩ : ∃ x t, v2 = Value.int x t := by
    rcases j2 with _ | _ | j2 <;> first | exact ⟨_, _, (Option.some.inj hv2).symm⟩ | (simp at hv2)
  repeat' (first | (k_unfold; (try dsimp only)) | ((fail_if_success (first | (with_reducible show wpAny _ _ (call (Value.ref _) _) _ _ _) | (with_reducible show wpAny _ _ (eval (Expr.ListComp _ _ _ _) _) _ _ _))); first | walk1 | (dsimp only; walk1)))
  refine' useU (pick_p HC HP2 (by exact o_cap2 hB rfl) ?hl) ?hdp ?hun ?F ?N ?X ?T ?U ?hi ?_
  (( (case hdp | hun => kwd_inv); (case F | N | X | T => k_asm)); (case U => k_updF); (case hi => repeat (first | exact List.forall_mem_nil _ | (refine List.forall_mem_cons.mpr ⟨?_, ?_⟩; first | exact Or.inr (by assumption) | exact Or.inl ⟨by k_mem, by k_ne⟩))))
  (case hl => exact ⟨Nat.le_of_ble_eq_true rfl, Nat.le_of_ble_eq_true rfl⟩)
  rintro Gq hGq n3 v3 h3 tk3 _ ⟨j3, oP3, hv3, HP3, rfl⟩
  refine hGq _ _ _ _ _ ?_
  clear hGq Gq
  rintro F3 N3 -
  have N3 := N3 oP3 [] (fun _ h => h)
  dsimp only [List.nil_append] at N3
  obtain ⟨x3, t3, rfl⟩ : ∃ x t, v3 = Value.int x t := by
    rcases j3 with _ | _ | _ | j3 <;> first | exact ⟨_, _, (Option.some.inj hv3).symm⟩ | (simp at hv3)
  repeat' (first | (k_unfold; (try dsimp only)) | ((fail_if_success (first | (with_reducible show wpAny _ _ (call (Value.ref _) _) _ _ _) | (with_reducible show wpAny _ _ (eval (Expr.ListComp _ _ _ _) _) _ _ _))); first | walk1 | (dsimp only; walk1)))
  refine' use0N value_c ?hdp ?hun ?F ?N ?X ?T ?hi ?_
  ( (case hdp | hun => kwd_inv); (case F | N | X | T => k_asm))
  (case hi => exact fun p hp => nomatch hp)
  rintro Gq hGq n4 _ h4 tk4 _ ⟨u, rfl, -, -, -, rfl⟩
  refine hGq _ _ _ _ _ ?_
  clear hGq Gq
  rintro hnew F4 N4
  repeat' (first | (k_unfold; (try dsimp only)) | ((fail_if_success (first | (with_reducible show wpAny _ _ (call (Value.ref _) _) _ _ _) | (with_reducible show wpAny _ _ (eval (Expr.ListComp _ _ _ _) _) _ _ _))); first | walk1 | (dsimp only; walk1)))
  refine k _ _ _ _ ⟨u, oP3, rfl, HP3.mono (by exact Int.le_of_eq o_3), rfl, hnew _ (.head _) (pen, oP3) (by k_mem), hnew _ (.tail _ (.head _)) (pen, oP3) (by k_mem)⟩ (sub_of_fr (by assumption)) (led_of_news N4 (fun p hp => ?_))
  rcases List.mem_cons.mp hp with h | hp
  · exact h ▸ List.mem_append_right _ (by k_mem)
  · exact List.mem_append_left _ hp
end

/-! parting a table -/
/-- the orders drawn; behind a name, so that omega does not split on it -/
noncomputable def Perm3 (a1 a2 a3 : Int) : Prop := (a1 = 0 ∧ a2 = 1 ∧ a3 = 2) ∨ (a1 = 2 ∧ a2 = 0 ∧ a3 = 1) ∨ (a1 = 1 ∧ a2 = 2 ∧ a3 = 0) ∨ (a1 = 2 ∧ a2 = 1 ∧ a3 = 0)
theorem Perm3.mem {a1 a2 a3 c : Int} (h : Perm3 a1 a2 a3) (h0 : 0 ≤ c) (h3 : c < 3) : a1 = c ∨ a2 = c ∨ a3 = c := by
  unfold Perm3 at h
  omega
noncomputable def KeepAt (b : Heap) (f : Value) : Prop := ∀ (M : Model) (h : Heap), (∀ a o, b.get? a = some o → h.get? a = some o) → ∃ k, (k = Keeper.frame ∨ k = Keeper.machine ∨ k = Keeper.boundFrame) ∧ Looks M h (keeperOf f) k
theorem callWith_B {M : Model} {A : Around} {E : Value → Shared → Prop} {s : Shared} {env : Env} {pos : Pos} {first : List Value} {Q : Value → Shared → Prop} {f : Value} {b : Heap} {e : Expr} {rest : List Expr} (hk : KeepAt b f)
    (h : wpAny M A (spliced (backTo pos (starEach (e :: rest) env))) (fun vs s₁ => (∀ a o, b.get? a = some o → s₁.heap.get? a = some o) ∧ wpAny M A (call f (first ++ vs)) Q E s₁) E s)
    (he : starEach (e :: rest) env = (false, eval e env) :: starEach rest env := by rfl) (hplain : (backTo pos (starEach rest env)).any (·.1) = false := by rfl) :
    wpAny M A (callWith pos f first (backTo pos (starEach (e :: rest) env)) []) Q E s := by
  rw [he] at h ⊢
  exact callWith_of (by show ((false || (backTo pos (starEach rest env)).any (·.1)) || false) = false; rw [hplain]; rfl) (hk M) (evalArgs_plain h)
structure PartOk (prog : Program) (w : World) (imm : Ledger) (held ff mk : Nat) (es : Array DictEntry) (fk : Nat → Int) (Mk : List Nat → Obj → Prop) (Made : Nat → Nat → Ledger → Prop) : Prop where
  ex : ∃ oH ep, (held, oH) ∈ imm ∧ NotSys held ∧ oH.ExactDict ∧ oH.data = .dict es ep
  size : es.size ≤ 100
  fk6 : ∀ i, i < es.size → 0 ≤ fk i ∧ fk i < 6
  first : ∀ (i : Nat) (e : DictEntry), es[i]? = some e → Calls prog w 1 (.ref ff) [e.key] imm [] (fun _ v mu' => (∃ t, v = .int (fk i) t) ∧ mu' = [])
  get : ∀ (i : Nat) (e : DictEntry), es[i]? = some e → ∀ (A : Around) (E : Value → Shared → Prop) (s : Shared) (Q : Value → Shared → Prop), A.units + 10 < cLine → (∀ p ∈ imm, s.heap.get? p.1 = some p.2) → (∀ tk, Q e.val { s with toks := tk }) → wpAny (model prog w) A (getItem (.ref held) e.key) Q E s
  dict : ∀ (idx : List Nat) (A : Around) (E : Value → Shared → Prop) (s : Shared) (Q : Value → Shared → Prop) (b : Heap) (L : Addr) (m : Str → Option Value) (news : Ledger) (l k : Nat) (items : List Value), A.handled = none → A.units + 10 < cLine → Fr b L s.heap m → News b L s.heap news → sysModules < b.objs.size → (∀ p ∈ imm, s.heap.get? p.1 = some p.2) →
    s.heap.get? l = some (listOf items.toArray k) → idx.Nodup → (∀ i ∈ idx, i < es.size) → idx.length ≤ 100 → items.length = idx.length →
    (∀ (j : Nat) (v : Value) (i : Nat) (e : DictEntry), items[j]? = some v → idx[j]? = some i → es[i]? = some e → ∃ T k : Nat, v = .ref T ∧ s.heap.get? T = some { cls := .type "tuple", data := .seq #[e.key, e.val] k }) →
    (∀ (d : Nat) o h' tk, Fr b L h' m → News b L h' ((d, o) :: news) → NotSys d → Mk idx o → (∀ p ∈ news, @LT.lt Nat _ p.1 d) → Q (.ref d) { s with heap := h', toks := tk }) →
    wpAny (model prog w) A (call (.type "dict") [.ref l]) Q E s
  keepF : ∀ b : Heap, Glo w b → Has b imm → KeepAt b (.ref ff)
  keepM : ∀ b : Heap, Glo w b → Has b imm → KeepAt b (.ref mk)
  make : ∀ idx D o, Mk idx o → NotSys D → idx.Nodup → (∀ i ∈ idx, i < es.size) → idx.length ≤ 100 → Calls prog w 6 (.ref mk) [.ref D] ((D, o) :: imm) [] (fun _ v mu' => ∃ x, v = .ref x ∧ Made x D mu')
  mono : ∀ x D l l', Made x D l → (∀ p ∈ l, p ∈ l') → Made x D l'
noncomputable def Off (l : Ledger) (as : List Nat) : Prop := ∀ p ∈ l, p.1 ∉ as
theorem Off.ne {l : Ledger} {as : List Nat} {a : Addr} (h : Off l as) (ha : a ∈ as) : ∀ p ∈ l, p.1 ≠ a := fun p hp e => h p hp (by rw [e]; exact ha)
/-- a turn of a loop whose target is anything -/
noncomputable def TurnN (b : Heap) (L I : Addr) (oI : Obj) (src : Ledger) (J : (Str → Option Value) → Ledger → Prop) (s₁ : Shared) (f : Flow) (s₂ : Shared) : Prop :=
  f = .next ∧ ∃ h' tk m' news', s₂ = { s₁ with heap := h', toks := tk } ∧ Fr b L h' m' ∧ News b L h' ((I, oI) :: news') ∧ (∀ p ∈ news', p.1 ≠ I) ∧ AllAt b src news' ∧ J m' news'
section
variable {prog : Program} {w : World} {A : Around} {E : Value → Shared → Prop} {s : Shared} {env : Env} {b : Heap} {x : Str} {px : Pos} {body : List Stmt} {Q : Flow → Shared → Prop}
theorem iter_listT {l : Addr} {vs : List Value} {nl : Nat} {m₀ : Str → Option Value} {news : Ledger} (J : Nat → (Str → Option Value) → Ledger → Prop)
    (hh : A.handled = none) (F : Fr b env.locals s.heap m₀) (N : News b env.locals s.heap news) (hl : b.get? l = some (listOf vs.toArray nl) ∨ (l, listOf vs.toArray nl) ∈ news) (hj : J 0 m₀ news)
    (turn : ∀ i v I oI m₁ news₁ s₁, vs[i]? = some v → J i m₁ news₁ → (∀ p ∈ news₁, p.1 ≠ I) → AllAt b [(l, listOf vs.toArray nl)] news₁ → Fr b env.locals s₁.heap m₁ → News b env.locals s₁.heap ((I, oI) :: news₁) →
      wpAny (model prog w) A (assign (.Name x px) env v) (fun _ s₂ => wpAny (model prog w) A (execs body env) (TurnN b env.locals I oI [(l, listOf vs.toArray nl)] (J (i + 1)) s₁) E s₂) E s₁)
    (done : ∀ m₁ news₁ h tk, J vs.length m₁ news₁ → Fr b env.locals h m₁ → News b env.locals h news₁ → Q .next { s with heap := h, toks := tk }) :
    wpAny (model prog w) A (pyIter (.ref l)) (fun it s₂ => LoopAtT prog w A b env (.Name x px) body Q E it s₂) E s := by
  have hg : s.heap.get? l = some (listOf vs.toArray nl) := hl.elim (F.keep _ _) fun h => (N _ h).1
  have hls : s.heap.IsList l vs.toArray := ⟨_, hg, rfl, _, rfl⟩
  have hlt : l < s.heap.objs.size := Heap.lt_size hg
  refine wpAny_pyIter_list hls ?_
  have W := Walks.list (prog := prog) (w := w) hh s.heap.objs.size l (Nat.ne_of_lt hlt) vs.toArray
  rw [show vs.toArray.size = vs.length by simp] at W
  have hI0 : b.get? s.heap.objs.size = none := next_is_new F
  have hLI : env.locals ≠ s.heap.objs.size := Nat.ne_of_lt F.ns.lt
  have hL0 : b.get? env.locals = none := Heap.get?_none_of_le F.above
  have hlL : l ≠ env.locals := fun e => by
    rcases hl with h | h
    · rw [e, hL0] at h; cases h
    · exact (N _ h).2.1 e
  refine ⟨s.heap.objs.size, _, _, vs.length, _, _, m₀, news, fun i m nw => J i m nw ∧ AllAt b [(l, listOf vs.toArray nl)] nw, rfl, W, ?_, ?_, ?_, ⟨⟨_, Heap.get?_push_size _ rfl, rfl, rfl⟩, hls.push _⟩, F.push _, fun p hp => ⟨Heap.get?_push_of_some _ (N p hp).1, (N p hp).2⟩, ?_, ⟨hj, fun p hp => by rw [List.mem_singleton.mp hp]; exact hl⟩, ?_, ?_⟩
  · intro hm
    rcases List.mem_cons.mp hm with e | hm
    · exact hLI e
    · exact hlL (List.mem_singleton.mp hm).symm
  · intro a ha; rw [List.mem_singleton.mp ha]; exact hI0
  · intro p hp hm; exact Nat.ne_of_lt (Heap.lt_size (N p hp).1) (List.mem_singleton.mp hm)
  · intro i s' v Q' _ hq
    exact wpAny_pure hq
  · rintro i v m₁ news₁ s₁ own hin hP ⟨hJ, hS⟩ hoff hown hget hall hst' F₁ N₁
    obtain ⟨oI, heI, -⟩ := hst'.1
    have hio : (s.heap.objs.size, oI) ∈ own := hall _ (.head _) hI0 oI heI
    have hnI₁ : ∀ p ∈ news₁, p.1 ≠ s.heap.objs.size := fun p hp e => hoff p hp (List.mem_singleton.mpr e)
    have N₂ : News b env.locals s₁.heap ((s.heap.objs.size, oI) :: news₁) := fun p hp => by
      rcases List.mem_cons.mp hp with rfl | hp
      · exact N₁ _ (List.mem_append_left _ hio)
      · exact N₁ _ (List.mem_append_right _ hp)
    refine wpAny_mono (turn i v _ oI m₁ news₁ s₁ (by simpa using hP) hJ hnI₁ hS F₁ N₂) (fun _ s₂ p => wpAny_mono p (fun f s₃ p => ?_) fun _ _ e => e) fun _ _ e => e
    obtain ⟨rfl, h', tk', m', news', e, F', N', hn', hS', hJ'⟩ := p
    refine ⟨rfl, h', tk', m', news', e, F', fun p hp => ?_, fun p hp hm => hn' p hp (List.mem_singleton.mp hm), hJ', hS'⟩
    rcases List.mem_append.mp hp with hp | hp
    · have hg := hget p hp
      rcases List.mem_cons.mp (hown p hp) with e1 | e1
      · have e2 : p = (s.heap.objs.size, oI) := by
          have : some p.2 = some oI := by rw [← hg, e1]; exact heI
          exact Prod.ext e1 (Option.some.inj this)
        rw [e2]; exact N' _ (.head _)
      · have e1 := List.mem_singleton.mp e1
        have hb := (N₁ p (List.mem_append_left _ hp)).2.2
        rcases hS _ (.head _) with e3 | e3
        · rw [← e1, hb] at e3; cases e3
        · have e2 : p = (l, listOf vs.toArray nl) := by
            have h3 := (N₁ _ (List.mem_append_right _ e3)).1
            have : some p.2 = some (listOf vs.toArray nl) := by rw [← hg, e1]; exact h3
            exact Prod.ext e1 (Option.some.inj this)
          rcases hS' _ (.head _) with e4 | e4
          · rw [← e1, hb] at e4; cases e4
          · rw [e2]; exact N' _ (.tail _ e4)
    · exact N' _ (.tail _ hp)
  · rintro h' tk m' news' F' N' hn ⟨hJ, hS⟩
    exact done m' news' h' tk hJ F' N'
end
set_option hygiene false in
local macro_rules | `(tactic| k_all) => `(tactic| exact Off.ne (by with_reducible assumption) (by simp))
set_option hygiene false in
local macro_rules | `(tactic| walk_at "callWith ref") => `(tactic| (k_here; k_dflt (refine callWith_B (by with_reducible assumption) ?_)))
set_option hygiene false in
local macro_rules | `(tactic| walk_at "And") => `(tactic| (k_here; (with_reducible show (∀ a o, Heap.get? _ a = some o → Heap.get? _ a = some o) ∧ wpAny _ _ _ _ _ _); refine ⟨Fr.keep (by k_asm), ?_⟩; try dsimp only [List.nil_append, List.cons_append]))
noncomputable def tupLed (es : Array DictEntry) (ts : List (Nat × Nat)) : Ledger := ts.map fun t => (t.1, { cls := .type "tuple", data := .seq #[((es[t.2]?).map (·.key)).getD .none, ((es[t.2]?).map (·.val)).getD .none] })
structure Parts (es : Array DictEntry) (fk : Nat → Int) (Mk : List Nat → Obj → Prop) (Made : Nat → Nat → Ledger → Prop) (ts : List (Nat × Nat × Obj × Int)) (hm : Int → Int) (more : Ledger) : Prop where
  len : ts.length ≤ 4
  lo : ∀ g, 0 ≤ hm g ∧ hm g < 3
  all : ∀ c, 0 ≤ c → c < 3 → ∃ t ∈ ts, t.2.2.2 = c
  at' : ∀ t ∈ ts, (t.2.1, t.2.2.1) ∈ more ∧ NotSys t.2.1 ∧ Mk ((List.range es.size).filter fun i => decide (hm (fk i) = t.2.2.2)) t.2.2.1 ∧ Made t.1 t.2.1 more
theorem len3 {α : Type} {l : List α} (h : l.length = 3) : ∃ a b c, l = [a, b, c] := by
  match l, h with
  | [a, b, c], _ => exact ⟨a, b, c, rfl⟩
theorem tupLed_snoc {es : Array DictEntry} {ts : List (Nat × Nat)} {T c : Nat} {e : DictEntry} (h : es[c]? = some e) : tupLed es (ts ++ [(T, c)]) = tupLed es ts ++ [(T, { cls := .type "tuple", data := .seq #[e.key, e.val] })] := by
  simp [tupLed, h]
theorem snoc_in {es : Array DictEntry} {ts : List (Nat × Nat)} {T c : Nat} {e : DictEntry} {X more : Ledger} {p : Addr × Obj} (h : es[c]? = some e) (hp : p ∈ X ++ (tupLed es (ts ++ [(T, c)]) ++ more)) :
    p = (T, { cls := .type "tuple", data := .seq #[e.key, e.val] }) ∨ p ∈ X ++ (tupLed es ts ++ more) := by
  rw [tupLed_snoc h] at hp
  simp only [List.mem_append, List.mem_singleton] at hp ⊢
  rcases hp with hp | (hp | hp) | hp
  · exact .inr (.inl hp)
  · exact .inr (.inr (.inl hp))
  · exact .inl hp
  · exact .inr (.inr (.inr hp))
section
variable {prog : Program} {w : World}
theorem parted_c {imm : Ledger} {pen cells held ff mk : Nat} {oC oP : Obj} {B : Int} {es : Array DictEntry} {fk : Nat → Int} {Mk : List Nat → Obj → Prop} {Made : Nat → Nat → Ledger → Prop} (HC : CellsOk oC) (HP : PenOk cells B oP) (hB : B ≤ 8000) (P : PartOk prog w imm held ff mk es fk Mk Made) :
    Calls prog w 8 (.ref 818) [.ref pen, .ref held, .ref mk, .ref ff] ((cells, oC) :: imm) [(pen, oP)] (fun _ v mu' => ∃ (D n : Nat) (oP' : Obj) (ts : List (Nat × Nat × Obj × Int)) (hm : Int → Int) (more : Ledger), v = .ref D ∧ PenOk cells (B + 8) oP' ∧ mu' = (pen, oP') :: (D, listOf (ts.map fun t => Value.ref t.1).toArray n) :: more ∧ @Ne Nat D pen ∧ (∀ p ∈ more, @Ne Nat p.1 pen) ∧ Parts es fk Mk Made ts hm more) := by
  intro dp un fr gds s b R hdp hun S G H0 N k
  obtain ⟨X, p, loose, mean, mg, mb, T⟩ := G
  have hc := H0.c.1
  have HI := H0.c.2
  obtain ⟨oH, ep, hHm, loH, heH, hdH⟩ := P.ex
  have hH := HI _ hHm
  have hsz := P.size
  have hkF := P.keepF b ⟨X, p, loose, mean, mg, mb, T⟩ HI
  have hkM := P.keepM b ⟨X, p, loose, mean, mg, mb, T⟩ HI
  refine' enterC [("pen", .ref pen), ("held", .ref held), ("make", .ref mk), ("first", .ref ff)] S N X T ?k6 ?k7 ?k8 ?k9 ?kB ?kD ?_ ?c2 ?c3 ?c4
  one_sign
  rename_i L0 h0 tk0 hL0 F0 l0 o1 o2 o3 o4 o5 d1 d2 d3 d4 d5 N0
  k_lt l0
  replace F0 : Fr b L0 h0 (fun y => if y = Str.ofString "make" then some (Value.ref mk) else none) := F0
  replace d1 : o1.data = .cell none := d1
  replace d2 : o2.data = .cell none := d2
  replace d3 : o3.data = .cell (some (.ref ff)) := d3
  replace d4 : o4.data = .cell (some (.ref held)) := d4
  replace d5 : o5.data = .cell (some (.ref pen)) := d5
  repeat' (first | (k_unfold; (try dsimp only)) | ((fail_if_success (first | (with_reducible show LCg.CompEnd _ _ _ _ _ _ _ _ _ _ _ _ _ _) | (with_reducible show LCg.CompSrc _ _ _ _ _ _ _ _ _ _ _ _ _ _) | (with_reducible show wpAny _ _ (call (Value.type "dict") _) _ _ _) | (with_reducible show wpAny _ _ (call (Value.ref _) _) _ _ _) | (with_reducible show wpAny _ _ (exec (Stmt.For _ _ _ _ _) _) _ _ _) | (with_reducible show wpAny _ _ (exec (Stmt.Assign [_] (Expr.ListComp _ _ _ _) _) _) _ _ _) | (with_reducible show wpAny _ _ (eval (Expr.ListComp _ _ _ _) _) _ _ _))); first | walk1 | (dsimp only; walk1)))
  refine wpAny_Assign_Name ?_ (by with_unfolding_all rfl)
  refine LCg.ListComp_U (F₀ := by k_asm) (by with_unfolding_all rfl) (by decide) (by rfl) (by decide) (by rfl) ?_
  repeat' (first | (k_unfold; (try dsimp only)) | ((fail_if_success (first | (with_reducible show LCg.CompEnd _ _ _ _ _ _ _ _ _ _ _ _ _ _) | (with_reducible show LCg.CompSrc _ _ _ _ _ _ _ _ _ _ _ _ _ _) | (with_reducible show wpAny _ _ (call (Value.type "dict") _) _ _ _) | (with_reducible show wpAny _ _ (call (Value.ref _) _) _ _ _) | (with_reducible show wpAny _ _ (exec (Stmt.For _ _ _ _ _) _) _ _ _) | (with_reducible show wpAny _ _ (exec (Stmt.Assign [_] (Expr.ListComp _ _ _ _) _) _) _ _ _) | (with_reducible show wpAny _ _ (eval (Expr.ListComp _ _ _ _) _) _ _ _))); first | walk1 | (dsimp only; walk1)))
  refine LCg.CompSrc.range (by rfl) (by k_asm) (by k_asm) (by assumption) (by decide) (by rfl) (by simp [sizeLine_eq]) ?_
  intro g
  refine comp_invG (fun c ys nw => ∃ (oP' : Obj) (ns : List Int), PenOk cells (B + c) oP' ∧ nw = [(L0 + 1 + 1 + 1 + 1 + 1, o1), (L0 + 1 + 1 + 1 + 1, o2), (L0 + 1 + 1 + 1, o3), (L0 + 1 + 1, o4), (L0 + 1, o5), (pen, oP')] ∧ IntsAre ys ns ∧ ns.length = c ∧ ∀ n ∈ ns, 0 ≤ n ∧ n < 3) ⟨oP, [], HP.mono (by exact Int.le_of_eq (Int.add_zero _).symm), rfl, .nil, rfl, fun _ h => nomatch h⟩ ?_ ?_
  · rintro c v I oI C oC' D2 m2 h tk E' hc6 ⟨tv, rfl⟩ Jq Gq hGq ys nw ⟨oP1, ns, HP1, rfl, hys, hlen, hall⟩
    refine hGq _ _ ?_
    clear hGq Gq
    rintro hC hx F2 N2 off ne hJq
    have hc6 : c < 6 := hc6
    have off2 := off
    simp only [LCg.Off3, and_true] at off2
    repeat' (first | (k_unfold; (try dsimp only)) | ((fail_if_success (first | (with_reducible show LCg.CompEnd _ _ _ _ _ _ _ _ _ _ _ _ _ _) | (with_reducible show LCg.CompSrc _ _ _ _ _ _ _ _ _ _ _ _ _ _) | (with_reducible show wpAny _ _ (call (Value.type "dict") _) _ _ _) | (with_reducible show wpAny _ _ (call (Value.ref _) _) _ _ _) | (with_reducible show wpAny _ _ (exec (Stmt.For _ _ _ _ _) _) _ _ _) | (with_reducible show wpAny _ _ (exec (Stmt.Assign [_] (Expr.ListComp _ _ _ _) _) _) _ _ _) | (with_reducible show wpAny _ _ (eval (Expr.ListComp _ _ _ _) _) _ _ _))); first | walk1 | (dsimp only; walk1)))
    refine' useU (draw_p HC HP1 (by exact Int.le_trans (Int.add_le_add hB (Int.ofNat_le.mpr (Nat.le_of_lt hc6))) (by decide)) (by decide)) ?hdp ?hun ?F ?N ?X ?T ?U ?hi ?_
    (( (case hdp | hun => kwd_inv); (case F | N | X | T => k_asm)); (case U => k_updF); (case hi => repeat (first | exact List.forall_mem_nil _ | (refine List.forall_mem_cons.mpr ⟨?_, ?_⟩; first | exact Or.inr (by assumption) | exact Or.inl ⟨by k_mem, by k_ne⟩))))
    rintro Gq hGq n1 _ h1 tk1 _ ⟨d, t', oP2, rfl, hd0, hd1, HP2, rfl⟩
    refine hGq _ _ _ _ _ ?_
    clear hGq Gq
    rintro F3 N3 -
    replace N3 := N3 oP2 [] (fun _ h => h)
    dsimp only [List.nil_append] at N3
    repeat' (first | (k_unfold; (try dsimp only)) | ((fail_if_success (first | (with_reducible show LCg.CompEnd _ _ _ _ _ _ _ _ _ _ _ _ _ _) | (with_reducible show LCg.CompSrc _ _ _ _ _ _ _ _ _ _ _ _ _ _) | (with_reducible show wpAny _ _ (call (Value.type "dict") _) _ _ _) | (with_reducible show wpAny _ _ (call (Value.ref _) _) _ _ _) | (with_reducible show wpAny _ _ (exec (Stmt.For _ _ _ _ _) _) _ _ _) | (with_reducible show wpAny _ _ (exec (Stmt.Assign [_] (Expr.ListComp _ _ _ _) _) _) _ _ _) | (with_reducible show wpAny _ _ (eval (Expr.ListComp _ _ _ _) _) _ _ _))); first | walk1 | (dsimp only; walk1)))
    refine LCg.CompEnd.intro F3 N3 _ (fun p hp => hp) ?_ trivial (hJq _ _ ⟨oP2, ns ++ [d], HP2.mono (by exact o_step), rfl, hys.append (.cons _ _ .nil), by simp [hlen], fun n hn => ?_⟩)
    · simp only [LCg.Off3, and_true]; exact off2
    · rcases List.mem_append.mp hn with hn | hn
      · exact hall n hn
      · rw [List.mem_singleton.mp hn]; exact ⟨hd0, hd1⟩
  · rintro Gq hGq ys0 nw ⟨oP1, ns, HP1, rfl, hys, hlen, hall⟩
    refine hGq _ _ ?_
    clear hGq Gq
    have hlen : ns.length = 6 := hlen
    replace HP1 : PenOk cells (B + 6) oP1 := HP1
    unfold LCg.FinE
    intro D2 h2 tk2 F2 N2 off
    simp only [LCg.Off1, and_true] at off
    obtain ⟨of1, of2, of3, of4, of5, of6⟩ := off
    repeat' (first | (k_unfold; (try dsimp only)) | ((fail_if_success (first | (with_reducible show LCg.CompEnd _ _ _ _ _ _ _ _ _ _ _ _ _ _) | (with_reducible show LCg.CompSrc _ _ _ _ _ _ _ _ _ _ _ _ _ _) | (with_reducible show wpAny _ _ (call (Value.type "dict") _) _ _ _) | (with_reducible show wpAny _ _ (call (Value.ref _) _) _ _ _) | (with_reducible show wpAny _ _ (exec (Stmt.For _ _ _ _ _) _) _ _ _) | (with_reducible show wpAny _ _ (exec (Stmt.Assign [_] (Expr.ListComp _ _ _ _) _) _) _ _ _) | (with_reducible show wpAny _ _ (eval (Expr.ListComp _ _ _ _) _) _ _ _))); first | walk1 | (dsimp only; walk1)))
    rename_i h3 oHs dHs tk3 fnd h4 lf h5 F5 N5
    refine For_invT b ?_ (by intro _; rfl)
    repeat' (first | (k_unfold; (try dsimp only)) | ((fail_if_success (first | (with_reducible show LCg.CompEnd _ _ _ _ _ _ _ _ _ _ _ _ _ _) | (with_reducible show LCg.CompSrc _ _ _ _ _ _ _ _ _ _ _ _ _ _) | (with_reducible show wpAny _ _ (call (Value.type "dict") _) _ _ _) | (with_reducible show wpAny _ _ (call (Value.ref _) _) _ _ _) | (with_reducible show wpAny _ _ (exec (Stmt.For _ _ _ _ _) _) _ _ _) | (with_reducible show wpAny _ _ (exec (Stmt.Assign [_] (Expr.ListComp _ _ _ _) _) _) _ _ _) | (with_reducible show wpAny _ _ (eval (Expr.ListComp _ _ _ _) _) _ _ _))); first | walk1 | (dsimp only; walk1)))
    refine' useU (pick_p HC HP1 (by exact o_cap1 hB rfl) ?hl) ?hdp ?hun ?F ?N ?X ?T ?U ?hi ?_
    (( (case hdp | hun => kwd_inv); (case F | N | X | T => k_asm)); (case U => k_updF); (case hi => repeat (first | exact List.forall_mem_nil _ | (refine List.forall_mem_cons.mpr ⟨?_, ?_⟩; first | exact Or.inr (by assumption) | exact Or.inl ⟨by k_mem, by k_ne⟩))))
    (case hl => exact ⟨Nat.le_of_ble_eq_true rfl, Nat.le_of_ble_eq_true rfl⟩)
    rintro Gq hGq n6 v6 h6 tk6 _ ⟨j6, oP2, hv6, HP2, rfl⟩
    refine hGq _ _ _ _ _ ?_
    clear hGq Gq
    rintro F6 N6 -
    replace N6 := N6 oP2 [] (fun _ h => h)
    dsimp only [List.nil_append] at N6
    obtain ⟨lj, a1, a2, a3, t1, t2, t3, nl, rfl, hmem, hperm, hgt⟩ : ∃ (lj : Nat) (a1 a2 a3 : Int) (t1 t2 t3 : Tok) (nl : Nat), v6 = .ref lj ∧ News b L0 h6 [(lj, listOf [Value.int a1 t1, Value.int a2 t2, Value.int a3 t3].toArray nl), (fnd, listOf #[] 0), (D2, LCg.lst ys0), (L0 + 1 + 1 + 1 + 1 + 1, o1), (L0 + 1 + 1 + 1 + 1, oHs), (L0 + 1 + 1 + 1, o3), (L0 + 1 + 1, o4), (L0 + 1, o5), (pen, oP2)] ∧
        Perm3 a1 a2 a3 ∧ @LT.lt Nat _ fnd lj := by
      have pick : ∀ {l : Ledger}, (∀ p ∈ l, p ∈ _) → News b L0 h6 l := fun hs p hp => N6 p (hs p hp)
      rcases j6 with _ | _ | _ | _ | j6
      · refine ⟨_, 0, 1, 2, ?_, ?_, ?_, ?_, (Option.some.inj hv6).symm, pick ?_, by unfold Perm3; decide, by exact And.left (by assumption)⟩
        rotate_left 4
        repeat (first | exact List.forall_mem_nil _ | refine List.forall_mem_cons.mpr ⟨by k_mem, ?_⟩)
      · refine ⟨_, 2, 0, 1, ?_, ?_, ?_, ?_, (Option.some.inj hv6).symm, pick ?_, by unfold Perm3; decide, by exact And.left (And.right (by assumption))⟩
        rotate_left 4
        repeat (first | exact List.forall_mem_nil _ | refine List.forall_mem_cons.mpr ⟨by k_mem, ?_⟩)
      · refine ⟨_, 1, 2, 0, ?_, ?_, ?_, ?_, (Option.some.inj hv6).symm, pick ?_, by unfold Perm3; decide, by exact And.left (And.right (And.right (by assumption)))⟩
        rotate_left 4
        repeat (first | exact List.forall_mem_nil _ | refine List.forall_mem_cons.mpr ⟨by k_mem, ?_⟩)
      · refine ⟨_, 2, 1, 0, ?_, ?_, ?_, ?_, (Option.some.inj hv6).symm, pick ?_, by unfold Perm3; decide, by exact And.left (And.right (And.right (And.right (by assumption))))⟩
        rotate_left 4
        repeat (first | exact List.forall_mem_nil _ | refine List.forall_mem_cons.mpr ⟨by k_mem, ?_⟩)
      · simp at hv6
    clear N6 hv6
    refine iter_listT (vs := [Value.int a1 t1, Value.int a2 t2, Value.int a3 t3]) (fun i m nw => m = (fun y => if y = Str.ofString "found" then some (Value.ref fnd) else if y = Str.ofString "make" then some (Value.ref mk) else none) ∧ ∃ (oh : Obj) (vh : Option Value) (ts : List (Nat × Nat × Obj × Int)) (nf : Nat) (more : Ledger),
      nw = (lj, listOf [Value.int a1 t1, Value.int a2 t2, Value.int a3 t3].toArray nl) :: (fnd, listOf (ts.map fun t => Value.ref t.1).toArray nf) :: (D2, LCg.lst ys0) :: (L0 + 1 + 1 + 1 + 1 + 1, oh) :: (L0 + 1 + 1 + 1 + 1, oHs) :: (L0 + 1 + 1 + 1, o3) :: (L0 + 1 + 1, o4) :: (L0 + 1, o5) :: (pen, oP2) :: more ∧
      oh.data = .cell vh ∧ Off more [lj, fnd, D2, L0 + 1 + 1 + 1 + 1 + 1, L0 + 1 + 1 + 1 + 1, L0 + 1 + 1 + 1, L0 + 1 + 1, L0 + 1, pen] ∧ ts.map (fun t => t.2.2.2) = [a1, a2, a3].take i ∧
      ∀ t ∈ ts, (t.2.1, t.2.2.1) ∈ more ∧ NotSys t.2.1 ∧ Mk ((List.range es.size).filter fun i => decide (ns.getD (fk i).toNat 0 = t.2.2.2)) t.2.2.1 ∧ Made t.1 t.2.1 more)
      rfl (by k_asm) hmem (.inr (.head _)) ⟨rfl, o1, _, [], 0, [], rfl, d1, (fun _ hp => nomatch hp), rfl, (fun _ ht => nomatch ht)⟩ ?_ ?_
    · rintro i v I oI m7 nw7 ⟨h7, g7, dr7, tk7, os7⟩ hv7 ⟨rfl, oh, vh, ts, nf, more, rfl, doh, hoff, hts, hall7⟩ hnI hAll F7 N7
      have hnI1 : @Ne Nat lj I := hnI _ (.head _)
      have hnI2 : @Ne Nat fnd I := hnI _ (.tail _ (.head _))
      have hnI3 : @Ne Nat D2 I := hnI _ (.tail _ (.tail _ (.head _)))
      have hnI4 : @Ne Nat (L0 + 1 + 1 + 1 + 1 + 1) I := hnI _ (.tail _ (.tail _ (.tail _ (.head _))))
      have hnI5 : @Ne Nat (L0 + 1 + 1 + 1 + 1) I := hnI _ (.tail _ (.tail _ (.tail _ (.tail _ (.head _)))))
      have hnI6 : @Ne Nat (L0 + 1 + 1 + 1) I := hnI _ (.tail _ (.tail _ (.tail _ (.tail _ (.tail _ (.head _))))))
      have hnI7 : @Ne Nat (L0 + 1 + 1) I := hnI _ (.tail _ (.tail _ (.tail _ (.tail _ (.tail _ (.tail _ (.head _)))))))
      have hnI8 : @Ne Nat (L0 + 1) I := hnI _ (.tail _ (.tail _ (.tail _ (.tail _ (.tail _ (.tail _ (.tail _ (.head _))))))))
      have hnI9 : @Ne Nat pen I := hnI _ (.tail _ (.tail _ (.tail _ (.tail _ (.tail _ (.tail _ (.tail _ (.tail _ (.head _)))))))))
      replace F7 : Fr b L0 h7 _ := F7
      replace N7 : News b L0 h7 _ := N7
      obtain ⟨a, ta, rfl, ha⟩ : ∃ (a : Int) (ta : Tok), v = .int a ta ∧ [a1, a2, a3][i]? = some a := by
        rcases i with _ | _ | _ | i
        · exact ⟨a1, t1, (Option.some.inj hv7).symm, rfl⟩
        · exact ⟨a2, t2, (Option.some.inj hv7).symm, rfl⟩
        · exact ⟨a3, t3, (Option.some.inj hv7).symm, rfl⟩
        · simp at hv7
      repeat' (first | (k_unfold; (try dsimp only)) | ((fail_if_success (first | (with_reducible show LCg.CompEnd _ _ _ _ _ _ _ _ _ _ _ _ _ _) | (with_reducible show LCg.CompSrc _ _ _ _ _ _ _ _ _ _ _ _ _ _) | (with_reducible show wpAny _ _ (call (Value.type "dict") _) _ _ _) | (with_reducible show wpAny _ _ (call (Value.ref _) _) _ _ _) | (with_reducible show wpAny _ _ (exec (Stmt.For _ _ _ _ _) _) _ _ _) | (with_reducible show wpAny _ _ (exec (Stmt.Assign [_] (Expr.ListComp _ _ _ _) _) _) _ _ _) | (with_reducible show wpAny _ _ (eval (Expr.ListComp _ _ _ _) _) _ _ _))); first | walk1 | (dsimp only; walk1)))
      rename_i h8 oh8 F8 N8 doh8
      refine RawD.ListComp_DT (F₀ := by k_asm) (by with_unfolding_all rfl) (by decide) (by rfl) (by decide) (by rfl) ?_
      repeat' (first | (k_unfold; (try dsimp only)) | ((fail_if_success (first | (with_reducible show LCg.CompEnd _ _ _ _ _ _ _ _ _ _ _ _ _ _) | (with_reducible show LCg.CompSrc _ _ _ _ _ _ _ _ _ _ _ _ _ _) | (with_reducible show wpAny _ _ (call (Value.type "dict") _) _ _ _) | (with_reducible show wpAny _ _ (call (Value.ref _) _) _ _ _) | (with_reducible show wpAny _ _ (exec (Stmt.For _ _ _ _ _) _) _ _ _) | (with_reducible show wpAny _ _ (exec (Stmt.Assign [_] (Expr.ListComp _ _ _ _) _) _) _ _ _) | (with_reducible show wpAny _ _ (eval (Expr.ListComp _ _ _ _) _) _ _ _))); first | walk1 | (dsimp only; walk1)))
      refine ⟨held, es, ep, _, rfl, rfl, by assumption, N8, ⟨oH, hH, heH, hdH⟩, loH, by exact o_le hsz rfl, fun g => ?_⟩
      refine comp_invTG (fun c ys nw => ∃ tups : List (Nat × Nat), nw = (I, oI) :: (lj, listOf [Value.int a1 t1, Value.int a2 t2, Value.int a3 t3].toArray nl) :: (fnd, listOf (ts.map fun t => Value.ref t.1).toArray nf) :: (D2, LCg.lst ys0) :: (L0 + 1 + 1 + 1 + 1 + 1, oh8) :: (L0 + 1 + 1 + 1 + 1, oHs) :: (L0 + 1 + 1 + 1, o3) :: (L0 + 1 + 1, o4) :: (L0 + 1, o5) :: (pen, oP2) :: (tupLed es tups ++ more) ∧
        ys = tups.map (fun t => Value.ref t.1) ∧ tups.map (·.2) = (List.range c).filter fun i => decide (ns.getD (fk i).toNat 0 = a)) ⟨[], rfl, rfl, rfl⟩ ?_ ?_
      · rintro c vv I9 oI9 C9 oC9 D9 m9 h9 tk9 E9 hc9 hvv Jq Gq hGq ys nw ⟨tups, rfl, rfl, htups⟩
        refine hGq _ _ ?_
        clear hGq Gq
        rintro hC9 hx9 F9 N9 off9 ne9 hJq
        obtain ⟨e, hec⟩ : ∃ e, es[c]? = some e := ⟨es[c]'hc9, Array.getElem?_eq_getElem _⟩
        obtain rfl : vv = e.key := by
          rw [hec] at hvv
          exact (Option.some.inj hvv).symm
        repeat' (first | (k_unfold; (try dsimp only)) | ((fail_if_success (first | (with_reducible show LCg.CompEnd _ _ _ _ _ _ _ _ _ _ _ _ _ _) | (with_reducible show LCg.CompSrc _ _ _ _ _ _ _ _ _ _ _ _ _ _) | (with_reducible show wpAny _ _ (call (Value.type "dict") _) _ _ _) | (with_reducible show wpAny _ _ (call (Value.ref _) _) _ _ _) | (with_reducible show wpAny _ _ (exec (Stmt.For _ _ _ _ _) _) _ _ _) | (with_reducible show wpAny _ _ (exec (Stmt.Assign [_] (Expr.ListComp _ _ _ _) _) _) _ _ _) | (with_reducible show wpAny _ _ (eval (Expr.ListComp _ _ _ _) _) _ _ _))); first | walk1 | (dsimp only; walk1)))
        refine' use0 (P.first c e hec) ?hdp ?hun ?F ?N ?X ?T ?hi ?_
        ( (case hdp | hun => kwd_inv); (case F | N | X | T => k_asm))
        (case hi => exact fun p hp => Or.inr (HI p hp))
        rintro Gq hGq n10 _ h10 tk10 _ ⟨⟨tf, rfl⟩, rfl⟩
        refine hGq _ _ _ _ _ ?_
        clear hGq Gq
        rintro - - F10 N10
        dsimp only [List.nil_append] at N10
        have hfk := P.fk6 c hc9
        obtain ⟨th, hth⟩ := PyProof.Rows.IntsAre.int_at hys (fk c).toNat _ (List.getElem?_eq_getElem (by rw [hys.length, hlen]; exact o_tn hfk.1 hfk.2))
        have hxh := (List.getElem?_eq_getElem (l := ys0) (i := (fk c).toNat) (by rw [hys.length, hlen]; exact o_tn hfk.1 hfk.2)).trans (congrArg some hth)
        refine item_row (News.get (by k_asm) (by k_mem)) (by exact hfk.1) (by exact o_ilt hfk.2 (by decide)) hxh ?_
        repeat' (first | (k_unfold; (try dsimp only)) | ((fail_if_success (first | (with_reducible show LCg.CompEnd _ _ _ _ _ _ _ _ _ _ _ _ _ _) | (with_reducible show LCg.CompSrc _ _ _ _ _ _ _ _ _ _ _ _ _ _) | (with_reducible show wpAny _ _ (call (Value.type "dict") _) _ _ _) | (with_reducible show wpAny _ _ (call (Value.ref _) _) _ _ _) | (with_reducible show wpAny _ _ (exec (Stmt.For _ _ _ _ _) _) _ _ _) | (with_reducible show wpAny _ _ (exec (Stmt.Assign [_] (Expr.ListComp _ _ _ _) _) _) _ _ _) | (with_reducible show wpAny _ _ (eval (Expr.ListComp _ _ _ _) _) _ _ _))); first | walk1 | (dsimp only; walk1)))
        · have heq := (by assumption : ns.getD (fk c).toNat 0 = a)
          refine tail_any (T := "dict") ⟨oH, Fr.keep (by k_asm) _ _ hH, heH.1⟩ slot_dict_getitem.lookup (P.get c e hec _ _ _ _ (by kwd_inv) (fun p hp => Fr.keep (by k_asm) _ _ (HI p hp)) fun tkg => ?_) rfl
          repeat' (first | (k_unfold; (try dsimp only)) | ((fail_if_success (first | (with_reducible show LCg.CompEnd _ _ _ _ _ _ _ _ _ _ _ _ _ _) | (with_reducible show LCg.CompSrc _ _ _ _ _ _ _ _ _ _ _ _ _ _) | (with_reducible show wpAny _ _ (call (Value.type "dict") _) _ _ _) | (with_reducible show wpAny _ _ (call (Value.ref _) _) _ _ _) | (with_reducible show wpAny _ _ (exec (Stmt.For _ _ _ _ _) _) _ _ _) | (with_reducible show wpAny _ _ (exec (Stmt.Assign [_] (Expr.ListComp _ _ _ _) _) _) _ _ _) | (with_reducible show wpAny _ _ (eval (Expr.ListComp _ _ _ _) _) _ _ _))); first | walk1 | (dsimp only; walk1)))
          rename_i T9 h11 F11 N11 l11
          have hs := fun p hp => snoc_in (p := p) (T := T9) (ts := tups) (more := more) (X := [(I, oI), (lj, listOf [Value.int a1 t1, Value.int a2 t2, Value.int a3 t3].toArray nl), (fnd, listOf (ts.map fun t => Value.ref t.1).toArray nf), (D2, LCg.lst ys0), (L0 + 1 + 1 + 1 + 1 + 1, oh8), (L0 + 1 + 1 + 1 + 1, oHs), (L0 + 1 + 1 + 1, o3), (L0 + 1 + 1, o4), (L0 + 1, o5), (pen, oP2)]) hec hp
          refine LCg.CompEnd.intro F11 N11 ([(I, oI), (lj, listOf [Value.int a1 t1, Value.int a2 t2, Value.int a3 t3].toArray nl), (fnd, listOf (ts.map fun t => Value.ref t.1).toArray nf), (D2, LCg.lst ys0), (L0 + 1 + 1 + 1 + 1 + 1, oh8), (L0 + 1 + 1 + 1 + 1, oHs), (L0 + 1 + 1 + 1, o3), (L0 + 1 + 1, o4), (L0 + 1, o5), (pen, oP2)] ++ (tupLed es (tups ++ [(T9, c)]) ++ more)) (fun p hp => ?_) (LCg.Off3.of fun p hp => ?_) trivial (hJq _ _ ⟨tups ++ [(T9, c)], rfl, by simp, ?_⟩)
          · rcases List.mem_cons.mp hp with h | hp
            · exact h ▸ .tail _ (.head _)
            rcases List.mem_cons.mp hp with h | hp
            · exact h ▸ .tail _ (.tail _ (.head _))
            rcases List.mem_cons.mp hp with h | hp
            · exact h ▸ .tail _ (.tail _ (.tail _ (.head _)))
            rcases hs p hp with h | h
            · exact h ▸ .head _
            · exact .tail _ (.tail _ (.tail _ (.tail _ h)))
          · rcases hs p hp with h | h
            · rw [h]; exact ⟨Nat.ne_of_gt l11.1, Nat.ne_of_gt l11.2.1, Nat.ne_of_gt l11.2.2.1⟩
            · exact off9.mem p h
          · rw [List.range_succ, List.filter_append, ← htups]
            simp only [List.map_append, List.map_cons, List.map_nil, List.filter_cons, decide_eq_true heq, if_true, List.filter_nil]
        · refine LCg.CompEnd.intro F10 N10 _ (fun p hp => hp) off9 trivial (hJq _ _ ⟨tups, rfl, rfl, ?_⟩)
          have hne := (by assumption : ns.getD (fk c).toNat 0 ≠ a)
          rw [List.range_succ, List.filter_append, ← htups]
          simp only [List.filter_cons, decide_eq_false hne, Bool.false_eq_true, if_false, List.filter_nil, List.append_nil]
      · rintro Gq hGq ys nw ⟨tups, rfl, rfl, htups⟩
        refine hGq _ _ ?_
        clear hGq Gq
        unfold LCg.FinE
        intro D9 h9 tk9 F9 N9 off9
        repeat' (first | (k_unfold; (try dsimp only)) | ((fail_if_success (first | (with_reducible show LCg.CompEnd _ _ _ _ _ _ _ _ _ _ _ _ _ _) | (with_reducible show LCg.CompSrc _ _ _ _ _ _ _ _ _ _ _ _ _ _) | (with_reducible show wpAny _ _ (call (Value.type "dict") _) _ _ _) | (with_reducible show wpAny _ _ (call (Value.ref _) _) _ _ _) | (with_reducible show wpAny _ _ (exec (Stmt.For _ _ _ _ _) _) _ _ _) | (with_reducible show wpAny _ _ (exec (Stmt.Assign [_] (Expr.ListComp _ _ _ _) _) _) _ _ _) | (with_reducible show wpAny _ _ (eval (Expr.ListComp _ _ _ _) _) _ _ _))); first | walk1 | (dsimp only; walk1)))
        have hidx : tups.map (·.2) = (List.range es.size).filter fun i => decide (ns.getD (fk i).toNat 0 = a) := htups
        have hidxN : (tups.map (·.2)).Nodup := by rw [hidx]; exact List.nodup_range.filter _
        have hidxL : ∀ i ∈ tups.map (·.2), i < es.size := fun i hi => by
          rw [hidx] at hi
          exact List.mem_range.mp (List.mem_filter.mp hi).1
        have hidxC : (tups.map (·.2)).length ≤ 100 := by
          rw [hidx]
          exact Nat.le_trans (List.length_filter_le _ _) (by rw [List.length_range]; exact hsz)
        refine P.dict (tups.map (·.2)) _ _ _ _ _ _ _ _ D9 _ (tups.map fun t => Value.ref t.1) rfl (by kwd_inv) F9 N9 (modules_low T.nolimit) (fun p hp => F9.keep _ _ (HI p hp)) (N9 _ (.head _)).1 hidxN hidxL hidxC (by simp) (fun j v i e hv hi he => ?_) ?_
        · rw [List.getElem?_map] at hv hi
          obtain ⟨t, ht, rfl⟩ := Option.map_eq_some_iff.mp hv
          rw [ht] at hi
          obtain rfl := Option.some.inj hi
          refine ⟨t.1, 0, rfl, (N9 (t.1, _) ?_).1⟩
          have hm : (t.1, ({ cls := .type "tuple", data := .seq #[e.key, e.val] } : Obj)) ∈ tupLed es tups := List.mem_map.mpr ⟨t, List.mem_of_getElem? ht, by simp [he]⟩
          exact .tail _ (.tail _ (.tail _ (.tail _ (.tail _ (.tail _ (.tail _ (.tail _ (.tail _ (.tail _ (.tail _ (List.mem_append_left _ hm)))))))))))
        intro d od h12 tk12 F12 N12 lod hMk l12
        repeat' (first | (k_unfold; (try dsimp only)) | ((fail_if_success (first | (with_reducible show LCg.CompEnd _ _ _ _ _ _ _ _ _ _ _ _ _ _) | (with_reducible show LCg.CompSrc _ _ _ _ _ _ _ _ _ _ _ _ _ _) | (with_reducible show wpAny _ _ (call (Value.type "dict") _) _ _ _) | (with_reducible show wpAny _ _ (call (Value.ref _) _) _ _ _) | (with_reducible show wpAny _ _ (exec (Stmt.For _ _ _ _ _) _) _ _ _) | (with_reducible show wpAny _ _ (exec (Stmt.Assign [_] (Expr.ListComp _ _ _ _) _) _) _ _ _) | (with_reducible show wpAny _ _ (eval (Expr.ListComp _ _ _ _) _) _ _ _))); first | walk1 | (dsimp only; walk1)))
        refine' use0N (P.make _ d od hMk lod hidxN hidxL hidxC) ?hdp ?hun ?F ?N ?X ?T ?hi ?_
        ( (case hdp | hun => kwd_inv); (case F | N | X | T => k_asm))
        (case hi => exact fun p hp => (List.mem_cons.mp hp).elim (fun h => Or.inl (h ▸ .head _)) fun h => Or.inr (HI p h))
        rintro Gq hGq n13 _ h13 tk13 made ⟨x, rfl, hMade⟩
        refine hGq _ _ _ _ _ ?_
        clear hGq Gq
        rintro hnew F13 N13
        have N14 : News b L0 h13 ([(I, oI), (lj, listOf [Value.int a1 t1, Value.int a2 t2, Value.int a3 t3].toArray nl), (fnd, listOf (ts.map fun t => Value.ref t.1).toArray nf), (D2, LCg.lst ys0), (L0 + 1 + 1 + 1 + 1 + 1, oh8), (L0 + 1 + 1 + 1 + 1, oHs), (L0 + 1 + 1 + 1, o3), (L0 + 1 + 1, o4), (L0 + 1, o5), (pen, oP2)] ++ (made ++ (d, od) :: more)) := fun p hp => by
          rcases List.mem_append.mp hp with hp | hp
          · exact N13 p (List.mem_append_right _ (.tail _ (.tail _ (List.mem_append_left (as := [(I, oI), (lj, listOf [Value.int a1 t1, Value.int a2 t2, Value.int a3 t3].toArray nl), (fnd, listOf (ts.map fun t => Value.ref t.1).toArray nf), (D2, LCg.lst ys0), (L0 + 1 + 1 + 1 + 1 + 1, oh8), (L0 + 1 + 1 + 1 + 1, oHs), (L0 + 1 + 1 + 1, o3), (L0 + 1 + 1, o4), (L0 + 1, o5), (pen, oP2)]) _ hp))))
          rcases List.mem_append.mp hp with hp | hp
          · exact N13 p (List.mem_append_left _ hp)
          rcases List.mem_cons.mp hp with h | hp
          · exact N13 p (List.mem_append_right _ (h ▸ .head _))
          · exact N13 p (List.mem_append_right _ (.tail _ (.tail _ (List.mem_append_right [(I, oI), (lj, listOf [Value.int a1 t1, Value.int a2 t2, Value.int a3 t3].toArray nl), (fnd, listOf (ts.map fun t => Value.ref t.1).toArray nf), (D2, LCg.lst ys0), (L0 + 1 + 1 + 1 + 1 + 1, oh8), (L0 + 1 + 1 + 1 + 1, oHs), (L0 + 1 + 1 + 1, o3), (L0 + 1 + 1, o4), (L0 + 1, o5), (pen, oP2)] (List.mem_append_right _ hp)))))
        clear N13 N12 N9
        dsimp only [List.cons_append, List.nil_append] at N14
        have hoff' : Off (made ++ (d, od) :: more) [lj, fnd, D2, L0 + 1 + 1 + 1 + 1 + 1, L0 + 1 + 1 + 1 + 1, L0 + 1 + 1 + 1, L0 + 1 + 1, L0 + 1, pen] := fun p hp hm => by
          simp only [List.mem_cons, List.not_mem_nil, or_false] at hm
          rcases List.mem_append.mp hp with hp | hp
          · rcases hm with h | h | h | h | h | h | h | h | h
            · exact hnew p hp (lj, _) (by k_mem) h
            · exact hnew p hp (fnd, _) (by k_mem) h
            · exact hnew p hp (D2, _) (by k_mem) h
            · exact hnew p hp (L0 + 1 + 1 + 1 + 1 + 1, _) (by k_mem) h
            · exact hnew p hp (L0 + 1 + 1 + 1 + 1, _) (by k_mem) h
            · exact hnew p hp (L0 + 1 + 1 + 1, _) (by k_mem) h
            · exact hnew p hp (L0 + 1 + 1, _) (by k_mem) h
            · exact hnew p hp (L0 + 1, _) (by k_mem) h
            · exact hnew p hp (pen, _) (by k_mem) h
          rcases List.mem_cons.mp hp with h' | hp
          · subst h'
            rcases hm with h | h | h | h | h | h | h | h | h
            · exact Nat.ne_of_gt (l12 (lj, _) (by k_mem)) h
            · exact Nat.ne_of_gt (l12 (fnd, _) (by k_mem)) h
            · exact Nat.ne_of_gt (l12 (D2, _) (by k_mem)) h
            · exact Nat.ne_of_gt (l12 (L0 + 1 + 1 + 1 + 1 + 1, _) (by k_mem)) h
            · exact Nat.ne_of_gt (l12 (L0 + 1 + 1 + 1 + 1, _) (by k_mem)) h
            · exact Nat.ne_of_gt (l12 (L0 + 1 + 1 + 1, _) (by k_mem)) h
            · exact Nat.ne_of_gt (l12 (L0 + 1 + 1, _) (by k_mem)) h
            · exact Nat.ne_of_gt (l12 (L0 + 1, _) (by k_mem)) h
            · exact Nat.ne_of_gt (l12 (pen, _) (by k_mem)) h
          · exact hoff p hp (by simpa only [List.mem_cons, List.not_mem_nil, or_false] using hm)
        have hts3 : ts.length ≤ 3 := by
          have := congrArg List.length hts
          rw [List.length_map, List.length_take] at this
          simp only [List.length_cons, List.length_nil] at this
          exact Nat.le_trans (Nat.le_of_eq this) (Nat.min_le_right _ _)
        repeat' (first | (k_unfold; (try dsimp only)) | ((fail_if_success (first | (with_reducible show LCg.CompEnd _ _ _ _ _ _ _ _ _ _ _ _ _ _) | (with_reducible show LCg.CompSrc _ _ _ _ _ _ _ _ _ _ _ _ _ _) | (with_reducible show wpAny _ _ (call (Value.type "dict") _) _ _ _) | (with_reducible show wpAny _ _ (call (Value.ref _) _) _ _ _) | (with_reducible show wpAny _ _ (exec (Stmt.For _ _ _ _ _) _) _ _ _) | (with_reducible show wpAny _ _ (exec (Stmt.Assign [_] (Expr.ListComp _ _ _ _) _) _) _ _ _) | (with_reducible show wpAny _ _ (eval (Expr.ListComp _ _ _ _) _) _ _ _))); first | walk1 | (dsimp only; walk1)))
        rename_i h15 F15 N15
        rw [show (listOf ((ts.map fun t => Value.ref t.1).toArray.push (.ref x)) (nf + 1)) = listOf ((ts ++ [(x, d, od, a)]).map fun t => Value.ref t.1).toArray (nf + 1) by simp] at N15
        refine ⟨rfl, _, _, _, (lj, listOf [Value.int a1 t1, Value.int a2 t2, Value.int a3 t3].toArray nl) :: (fnd, listOf ((ts ++ [(x, d, od, a)]).map fun t => Value.ref t.1).toArray (nf + 1)) :: (D2, LCg.lst ys0) :: (L0 + 1 + 1 + 1 + 1 + 1, oh8) :: (L0 + 1 + 1 + 1 + 1, oHs) :: (L0 + 1 + 1 + 1, o3) :: (L0 + 1 + 1, o4) :: (L0 + 1, o5) :: (pen, oP2) :: (made ++ (d, od) :: more), rfl, F15, N15, fun p hp => ?_, fun p hp => ?_, rfl, oh8, _, ts ++ [(x, d, od, a)], nf + 1, made ++ (d, od) :: more, rfl, doh8, hoff', ?_, fun t ht => ?_⟩
        · rcases List.mem_cons.mp hp with h | hp
          · exact fun e => hnI1 ((congrArg Prod.fst h).symm.trans e)
          rcases List.mem_cons.mp hp with h | hp
          · exact fun e => hnI2 ((congrArg Prod.fst h).symm.trans e)
          rcases List.mem_cons.mp hp with h | hp
          · exact fun e => hnI3 ((congrArg Prod.fst h).symm.trans e)
          rcases List.mem_cons.mp hp with h | hp
          · exact fun e => hnI4 ((congrArg Prod.fst h).symm.trans e)
          rcases List.mem_cons.mp hp with h | hp
          · exact fun e => hnI5 ((congrArg Prod.fst h).symm.trans e)
          rcases List.mem_cons.mp hp with h | hp
          · exact fun e => hnI6 ((congrArg Prod.fst h).symm.trans e)
          rcases List.mem_cons.mp hp with h | hp
          · exact fun e => hnI7 ((congrArg Prod.fst h).symm.trans e)
          rcases List.mem_cons.mp hp with h | hp
          · exact fun e => hnI8 ((congrArg Prod.fst h).symm.trans e)
          rcases List.mem_cons.mp hp with h | hp
          · exact fun e => hnI9 ((congrArg Prod.fst h).symm.trans e)
          rcases List.mem_append.mp hp with hp | hp
          · exact hnew p hp (I, oI) (by k_mem)
          rcases List.mem_cons.mp hp with h | hp
          · rw [h]; exact Nat.ne_of_gt (l12 (I, oI) (by k_mem))
          · exact hnI p (.tail _ (.tail _ (.tail _ (.tail _ (.tail _ (.tail _ (.tail _ (.tail _ (.tail _ hp)))))))))
        · exact .inr (List.mem_singleton.mp hp ▸ .head _)
        · rw [List.map_append, hts, List.take_add_one, ha]; rfl
        · rcases List.mem_append.mp ht with ht | ht
          · obtain ⟨g1, g2, g3, g4⟩ := hall7 t ht
            exact ⟨List.mem_append_right _ (.tail _ g1), g2, g3, P.mono _ _ _ _ g4 fun p hp => List.mem_append_right _ (.tail _ hp)⟩
          · rw [List.mem_singleton.mp ht]
            exact ⟨List.mem_append_right _ (.head _), lod, hidx ▸ hMk, P.mono _ _ _ _ hMade fun p hp => List.mem_append_left _ hp⟩
    · rintro m7 nw7 h7 tk7 ⟨rfl, oh, vh, ts, nf, more, rfl, doh, hoff, hts, hall7⟩ F7 N7
      replace F7 : Fr b L0 h7 _ := F7
      replace N7 : News b L0 h7 _ := N7
      have hts : ts.map (fun t => t.2.2.2) = [a1, a2, a3] := hts
      obtain ⟨u1, u2, u3, rfl⟩ := len3 (by have := congrArg List.length hts; rwa [List.length_map] at this)
      simp only [List.map_cons, List.map_nil, List.cons.injEq, and_true] at hts
      obtain ⟨e1, e2, e3⟩ := hts
      simp only [List.map_cons, List.map_nil] at N7
      dsimp only
      repeat' (first | (k_unfold; (try dsimp only)) | ((fail_if_success (first | (with_reducible show LCg.CompEnd _ _ _ _ _ _ _ _ _ _ _ _ _ _) | (with_reducible show LCg.CompSrc _ _ _ _ _ _ _ _ _ _ _ _ _ _) | (with_reducible show wpAny _ _ (call (Value.type "dict") _) _ _ _) | (with_reducible show wpAny _ _ (call (Value.ref _) _) _ _ _) | (with_reducible show wpAny _ _ (exec (Stmt.For _ _ _ _ _) _) _ _ _) | (with_reducible show wpAny _ _ (exec (Stmt.Assign [_] (Expr.ListComp _ _ _ _) _) _) _ _ _) | (with_reducible show wpAny _ _ (eval (Expr.ListComp _ _ _ _) _) _ _ _))); first | walk1 | (dsimp only; walk1)))
      refine' useU (draw_p HC HP2 (by exact o_cap2 hB rfl) (by decide)) ?hdp ?hun ?F ?N ?X ?T ?U ?hi ?_
      (( (case hdp | hun => kwd_inv); (case F | N | X | T => k_asm)); (case U => k_updF); (case hi => repeat (first | exact List.forall_mem_nil _ | (refine List.forall_mem_cons.mpr ⟨?_, ?_⟩; first | exact Or.inr (by assumption) | exact Or.inl ⟨by k_mem, by k_ne⟩))))
      rintro Gq hGq n8 _ h8 tk8 _ ⟨d, t', oP3, rfl, hd0, hd1, HP3, rfl⟩
      refine hGq _ _ _ _ _ ?_
      clear hGq Gq
      rintro F8 N8 -
      replace N8 := N8 oP3 [] (fun _ h => h)
      dsimp only [List.nil_append] at N8
      have hm3 : ∀ g : Int, 0 ≤ ns.getD g.toNat 0 ∧ ns.getD g.toNat 0 < 3 := fun g => by
        rw [List.getD_eq_getElem?_getD]
        cases q : ns[g.toNat]? with
        | none => exact ⟨by decide, by decide⟩
        | some y => exact hall y (List.mem_of_getElem? q)
      have hcov : ∀ c : Int, 0 ≤ c → c < 3 → ∃ t ∈ [u1, u2, u3], t.2.2.2 = c := fun c h0 h3 => by
        have : a1 = c ∨ a2 = c ∨ a3 = c := hperm.mem h0 h3
        rcases this with h | h | h
        · exact ⟨u1, .head _, e1.trans h⟩
        · exact ⟨u2, .tail _ (.head _), e2.trans h⟩
        · exact ⟨u3, .tail _ (.tail _ (.head _)), e3.trans h⟩
      have hmp : ∀ p ∈ more, @Ne Nat p.1 pen := Off.ne hoff (by simp)
      repeat' (first | (k_unfold; (try dsimp only)) | ((fail_if_success (first | (with_reducible show LCg.CompEnd _ _ _ _ _ _ _ _ _ _ _ _ _ _) | (with_reducible show LCg.CompSrc _ _ _ _ _ _ _ _ _ _ _ _ _ _) | (with_reducible show wpAny _ _ (call (Value.type "dict") _) _ _ _) | (with_reducible show wpAny _ _ (call (Value.ref _) _) _ _ _) | (with_reducible show wpAny _ _ (exec (Stmt.For _ _ _ _ _) _) _ _ _) | (with_reducible show wpAny _ _ (exec (Stmt.Assign [_] (Expr.ListComp _ _ _ _) _) _) _ _ _) | (with_reducible show wpAny _ _ (eval (Expr.ListComp _ _ _ _) _) _ _ _))); first | walk1 | (dsimp only; walk1)))
      · rename_i hz D8 h9 l9 D9 h10 F10 N10 l10
        refine k _ _ _ _ ⟨D9, 0, oP3, [u1, u2, u3, u1], fun g => ns.getD g.toNat 0, more, rfl, HP3.mono (by exact Int.le_of_eq o_8), rfl, by omega, hmp, ⟨Nat.le_of_ble_eq_true rfl, hm3, fun c h0 h3 => ?_, fun t ht => hall7 t ?_⟩⟩ (sub_of_fr F10) (led_of_news N10 fun p hp => ?_)
        · obtain ⟨t, ht, e⟩ := hcov c h0 h3
          exact ⟨t, List.mem_append_left [u1] ht, e⟩
        · rcases List.mem_append.mp (show t ∈ [u1, u2, u3] ++ [u1] from ht) with ht | ht
          · exact ht
          · exact List.mem_singleton.mp ht ▸ .head _
        · rcases List.mem_cons.mp hp with h | hp
          · exact h ▸ by k_mem
          rcases List.mem_cons.mp hp with h | hp
          · exact h ▸ .head _
          · exact .tail _ (.tail _ (.tail _ (.tail _ (.tail _ (.tail _ (.tail _ (.tail _ (.tail _ (.tail _ (.tail _ hp))))))))))
      · rename_i hz D8 h9 l9 D9 h10 F10 N10 l10
        refine k _ _ _ _ ⟨D9, 0, oP3, [u1, u2, u3], fun g => ns.getD g.toNat 0, more, rfl, HP3.mono (by exact Int.le_of_eq o_8), rfl, by omega, hmp, ⟨Nat.le_of_ble_eq_true rfl, hm3, hcov, fun t ht => hall7 t ht⟩⟩ (sub_of_fr F10) (led_of_news N10 fun p hp => ?_)
        rcases List.mem_cons.mp hp with h | hp
        · exact h ▸ by k_mem
        rcases List.mem_cons.mp hp with h | hp
        · exact h ▸ .head _
        · exact .tail _ (.tail _ (.tail _ (.tail _ (.tail _ (.tail _ (.tail _ (.tail _ (.tail _ (.tail _ (.tail _ hp))))))))))
end

/-! the law's lambdas -/
noncomputable abbrev argsOf1 (x : Str) (pa : Pos) : Arguments := { posonlyargs := [], args := [{ arg := x, annotation := none, pos := pa }], vararg := none, kwonlyargs := [], kw_defaults := [], kwarg := none, defaults := [] }
section
variable {prog : Program} {w : World}
theorem lam_id_c {f c' : Nat} {oc : Obj} {vs : Array Value} {qual : Str} {t tg : Tok} {pm ctv : Value} {px pa : Pos} {g : Int} (hd : oc.data = .fields vs) (hv : vs[1]? = some (.str qual t)) :
    Calls prog w 1 (.ref f) [.int g tg] [(f, kla_obj "<lambda>" qual (argsOf1 "glyph" pa) (.Name "glyph" px) { kind := .function, names := [(Str.ofString "glyph", .local)], isGenerator := false, isCoroutine := false, more := [] } [] pm c' ctv), (c', oc)] [] (fun _ v mu' => (∃ t, v = .int g t) ∧ mu' = []) := by
  intro dp un fr gds s b R hdp hun S G H0 N k
  obtain ⟨X, p, loose, mean, mg, mb, T⟩ := G
  refine enterL [("glyph", .int g tg)] S N T H0.c.1 ⟨c', oc, vs, t, rfl, H0.c.2.c.1, hd, hv⟩ ?hroom ?hbind ?hloc ?_
  ( (case hroom => k_room); (case hbind => exact rfl); (case hloc => exact locs rfl); intro _ _ _ _ _ _; (try dsimp only); (try k_fold))
  repeat' (first | (k_unfold; (try dsimp only)) | ((fail_if_success (with_reducible show wpAny _ _ (call (Value.ref _) _) _ _ _)); first | walk1 | (dsimp only; walk1)))
  exact k _ _ _ [] ⟨⟨_, rfl⟩, rfl⟩ (sub_of_fr (by assumption)) Led.nil
theorem lam_fst_c {f c' ka n : Nat} {oc ok : Obj} {vs : Array Value} {qual : Str} {t : Tok} {pm ctv : Value} {px pa ps pc : Pos} {x y : Int} (hd : oc.data = .fields vs) (hv : vs[1]? = some (.str qual t)) (hk : TupKeyObj (PySem.intKind prog w) [x, y] ok) :
    Calls prog w 1 (.ref f) [.ref ka] [(f, kla_obj "<lambda>" qual (argsOf1 "pair" pa) (.Subscript (.Name "pair" px) (.Constant (.int 0) n pc) ps) { kind := .function, names := [(Str.ofString "pair", .local)], isGenerator := false, isCoroutine := false, more := [] } [] pm c' ctv), (c', oc), (ka, ok)] [] (fun _ v mu' => (∃ t, v = .int x t) ∧ mu' = []) := by
  intro dp un fr gds s b R hdp hun S G H0 N k
  obtain ⟨X, p, loose, mean, mg, mb, T⟩ := G
  have hko := H0.c.2.c.2.c.1
  obtain ⟨hoc, items, nn, hod, hit⟩ := hk
  obtain ⟨ta, tb, hitl⟩ := items2 hit
  refine enterL [("pair", .ref ka)] S N T H0.c.1 ⟨c', oc, vs, t, rfl, H0.c.2.c.1, hd, hv⟩ ?hroom ?hbind ?hloc ?_
  ( (case hroom => k_room); (case hbind => exact rfl); (case hloc => exact locs rfl); intro _ _ _ _ _ _; (try dsimp only); (try k_fold))
  repeat' (first | (k_unfold; (try dsimp only)) | ((fail_if_success (with_reducible show wpAny _ _ (call (Value.ref _) _) _ _ _)); first | walk1 | (dsimp only; walk1)))
  rename_i F1 N1
  refine item_tupleT (l := [.int x ta, .int y tb]) (j := 0) (x := .int x ta) ⟨ok, Fr.keep F1 _ _ hko, hoc, nn, by rw [hod, hitl]⟩ (by decide) (by decide) rfl rfl ?_ rfl
  exact k _ _ _ [] ⟨⟨_, rfl⟩, rfl⟩ (sub_of_fr F1) Led.nil
theorem nameX_H {M : Model} {A : Around} {E : Value → Shared → Prop} {s : Shared} {b : Heap} {L a c : Addr} {m : Str → Option Value} {cn : Str} {cs : Scope} {ccd : Value} {cl : List (Str × Addr)} {x : Str} {pos : Pos} {v : Value} {o : Obj} {Q : Value → Shared → Prop}
    (F : Fr b L s.heap m) (hc : cl.lookup x = some c) (hm : b.get? c = some o) (hd : o.data = .cell (some v)) (h : Q v s)
    (hk : cs.kind = .function := by rfl) (hx : (envX cn cs L a ccd cl).kindOf x = some .free := by rfl) (hb : (x == ("__debug__" : Str)) = false := by decide) (hn : (x == ("__classdict__" : Str)) = false := by decide) :
    wpAny M A (eval (.Name x pos) (envX cn cs L a ccd cl)) Q E s := wpAny_Name (wpAny_loadName_free hk hx hc ⟨o, F.keep _ _ hm, hd⟩ h hn) hb
end
set_option hygiene false in
local macro_rules | `(tactic| walk_at "eval Name") => `(tactic| (k_here; (with_reducible show wpAny _ _ (eval (Expr.Name (Str.ofString "is_second") _) (envX _ _ _ _ _ _)) _ _ _); k_dflt (refine' nameX_H ?F ?c ?m ?d ?_; (case c => exact rfl); (case F => k_asm); (case m | d => assumption))))
section
variable {prog : Program} {w : World}
theorem lam_make_c {f c' cS D : Nat} {oc oS : Obj} {vs : Array Value} {qual : Str} {t : Tok} {pm ctv : Value} {p1 p2 p3 p4 pa : Pos} {src : Ledger} {sec : Bool} {ff : Int → Int → Option (Nat × VR × VR)} (hd : oc.data = .fields vs) (hv : vs[1]? = some (.str qual t)) (hS : oS.data = .cell (some (.bool sec)))
    (HD : PairD prog w src D ff) (hz : sec = false → ∀ a b t, ff a b = some t → t.2.2.Zero) :
    Calls prog w 6 (.ref f) [.ref D] ([(f, kla_obj "<lambda>" qual (argsOf1 "held" pa) (.Call (.Name "PairGlyphs" p1) [.Name "held" p2, .Name "is_second" p3] [] p4) { kind := .function, names := [(Str.ofString "held", .local), (Str.ofString "is_second", .free), (Str.ofString "PairGlyphs", .globalImplicit)], isGenerator := false, isCoroutine := false, more := [] } [("is_second", cS)] pm c' ctv), (c', oc), (cS, oS)] ++ src) []
      (fun _ v mu' => ∃ (x dx : Nat) (k k' : Tok), v = .ref x ∧ mu' = [(x, instObj 602 dx), (dx, dictOf [ent w.params "pairs" k (.ref D), ent w.params "is_second" k' (.bool sec)] 2)]) := by
  intro dp un fr gds s b R hdp hun S G H0 N k
  obtain ⟨X, p, loose, mean, mg, mb, T⟩ := G
  have HS := H0.right
  have H1 := H0.left
  have hcS := H1.c.2.c.2.c.1
  refine enterL [("held", .ref D)] S N T H1.c.1 ⟨c', oc, vs, t, rfl, H1.c.2.c.1, hd, hv⟩ ?hroom ?hbind ?hloc ?_
  ( (case hroom => k_room); (case hbind => exact rfl); (case hloc => exact locs rfl); intro _ _ _ _ _ _; (try dsimp only); (try k_fold))
  repeat' (first | (k_unfold; (try dsimp only)) | ((fail_if_success (with_reducible show wpAny _ _ (call (Value.ref _) _) _ _ _)); first | walk1 | (dsimp only; walk1)))
  refine' use0N (pairs_c HD hz) ?hdp ?hun ?F ?N ?X ?T ?hi ?_
  ( (case hdp | hun => kwd_inv); (case F | N | X | T => k_asm))
  (case hi => exact fun p hp => Or.inr (HS p hp))
  rintro Gq hGq n1 _ h1 tk1 _ ⟨x, dx, k1, k2, rfl, rfl⟩
  refine hGq _ _ _ _ _ ?_
  clear hGq Gq
  rintro hnew F1 N1
  exact k _ _ _ _ ⟨x, dx, k1, k2, rfl, rfl⟩ (sub_of_fr F1) (led_of_news N1 fun p hp => List.mem_append_left _ hp)
theorem Calls.up {lvl lvl' : Nat} {f : Value} {args : List Value} {imm mu : Ledger} {Post : Nat → Value → Ledger → Prop} (C : Calls prog w lvl f args imm mu Post) (h : lvl ≤ lvl') : Calls prog w lvl' f args imm mu Post :=
  fun dp un fr gd s b R hdp hun => C dp un fr gd s b R (by exact Nat.lt_of_le_of_lt (Nat.add_le_add_left (Nat.mul_le_mul_left _ h) _) hdp) (by exact Nat.lt_of_le_of_lt (Nat.add_le_add_left (Nat.mul_le_mul_left _ h) _) hun)
theorem Calls.more {lvl : Nat} {f : Value} {args : List Value} {imm imm2 mu : Ledger} {Post Post2 : Nat → Value → Ledger → Prop} (C : Calls prog w lvl f args imm mu Post) (hi : ∀ p ∈ imm, p ∈ imm2) (hP : ∀ n v mu', Post n v mu' → Post2 n v mu') : Calls prog w lvl f args imm2 mu Post2 :=
  fun dp un fr gd s b R hdp hun S G H N k => C dp un fr gd s b R hdp hun S G (fun p hp => H p (hi p hp)) N fun v h' tk mu' hp => k v h' tk mu' (hP _ _ _ hp)
end
theorem filter_idx {α : Type} (q : α → Bool) (d : α) : ∀ l : List α, ((List.range l.length).filter fun i => q (l.getD i d)).map (fun i => l.getD i d) = l.filter q := by
  intro l
  have e : ∀ n, n ≤ l.length → ((List.range n).filter fun i => q (l.getD i d)).map (fun i => l.getD i d) = (l.take n).filter q := by
    intro n
    induction n with
    | zero => intro _; rfl
    | succ n ih =>
      intro hn
      have hx : l.getD n d = l[n]'(by exact hn) := by simp [List.getD_eq_getElem?_getD, List.getElem?_eq_getElem (show n < l.length by exact hn)]
      rw [List.range_succ, List.filter_append, List.map_append, ih (by exact Nat.le_of_succ_le hn), List.take_add_one, List.getElem?_eq_getElem (by exact hn), List.filter_append]
      simp only [Option.toList_some, List.filter_cons, List.filter_nil, hx]
      cases q (l[n]'(by exact hn)) <;> simp [List.getElem?_eq_getElem (show n < l.length by exact hn)]
  have := e l.length (Nat.le_refl _)
  rwa [List.take_length] at this
theorem pairs_at {K : Type} [DecidableEq K] {prog : Program} {w : World} {knd : KeyKind prog w K} {l : List DictEntry} {kvs : List (K × Value)} (h : Pairs knd l kvs) : l.length = kvs.length ∧ ∀ (i : Nat) (e : DictEntry), l[i]? = some e → ∃ kv, kvs[i]? = some kv ∧ knd.is kv.1 e.key = true ∧ e.val = kv.2 := by
  induction h with
  | nil => exact ⟨rfl, fun i e he => by simp at he⟩
  | cons h1 h2 h3 ih =>
    refine ⟨by simp [ih.1], fun i e he => ?_⟩
    cases i with
    | zero => simp at he; subst he; exact ⟨_, rfl, h1, h2⟩
    | succ i => simpa using ih.2 i e (by simpa using he)

/-! what is parted -/
noncomputable abbrev kvAt (kvs : List (Int × Value)) (i : Nat) : Int × Value := kvs.getD i (0, .none)
noncomputable abbrev xAt (xs : List (List Int × Addr × Value)) (i : Nat) : List Int × Addr × Value := xs.getD i ([], 0, .none)
noncomputable def MadeAdj (P : Params) (x D : Nat) (l : Ledger) : Prop := ∃ (dx : Nat) (kt : Tok), (x, instObj 549 dx) ∈ l ∧ (dx, dictOf [ent P "values" kt (.ref D)] 1) ∈ l
noncomputable def MadePair (P : Params) (sec : Bool) (x D : Nat) (l : Ledger) : Prop := ∃ (dx : Nat) (k k' : Tok), (x, instObj 602 dx) ∈ l ∧ (dx, dictOf [ent P "pairs" k (.ref D), ent P "is_second" k' (.bool sec)] 2) ∈ l
section
variable {prog : Program} {w : World}
theorem keep_fn {imm : Ledger} {f : Nat} {oc : Value} {od : Option Addr} {fd : FuncData} {sl : Array (Option Value)} (h : (f, (⟨oc, od, .func fd, sl⟩ : Obj)) ∈ imm) (b : Heap) (H : Has b imm) : KeepAt b (.ref f) :=
  fun M g hg => keeps_F g ⟨oc, od, fd, sl, hg _ _ (H _ h)⟩
theorem kv_mem {kvs : List (Int × Value)} {i : Nat} (h : i < kvs.length) : kvs[i]? = some (kvAt kvs i) := by
  simp [kvAt, List.getD_eq_getElem?_getD, List.getElem?_eq_getElem h]
theorem x_mem {xs : List (List Int × Addr × Value)} {i : Nat} (h : i < xs.length) : xs[i]? = some (xAt xs i) := by
  simp [xAt, List.getD_eq_getElem?_getD, List.getElem?_eq_getElem h]
theorem nodup_idx {α β : Type} {l : List α} {g : α → β} {d : α} (hn : (l.map g).Nodup) : ∀ {idx : List Nat}, idx.Nodup → (∀ i ∈ idx, i < l.length) → ((idx.map fun i => l.getD i d).map g).Nodup := by
  intro idx
  induction idx with
  | nil => intro _ _; exact List.nodup_nil
  | cons a as ih =>
    intro hd hl
    rw [List.nodup_cons] at hd
    simp only [List.map_cons, List.nodup_cons]
    refine ⟨fun hm => ?_, ih hd.2 fun i hi => hl i (.tail _ hi)⟩
    simp only [List.map_map, List.mem_map, Function.comp] at hm
    obtain ⟨j, hj, e⟩ := hm
    have ha := hl a (.head _)
    have hj' := hl j (.tail _ hj)
    simp only [List.getD_eq_getElem?_getD, List.getElem?_eq_getElem ha, List.getElem?_eq_getElem hj', Option.getD_some] at e
    have : j = a := (List.getElem_inj (xs := l.map g) (h₀ := by simpa using hj') (h₁ := by simpa using ha) hn).mp (by simpa using e)
    exact hd.1 (this ▸ hj)
theorem valueAt_mem {kvs : List (Int × Value)} {kv : Int × Value} (hn : (kvs.map (·.1)).Nodup) (hx : kv ∈ kvs) : valueAt kvs kv.1 = some kv.2 := by
  induction kvs with
  | nil => cases hx
  | cons y ys ih =>
    rw [List.map_cons, List.nodup_cons] at hn
    unfold valueAt
    rcases List.mem_cons.mp hx with rfl | hx
    · simp
    · have hne : y.1 ≠ kv.1 := fun e => hn.1 (e ▸ List.mem_map_of_mem hx)
      have := ih hn.2 hx
      unfold valueAt at this
      simp [hne, this]
theorem part_adj {imm : Ledger} {D f c' : Nat} {oD oc : Obj} {es : Array DictEntry} {ep : Nat} {kvs : List (Int × Value)} {vs : Array Value} {qual : Str} {t : Tok} {pm ctv : Value} {px pa : Pos} (hD : (D, oD) ∈ imm) (lo : NotSys D) (hx : oD.ExactDict) (hdat : oD.data = .dict es ep) (hk : KeysOf (PySem.intKind prog w) es) (hp : Pairs (PySem.intKind prog w) es.toList kvs) (hn : (kvs.map (·.1)).Nodup)
    (hl : kvs.length ≤ 100) (h6 : ∀ kv ∈ kvs, 0 ≤ kv.1 ∧ kv.1 < 6) (hoc : oc.data = .fields vs) (hv : vs[1]? = some (.str qual t))
    (hf : (f, kla_obj "<lambda>" qual (argsOf1 "glyph" pa) (.Name "glyph" px) { kind := .function, names := [(Str.ofString "glyph", .local)], isGenerator := false, isCoroutine := false, more := [] } [] pm c' ctv) ∈ imm) (hc : (c', oc) ∈ imm) :
    PartOk prog w imm D f 549 es (fun i => (kvAt kvs i).1) (fun idx o => o.IsDictOf (PySem.intKind prog w) (idx.map (kvAt kvs))) (MadeAdj w.params) := by
  obtain ⟨hlen, hat⟩ := pairs_at hp
  rw [Array.length_toList] at hlen
  have hat' : ∀ (i : Nat) (e : DictEntry), es[i]? = some e → i < kvs.length ∧ (∃ t, e.key = .int (kvAt kvs i).1 t) ∧ e.val = (kvAt kvs i).2 := fun i e he => by
    obtain ⟨kv, h1, h2, h3⟩ := hat i e (by rw [Array.getElem?_toList]; exact he)
    have hi := (List.getElem?_eq_some_iff.mp h1).1
    rw [kv_mem hi] at h1
    obtain rfl := Option.some.inj h1
    obtain ⟨t, ht⟩ := Value.isInt_shape h2
    exact ⟨hi, ⟨t, ht⟩, h3⟩
  have hIs : oD.IsDictOf (PySem.intKind prog w) kvs := ⟨es, ep, hx, hdat, hk, hp, hn⟩
  refine ⟨⟨oD, ep, hD, lo, hx, hdat⟩, by exact Nat.le_trans (Nat.le_of_eq hlen) hl, fun i hi => h6 _ (List.mem_of_getElem? (kv_mem (by exact Nat.lt_of_lt_of_eq hi hlen))), fun i e he => ?_, fun i e he A E s Q hu H hq => ?_, ?_, fun b G H => keep_fn hf b H, fun b G H => ?_, fun idx D' o' hM lo' _ _ _ => ?_, ?_⟩
  · obtain ⟨hi, ⟨tk, e1⟩, e2⟩ := hat' i e he
    rw [e1]
    exact (lam_id_c hoc hv).more (fun p hp => by
      rcases List.mem_cons.mp hp with h | hp
      · exact h ▸ hf
      · exact List.mem_singleton.mp hp ▸ hc) fun _ _ _ h => h
  · obtain ⟨hi, ⟨tk, e1⟩, e2⟩ := hat' i e he
    rw [e1]
    have hDD : s.heap.DictOf (PySem.intKind prog w) D kvs := Heap.dictOf_iff.mpr ⟨oD, H _ hD, hIs⟩
    exact wpAny_getItem_of (intKind_is _ _ _ _) hDD.mapOf (v := e.val) (by rw [e2]; exact valueAt_mem hn (List.mem_of_getElem? (kv_mem hi))) (hq _)
  · intro idx A E s Q b L m news l k items hh hu F N hbig H hl' hnd hlt hc100 hlen' hP hQ
    refine DPairs.dict_ints hh F N hbig hl' (idx.map (kvAt kvs)) (nodup_idx hn hnd fun i hi => by have := hlt i hi; exact Nat.lt_of_lt_of_eq this hlen) (by simp [hlen']) (by rw [List.length_map]; exact o_le hc100 rfl) (fun i v kv hv' hkv => ?_) hQ
    rw [List.getElem?_toArray] at hv'
    rw [List.getElem?_map] at hkv
    obtain ⟨ii, hii, rfl⟩ := Option.map_eq_some_iff.mp hkv
    have hlt' := hlt ii (List.mem_of_getElem? hii)
    obtain ⟨T, k, e1, e2⟩ := hP i v ii es[ii] hv' hii (Array.getElem?_eq_getElem hlt')
    obtain ⟨-, ⟨tk, e3⟩, e4⟩ := hat' ii es[ii] (Array.getElem?_eq_getElem hlt')
    rw [e3, e4] at e2
    exact ⟨T, k, tk, e1, e2⟩
  · exact fun M g hg => keeps_K (K := hd.heap_39 w.params) (by k_is) g (G.X.keeps hg)
  · exact ((adjust_c (D := D')).up (by decide)).more (fun _ h => nomatch h) fun n v mu' ⟨x, dx, kt, e, e2⟩ => ⟨x, e, dx, kt, e2 ▸ .head _, e2 ▸ .tail _ (.head _)⟩
  · rintro x D' l l' ⟨dx, kt, h1, h2⟩ hs
    exact ⟨dx, kt, hs _ h1, hs _ h2⟩
theorem pairD_of {src : Ledger} {D : Nat} {oD : Obj} {es : Array DictEntry} {ep : Nat} {xs xs0 : List (List Int × Addr × Value)} {ff f0 : Int → Int → Option (Nat × VR × VR)} (hD : (D, oD) ∈ src) (lo : NotSys D) (hx : oD.ExactDict) (hdat : oD.data = .dict es ep) (hes : es.toList = xs.map (entryOfKey (tupleKind (PySem.intKind prog w))))
    (hs : ∀ x ∈ xs, x ∈ xs0) (hks : ∀ x ∈ xs0, ∃ ok, (x.2.1, ok) ∈ src ∧ TupKeyObj (PySem.intKind prog w) x.1 ok) (hn : (xs.map (·.1)).Nodup) (hkk : ∀ x ∈ xs0, ∃ a b, x.1 = [a, b]) (hat : ∀ a b, (atKey xs [a, b]).map (·.2) = (ff a b).map fun t => Value.ref t.1) (hl : xs.length ≤ 1000)
    (hff : ∀ a b t, ff a b = some t → f0 a b = some t) (hval : ∀ a b t, f0 a b = some t → (∃ n, (t.1, ({ cls := .type "tuple", data := .seq #[.ref t.2.1.a, .ref t.2.2.a] n } : Obj)) ∈ src) ∧ (∀ p ∈ t.2.1.led w.params, p ∈ src) ∧ ∀ p ∈ t.2.2.led w.params, p ∈ src) : PairD prog w src D ff :=
  ⟨⟨oD, es, ep, xs, hD, lo, hx, hdat, hes, fun x hx => hks x (hs x hx), hn, fun x hx => hkk x (hs x hx), hat, hl⟩, fun a b t ht => hval a b t (hff a b t ht)⟩
theorem atKey_none {xs : List (List Int × Addr × Value)} {k : List Int} (h : k ∉ xs.map (·.1)) : atKey xs k = none := by
  cases q : atKey xs k with
  | none => rfl
  | some p =>
    exfalso
    obtain ⟨x, hx, e⟩ := mem_atKey.mp (show (atKey xs k).isSome = true by rw [q]; rfl)
    exact h (List.mem_map.mpr ⟨x, hx, e⟩)
theorem part_pair {imm : Ledger} {D f m c' c'' cS : Nat} {oD oc oc' oS : Obj} {es : Array DictEntry} {ep : Nat} {xs : List (List Int × Addr × Value)} {ff : Int → Int → Option (Nat × VR × VR)} {sec : Bool} {vs vs' : Array Value} {qual qual' : Str} {t t' : Tok} {pm ctv pm' ctv' : Value} {px pa ps pc p1 p2 p3 p4 pb : Pos} {nc : Nat} (hD : (D, oD) ∈ imm) (lo : NotSys D) (hx : oD.ExactDict) (hdat : oD.data = .dict es ep) (hes : es.toList = xs.map (entryOfKey (tupleKind (PySem.intKind prog w))))
    (hks : ∀ x ∈ xs, ∃ ok, (x.2.1, ok) ∈ imm ∧ TupKeyObj (PySem.intKind prog w) x.1 ok) (hn : (xs.map (·.1)).Nodup) (hkk : ∀ x ∈ xs, ∃ a b, x.1 = [a, b] ∧ 0 ≤ a ∧ a < 6) (hat : ∀ a b, (atKey xs [a, b]).map (·.2) = (ff a b).map fun t => Value.ref t.1) (hl : xs.length ≤ 100)
    (hval : ∀ a b t, ff a b = some t → (∃ n, (t.1, ({ cls := .type "tuple", data := .seq #[.ref t.2.1.a, .ref t.2.2.a] n } : Obj)) ∈ imm) ∧ (∀ p ∈ t.2.1.led w.params, p ∈ imm) ∧ ∀ p ∈ t.2.2.led w.params, p ∈ imm) (hz : sec = false → ∀ a b t, ff a b = some t → t.2.2.Zero)
    (hoc : oc.data = .fields vs) (hv : vs[1]? = some (.str qual t)) (hoc' : oc'.data = .fields vs') (hv' : vs'[1]? = some (.str qual' t')) (hoS : oS.data = .cell (some (.bool sec))) (hS : (cS, oS) ∈ imm)
    (hf : (f, kla_obj "<lambda>" qual (argsOf1 "pair" pa) (.Subscript (.Name "pair" px) (.Constant (.int 0) nc pc) ps) { kind := .function, names := [(Str.ofString "pair", .local)], isGenerator := false, isCoroutine := false, more := [] } [] pm c' ctv) ∈ imm) (hc : (c', oc) ∈ imm)
    (hm : (m, kla_obj "<lambda>" qual' (argsOf1 "held" pb) (.Call (.Name "PairGlyphs" p1) [.Name "held" p2, .Name "is_second" p3] [] p4) { kind := .function, names := [(Str.ofString "held", .local), (Str.ofString "is_second", .free), (Str.ofString "PairGlyphs", .globalImplicit)], isGenerator := false, isCoroutine := false, more := [] } [("is_second", cS)] pm' c'' ctv') ∈ imm) (hc' : (c'', oc') ∈ imm) :
    PartOk prog w imm D f m es (fun i => (xAt xs i).1.headD 0) (fun idx o => ∃ es' ep', o.ExactDict ∧ o.data = .dict es' ep' ∧ es'.toList = (idx.map (xAt xs)).map (entryOfKey (tupleKind (PySem.intKind prog w)))) (MadePair w.params sec) := by
  have hlen : es.size = xs.length := by rw [← Array.length_toList, hes, List.length_map]
  have hat' : ∀ (i : Nat) (e : DictEntry), es[i]? = some e → i < xs.length ∧ e.key = .ref (xAt xs i).2.1 ∧ e.val = (xAt xs i).2.2 := fun i e he => by
    have hi : i < xs.length := by rw [← hlen]; exact (Array.getElem?_eq_some_iff.mp he).1
    rw [← Array.getElem?_toList, hes, List.getElem?_map, x_mem hi] at he
    have := Option.some.inj he
    exact ⟨hi, by rw [← this]; rfl, by rw [← this]; rfl⟩
  have xm : ∀ i, i < xs.length → xAt xs i ∈ xs := fun i hi => List.mem_of_getElem? (x_mem hi)
  refine ⟨⟨oD, ep, hD, lo, hx, hdat⟩, by exact Nat.le_trans (Nat.le_of_eq hlen) hl, fun i hi => ?_, fun i e he => ?_, fun i e he A E s Q hu H hq => ?_, ?_, fun b G H => keep_fn hf b H, fun b G H => keep_fn hm b H, fun idx D' o' hM lo' hnd hlt hc100 => ?_, ?_⟩
  · obtain ⟨a, b, e, h1, h2⟩ := hkk _ (xm i (by exact Nat.lt_of_lt_of_eq hi hlen))
    show 0 ≤ (xAt xs i).1.headD 0 ∧ (xAt xs i).1.headD 0 < 6
    rw [e]
    exact ⟨h1, h2⟩
  · obtain ⟨hi, e1, e2⟩ := hat' i e he
    obtain ⟨a, b, e3, h1, h2⟩ := hkk _ (xm i hi)
    obtain ⟨ok, hok, htk⟩ := hks _ (xm i hi)
    rw [e1]
    show Calls prog w 1 (.ref f) [.ref (xAt xs i).2.1] imm [] (fun _ v mu' => (∃ t, v = .int ((xAt xs i).1.headD 0) t) ∧ mu' = [])
    rw [e3] at htk
    rw [e3]
    exact (lam_fst_c hoc hv htk).more (fun p hp => by
      rcases List.mem_cons.mp hp with h | hp
      · exact h ▸ hf
      rcases List.mem_cons.mp hp with h | hp
      · exact h ▸ hc
      · exact List.mem_singleton.mp hp ▸ hok) fun _ _ _ h => h
  · obtain ⟨hi, e1, e2⟩ := hat' i e he
    have hkey : ∀ y ∈ xs, (tupleKind (PySem.intKind prog w)).is s.heap y.1 y.2.1 := fun y hy => let ⟨ok, h1, h2⟩ := hks y hy; h2.key (H _ h1)
    rw [e1]
    exact wpAny_getItem_heap (knd := tupleKind (PySem.intKind prog w)) (tupleKind_room_in1 (by exact Nat.lt_of_le_of_lt (Nat.add_le_add_left (by decide) _) hu)) (hkey _ (xm i hi)) ⟨oD, es, ep, H _ hD, hx, hdat, hes, hkey, hn⟩ (atKey_mem hn (xm i hi)) (by rw [← e2]; exact hq _)
  · intro idx A E s Q b L m' news l k items hh hu F N hbig H hl' hnd hlt hc100 hlen' hP hQ
    refine DPairs.dict_tups hh hu F N hbig hl' (idx.map (xAt xs)) (nodup_idx hn hnd fun i hi => by have := hlt i hi; exact Nat.lt_of_lt_of_eq this hlen) (by simp [hlen']) (by rw [List.length_map]; exact o_le hc100 rfl) (fun x hx => ?_) (fun i v x hv' hkv => ?_) (fun d o h' tk es' ep' F' N' lo' h1 h2 h3 h4 => hQ d o h' tk F' N' lo' ⟨es', ep', h1, h2, h3⟩ h4)
    · obtain ⟨ii, hii, rfl⟩ := List.mem_map.mp hx
      obtain ⟨ok, h1, h2⟩ := hks _ (xm ii (by have := hlt ii hii; exact Nat.lt_of_lt_of_eq this hlen))
      exact ⟨ok, H _ h1, h2⟩
    · rw [List.getElem?_toArray] at hv'
      rw [List.getElem?_map] at hkv
      obtain ⟨ii, hii, rfl⟩ := Option.map_eq_some_iff.mp hkv
      have hlt' := hlt ii (List.mem_of_getElem? hii)
      obtain ⟨T, k, e1, e2⟩ := hP i v ii es[ii] hv' hii (Array.getElem?_eq_getElem hlt')
      obtain ⟨-, e3, e4⟩ := hat' ii es[ii] (Array.getElem?_eq_getElem hlt')
      rw [e3, e4] at e2
      exact ⟨T, k, e1, e2⟩
  · obtain ⟨es', ep', h1, h2, h3⟩ := hM
    have hsub : ∀ x ∈ idx.map (xAt xs), x ∈ xs := fun x hx => by
      obtain ⟨ii, hii, rfl⟩ := List.mem_map.mp hx
      exact xm ii (by have := hlt ii hii; exact Nat.lt_of_lt_of_eq this hlen)
    have hnd' : ((idx.map (xAt xs)).map (·.1)).Nodup := nodup_idx hn hnd fun i hi => by have := hlt i hi; exact Nat.lt_of_lt_of_eq this hlen
    have HD : PairD prog w ((D', o') :: imm) D' (fun a b => if [a, b] ∈ (idx.map (xAt xs)).map (·.1) then ff a b else none) := by
      refine pairD_of (.head _) lo' h1 h2 h3 hsub (fun x hx => let ⟨ok, h1, h2⟩ := hks x hx; ⟨ok, .tail _ h1, h2⟩) hnd' (fun x hx => let ⟨a, b, h, _⟩ := hkk x hx; ⟨a, b, h⟩) (fun a b => ?_) (by rw [List.length_map]; exact o_le hc100 rfl) (fun a b t ht => ?_) fun a b t ht => let ⟨⟨n, a1⟩, a2, a3⟩ := hval a b t ht; ⟨⟨n, .tail _ a1⟩, fun p hp => .tail _ (a2 p hp), fun p hp => .tail _ (a3 p hp)⟩
      · by_cases hin : [a, b] ∈ (idx.map (xAt xs)).map (·.1)
        · rw [if_pos hin, ← hat a b]
          obtain ⟨x, hx, e⟩ := List.mem_map.mp hin
          rw [← e, atKey_mem hnd' hx, atKey_mem hn (hsub x hx)]
        · rw [if_neg hin, atKey_none hin]; rfl
      · by_cases hin : [a, b] ∈ (idx.map (xAt xs)).map (·.1)
        · rwa [if_pos hin] at ht
        · rw [if_neg hin] at ht; cases ht
    have hz' : sec = false → ∀ a b t, (if [a, b] ∈ (idx.map (xAt xs)).map (·.1) then ff a b else none) = some t → t.2.2.Zero := fun h a b t ht => by
      by_cases hin : [a, b] ∈ (idx.map (xAt xs)).map (·.1)
      · rw [if_pos hin] at ht; exact hz h a b t ht
      · rw [if_neg hin] at ht; cases ht
    refine (lam_make_c (c' := c'') (cS := cS) (pm := pm') (ctv := ctv') (p1 := p1) (p2 := p2) (p3 := p3) (p4 := p4) (pa := pb) hoc' hv' hoS HD hz').more (fun p hp => ?_) fun n v mu' ⟨x, dx, k, k', e, e2⟩ => ⟨x, e, dx, k, k', e2 ▸ .head _, e2 ▸ .tail _ (.head _)⟩
    rcases List.mem_append.mp hp with hp | hp
    · rcases List.mem_cons.mp hp with h | hp
      · exact .tail _ (h ▸ hm)
      rcases List.mem_cons.mp hp with h | hp
      · exact .tail _ (h ▸ hc')
      · exact .tail _ (List.mem_singleton.mp hp ▸ hS)
    · exact hp
  · rintro x D' l l' ⟨dx, k1, k2, h1, h2⟩ hs
    exact ⟨dx, k1, k2, hs _ h1, hs _ h2⟩
end

/-! the plain law: the parted tables answer as the whole one -/
theorem posAt_part {flag : Int} {cls : Int → Int} {rs : List Rec} {a : Int} {T : Tab} : ∀ {ts : List Tab}, (∀ t ∈ ts, t.step flag cls rs a = T.step flag cls rs a ∨ ¬ 0 ≤ (t.step flag cls rs a).1) → (∃ t ∈ ts, t.step flag cls rs a = T.step flag cls rs a) → posAt flag cls rs a [T] = posAt flag cls rs a ts
  | [], _, h => by obtain ⟨t, ht, -⟩ := h; cases ht
  | t :: ts, h1, h2 => by
    by_cases hT : 0 ≤ (T.step flag cls rs a).1
    · rcases h1 t (.head _) with h | h
      · show (if 0 ≤ (T.step flag cls rs a).1 then _ else _) = (if 0 ≤ (t.step flag cls rs a).1 then _ else _)
        rw [h, if_pos hT, if_pos hT]
      · have h3 : ∃ u ∈ ts, u.step flag cls rs a = T.step flag cls rs a := by
          obtain ⟨u, hu, e⟩ := h2
          rcases List.mem_cons.mp hu with e2 | hu
          · rw [e2] at e; rw [e] at h; exact absurd hT h
          · exact ⟨u, hu, e⟩
        have := posAt_part (T := T) (ts := ts) (fun u hu => h1 u (.tail _ hu)) h3
        show posAt flag cls rs a [T] = (if 0 ≤ (t.step flag cls rs a).1 then _ else _)
        rw [if_neg h]; exact this
    · have hall : ∀ u ∈ t :: ts, ¬ 0 ≤ (u.step flag cls rs a).1 := fun u hu => by
        rcases h1 u hu with h | h
        · rw [h]; exact hT
        · exact h
      have neg : ∀ l : List Tab, (∀ u ∈ l, ¬ 0 ≤ (u.step flag cls rs a).1) → posAt flag cls rs a l = (-1, rs) := by
        intro l
        induction l with
        | nil => intro _; rfl
        | cons u l ih => intro hl; rw [posAt, if_neg (hl u (.head _))]; exact ih fun v hv => hl v (.tail _ hv)
      rw [neg _ hall, neg [T] fun u hu => by rw [List.mem_singleton.mp hu]; exact hT]
noncomputable def adjPart (f : Int → Option VR) (hm : Int → Int) (c : Int) (g : Int) : Option VR := if hm g = c then f g else none
noncomputable def pairPart (f : Int → Int → Option (Nat × VR × VR)) (hm : Int → Int) (c : Int) (a b : Int) : Option (Nat × VR × VR) := if hm a = c then f a b else none
theorem adj_heq {flag : Int} {cls : Int → Int} {f : Int → Option VR} {hm : Int → Int} {cs : List Int} (hlo : ∀ g, 0 ≤ hm g ∧ hm g < 3) (hall : ∀ c, 0 ≤ c → c < 3 → c ∈ cs) (rs : List Rec) (a : Int) :
    posAt flag cls rs a [.adj f] = posAt flag cls rs a (cs.map fun c => .adj (adjPart f hm c)) := by
  have key : ∀ c, (∃ r, rs[a.toNat]? = some r ∧ hm r.g ≠ c ∧ ¬ 0 ≤ ((Tab.adj (adjPart f hm c)).step flag cls rs a).1) ∨ (Tab.adj (adjPart f hm c)).step flag cls rs a = (Tab.adj f).step flag cls rs a := fun c => by
    cases e : rs[a.toNat]? with
    | none => right; simp [Tab.step, e]
    | some r =>
      by_cases h : hm r.g = c
      · right; simp [Tab.step, e, adjPart, h]
      · left; exact ⟨r, rfl, h, by simp [Tab.step, e, adjPart, h]⟩
  refine posAt_part (fun t ht => ?_) ?_
  · obtain ⟨c, hc, rfl⟩ := List.mem_map.mp ht
    rcases key c with ⟨r, -, -, h⟩ | h
    · exact .inr h
    · exact .inl h
  · cases e : rs[a.toNat]? with
    | none =>
      refine ⟨_, List.mem_map.mpr ⟨0, hall 0 (by decide) (by decide), rfl⟩, ?_⟩
      rcases key 0 with ⟨r, h, -⟩ | h
      · rw [e] at h; cases h
      · exact h
    | some r =>
      refine ⟨_, List.mem_map.mpr ⟨hm r.g, hall _ (hlo _).1 (hlo _).2, rfl⟩, ?_⟩
      rcases key (hm r.g) with ⟨r', h, h', -⟩ | h
      · rw [e] at h; cases h; exact absurd rfl h'
      · exact h
theorem pair_heq {flag : Int} {cls : Int → Int} {sec : Bool} {f : Int → Int → Option (Nat × VR × VR)} {hm : Int → Int} {cs : List Int} (hlo : ∀ g, 0 ≤ hm g ∧ hm g < 3) (hall : ∀ c, 0 ≤ c → c < 3 → c ∈ cs) (rs : List Rec) (a : Int) :
    posAt flag cls rs a [.pair sec f] = posAt flag cls rs a (cs.map fun c => .pair sec (pairPart f hm c)) := by
  have key : ∀ c, (∃ r, rs[a.toNat]? = some r ∧ hm r.g ≠ c ∧ ¬ 0 ≤ ((Tab.pair sec (pairPart f hm c)).step flag cls rs a).1) ∨ (Tab.pair sec (pairPart f hm c)).step flag cls rs a = (Tab.pair sec f).step flag cls rs a := fun c => by
    cases e : rs[a.toNat]? with
    | none => right; simp [Tab.step, e]
    | some r =>
      cases e2 : rs[(nextI (igAt flag cls (rs.map (·.g))) rs.length a).toNat]? with
      | none => right; simp [Tab.step, e, e2]
      | some r2 =>
        by_cases h : hm r.g = c
        · right; simp [Tab.step, e, e2, pairPart, h]
        · left
          refine ⟨r, rfl, h, ?_⟩
          simp [Tab.step, e, e2, pairPart, h]
          
  refine posAt_part (fun t ht => ?_) ?_
  · obtain ⟨c, hc, rfl⟩ := List.mem_map.mp ht
    rcases key c with ⟨r, -, -, h⟩ | h
    · exact .inr h
    · exact .inl h
  · cases e : rs[a.toNat]? with
    | none =>
      refine ⟨_, List.mem_map.mpr ⟨0, hall 0 (by decide) (by decide), rfl⟩, ?_⟩
      rcases key 0 with ⟨r, h, -⟩ | h
      · rw [e] at h; cases h
      · exact h
    | some r =>
      refine ⟨_, List.mem_map.mpr ⟨hm r.g, hall _ (hlo _).1 (hlo _).2, rfl⟩, ?_⟩
      rcases key (hm r.g) with ⟨r', h, h', -⟩ | h
      · rw [e] at h; cases h; exact absurd rfl h'
      · exact h
theorem adj_has {f : Int → Option VR} {hm : Int → Int} {cs : List Int} (hlo : ∀ g, 0 ≤ hm g ∧ hm g < 3) (hall : ∀ c, 0 ≤ c → c < 3 → c ∈ cs) (g : Int) : has1 [.adj f] g ↔ has1 (cs.map fun c => .adj (adjPart f hm c)) g := by
  constructor
  · rintro ⟨t, ht, h⟩
    rw [List.mem_singleton.mp ht] at h
    exact ⟨_, List.mem_map.mpr ⟨hm g, hall _ (hlo _).1 (hlo _).2, rfl⟩, by simpa [Tab.has, adjPart] using h⟩
  · rintro ⟨t, ht, h⟩
    obtain ⟨c, hc, rfl⟩ := List.mem_map.mp ht
    refine ⟨_, .head _, ?_⟩
    simp only [Tab.has, adjPart] at h ⊢
    by_cases e : hm g = c
    · rwa [if_pos e] at h
    · rw [if_neg e] at h; cases h
theorem pair_has {sec : Bool} {f : Int → Int → Option (Nat × VR × VR)} {hm : Int → Int} {cs : List Int} (hlo : ∀ g, 0 ≤ hm g ∧ hm g < 3) (hall : ∀ c, 0 ≤ c → c < 3 → c ∈ cs) (g : Int) : has1 [.pair sec f] g ↔ has1 (cs.map fun c => .pair sec (pairPart f hm c)) g := by
  constructor
  · rintro ⟨t, ht, h⟩
    obtain rfl := List.mem_singleton.mp ht
    obtain ⟨y, h⟩ := h
    exact ⟨_, List.mem_map.mpr ⟨hm g, hall _ (hlo _).1 (hlo _).2, rfl⟩, y, by simpa [pairPart] using h⟩
  · rintro ⟨t, ht, h⟩
    obtain ⟨c, hc, rfl⟩ := List.mem_map.mp ht
    obtain ⟨y, h⟩ := h
    refine ⟨_, .head _, y, ?_⟩
    simp only [pairPart] at h
    by_cases e : hm g = c
    · rwa [if_pos e] at h
    · rw [if_neg e] at h; cases h

/-! the lookups -/
noncomputable def vrOf (vrs : List (Int × VR)) (g : Int) : Option VR := (vrs.find? fun p => decide (p.1 = g)).map (·.2)
noncomputable def kvOf (vrs : List (Int × VR)) : List (Int × Value) := vrs.map fun p => (p.1, .ref p.2.a)
theorem valueAt_kvOf (vrs : List (Int × VR)) (g : Int) : valueAt (kvOf vrs) g = (vrOf vrs g).map fun u => Value.ref u.a := by
  induction vrs with
  | nil => rfl
  | cons p ps ih =>
    unfold valueAt kvOf vrOf at *
    by_cases h : p.1 = g
    · simp [h]
    · simpa [h] using ih
theorem vrOf_filter (vrs : List (Int × VR)) (hm : Int → Int) (c g : Int) : vrOf (vrs.filter fun p => decide (hm p.1 = c)) g = adjPart (vrOf vrs) hm c g := by
  unfold adjPart
  induction vrs with
  | nil => simp [vrOf]
  | cons p ps ih =>
    unfold vrOf at *
    by_cases h1 : hm p.1 = c <;> by_cases h2 : p.1 = g
    · subst h2; simp [h1]
    · simp only [List.filter_cons, h1, decide_true, if_true, List.find?_cons, h2, decide_false]; exact ih
    · subst h2
      simp only [List.filter_cons, h1, decide_false, Bool.false_eq_true, if_false]
      rw [ih]; simp [h1]
    · simp only [List.filter_cons, h1, decide_false, Bool.false_eq_true, if_false, List.find?_cons, h2]; exact ih
theorem kvOf_filter (vrs : List (Int × VR)) (q : Int → Bool) : (kvOf vrs).filter (fun kv => q kv.1) = kvOf (vrs.filter fun p => q p.1) := by
  unfold kvOf
  rw [List.filter_map]
  rfl
theorem atKey_filter (xs : List (List Int × Addr × Value)) (q : List Int → Bool) (k : List Int) : atKey (xs.filter fun x => q x.1) k = if q k = true then atKey xs k else none := by
  induction xs with
  | nil => simp [atKey]
  | cons x xs ih =>
    unfold atKey at *
    by_cases h1 : q x.1 = true <;> by_cases h2 : x.1 = k
    · subst h2; simp [h1]
    · simp only [List.filter_cons, h1, if_true, List.find?_cons, h2, decide_false]; exact ih
    · subst h2
      simp only [List.filter_cons, h1, Bool.false_eq_true, if_false]
      rw [ih]; simp [h1]
    · simp only [List.filter_cons, h1, Bool.false_eq_true, if_false, List.find?_cons, h2, decide_false]; exact ih
section
variable {prog : Program} {w : World}
theorem adjTab_of {src : Ledger} {tab D : Nat} {oD : Obj} {vrs : List (Int × VR)} (hm : MadeAdj w.params tab D src) (hD : (D, oD) ∈ src) (lo : NotSys D) (hk : oD.IsDictOf (PySem.intKind prog w) (kvOf vrs)) (hl : vrs.length ≤ 1000) (hv : ∀ p ∈ vrs, ∀ q ∈ p.2.led w.params, q ∈ src) : AdjTab prog w src tab (vrOf vrs) := by
  obtain ⟨dx, kt, h1, h2⟩ := hm
  refine ⟨⟨dx, D, oD, kvOf vrs, kt, h1, h2, hD, lo, hk, valueAt_kvOf vrs, by simpa [kvOf] using hl⟩, fun g u hu => ?_⟩
  obtain ⟨p, hp, rfl⟩ := Option.map_eq_some_iff.mp hu
  exact hv p (List.mem_of_find?_eq_some hp)
theorem lk_adj {src : Ledger} {z : Sc} {tab D nt : Nat} {oD : Obj} {vrs : List (Int × VR)} (hz : z.kind = "adjust") (hm : MadeAdj w.params tab D src) (hD : (D, oD) ∈ src) (lo : NotSys D) (hk : oD.IsDictOf (PySem.intKind prog w) (kvOf vrs)) (hl : vrs.length ≤ 1000) (hv : ∀ p ∈ vrs, ∀ q ∈ p.2.led w.params, q ∈ src) (h6 : ∀ p ∈ vrs, 0 ≤ p.1 ∧ p.1 < 6)
    (ht : (z.tbl, listOf [Value.ref tab].toArray nt) ∈ src) : LkOk prog w src z [(tab, .adj (vrOf vrs))] nt := by
  refine ⟨fun x hx => ?_, fun x hx g hg => ?_, ht, Nat.le_of_ble_eq_true rfl⟩
  · rw [List.mem_singleton.mp hx]; exact ⟨hz, adjTab_of hm hD lo hk hl hv⟩
  · rw [List.mem_singleton.mp hx] at hg
    obtain ⟨u, hu⟩ := Option.isSome_iff_exists.mp (show (vrOf vrs g).isSome = true from hg)
    obtain ⟨p, hp, -⟩ := Option.map_eq_some_iff.mp hu
    have e : p.1 = g := by simpa using List.find?_some hp
    rw [← e]; exact h6 p (List.mem_of_find?_eq_some hp)
theorem lk_part_adj {src more : Ledger} {z : Sc} {nt : Nat} {es : Array DictEntry} {vrs : List (Int × VR)} {ts : List (Nat × Nat × Obj × Int)} {hm : Int → Int} (hz : z.kind = "adjust") (hes : es.size = vrs.length)
    (P : Parts es (fun i => (kvAt (kvOf vrs) i).1) (fun idx o => o.IsDictOf (PySem.intKind prog w) (idx.map (kvAt (kvOf vrs)))) (MadeAdj w.params) ts hm more) (hs : ∀ p ∈ more, p ∈ src) (hl : vrs.length ≤ 1000) (hv : ∀ p ∈ vrs, ∀ q ∈ p.2.led w.params, q ∈ src) (h6 : ∀ p ∈ vrs, 0 ≤ p.1 ∧ p.1 < 6)
    (ht : (z.tbl, listOf (ts.map fun t => Value.ref t.1).toArray nt) ∈ src) : LkOk prog w src z (ts.map fun t => (t.1, .adj (adjPart (vrOf vrs) hm t.2.2.2))) nt := by
  refine ⟨fun x hx => ?_, fun x hx g hg => ?_, by rw [List.map_map]; exact ht, by rw [List.length_map]; exact Nat.le_trans P.len (by decide)⟩
  · obtain ⟨t, htm, rfl⟩ := List.mem_map.mp hx
    obtain ⟨h1, h2, h3, dx, kt, h4, h5⟩ := P.at' t htm
    refine ⟨hz, ?_⟩
    have e : adjPart (vrOf vrs) hm t.2.2.2 = vrOf (vrs.filter fun p => decide (hm p.1 = t.2.2.2)) := funext fun g => (vrOf_filter vrs hm _ g).symm
    have hlen : es.size = (kvOf vrs).length := by rw [hes]; simp [kvOf]
    rw [hlen] at h3
    rw [show ((List.range (kvOf vrs).length).filter fun i => decide (hm (kvAt (kvOf vrs) i).1 = t.2.2.2)).map (kvAt (kvOf vrs)) = kvOf (vrs.filter fun p => decide (hm p.1 = t.2.2.2)) from (filter_idx (fun kv : Int × Value => decide (hm kv.1 = t.2.2.2)) (0, .none) (kvOf vrs)).trans (kvOf_filter vrs fun k => decide (hm k = t.2.2.2))] at h3
    show AdjTab prog w src t.1 (adjPart (vrOf vrs) hm t.2.2.2)
    rw [e]
    exact adjTab_of ⟨dx, kt, hs _ h4, hs _ h5⟩ (hs _ h1) h2 h3 (Nat.le_trans (List.length_filter_le _ _) hl) fun p hp => hv p (List.mem_filter.mp hp).1
  · obtain ⟨t, htm, rfl⟩ := List.mem_map.mp hx
    have hg : (adjPart (vrOf vrs) hm t.2.2.2 g).isSome = true := hg
    unfold adjPart at hg
    by_cases e : hm g = t.2.2.2
    · rw [if_pos e] at hg
      obtain ⟨u, hu⟩ := Option.isSome_iff_exists.mp hg
      obtain ⟨p, hp, -⟩ := Option.map_eq_some_iff.mp hu
      have e : p.1 = g := by simpa using List.find?_some hp
      rw [← e]; exact h6 p (List.mem_of_find?_eq_some hp)
    · rw [if_neg e] at hg; cases hg
/-- a table of pairs, all said -/
structure PX (prog : Program) (w : World) (src : Ledger) (D : Nat) (oD : Obj) (es : Array DictEntry) (ep : Nat) (xs : List (List Int × Addr × Value)) (ff : Int → Int → Option (Nat × VR × VR)) : Prop where
  m : (D, oD) ∈ src
  lo : NotSys D
  ex : oD.ExactDict
  dat : oD.data = .dict es ep
  hes : es.toList = xs.map (entryOfKey (tupleKind (PySem.intKind prog w)))
  ks : ∀ x ∈ xs, ∃ ok, (x.2.1, ok) ∈ src ∧ TupKeyObj (PySem.intKind prog w) x.1 ok
  n : (xs.map (·.1)).Nodup
  kk : ∀ x ∈ xs, ∃ a b, x.1 = [a, b] ∧ 0 ≤ a ∧ a < 6
  at' : ∀ a b, (atKey xs [a, b]).map (·.2) = (ff a b).map fun t => Value.ref t.1
  l : xs.length ≤ 100
  val : ∀ a b t, ff a b = some t → (∃ n, (t.1, ({ cls := .type "tuple", data := .seq #[.ref t.2.1.a, .ref t.2.2.a] n } : Obj)) ∈ src) ∧ (∀ p ∈ t.2.1.led w.params, p ∈ src) ∧ ∀ p ∈ t.2.2.led w.params, p ∈ src
theorem PX.lo6 {src : Ledger} {D : Nat} {oD : Obj} {es : Array DictEntry} {ep : Nat} {xs : List (List Int × Addr × Value)} {ff : Int → Int → Option (Nat × VR × VR)} (h : PX prog w src D oD es ep xs ff) {a b : Int} (hf : (ff a b).isSome = true) : 0 ≤ a ∧ a < 6 := by
  have h1 := congrArg Option.isSome (h.at' a b)
  rw [Option.isSome_map, Option.isSome_map, hf] at h1
  obtain ⟨x, hx, e⟩ := mem_atKey.mp h1
  obtain ⟨a', b', e', h2, h3⟩ := h.kk x hx
  rw [e] at e'
  obtain rfl : a = a' := (List.cons.inj e').1
  exact ⟨h2, h3⟩
theorem PX.whole {src : Ledger} {D : Nat} {oD : Obj} {es : Array DictEntry} {ep : Nat} {xs : List (List Int × Addr × Value)} {ff : Int → Int → Option (Nat × VR × VR)} (h : PX prog w src D oD es ep xs ff) : PairD prog w src D ff :=
  pairD_of (f0 := ff) h.m h.lo h.ex h.dat h.hes (fun _ h => h) h.ks h.n (fun x hx => let ⟨a, b, e, _⟩ := h.kk x hx; ⟨a, b, e⟩) h.at' (Nat.le_trans h.l (by decide)) (fun _ _ _ h => h) h.val
theorem lk_pair {src : Ledger} {z : Sc} {tab D nt : Nat} {sec : Bool} {oD : Obj} {es : Array DictEntry} {ep : Nat} {xs : List (List Int × Addr × Value)} {ff : Int → Int → Option (Nat × VR × VR)} (hz : z.kind = "pair") (hm : MadePair w.params sec tab D src) (h : PX prog w src D oD es ep xs ff)
    (ht : (z.tbl, listOf [Value.ref tab].toArray nt) ∈ src) : LkOk prog w src z [(tab, .pair sec ff)] nt := by
  obtain ⟨dx, k1, k2, h1, h2⟩ := hm
  refine ⟨fun x hx => ?_, fun x hx g hg => ?_, ht, Nat.le_of_ble_eq_true rfl⟩
  · rw [List.mem_singleton.mp hx]
    exact ⟨hz, h.whole.tab (fun _ h => h) h1 h2⟩
  · rw [List.mem_singleton.mp hx] at hg
    obtain ⟨y, hy⟩ := (show ∃ y, (ff g y).isSome = true from hg)
    exact h.lo6 hy
theorem lk_part_pair {src more : Ledger} {z : Sc} {nt D : Nat} {sec : Bool} {oD : Obj} {es : Array DictEntry} {ep : Nat} {xs : List (List Int × Addr × Value)} {ff : Int → Int → Option (Nat × VR × VR)} {ts : List (Nat × Nat × Obj × Int)} {hm : Int → Int} (hz : z.kind = "pair") (h : PX prog w src D oD es ep xs ff)
    (P : Parts es (fun i => (xAt xs i).1.headD 0) (fun idx o => ∃ es' ep', o.ExactDict ∧ o.data = .dict es' ep' ∧ es'.toList = (idx.map (xAt xs)).map (entryOfKey (tupleKind (PySem.intKind prog w)))) (MadePair w.params sec) ts hm more) (hs : ∀ p ∈ more, p ∈ src)
    (ht : (z.tbl, listOf (ts.map fun t => Value.ref t.1).toArray nt) ∈ src) : LkOk prog w src z (ts.map fun t => (t.1, .pair sec (pairPart ff hm t.2.2.2))) nt := by
  have hlen : es.size = xs.length := by rw [← Array.length_toList, h.hes, List.length_map]
  refine ⟨fun x hx => ?_, fun x hx g hg => ?_, by rw [List.map_map]; exact ht, by rw [List.length_map]; exact Nat.le_trans P.len (by decide)⟩
  · obtain ⟨t, htm, rfl⟩ := List.mem_map.mp hx
    obtain ⟨h1, h2, ⟨es', ep', h3, h4, h5⟩, dx, k1, k2, h6, h7⟩ := P.at' t htm
    refine ⟨hz, ?_⟩
    show PairTab prog w src t.1 sec (pairPart ff hm t.2.2.2)
    rw [hlen] at h5
    rw [show ((List.range xs.length).filter fun i => decide (hm ((xAt xs i).1.headD 0) = t.2.2.2)).map (xAt xs) = xs.filter (fun x => decide (hm (x.1.headD 0) = t.2.2.2)) from filter_idx (fun x : List Int × Addr × Value => decide (hm (x.1.headD 0) = t.2.2.2)) ([], 0, .none) xs] at h5
    refine (pairD_of (f0 := ff) (hs _ h1) h2 h3 h4 h5 (fun x hx => (List.mem_filter.mp hx).1) h.ks (h.n.sublist (List.filter_sublist.map _)) (fun x hx => let ⟨a, b, e, _⟩ := h.kk x hx; ⟨a, b, e⟩) (fun a b => ?_) (Nat.le_trans (List.length_filter_le _ _) (Nat.le_trans h.l (by decide))) (fun a b u hu => ?_) h.val).tab (fun _ h => h) (hs _ h6) (hs _ h7)
    · rw [atKey_filter xs (fun k => decide (hm (k.headD 0) = t.2.2.2)) [a, b]]
      unfold pairPart
      by_cases e : hm a = t.2.2.2
      · rw [if_pos e, if_pos (by simpa using e)]; exact h.at' a b
      · rw [if_neg e, if_neg (by simpa using e)]; rfl
    · unfold pairPart at hu
      by_cases e : hm a = t.2.2.2
      · rwa [if_pos e] at hu
      · rw [if_neg e] at hu; cases hu
  · obtain ⟨t, htm, rfl⟩ := List.mem_map.mp hx
    obtain ⟨y, hy⟩ := (show ∃ y, (pairPart ff hm t.2.2.2 g y).isSome = true from hg)
    unfold pairPart at hy
    by_cases e : hm g = t.2.2.2
    · rw [if_pos e] at hy; exact h.lo6 hy
    · rw [if_neg e] at hy; cases hy
end
/-! the table of pairs, built entry by entry -/
theorem atKey_putAt {xs : List (List Int × Addr × Value)} {k k' : List Int} {v : Value} : (atKey (xs.map (putAt k v)) k').map (·.2) = if k' = k ∧ (atKey xs k).isSome = true then some v else (atKey xs k').map (·.2) := by
  induction xs with
  | nil => simp [atKey]
  | cons x xs ih =>
    unfold atKey at *
    have e : (putAt k v x).1 = x.1 := by unfold putAt; split <;> rfl
    simp only [List.map_cons, List.find?_cons, e]
    by_cases h1 : x.1 = k'
    · by_cases h2 : k' = k
      · simp [h1, h2, putAt]
      · have h3 : ¬ x.1 = k := fun h => h2 (h1.symm.trans h)
        simp [h1, h2, putAt]
    · by_cases h2 : x.1 = k
      · have h3 : ¬ k' = k := fun h => h1 (h2.trans h.symm)
        simp only [h1, decide_false]
        rw [ih]; simp [h3]
      · simp only [h1, h2, decide_false]
        exact ih
theorem atKey_storedH {xs : List (List Int × Addr × Value)} {k k' : List Int} {a : Addr} {v : Value} : (atKey (storedH xs k a v) k').map (·.2) = if k' = k then some v else (atKey xs k').map (·.2) := by
  unfold storedH
  split
  · rename_i h
    rw [atKey_putAt]; simp [h]
  · rename_i h
    unfold atKey at *
    rw [List.find?_append]
    by_cases e : k' = k
    · subst e
      cases q : xs.find? fun x => decide (x.1 = k') with
      | none => simp
      | some p => rw [q] at h; simp at h
    · have e2 : ¬ k = k' := fun h => e h.symm
      cases q : xs.find? fun x => decide (x.1 = k') with
      | none => simp [e, e2]
      | some p => simp [e]
theorem len_storedH {xs : List (List Int × Addr × Value)} {k : List Int} {a : Addr} {v : Value} : (storedH xs k a v).length ≤ xs.length + 1 := by
  unfold storedH
  split <;> simp
/-- what the table's loop keeps, but for the dict -/
structure PY (prog : Program) (w : World) (src : Ledger) (xs : List (List Int × Addr × Value)) (ff : Int → Int → Option (Nat × VR × VR)) : Prop where
  ks : ∀ x ∈ xs, ∃ ok, (x.2.1, ok) ∈ src ∧ TupKeyObj (PySem.intKind prog w) x.1 ok
  n : (xs.map (·.1)).Nodup
  kk : ∀ x ∈ xs, ∃ a b, x.1 = [a, b] ∧ 0 ≤ a ∧ a < 6
  at' : ∀ a b, (atKey xs [a, b]).map (·.2) = (ff a b).map fun t => Value.ref t.1
  val : ∀ a b t, ff a b = some t → (∃ n, (t.1, ({ cls := .type "tuple", data := .seq #[.ref t.2.1.a, .ref t.2.2.a] n } : Obj)) ∈ src) ∧ (∀ p ∈ t.2.1.led w.params, p ∈ src) ∧ ∀ p ∈ t.2.2.led w.params, p ∈ src
section
variable {prog : Program} {w : World}
theorem PY.nil {src : Ledger} : PY prog w src [] fun _ _ => none :=
  ⟨fun _ h => (nomatch h), .nil, fun _ h => (nomatch h), fun _ _ => rfl, fun _ _ _ h => (nomatch h)⟩
theorem PY.up {src src' : Ledger} {xs : List (List Int × Addr × Value)} {ff : Int → Int → Option (Nat × VR × VR)} (h : PY prog w src xs ff) (hs : ∀ p ∈ src, p ∈ src') : PY prog w src' xs ff :=
  ⟨fun x hx => let ⟨ok, e1, e2⟩ := h.ks x hx; ⟨ok, hs _ e1, e2⟩, h.n, h.kk, h.at', fun a b t ht => let ⟨⟨n, e1⟩, e2, e3⟩ := h.val a b t ht; ⟨⟨n, hs _ e1⟩, fun p hp => hs _ (e2 p hp), fun p hp => hs _ (e3 p hp)⟩⟩
noncomputable def ffPut (ff : Int → Int → Option (Nat × VR × VR)) (a b : Int) (t : Nat × VR × VR) (x y : Int) : Option (Nat × VR × VR) := if x = a ∧ y = b then some t else ff x y
theorem PY.put {src : Ledger} {xs : List (List Int × Addr × Value)} {ff : Int → Int → Option (Nat × VR × VR)} {kA T n : Nat} {ok : Obj} {a b : Int} {u u' : VR} (h : PY prog w src xs ff) (hk : (kA, ok) ∈ src) (tk : TupKeyObj (PySem.intKind prog w) [a, b] ok) (hn : ((storedH xs [a, b] kA (.ref T)).map (·.1)).Nodup) (ha : 0 ≤ a ∧ a < 6)
    (hT : (T, ({ cls := .type "tuple", data := .seq #[.ref u.a, .ref u'.a] n } : Obj)) ∈ src) (hu : ∀ p ∈ u.led w.params, p ∈ src) (hu' : ∀ p ∈ u'.led w.params, p ∈ src) : PY prog w src (storedH xs [a, b] kA (.ref T)) (ffPut ff a b (T, u, u')) := by
  refine ⟨fun x hx => ?_, hn, fun x hx => ?_, fun x y => ?_, fun x y t ht => ?_⟩
  · rcases mem_storedH hx with ⟨y, hy, e1, e2⟩ | ⟨e1, e2⟩
    · rw [e1, e2]; exact h.ks y hy
    · rw [e1, e2]; exact ⟨ok, hk, tk⟩
  · rcases mem_storedH hx with ⟨y, hy, e1, e2⟩ | ⟨e1, e2⟩
    · rw [e1]; exact h.kk y hy
    · exact ⟨a, b, e1, ha⟩
  · rw [atKey_storedH]
    unfold ffPut
    by_cases e : x = a ∧ y = b
    · rw [if_pos e, if_pos (by rw [e.1, e.2])]; rfl
    · rw [if_neg e, if_neg (fun q => e (by simpa using q))]
      exact h.at' x y
  · unfold ffPut at ht
    by_cases e : x = a ∧ y = b
    · rw [if_pos e] at ht
      obtain rfl := Option.some.inj ht
      exact ⟨⟨n, hT⟩, hu, hu'⟩
    · rw [if_neg e] at ht
      exact h.val x y t ht
theorem PY.px {src src' : Ledger} {D : Nat} {oD : Obj} {es : Array DictEntry} {ep : Nat} {xs : List (List Int × Addr × Value)} {ff : Int → Int → Option (Nat × VR × VR)} (h : PY prog w src xs ff) (hs : ∀ p ∈ src, p ∈ src') (hD : (D, oD) ∈ src') (lo : NotSys D) (hx : oD.ExactDict) (hd : oD.data = .dict es ep) (hes : es.toList = xs.map (entryOfKey (tupleKind (PySem.intKind prog w)))) (hl : xs.length ≤ 100) : PX prog w src' D oD es ep xs ff :=
  ⟨hD, lo, hx, hd, hes, (h.up hs).ks, h.n, h.kk, h.at', hl, (h.up hs).val⟩
theorem setItem_px {A : Around} {E : Value → Shared → Prop} {s : Shared} {b : Heap} {L d a : Addr} {m : Str → Option Value} {news : Ledger} {g : Obj → List (Addr × Obj)} {oD ok : Obj} {es : Array DictEntry} {ep : Nat} {xs : List (List Int × Addr × Value)} {ks : List Int} {v : Value} {Q : Unit → Shared → Prop} (hu : A.units + 1 < cLine)
    (F : Fr b L s.heap m) (N : News b L s.heap news) (U : UpdF d oD news g) (hex : oD.ExactDict) (hd : oD.data = .dict es ep) (hes : es.toList = xs.map (entryOfKey (tupleKind (PySem.intKind prog w)))) (hks : ∀ x ∈ xs, ∃ ok, (x.2.1, ok) ∈ news ∧ TupKeyObj (PySem.intKind prog w) x.1 ok) (hn : (xs.map (·.1)).Nodup) (hl : xs.length ≤ 100)
    (hka : (a, ok) ∈ news) (tk : TupKeyObj (PySem.intKind prog w) ks ok)
    (h : ∀ h' o' es' ep' t, Fr b L h' m → News b L h' (g o') → o'.ExactDict → o'.data = .dict es' ep' → es'.toList = (storedH xs ks a v).map (entryOfKey (tupleKind (PySem.intKind prog w))) → ((storedH xs ks a v).map (·.1)).Nodup → Q () { s with heap := h', toks := t }) :
    wpAny (model prog w) A (setItem (.ref d) (.ref a) v) Q E s := by
  obtain ⟨own, rest, rfl, hg, h1, h2⟩ := U.split
  have hm : (d, oD) ∈ own ++ (d, oD) :: rest := List.mem_append_right _ (.head _)
  have hD : s.heap.DictOfH (tupleKind (PySem.intKind prog w)) d xs := ⟨oD, es, ep, (N _ hm).1, hex, hd, hes, fun x hx => let ⟨_, hmk, t⟩ := hks x hx; t.key (N _ hmk).1, hn⟩
  refine wpAny_setItem_heap (hsz := by rw [sizeLine_eq]; exact o_le hl rfl) (knd := tupleKind (PySem.intKind prog w)) (tupleKind_room_in1 hu) (tk.key (N _ hka).1) hD fun h' hm' hs => ?_
  obtain ⟨o', es', ep', ho', hc', hd', he', _, hn'⟩ := hm'
  refine h h' o' es' ep' _ (F.change hs (N _ hm).2.1 (N _ hm).2.2) (fun p hp => ?_) hc' hd' he' hn'
  rw [hg] at hp
  rcases List.mem_append.mp hp with hp | hp
  · exact ⟨(hs.2 _ (h1 p hp)).trans (N p (List.mem_append_left _ hp)).1, (N p (List.mem_append_left _ hp)).2⟩
  · rcases List.mem_cons.mp hp with rfl | hp
    · exact ⟨ho', (N _ hm).2⟩
    · exact ⟨(hs.2 _ (h2 p hp)).trans (N p (List.mem_append_right _ (.tail _ hp))).1, (N p (List.mem_append_right _ (.tail _ hp))).2⟩
end

/-! the law -/
theorem Off.app {a b : Ledger} {as : List Nat} (h1 : Off a as) (h2 : Off b as) : Off (a ++ b) as := fun p hp => (List.mem_append.mp hp).elim (h1 p) (h2 p)
theorem Off.cons {x : Nat} {o : Obj} {b : Ledger} {as : List Nat} (h1 : x ∉ as) (h2 : Off b as) : Off ((x, o) :: b) as := fun p hp => by
  rcases List.mem_cons.mp hp with rfl | hp
  · exact h1
  · exact h2 p hp
theorem Off.made {made news : Ledger} {as : List Nat} (hn : ∀ p ∈ made, ∀ q ∈ news, @Ne Nat p.1 q.1) (h : ∀ a ∈ as, ∃ o, ((a, o) : Addr × Obj) ∈ news) : Off made as := fun p hp hm => by
  obtain ⟨o, ho⟩ := h _ hm
  exact hn p hp _ ho rfl
theorem in_six {c1 c2 c3 c4 c5 c6 : Nat} {o1 o2 o3 o4 o5 o6 : Obj} {l : Ledger} (h1 : (c1, o1) ∈ l) (h2 : (c2, o2) ∈ l) (h3 : (c3, o3) ∈ l) (h4 : (c4, o4) ∈ l) (h5 : (c5, o5) ∈ l) (h6 : (c6, o6) ∈ l) : ∀ a ∈ [c1, c2, c3, c4, c5, c6], ∃ o, ((a, o) : Addr × Obj) ∈ l := by
  intro a ha
  simp only [List.mem_cons, List.not_mem_nil, or_false] at ha
  rcases ha with rfl | rfl | rfl | rfl | rfl | rfl
  · exact ⟨o1, h1⟩
  · exact ⟨o2, h2⟩
  · exact ⟨o3, h3⟩
  · exact ⟨o4, h4⟩
  · exact ⟨o5, h5⟩
  · exact ⟨o6, h6⟩
theorem absorb {b h : Heap} {L : Addr} {X made R : Ledger} (N : News b L h (made ++ (X ++ R))) : News b L h (X ++ (made ++ R)) := fun p hp => by
  rcases List.mem_append.mp hp with hp | hp
  · exact N p (List.mem_append_right _ (List.mem_append_left _ hp))
  · rcases List.mem_append.mp hp with hp | hp
    · exact N p (List.mem_append_left _ hp)
    · exact N p (List.mem_append_right _ (List.mem_append_right _ hp))
theorem pack {b h : Heap} {L : Addr} {X M R : Ledger} {as : List Nat} (N : News b L h (M ++ (X ++ R))) (hM : Off M as) (hR : Off R as) : ∃ R2 : Ledger, Off R2 as ∧ (∀ p ∈ M, p ∈ R2) ∧ (∀ p ∈ R, p ∈ R2) ∧ News b L h (X ++ R2) :=
  ⟨M ++ R, hM.app hR, fun _ hp => List.mem_append_left _ hp, fun _ hp => List.mem_append_right _ hp, absorb N⟩
theorem pack2 {b h : Heap} {L : Addr} {X M R : Ledger} {as : List Nat} (N : News b L h (M ++ (X ++ R))) (hM : Off M as) (hR : Off R as) : ∃ R2 : Ledger, Off R2 as ∧ (∀ p ∈ M, p ∈ R2) ∧ (∀ p ∈ R, p ∈ R2) ∧ (∀ p ∈ R2, p ∈ M ∨ p ∈ R) ∧ News b L h (X ++ R2) :=
  ⟨M ++ R, hM.app hR, fun _ hp => List.mem_append_left _ hp, fun _ hp => List.mem_append_right _ hp, fun _ hp => List.mem_append.mp hp, absorb N⟩
theorem led_fresh {P : Params} {u : VR} {pen : Nat} {news : Ledger} {o : Obj} (hfr : ∀ q ∈ (pen, o) :: u.led P, @Ne Nat q.1 pen → ∀ r ∈ news, @Ne Nat r.1 q.1) (ua : @Ne Nat u.a pen) (ud : @Ne Nat u.d pen) : ∀ p ∈ u.led P, ∀ q ∈ news, @Ne Nat p.1 q.1 := fun p hp q hq => by
  refine Ne.symm (hfr p (.tail _ hp) ?_ q hq)
  rcases List.mem_cons.mp hp with h | hp
  · rw [h]; exact ua
  · rw [List.mem_singleton.mp hp]; exact ud
theorem snoc_at {α : Type} {Rr : Ledger} {zs : List Value} {vrs : List α} {z : Value} {x : α} {Pp : Value → α → Prop} (hl : zs.length = vrs.length) (hat : ∀ (i : Nat) (v : Value) (p : α), zs[i]? = some v → vrs[i]? = some p → Pp v p) (hz : Pp z x) : ∀ (i : Nat) (v : Value) (p : α), (zs ++ [z])[i]? = some v → (vrs ++ [x])[i]? = some p → Pp v p := by
  intro i v p hv hp
  by_cases hi : i < vrs.length
  · rw [List.getElem?_append_left (by omega)] at hv hp
    exact hat i v p hv hp
  · have hlt := (List.getElem?_eq_some_iff.mp hp).1
    simp at hlt
    obtain rfl : i = vrs.length := by exact o_last hi hlt
    rw [List.getElem?_append_right (by omega)] at hv hp
    simp [hl] at hv hp
    rw [← hv, ← hp]; exact hz
noncomputable abbrev mkSc (gd dg c dc D lk dlk tbl : Nat) (kl kk : Nat → Tok) (oD : Obj) (at_ sets pts car : Value) (kind : Str) (flag : Int) : Sc :=
  ⟨0, 0, 0, 0, 0, 0, gd, dg, c, dc, D, lk, dlk, tbl, 0, 0, kk, kk, kk, kl, oD, at_, sets, pts, car, kind, flag⟩
theorem in_cons {c : Nat} {o : Obj} {as : List Nat} {l : Ledger} (h : (c, o) ∈ l) (h2 : ∀ a ∈ as, ∃ o, ((a, o) : Addr × Obj) ∈ l) : ∀ a ∈ c :: as, ∃ o, ((a, o) : Addr × Obj) ∈ l := fun a ha => by
  rcases List.mem_cons.mp ha with rfl | ha
  · exact ⟨o, h⟩
  · exact h2 a ha
theorem two_of {a b : Str} {m' m0 : Str → Option Value} (h : ∀ y, y ≠ a → y ≠ b → m' y = m0 y) : ∃ oa ob, m' = fun y => if y = a then oa else if y = b then ob else m0 y := ⟨m' a, m' b, funext fun y => by
  by_cases h1 : y = a
  · rw [if_pos h1, h1]
  · rw [if_neg h1]
    by_cases h2 : y = b
    · rw [if_pos h2, h2]
    · rw [if_neg h2]; exact h y h1 h2⟩
theorem tup_ints {prog : Program} {w : World} (a b : Int) (ta tb : Tok) : TupKeyObj (PySem.intKind prog w) [a, b] ({ cls := .type "tuple", data := .seq #[.int a ta, .int b tb] } : Obj) :=
  TupKeyObj.made (vs := [.int a ta, .int b tb]) (.cons (intKind_is _ _ _ _) (.cons (intKind_is _ _ _ _) .nil))
theorem hi_cons {a c : Nat} {o : Obj} {R news : Ledger} {b : Heap} (h1 : (a, o) ∈ news) (h2 : @Ne Nat a c) (hR : ∀ p ∈ R, p ∈ news ∧ @Ne Nat p.1 c) : ∀ p ∈ ((a, o) :: R : Ledger), (p ∈ news ∧ @Ne Nat p.1 c) ∨ b.get? p.1 = some p.2 := fun p hp => by
  rcases List.mem_cons.mp hp with rfl | hp
  · exact .inl ⟨h1, h2⟩
  · exact .inl (hR p hp)
theorem Off.one {T : Nat} {o : Obj} {l : Ledger} {as : List Nat} (h : ∀ p ∈ l, @LT.lt Nat _ p.1 T) (hin : ∀ a ∈ as, ∃ o, ((a, o) : Addr × Obj) ∈ l) : Off [(T, o)] as := fun p hp hm => by
  rw [List.mem_singleton.mp hp] at hm
  obtain ⟨o', ho⟩ := hin T hm
  exact Nat.lt_irrefl _ (h _ ho)
theorem off_lt {T : Nat} {l : Ledger} {as : List Nat} (h : ∀ p ∈ l, @LT.lt Nat _ p.1 T) (hin : ∀ a ∈ as, ∃ o, ((a, o) : Addr × Obj) ∈ l) : T ∉ as := fun hm => by
  obtain ⟨o, ho⟩ := hin T hm
  exact Nat.lt_irrefl _ (h _ ho)
noncomputable def clsKvs (cs : List (Int × Tok)) : List (Int × Value) := (List.range 6).map fun i : Nat => ((i : Int), Value.int (cs.getD i (1, 0)).1 (cs.getD i (1, 0)).2)
theorem clsKvs_at {cs : List (Int × Tok)} {i : Nat} {kv : Int × Value} (h : (clsKvs cs)[i]? = some kv) : i < 6 ∧ kv = ((i : Int), Value.int (cs.getD i (1, 0)).1 (cs.getD i (1, 0)).2) := by
  unfold clsKvs at h
  rw [List.getElem?_map] at h
  obtain ⟨j, hj, e⟩ := Option.map_eq_some_iff.mp h
  obtain ⟨h1, h2⟩ := List.getElem?_eq_some_iff.mp hj
  simp at h1 h2
  subst h2
  exact ⟨h1, e.symm⟩
theorem clsKvs_nodup (cs : List (Int × Tok)) : ((clsKvs cs).map (·.1)).Nodup := by
  have e : (clsKvs cs).map (·.1) = (List.range 6).map fun i : Nat => (i : Int) := by simp [clsKvs]
  rw [e]; decide
theorem cls_ok {prog : Program} {w : World} {D : Nat} {oD : Obj} {cs : List (Int × Tok)} (lo : NotSys D) (hk : oD.IsDictOf (PySem.intKind prog w) (clsKvs cs)) (h13 : ∀ x ∈ cs, x.1 = 1 ∨ x.1 = 3) : ClsOk prog w D oD (fun g => (cs.getD g.toNat (1, 0)).1) := by
  refine ⟨lo, ⟨clsKvs cs, hk, fun g h0 h6 => ⟨(cs.getD g.toNat (1, 0)).2, ?_⟩⟩, fun g => ?_⟩
  · have hm : (g, Value.int (cs.getD g.toNat (1, 0)).1 (cs.getD g.toNat (1, 0)).2) ∈ clsKvs cs := List.mem_map.mpr ⟨g.toNat, List.mem_range.mpr (by exact o_tn h0 h6), by rw [show ((g.toNat : Nat) : Int) = g by exact o_tnc h0]⟩
    exact valueAt_mem (kv := (g, _)) (clsKvs_nodup cs) hm
  · show (cs.getD g.toNat (1, 0)).1 = 1 ∨ (cs.getD g.toNat (1, 0)).1 = 3
    rw [List.getD_eq_getElem?_getD]
    cases q : cs[g.toNat]? with
    | none => exact .inl rfl
    | some x => exact h13 x (List.mem_of_getElem? q)
theorem ints_kf {vs : List Value} {ns : List Int} (h : IntsAre vs ns) : kf_ints vs = true := by
  induction h with
  | nil => rfl
  | cons n t h ih => exact ih
noncomputable def IR.masked (q : IR) (mk : Int) (t1 t2 : Tok) : IR := ⟨q.x, q.dx, q.k, fun i => if i = 3 then t1 else if i = 10 then t2 else q.v i, ⟨q.r.g, q.r.cl, mk, q.r.un, 100, q.r.ya, q.r.xo, q.r.yo⟩⟩
theorem focus_news {P : Params} {b h : Heap} {L : Addr} {y : Addr × Obj} {X : Ledger} {rows : List IR} {i : Nat} {q : IR} (hq : rows[i]? = some q) (N : News b L h (y :: (X ++ rowsLed P rows))) : News b L h ((q.dx, q.obj P) :: (X ++ ((q.x, instObj 135 q.dx) :: rowsLed P (rows.eraseIdx i)))) := fun p hp => by
  have hm := mem_rowsLed (P := P) (List.mem_of_getElem? hq)
  rcases List.mem_cons.mp hp with h | hp
  · exact h ▸ N _ (.tail _ (List.mem_append_right _ hm.2))
  rcases List.mem_append.mp hp with hp | hp
  · exact N _ (.tail _ (List.mem_append_left _ hp))
  rcases List.mem_cons.mp hp with h | hp
  · exact h ▸ N _ (.tail _ (List.mem_append_right _ hm.1))
  · exact N _ (.tail _ (List.mem_append_right _ ((focus hq).mpr (.inr hp))))
theorem focus_off {P : Params} {X : Ledger} {rows : List IR} {i : Nat} {q : IR} (hq : rows[i]? = some q) (hn : (adrs rows).Nodup) (hX : ∀ p ∈ X, p.1 ∉ adrs rows) : Off (X ++ ((q.x, instObj 135 q.dx) :: rowsLed P (rows.eraseIdx i))) [q.dx] := fun p hp hm => by
  have e := List.mem_singleton.mp hm
  rcases List.mem_append.mp hp with hp | hp
  · exact hX p hp (by rw [e]; exact adr_of_mem (mem_rowsLed (P := P) (List.mem_of_getElem? hq)).2)
  rcases List.mem_cons.mp hp with h | hp
  · exact row_ne hn hq ((congrArg Prod.fst h).symm.trans e)
  · exact (rest_ne hn hq).2 p hp e
theorem off_adrs {P : Params} {rows : List IR} {as : List Nat} (h : Off (rowsLed P rows) as) {a : Nat} (ha : a ∈ as) : a ∉ adrs rows := fun hm => by
  obtain ⟨p, hp, e⟩ := adrs_mem (P := P) hm
  exact h p hp (by rw [e]; exact ha)
section
variable {prog : Program} {w : World}
theorem law_c {sc n : Nat} {oX : Obj} {sv : List Value} {sn : List Int} (hoc : oX.cls = .type "list") (hod : oX.data = .seq sv.toArray n) (hi : IntsAre sv sn) (hl : sv.length ≤ 1000) :
    Calls prog w 16 (.ref 840) [.ref sc] [(sc, oX)] [(837, tabObj #[])] (fun _ v mu' => v = .bool true ∧ ∃ ps, (837, tabObj ps) ∈ mu') := by
  intro dp un fr gds s b R hdp hun S G H0 N k
  obtain ⟨X, p, loose, mean, mg, mb, T⟩ := G
  have hsc := H0.c.1
  have hCode : CodeHd b 839 837 := codeHd_of_K (c := 839) (P := 837) X (by kernel_rfl)
  refine' enterC [("script", .ref sc)] S N X T ?k6 ?k7 ?k8 ?k9 ?kB ?kD ?_ ?c2 ?c3 ?c4
  one_sign
  rename_i L0 h0 tk0 hL0 F0 l0 o1 o2 o3 d1 d2 d3 N0
  k_lt l0
  replace F0 : Fr b L0 h0 (fun y => if y = Str.ofString "script" then some (Value.ref sc) else none) := F0
  replace d1 : o1.data = .cell none := d1
  replace d2 : o2.data = .cell none := d2
  replace d3 : o3.data = .cell none := d3
  repeat' (first | (k_unfold; (try dsimp only)) | ((fail_if_success (first | (with_reducible show LCt.CompSrcT _ _ _ _ _ _ _ _ _ _ _ _ _ _ _) | (with_reducible show LCg.CompEnd _ _ _ _ _ _ _ _ _ _ _ _ _ _) | (with_reducible show LCg.CompSrc _ _ _ _ _ _ _ _ _ _ _ _ _ _) | (with_reducible show wpAny _ _ (call (Value.type "dict") _) _ _ _) | (with_reducible show wpAny _ _ (pyIter (Value.ref _)) _ _ _) | (with_reducible show wpAny _ _ (call (Value.ref _) _) _ _ _) | (with_reducible show wpAny _ _ (exec (Stmt.For _ _ _ _ _) _) _ _ _) | (with_reducible show wpAny _ _ (exec (Stmt.Assign [_] (Expr.ListComp _ _ _ _) _) _) _ _ _) | (with_reducible show wpAny _ _ (eval (Expr.ListComp _ _ _ _) _) _ _ _))); first | walk1 | (dsimp only; walk1)))
  refine' use0N (law_pen_c hoc hod hi hl) ?hdp ?hun ?F ?N ?X ?T ?hi ?_
  ( (case hdp | hun => kwd_inv); (case F | N | X | T => k_asm))
  (case hi => exact fun p hp => Or.inr (List.mem_singleton.mp hp ▸ hsc))
  rintro Gq hGq n1 _ h1 tk1 _ ⟨pen, cells, oP, oC, rfl, HP, HC, hcp, rfl⟩
  refine hGq _ _ _ _ _ ?_
  clear hGq Gq
  rintro hnew F1 N1
  have g1 : @Ne Nat pen (L0 + 1 + 1 + 1) := hnew _ (.head _) (L0 + 1 + 1 + 1, _) (by k_mem)
  have g2 : @Ne Nat pen (L0 + 1 + 1) := hnew _ (.head _) (L0 + 1 + 1, _) (by k_mem)
  have g3 : @Ne Nat pen (L0 + 1) := hnew _ (.head _) (L0 + 1, _) (by k_mem)
  have g4 : @Ne Nat pen 837 := hnew _ (.head _) (837, _) (by k_mem)
  have g5 : @Ne Nat cells (L0 + 1 + 1 + 1) := hnew _ (.tail _ (.head _)) (L0 + 1 + 1 + 1, _) (by k_mem)
  have g6 : @Ne Nat cells (L0 + 1 + 1) := hnew _ (.tail _ (.head _)) (L0 + 1 + 1, _) (by k_mem)
  have g7 : @Ne Nat cells (L0 + 1) := hnew _ (.tail _ (.head _)) (L0 + 1, _) (by k_mem)
  have g8 : @Ne Nat cells 837 := hnew _ (.tail _ (.head _)) (837, _) (by k_mem)
  clear hnew
  dsimp only [List.cons_append, List.nil_append] at N1
  repeat' (first | (k_unfold; (try dsimp only)) | ((fail_if_success (first | (with_reducible show LCt.CompSrcT _ _ _ _ _ _ _ _ _ _ _ _ _ _ _) | (with_reducible show LCg.CompEnd _ _ _ _ _ _ _ _ _ _ _ _ _ _) | (with_reducible show LCg.CompSrc _ _ _ _ _ _ _ _ _ _ _ _ _ _) | (with_reducible show wpAny _ _ (call (Value.type "dict") _) _ _ _) | (with_reducible show wpAny _ _ (pyIter (Value.ref _)) _ _ _) | (with_reducible show wpAny _ _ (call (Value.ref _) _) _ _ _) | (with_reducible show wpAny _ _ (exec (Stmt.For _ _ _ _ _) _) _ _ _) | (with_reducible show wpAny _ _ (exec (Stmt.Assign [_] (Expr.ListComp _ _ _ _) _) _) _ _ _) | (with_reducible show wpAny _ _ (eval (Expr.ListComp _ _ _ _) _) _ _ _))); first | walk1 | (dsimp only; walk1)))
  rename_i h2 op3 F2 N2 dp3
  refine LCg.Assign_ListComp_U (F₀ := by k_asm) (by rfl) (by with_unfolding_all rfl) (by with_unfolding_all rfl) (by decide) (by rfl) (by decide) (by rfl) (by rfl) (by rfl) ?_
  repeat' (first | (k_unfold; (try dsimp only)) | ((fail_if_success (first | (with_reducible show LCt.CompSrcT _ _ _ _ _ _ _ _ _ _ _ _ _ _ _) | (with_reducible show LCg.CompEnd _ _ _ _ _ _ _ _ _ _ _ _ _ _) | (with_reducible show LCg.CompSrc _ _ _ _ _ _ _ _ _ _ _ _ _ _) | (with_reducible show wpAny _ _ (call (Value.type "dict") _) _ _ _) | (with_reducible show wpAny _ _ (pyIter (Value.ref _)) _ _ _) | (with_reducible show wpAny _ _ (call (Value.ref _) _) _ _ _) | (with_reducible show wpAny _ _ (exec (Stmt.For _ _ _ _ _) _) _ _ _) | (with_reducible show wpAny _ _ (exec (Stmt.Assign [_] (Expr.ListComp _ _ _ _) _) _) _ _ _) | (with_reducible show wpAny _ _ (eval (Expr.ListComp _ _ _ _) _) _ _ _))); first | walk1 | (dsimp only; walk1)))
  refine' useU (draw_p HC HP (by decide) (by decide)) ?hdp ?hun ?F ?N ?X ?T ?U ?hi ?_
  (( (case hdp | hun => kwd_inv); (case F | N | X | T => k_asm)); (case U => k_updF); (case hi => repeat (first | exact List.forall_mem_nil _ | (refine List.forall_mem_cons.mpr ⟨?_, ?_⟩; first | exact Or.inr (by assumption) | exact Or.inl ⟨by k_mem, by k_ne⟩))))
  rintro Gq hGq n3 _ h3 tk3 _ ⟨di, t3, oP1, rfl, hd0, hd1, HP1, rfl⟩
  refine hGq _ _ _ _ _ ?_
  clear hGq Gq
  rintro F3 N3 -
  replace N3 := N3 oP1 [] (fun _ h => h)
  dsimp only [List.nil_append] at N3
  obtain ⟨nd, rfl⟩ : ∃ nd : Nat, di = nd := ⟨di.toNat, by exact tn_cast hd0⟩
  repeat' (first | (k_unfold; (try dsimp only)) | ((fail_if_success (first | (with_reducible show LCt.CompSrcT _ _ _ _ _ _ _ _ _ _ _ _ _ _ _) | (with_reducible show LCg.CompEnd _ _ _ _ _ _ _ _ _ _ _ _ _ _) | (with_reducible show LCg.CompSrc _ _ _ _ _ _ _ _ _ _ _ _ _ _) | (with_reducible show wpAny _ _ (call (Value.type "dict") _) _ _ _) | (with_reducible show wpAny _ _ (pyIter (Value.ref _)) _ _ _) | (with_reducible show wpAny _ _ (call (Value.ref _) _) _ _ _) | (with_reducible show wpAny _ _ (exec (Stmt.For _ _ _ _ _) _) _ _ _) | (with_reducible show wpAny _ _ (exec (Stmt.Assign [_] (Expr.ListComp _ _ _ _) _) _) _ _ _) | (with_reducible show wpAny _ _ (eval (Expr.ListComp _ _ _ _) _) _ _ _))); first | walk1 | (dsimp only; walk1)))
  refine LCg.CompSrc.range (n := nd) (by rfl) (by k_asm) (by k_asm) (by assumption) (small_one (by decide) (by decide) (by exact Int.le_trans (by decide) (Int.natCast_nonneg _)) (by exact o_ilt hd1 (by decide))) (by first | exact rangeSize_nat _ _ | (unfold Builtin.Range.rangeSize; simp)) (by rw [sizeLine_eq]; exact o_le (o_n7 hd1) rfl) ?_
  intro g
  refine comp_invG (fun c ys nw => ∃ (oP' : Obj) (made : List IR), PenOk cells (1 + c) oP' ∧ nw = (pen, oP') :: (cells, oC) :: (L0 + 1 + 1 + 1, o1) :: (L0 + 1 + 1, o2) :: (L0 + 1, op3) :: (837, tabObj #[]) :: rowsLed w.params made ∧ Off (rowsLed w.params made) [pen, cells, L0 + 1 + 1 + 1, L0 + 1 + 1, L0 + 1, 837] ∧ ys = refs made ∧ (adrs made).Nodup ∧ made.length = c ∧ ∀ r ∈ dataOf made, 0 ≤ r.g ∧ r.g < 6) ⟨oP1, [], HP1.mono (by decide), rfl, (fun _ hp => nomatch hp), rfl, List.nodup_nil, rfl, (fun _ h => nomatch h)⟩ ?_ ?_
  · rintro c v I oI C oC' D2 m2 h tk E' hc6 ⟨tv, rfl⟩ Jq Gq hGq ys nw ⟨oP2, made, HP2, rfl, hoff, rfl, hnd, hlen, hall⟩
    refine hGq _ _ ?_
    clear hGq Gq
    rintro hC hx F4 N4 off ne hJq
    --<
    have off2 := off
    simp only [LCg.Off3, and_true] at off2
    obtain ⟨⟨e1, e2, e3⟩, -⟩ := off2
    have e1 : @Ne Nat pen I := e1
    have e2 : @Ne Nat pen C := e2
    have e3 : @Ne Nat pen D2 := e3
    repeat' (first | (k_unfold; (try dsimp only)) | ((fail_if_success (first | (with_reducible show LCt.CompSrcT _ _ _ _ _ _ _ _ _ _ _ _ _ _ _) | (with_reducible show LCg.CompEnd _ _ _ _ _ _ _ _ _ _ _ _ _ _) | (with_reducible show LCg.CompSrc _ _ _ _ _ _ _ _ _ _ _ _ _ _) | (with_reducible show wpAny _ _ (call (Value.type "dict") _) _ _ _) | (with_reducible show wpAny _ _ (pyIter (Value.ref _)) _ _ _) | (with_reducible show wpAny _ _ (call (Value.ref _) _) _ _ _) | (with_reducible show wpAny _ _ (exec (Stmt.For _ _ _ _ _) _) _ _ _) | (with_reducible show wpAny _ _ (exec (Stmt.Assign [_] (Expr.ListComp _ _ _ _) _) _) _ _ _) | (with_reducible show wpAny _ _ (eval (Expr.ListComp _ _ _ _) _) _ _ _))); first | walk1 | (dsimp only; walk1)))
    refine' useU (draw_p HC HP2 (by exact o_nat (Nat.lt_of_lt_of_le hc6 (o_n7 hd1)) rfl) (by decide)) ?hdp ?hun ?F ?N ?X ?T ?U ?hi ?_
    (( (case hdp | hun => kwd_inv); (case F | N | X | T => k_asm)); (case U => k_updF); (case hi => repeat (first | exact List.forall_mem_nil _ | (refine List.forall_mem_cons.mpr ⟨?_, ?_⟩; first | exact Or.inr (by assumption) | exact Or.inl ⟨by k_mem, by k_ne⟩))))
    rintro Gq hGq n5 _ h5 tk5 _ ⟨d, t5, oP3, rfl, hd0', hd1', HP3, rfl⟩
    refine hGq _ _ _ _ _ ?_
    clear hGq Gq
    rintro F5 N5 -
    replace N5 := N5 oP3 [] (fun _ h => h)
    dsimp only [List.nil_append] at N5
    repeat' (first | (k_unfold; (try dsimp only)) | ((fail_if_success (first | (with_reducible show LCt.CompSrcT _ _ _ _ _ _ _ _ _ _ _ _ _ _ _) | (with_reducible show LCg.CompEnd _ _ _ _ _ _ _ _ _ _ _ _ _ _) | (with_reducible show LCg.CompSrc _ _ _ _ _ _ _ _ _ _ _ _ _ _) | (with_reducible show wpAny _ _ (call (Value.type "dict") _) _ _ _) | (with_reducible show wpAny _ _ (pyIter (Value.ref _)) _ _ _) | (with_reducible show wpAny _ _ (call (Value.ref _) _) _ _ _) | (with_reducible show wpAny _ _ (exec (Stmt.For _ _ _ _ _) _) _ _ _) | (with_reducible show wpAny _ _ (exec (Stmt.Assign [_] (Expr.ListComp _ _ _ _) _) _) _ _ _) | (with_reducible show wpAny _ _ (eval (Expr.ListComp _ _ _ _) _) _ _ _))); first | walk1 | (dsimp only; walk1)))
    refine' use0N info_c ?hdp ?hun ?F ?N ?X ?T ?hi ?_
    ( (case hdp | hun => kwd_inv); (case F | N | X | T => k_asm))
    (case hi => exact fun p hp => nomatch hp)
    rintro Gq hGq n6 _ h6 tk6 _ ⟨q, rfl, hqne, hqr, rfl⟩
    refine hGq _ _ _ _ _ ?_
    clear hGq Gq
    rintro hnew F6 N6
    repeat' (first | (k_unfold; (try dsimp only)) | ((fail_if_success (first | (with_reducible show LCt.CompSrcT _ _ _ _ _ _ _ _ _ _ _ _ _ _ _) | (with_reducible show LCg.CompEnd _ _ _ _ _ _ _ _ _ _ _ _ _ _) | (with_reducible show LCg.CompSrc _ _ _ _ _ _ _ _ _ _ _ _ _ _) | (with_reducible show wpAny _ _ (call (Value.type "dict") _) _ _ _) | (with_reducible show wpAny _ _ (pyIter (Value.ref _)) _ _ _) | (with_reducible show wpAny _ _ (call (Value.ref _) _) _ _ _) | (with_reducible show wpAny _ _ (exec (Stmt.For _ _ _ _ _) _) _ _ _) | (with_reducible show wpAny _ _ (exec (Stmt.Assign [_] (Expr.ListComp _ _ _ _) _) _) _ _ _) | (with_reducible show wpAny _ _ (eval (Expr.ListComp _ _ _ _) _) _ _ _))); first | walk1 | (dsimp only; walk1)))
    have hq6 : ∀ p ∈ q.led w.params, p.1 ∉ [pen, cells, L0 + 1 + 1 + 1, L0 + 1 + 1, L0 + 1, 837] := Off.made hnew (in_six (by k_mem) (by k_mem) (by k_mem) (by k_mem) (by k_mem) (by k_mem))
    have hcat : ∀ p ∈ rowsLed w.params (made ++ [q]), p ∈ rowsLed w.params made ∨ p ∈ q.led w.params := fun p hp => by
      rw [rowsLed_snoc] at hp
      exact List.mem_append.mp hp
    have hoff' : Off (rowsLed w.params (made ++ [q])) [pen, cells, L0 + 1 + 1 + 1, L0 + 1 + 1, L0 + 1, 837] := fun p hp => (hcat p hp).elim (hoff p) (hq6 p)
    refine LCg.CompEnd.intro F6 N6 ((pen, oP3) :: (cells, oC) :: (L0 + 1 + 1 + 1, o1) :: (L0 + 1 + 1, o2) :: (L0 + 1, op3) :: (837, tabObj #[]) :: rowsLed w.params (made ++ [q])) (fun p hp => ?_) (LCg.Off3.of fun p hp => ?_) trivial (hJq _ _ ⟨oP3, made ++ [q], HP3.mono (by exact o_step), rfl, hoff', by simp [refs], nodup_snoc (P := w.params) hnd hqne fun p hp p' hp' => hnew p hp p' (.tail _ (.tail _ (.tail _ (.tail _ (.tail _ (.tail _ (.tail _ (.tail _ (.tail _ hp'))))))))), by simp [hlen], fun r hr => ?_⟩)
    · rcases List.mem_append.mp (show p ∈ ([(I, oI), (C, oC'), (D2, LCg.lst (refs made)), (pen, oP3), (cells, oC), (L0 + 1 + 1 + 1, o1), (L0 + 1 + 1, o2), (L0 + 1, op3), (837, tabObj #[])] ++ rowsLed w.params (made ++ [q]) : Ledger) from hp) with hp | hp
      · exact List.mem_append_right _ (List.mem_append_left (bs := rowsLed w.params made) (as := [(I, oI), (C, oC'), (D2, LCg.lst (refs made)), (pen, oP3), (cells, oC), (L0 + 1 + 1 + 1, o1), (L0 + 1 + 1, o2), (L0 + 1, op3), (837, tabObj #[])]) hp)
      · rcases hcat p hp with hp | hp
        · exact List.mem_append_right _ (List.mem_append_right ([(I, oI), (C, oC'), (D2, LCg.lst (refs made)), (pen, oP3), (cells, oC), (L0 + 1 + 1 + 1, o1), (L0 + 1 + 1, o2), (L0 + 1, op3), (837, tabObj #[])] : Ledger) hp)
        · exact List.mem_append_left _ hp
    · rcases List.mem_append.mp (show p ∈ ([(pen, oP3), (cells, oC), (L0 + 1 + 1 + 1, o1), (L0 + 1 + 1, o2), (L0 + 1, op3), (837, tabObj #[])] ++ rowsLed w.params (made ++ [q]) : Ledger) from hp) with hp | hp
      · rcases List.mem_cons.mp hp with h | hp
        · rw [h]; exact ⟨e1, e2, e3⟩
        · exact off.mem p (.tail _ (List.mem_append_left (bs := rowsLed w.params made) (as := [(cells, oC), (L0 + 1 + 1 + 1, o1), (L0 + 1 + 1, o2), (L0 + 1, op3), (837, tabObj #[])]) hp))
      · rcases hcat p hp with hp | hp
        · exact off.mem p (.tail _ (List.mem_append_right ([(cells, oC), (L0 + 1 + 1 + 1, o1), (L0 + 1 + 1, o2), (L0 + 1, op3), (837, tabObj #[])] : Ledger) hp))
        · exact ⟨hnew p hp (I, oI) (.head _), hnew p hp (C, oC') (.tail _ (.head _)), hnew p hp (D2, _) (.tail _ (.tail _ (.head _)))⟩
    · rcases List.mem_append.mp (show r ∈ dataOf made ++ [q.r] by simpa [dataOf] using hr) with h | h
      · exact hall r h
      · rw [List.mem_singleton.mp h, hqr]; exact ⟨hd0', hd1'⟩
    -->
  · rintro Gq hGq ys nw ⟨oP2, made, HP2, rfl, hoff, rfl, hnd, hlen, hall⟩
    refine hGq _ _ ?_
    clear hGq Gq
    unfold LCg.FinA
    intro infl h4 tk4 F4 N4 off4
    have hlen6 : made.length ≤ 6 := by exact Nat.le_trans (Nat.le_of_eq hlen) (o_n7 hd1)
    have hinf : infl ∉ [pen, cells, L0 + 1 + 1 + 1, L0 + 1 + 1, L0 + 1, 837] := fun hm => by
      obtain ⟨o, ho⟩ := in_six (l := (pen, oP2) :: (cells, oC) :: (L0 + 1 + 1 + 1, o1) :: (L0 + 1 + 1, o2) :: (L0 + 1, op3) :: (837, tabObj #[]) :: rowsLed w.params made) (by k_mem) (by k_mem) (by k_mem) (by k_mem) (by k_mem) (by k_mem) infl hm
      exact off1_mem off4 _ ho rfl
    have hinfr : infl ∉ adrs made := fun hm => by
      obtain ⟨p, hp, e⟩ := adrs_mem (P := w.params) hm
      exact off1_mem off4 p (.tail _ (.tail _ (.tail _ (.tail _ (.tail _ (.tail _ hp)))))) e
    replace F4 : Fr b L0 h4 (fun y => if y = Str.ofString "infos" then some (Value.ref infl) else if y = Str.ofString "script" then some (Value.ref sc) else none) := F4
    dsimp only
    repeat' (first | (k_unfold; (try dsimp only)) | ((fail_if_success (first | (with_reducible show LCt.CompSrcT _ _ _ _ _ _ _ _ _ _ _ _ _ _ _) | (with_reducible show LCg.CompEnd _ _ _ _ _ _ _ _ _ _ _ _ _ _) | (with_reducible show LCg.CompSrc _ _ _ _ _ _ _ _ _ _ _ _ _ _) | (with_reducible show wpAny _ _ (call (Value.type "dict") _) _ _ _) | (with_reducible show wpAny _ _ (pyIter (Value.ref _)) _ _ _) | (with_reducible show wpAny _ _ (call (Value.ref _) _) _ _ _) | (with_reducible show wpAny _ _ (exec (Stmt.For _ _ _ _ _) _) _ _ _) | (with_reducible show wpAny _ _ (exec (Stmt.Assign [_] (Expr.ListComp _ _ _ _) _) _) _ _ _) | (with_reducible show wpAny _ _ (eval (Expr.ListComp _ _ _ _) _) _ _ _))); first | walk1 | (dsimp only; walk1)))
    refine For_invV b (by rfl) (by rfl) ?_
    repeat' (first | (k_unfold; (try dsimp only)) | ((fail_if_success (first | (with_reducible show LCt.CompSrcT _ _ _ _ _ _ _ _ _ _ _ _ _ _ _) | (with_reducible show LCg.CompEnd _ _ _ _ _ _ _ _ _ _ _ _ _ _) | (with_reducible show LCg.CompSrc _ _ _ _ _ _ _ _ _ _ _ _ _ _) | (with_reducible show wpAny _ _ (call (Value.type "dict") _) _ _ _) | (with_reducible show wpAny _ _ (pyIter (Value.ref _)) _ _ _) | (with_reducible show wpAny _ _ (call (Value.ref _) _) _ _ _) | (with_reducible show wpAny _ _ (exec (Stmt.For _ _ _ _ _) _) _ _ _) | (with_reducible show wpAny _ _ (exec (Stmt.Assign [_] (Expr.ListComp _ _ _ _) _) _) _ _ _) | (with_reducible show wpAny _ _ (eval (Expr.ListComp _ _ _ _) _) _ _ _))); first | walk1 | (dsimp only; walk1)))
    refine iter_listG (vs := refs made) (nl := (refs made).length) (news := (pen, oP2) :: (cells, oC) :: (L0 + 1 + 1 + 1, o1) :: (L0 + 1 + 1, o2) :: (L0 + 1, op3) :: (837, tabObj #[]) :: (infl, LCg.lst (refs made)) :: rowsLed w.params made) (fun i m nw => (∃ o : Option Value, m = fun y => if y = Str.ofString "one" then o else if y = Str.ofString "infos" then some (Value.ref infl) else if y = Str.ofString "script" then some (Value.ref sc) else none) ∧ ∃ (oP' : Obj) (rows : List IR), SameRows made rows ∧ PenOk cells (8 + i) oP' ∧ nw = (pen, oP') :: (cells, oC) :: (L0 + 1 + 1 + 1, o1) :: (L0 + 1 + 1, o2) :: (L0 + 1, op3) :: (837, tabObj #[]) :: (infl, LCg.lst (refs made)) :: rowsLed w.params rows ∧ (∀ r ∈ dataOf rows, 0 ≤ r.g ∧ r.g < 6) ∧ ∀ (j : Nat) (r : Rec), j < i → (dataOf rows)[j]? = some r → r.mask = 1 ∨ r.mask = 2 ∨ r.mask = 3)
      rfl (by k_asm) (fun p hp => N4 p ?_) (.inr (by k_mem)) ⟨⟨none, ?_⟩, oP2, made, rfl, HP2.mono (by exact o_nat (Nat.lt_succ_of_le (o_n7 hd1)) rfl), rfl, hall, (fun j r hj => absurd hj (Nat.not_lt_zero _))⟩ ?_ ?_
    · rcases List.mem_append.mp (show p ∈ ([(pen, oP2), (cells, oC), (L0 + 1 + 1 + 1, o1), (L0 + 1 + 1, o2), (L0 + 1, op3), (837, tabObj #[])] ++ ((infl, LCg.lst (refs made)) :: rowsLed w.params made) : Ledger) from hp) with hp | hp
      · exact .tail _ (List.mem_append_left (bs := rowsLed w.params made) (as := [(pen, oP2), (cells, oC), (L0 + 1 + 1 + 1, o1), (L0 + 1 + 1, o2), (L0 + 1, op3), (837, tabObj #[])]) hp)
      · rcases List.mem_cons.mp hp with h | hp
        · exact h ▸ .head _
        · exact .tail _ (List.mem_append_right ([(pen, oP2), (cells, oC), (L0 + 1 + 1 + 1, o1), (L0 + 1 + 1, o2), (L0 + 1, op3), (837, tabObj #[])] : Ledger) hp)
    · funext y
      by_cases hy : y = Str.ofString "one"
      · subst hy; rfl
      · rw [if_neg hy]
    · rintro i v I oI h7 tk7 hv7 Jq Gq hGq m7 nw7 ⟨⟨o, rfl⟩, oP3, rows, hS, HP3, rfl, hall3, hmask⟩
      refine hGq _ _ ?_
      clear hGq Gq
      rintro hnI hAll F7 N7 hJq
      --<
      have i1 : @Ne Nat pen I := hnI _ (.head _)
      obtain ⟨q, hq⟩ : ∃ q, rows[i]? = some q := ⟨rows[i]'(by have := (List.getElem?_eq_some_iff.mp hv7).1; have := hS.len; simp [refs] at *; exact Nat.lt_of_lt_of_eq this (Eq.symm (by assumption))), List.getElem?_eq_getElem _⟩
      obtain rfl : v = .ref q.x := by
        have := refs_at hq
        rw [hS.refs', hv7] at this
        exact Option.some.inj this
      have hqm := List.mem_of_getElem? hq
      have hi6 : i < 6 := by have := (List.getElem?_eq_some_iff.mp hq).1; have := hS.len; exact Nat.lt_of_lt_of_le (by assumption) (Nat.le_trans (Nat.le_of_eq (Eq.trans this hlen)) (o_n7 hd1))
      replace F7 : Fr b L0 h7 _ := F7
      replace N7 : News b L0 h7 _ := N7
      have hrOff : Off ((infl, LCg.lst (refs made)) :: rowsLed w.params rows) [pen, cells, L0 + 1 + 1 + 1, L0 + 1 + 1, L0 + 1, 837] := Off.cons hinf fun p hp => by
        obtain ⟨p', hp', e⟩ := adrs_mem (P := w.params) (hS.adrs' ▸ adr_of_mem hp)
        rw [← e]; exact hoff p' hp'
      repeat' (first | (k_unfold; (try dsimp only)) | ((fail_if_success (first | (with_reducible show LCt.CompSrcT _ _ _ _ _ _ _ _ _ _ _ _ _ _ _) | (with_reducible show LCg.CompEnd _ _ _ _ _ _ _ _ _ _ _ _ _ _) | (with_reducible show LCg.CompSrc _ _ _ _ _ _ _ _ _ _ _ _ _ _) | (with_reducible show wpAny _ _ (call (Value.type "dict") _) _ _ _) | (with_reducible show wpAny _ _ (pyIter (Value.ref _)) _ _ _) | (with_reducible show wpAny _ _ (call (Value.ref _) _) _ _ _) | (with_reducible show wpAny _ _ (exec (Stmt.For _ _ _ _ _) _) _ _ _) | (with_reducible show wpAny _ _ (exec (Stmt.Assign [_] (Expr.ListComp _ _ _ _) _) _) _ _ _) | (with_reducible show wpAny _ _ (eval (Expr.ListComp _ _ _ _) _) _ _ _))); first | walk1 | (dsimp only; walk1)))
      refine' useU (pick_p HC HP3 (by exact o_nat hi6 rfl) ?hl) ?hdp ?hun ?F ?N ?X ?T ?U ?hi ?_
      (( (case hdp | hun => kwd_inv); (case F | N | X | T => k_asm)); (case U => k_updF); (case hi => repeat (first | exact List.forall_mem_nil _ | (refine List.forall_mem_cons.mpr ⟨?_, ?_⟩; first | exact Or.inr (by assumption) | exact Or.inl ⟨by k_mem, by k_ne⟩))))
      (case hl => exact ⟨Nat.le_of_ble_eq_true rfl, Nat.le_of_ble_eq_true rfl⟩)
      rintro Gq hGq n8 v8 h8 tk8 _ ⟨j8, oP4, hv8, HP4, rfl⟩
      refine hGq _ _ _ _ _ ?_
      clear hGq Gq
      rintro F8 N8 -
      replace N8 := N8 oP4 [] (fun _ h => h)
      dsimp only [List.nil_append] at N8
      obtain ⟨mk, tmk, rfl, hmk⟩ : ∃ (x : Int) (t : Tok), v8 = Value.int x t ∧ (x = 1 ∨ x = 2 ∨ x = 3) := by
        rcases j8 with _ | _ | _ | _ | j8 <;> first | exact ⟨_, _, (Option.some.inj hv8).symm, by decide⟩ | (simp at hv8)
      have hN9 : News b L0 h8 ((q.dx, q.obj w.params) :: ((I, oI) :: (pen, oP4) :: (cells, oC) :: (L0 + 1 + 1 + 1, o1) :: (L0 + 1 + 1, o2) :: (L0 + 1, op3) :: (837, tabObj #[]) :: (infl, LCg.lst (refs made)) :: (q.x, instObj 135 q.dx) :: rowsLed w.params (rows.eraseIdx i))) := focus_news (X := (I, oI) :: [(pen, oP4), (cells, oC), (L0 + 1 + 1 + 1, o1), (L0 + 1 + 1, o2), (L0 + 1, op3), (837, tabObj #[]), (infl, LCg.lst (refs made))]) hq N8
      have hrn : (adrs rows).Nodup := hS.adrs' ▸ hnd
      have hro : Off (rowsLed w.params rows) [pen, cells, L0 + 1 + 1 + 1, L0 + 1 + 1, L0 + 1, 837] := fun p hp => hrOff p (.tail _ hp)
      have hoq : Off ((I, oI) :: (pen, oP4) :: (cells, oC) :: (L0 + 1 + 1 + 1, o1) :: (L0 + 1 + 1, o2) :: (L0 + 1, op3) :: (837, tabObj #[]) :: (infl, LCg.lst (refs made)) :: (q.x, instObj 135 q.dx) :: rowsLed w.params (rows.eraseIdx i)) [q.dx] := focus_off (X := (I, oI) :: [(pen, oP4), (cells, oC), (L0 + 1 + 1 + 1, o1), (L0 + 1 + 1, o2), (L0 + 1, op3), (837, tabObj #[]), (infl, LCg.lst (refs made))]) hq hrn fun p hp => by
        rcases List.mem_cons.mp hp with h | hp
        · intro hm
          obtain ⟨p', hp', e⟩ := adrs_mem (P := w.params) hm
          exact hnI p' (.tail _ (.tail _ (.tail _ (.tail _ (.tail _ (.tail _ (.tail _ hp'))))))) (e.trans (congrArg Prod.fst h))
        · simp only [List.mem_cons, List.not_mem_nil, or_false] at hp
          rcases hp with h | h | h | h | h | h | h
          · rw [h]; exact off_adrs hro (by simp)
          · rw [h]; exact off_adrs hro (by simp)
          · rw [h]; exact off_adrs hro (by simp)
          · rw [h]; exact off_adrs hro (by simp)
          · rw [h]; exact off_adrs hro (by simp)
          · rw [h]; exact off_adrs hro (by simp)
          · rw [h]; exact hS.adrs' ▸ hinfr
      clear N8
      repeat' (first | (k_unfold; (try dsimp only)) | ((fail_if_success (first | (with_reducible show LCt.CompSrcT _ _ _ _ _ _ _ _ _ _ _ _ _ _ _) | (with_reducible show LCg.CompEnd _ _ _ _ _ _ _ _ _ _ _ _ _ _) | (with_reducible show LCg.CompSrc _ _ _ _ _ _ _ _ _ _ _ _ _ _) | (with_reducible show wpAny _ _ (call (Value.type "dict") _) _ _ _) | (with_reducible show wpAny _ _ (pyIter (Value.ref _)) _ _ _) | (with_reducible show wpAny _ _ (call (Value.ref _) _) _ _ _) | (with_reducible show wpAny _ _ (exec (Stmt.For _ _ _ _ _) _) _ _ _) | (with_reducible show wpAny _ _ (exec (Stmt.Assign [_] (Expr.ListComp _ _ _ _) _) _) _ _ _) | (with_reducible show wpAny _ _ (eval (Expr.ListComp _ _ _ _) _) _ _ _))); first | walk1 | (dsimp only; walk1)))
      rename_i h9 F9 h10 F10 N10
      have hsame : q.Same (q.masked mk tmk tk8) := ⟨rfl, rfl⟩
      have hdat : dataOf (rows.set i (q.masked mk tmk tk8)) = (dataOf rows).set i (q.masked mk tmk tk8).r := dataOf_set _ _ _
      refine turn_end (news' := (pen, oP4) :: (cells, oC) :: (L0 + 1 + 1 + 1, o1) :: (L0 + 1 + 1, o2) :: (L0 + 1, op3) :: (837, tabObj #[]) :: (infl, LCg.lst (refs made)) :: rowsLed w.params (rows.set i (q.masked mk tmk tk8))) (.inl rfl) F10 N10 (fun p hp => ?_) (fun p hp => ?_) (fun p hp => .inr (List.mem_singleton.mp hp ▸ by k_mem)) (hJq _ _ ⟨⟨_, upd_in⟩, oP4, _, hS.trans' (SameRows.set' hq hsame), HP4.mono (by exact o_step), rfl, fun r hr => ?_, fun j r hj hr => ?_⟩)
      · rcases List.mem_append.mp (show p ∈ (((I, oI) :: [(pen, oP4), (cells, oC), (L0 + 1 + 1 + 1, o1), (L0 + 1 + 1, o2), (L0 + 1, op3), (837, tabObj #[]), (infl, LCg.lst (refs made))]) ++ rowsLed w.params (rows.set i (q.masked mk tmk tk8)) : Ledger) from hp) with hp | hp
        · exact .tail _ (.tail _ (List.mem_append_left (bs := (q.x, instObj 135 q.dx) :: rowsLed w.params (rows.eraseIdx i)) (as := (I, oI) :: [(pen, oP4), (cells, oC), (L0 + 1 + 1 + 1, o1), (L0 + 1 + 1, o2), (L0 + 1, op3), (837, tabObj #[]), (infl, LCg.lst (refs made))]) hp))
        · rcases focus_set hp with hp | hp
          · rcases List.mem_cons.mp hp with h | hp
            · exact h ▸ .tail _ (.tail _ (List.mem_append_right ((I, oI) :: [(pen, oP4), (cells, oC), (L0 + 1 + 1 + 1, o1), (L0 + 1 + 1, o2), (L0 + 1, op3), (837, tabObj #[]), (infl, LCg.lst (refs made))]) (.head _)))
            · exact List.mem_singleton.mp hp ▸ .tail _ (.head _)
          · exact .tail _ (.tail _ (List.mem_append_right ((I, oI) :: [(pen, oP4), (cells, oC), (L0 + 1 + 1 + 1, o1), (L0 + 1 + 1, o2), (L0 + 1, op3), (837, tabObj #[]), (infl, LCg.lst (refs made))]) (.tail _ hp)))
      · rcases List.mem_append.mp (show p ∈ ([(pen, oP4), (cells, oC), (L0 + 1 + 1 + 1, o1), (L0 + 1 + 1, o2), (L0 + 1, op3), (837, tabObj #[]), (infl, LCg.lst (refs made))] ++ rowsLed w.params (rows.set i (q.masked mk tmk tk8)) : Ledger) from hp) with hp | hp
        · rcases List.mem_cons.mp hp with h | hp
          · rw [h]; exact i1
          · exact hnI p (.tail _ (List.mem_append_left (bs := rowsLed w.params rows) (as := [(cells, oC), (L0 + 1 + 1 + 1, o1), (L0 + 1 + 1, o2), (L0 + 1, op3), (837, tabObj #[]), (infl, LCg.lst (refs made))]) hp))
        · obtain ⟨p', hp', e⟩ := adrs_mem (P := w.params) ((SameRows.set' hq hsame).adrs' ▸ adr_of_mem hp)
          rw [← e]
          exact hnI p' (.tail _ (.tail _ (.tail _ (.tail _ (.tail _ (.tail _ (.tail _ hp')))))))
      · rw [hdat] at hr
        rcases List.mem_or_eq_of_mem_set hr with h | h
        · exact hall3 r h
        · rw [h]; exact hall3 q.r (List.mem_map_of_mem hqm)
      · rw [hdat, List.getElem?_set] at hr
        by_cases e : i = j
        · rw [if_pos e] at hr
          split at hr
          · rw [← Option.some.inj hr]; exact hmk
          · cases hr
        · rw [if_neg e] at hr
          exact hmask j r (by exact o_lt2 hj e) hr
      -->
    · rintro h7 tk7 Gq hGq m7 nw7 ⟨⟨o, rfl⟩, oP3, rows, hS, HP3, rfl, hall3, hmask⟩
      refine hGq _ _ ?_
      clear hGq Gq
      rintro F7 N7
      replace F7 : Fr b L0 h7 _ := F7
      replace N7 : News b L0 h7 _ := N7
      dsimp only
      have hrn : (adrs rows).Nodup := hS.adrs' ▸ hnd
      have hrows6 : rows.length ≤ 6 := by rw [hS.len]; exact hlen6
      have hmk : ∀ r ∈ dataOf rows, r.mask = 1 ∨ r.mask = 2 ∨ r.mask = 3 := fun r hr => by
        obtain ⟨j, hj, rfl⟩ := List.getElem_of_mem hr
        refine hmask j _ ?_ (List.getElem?_eq_getElem hj)
        have := hS.len
        simp [refs, dataOf] at hj ⊢
        exact Nat.lt_of_lt_of_eq hj this
      replace HP3 : PenOk cells 20 oP3 := HP3.mono (by simp [refs]; exact o_nat (Nat.lt_succ_of_le (Nat.le_trans (Nat.le_of_eq hlen) (o_n7 hd1))) rfl)
      obtain ⟨R0, hR0, hinfm, hrowm, hN0⟩ : ∃ R0 : Ledger, Off R0 [pen, cells, L0 + 1 + 1 + 1, L0 + 1 + 1, L0 + 1, 837] ∧ (infl, listOf (refs rows).toArray (refs made).length) ∈ R0 ∧ (∀ p ∈ rowsLed w.params rows, p ∈ R0) ∧ News b L0 h7 ((pen, oP3) :: (cells, oC) :: (L0 + 1 + 1 + 1, o1) :: (L0 + 1 + 1, o2) :: (L0 + 1, op3) :: (837, tabObj #[]) :: R0) := by
        refine ⟨(infl, LCg.lst (refs made)) :: rowsLed w.params rows, Off.cons hinf fun p hp => ?_, by rw [hS.refs']; exact .head _, fun p hp => .tail _ hp, N7⟩
        obtain ⟨p', hp', e⟩ := adrs_mem (P := w.params) (hS.adrs' ▸ adr_of_mem hp)
        rw [← e]; exact hoff p' hp'
      clear N7 N4 off4 hmask hoff hinf hinfr hnd hall F4
      repeat' (first | (k_unfold; (try dsimp only)) | ((fail_if_success (first | (with_reducible show LCt.CompSrcT _ _ _ _ _ _ _ _ _ _ _ _ _ _ _) | (with_reducible show LCg.CompEnd _ _ _ _ _ _ _ _ _ _ _ _ _ _) | (with_reducible show LCg.CompSrc _ _ _ _ _ _ _ _ _ _ _ _ _ _) | (with_reducible show wpAny _ _ (call (Value.type "dict") _) _ _ _) | (with_reducible show wpAny _ _ (pyIter (Value.ref _)) _ _ _) | (with_reducible show wpAny _ _ (call (Value.ref _) _) _ _ _) | (with_reducible show wpAny _ _ (exec (Stmt.For _ _ _ _ _) _) _ _ _) | (with_reducible show wpAny _ _ (exec (Stmt.Assign [_] (Expr.ListComp _ _ _ _) _) _) _ _ _) | (with_reducible show wpAny _ _ (eval (Expr.ListComp _ _ _ _) _) _ _ _))); first | walk1 | (dsimp only; walk1)))
      refine wpAny_Assign_Name ?_ (by with_unfolding_all rfl)
      refine LCt.ListComp_T (F₀ := by k_asm) (by with_unfolding_all rfl) (by decide) (by rfl) (by decide) (by rfl) ?_
      repeat' (first | (k_unfold; (try dsimp only)) | ((fail_if_success (first | (with_reducible show LCt.CompSrcT _ _ _ _ _ _ _ _ _ _ _ _ _ _ _) | (with_reducible show LCg.CompEnd _ _ _ _ _ _ _ _ _ _ _ _ _ _) | (with_reducible show LCg.CompSrc _ _ _ _ _ _ _ _ _ _ _ _ _ _) | (with_reducible show wpAny _ _ (call (Value.type "dict") _) _ _ _) | (with_reducible show wpAny _ _ (pyIter (Value.ref _)) _ _ _) | (with_reducible show wpAny _ _ (call (Value.ref _) _) _ _ _) | (with_reducible show wpAny _ _ (exec (Stmt.For _ _ _ _ _) _) _ _ _) | (with_reducible show wpAny _ _ (exec (Stmt.Assign [_] (Expr.ListComp _ _ _ _) _) _) _ _ _) | (with_reducible show wpAny _ _ (eval (Expr.ListComp _ _ _ _) _) _ _ _))); first | walk1 | (dsimp only; walk1)))
      refine LCt.CompSrcT.range (n := 6) (by rfl) (by k_asm) (by k_asm) (by assumption) (by decide) (by rfl) (by simp [sizeLine_eq]) ?_
      intro g
      refine comp_invTG (fun c ys nw => ∃ (oP' : Obj) (ns : List Int), PenOk cells (20 + c) oP' ∧ nw = (pen, oP') :: (cells, oC) :: (L0 + 1 + 1 + 1, o1) :: (L0 + 1 + 1, o2) :: (L0 + 1, op3) :: (837, tabObj #[]) :: R0 ∧ IntsAre ys ns ∧ ns.length ≤ c) ⟨oP3, [], HP3.mono (by decide), rfl, .nil, Nat.le_refl _⟩ ?_ ?_
      · rintro c v I oI C oC' D2 m2 h tk E' hc6 ⟨tv, rfl⟩ Jq Gq hGq ys nw ⟨oP4, ns, HP4, rfl, hys, hlen⟩
        refine hGq _ _ ?_
        clear hGq Gq
        rintro hC hx F8 N8 off ne hJq
        --<
        have off2 := off
        simp only [LCg.Off3, and_true] at off2
        obtain ⟨⟨e1, e2, e3⟩, -⟩ := off2
        have e1 : @Ne Nat pen I := e1
        have e2 : @Ne Nat pen C := e2
        have e3 : @Ne Nat pen D2 := e3
        repeat' (first | (k_unfold; (try dsimp only)) | ((fail_if_success (first | (with_reducible show LCt.CompSrcT _ _ _ _ _ _ _ _ _ _ _ _ _ _ _) | (with_reducible show LCg.CompEnd _ _ _ _ _ _ _ _ _ _ _ _ _ _) | (with_reducible show LCg.CompSrc _ _ _ _ _ _ _ _ _ _ _ _ _ _) | (with_reducible show wpAny _ _ (call (Value.type "dict") _) _ _ _) | (with_reducible show wpAny _ _ (pyIter (Value.ref _)) _ _ _) | (with_reducible show wpAny _ _ (call (Value.ref _) _) _ _ _) | (with_reducible show wpAny _ _ (exec (Stmt.For _ _ _ _ _) _) _ _ _) | (with_reducible show wpAny _ _ (exec (Stmt.Assign [_] (Expr.ListComp _ _ _ _) _) _) _ _ _) | (with_reducible show wpAny _ _ (eval (Expr.ListComp _ _ _ _) _) _ _ _))); first | walk1 | (dsimp only; walk1)))
        refine' useU (draw_p HC HP4 (by exact o_nat hc6 rfl) (by decide)) ?hdp ?hun ?F ?N ?X ?T ?U ?hi ?_
        (( (case hdp | hun => kwd_inv); (case F | N | X | T => k_asm)); (case U => k_updF); (case hi => repeat (first | exact List.forall_mem_nil _ | (refine List.forall_mem_cons.mpr ⟨?_, ?_⟩; first | exact Or.inr (by assumption) | exact Or.inl ⟨by k_mem, by k_ne⟩))))
        rintro Gq hGq n5 _ h5 tk5 _ ⟨d, t5, oP5, rfl, hd0', hd1', HP5, rfl⟩
        refine hGq _ _ _ _ _ ?_
        clear hGq Gq
        rintro F9 N9 -
        replace N9 := N9 oP5 [] (fun _ h => h)
        dsimp only [List.nil_append] at N9
        have hoffn : LCg.Off3 I C D2 ((pen, oP5) :: (cells, oC) :: (L0 + 1 + 1 + 1, o1) :: (L0 + 1 + 1, o2) :: (L0 + 1, op3) :: (837, tabObj #[]) :: R0) := LCg.Off3.of fun p hp => by
          rcases List.mem_cons.mp hp with h | hp
          · rw [h]; exact ⟨e1, e2, e3⟩
          · exact off.mem p (.tail _ hp)
        repeat' (first | (k_unfold; (try dsimp only)) | ((fail_if_success (first | (with_reducible show LCt.CompSrcT _ _ _ _ _ _ _ _ _ _ _ _ _ _ _) | (with_reducible show LCg.CompEnd _ _ _ _ _ _ _ _ _ _ _ _ _ _) | (with_reducible show LCg.CompSrc _ _ _ _ _ _ _ _ _ _ _ _ _ _) | (with_reducible show wpAny _ _ (call (Value.type "dict") _) _ _ _) | (with_reducible show wpAny _ _ (pyIter (Value.ref _)) _ _ _) | (with_reducible show wpAny _ _ (call (Value.ref _) _) _ _ _) | (with_reducible show wpAny _ _ (exec (Stmt.For _ _ _ _ _) _) _ _ _) | (with_reducible show wpAny _ _ (exec (Stmt.Assign [_] (Expr.ListComp _ _ _ _) _) _) _ _ _) | (with_reducible show wpAny _ _ (eval (Expr.ListComp _ _ _ _) _) _ _ _))); first | walk1 | (dsimp only; walk1)))
        · refine LCg.CompEnd.intro F9 N9 _ (fun p hp => hp) hoffn trivial (hJq _ _ ⟨oP5, ns ++ [_], HP5.mono (by exact o_step), rfl, hys.append (.cons _ _ .nil), by simp; exact hlen⟩)
        · refine LCg.CompEnd.intro F9 N9 _ (fun p hp => hp) hoffn trivial (hJq _ _ ⟨oP5, ns, HP5.mono (by exact o_step), rfl, hys, by exact Nat.le_succ_of_le hlen⟩)
        -->
      · rintro Gq hGq ys nw ⟨oP4, ns, HP4, rfl, hys, hlen⟩
        refine hGq _ _ ?_
        clear hGq Gq
        unfold LCg.FinE
        intro D2 h2 tk2 F8 N8 off
        have hD2 : D2 ∉ [pen, cells, L0 + 1 + 1 + 1, L0 + 1 + 1, L0 + 1, 837] := fun hm => by
          obtain ⟨o, ho⟩ := in_six (l := (pen, oP4) :: (cells, oC) :: (L0 + 1 + 1 + 1, o1) :: (L0 + 1 + 1, o2) :: (L0 + 1, op3) :: (837, tabObj #[]) :: R0) (by k_mem) (by k_mem) (by k_mem) (by k_mem) (by k_mem) (by k_mem) D2 hm
          exact off1_mem off _ ho rfl
        have m1 : @Ne Nat (L0 + 1 + 1) D2 := fun e => hD2 (by rw [← e]; simp)
        replace HP4 : PenOk cells 26 oP4 := HP4.mono (by decide)
        repeat' (first | (k_unfold; (try dsimp only)) | ((fail_if_success (first | (with_reducible show LCt.CompSrcT _ _ _ _ _ _ _ _ _ _ _ _ _ _ _) | (with_reducible show LCg.CompEnd _ _ _ _ _ _ _ _ _ _ _ _ _ _) | (with_reducible show LCg.CompSrc _ _ _ _ _ _ _ _ _ _ _ _ _ _) | (with_reducible show wpAny _ _ (call (Value.type "dict") _) _ _ _) | (with_reducible show wpAny _ _ (pyIter (Value.ref _)) _ _ _) | (with_reducible show wpAny _ _ (call (Value.ref _) _) _ _ _) | (with_reducible show wpAny _ _ (exec (Stmt.For _ _ _ _ _) _) _ _ _) | (with_reducible show wpAny _ _ (exec (Stmt.Assign [_] (Expr.ListComp _ _ _ _) _) _) _ _ _) | (with_reducible show wpAny _ _ (eval (Expr.ListComp _ _ _ _) _) _ _ _))); first | walk1 | (dsimp only; walk1)))
        rename_i hA om FA NA dom
        obtain ⟨R1, hR1, hsub1, hmarks, hN1⟩ : ∃ R1 : Ledger, Off R1 [pen, cells, L0 + 1 + 1 + 1, L0 + 1 + 1, L0 + 1, 837] ∧ (∀ p ∈ R0, p ∈ R1) ∧ (D2, LCg.lst ys) ∈ R1 ∧ News b L0 hA ((pen, oP4) :: (cells, oC) :: (L0 + 1 + 1 + 1, o1) :: (L0 + 1 + 1, om) :: (L0 + 1, op3) :: (837, tabObj #[]) :: R1) :=
          ⟨(D2, LCg.lst ys) :: R0, Off.cons hD2 hR0, fun p hp => .tail _ hp, .head _, fun p hp => by
            rcases List.mem_append.mp (show p ∈ ([(pen, oP4), (cells, oC), (L0 + 1 + 1 + 1, o1), (L0 + 1 + 1, om), (L0 + 1, op3), (837, tabObj #[])] ++ ((D2, LCg.lst ys) :: R0) : Ledger) from hp) with hp | hp
            · exact NA p (.tail _ (List.mem_append_left (bs := R0) (as := [(pen, oP4), (cells, oC), (L0 + 1 + 1 + 1, o1), (L0 + 1 + 1, om), (L0 + 1, op3), (837, tabObj #[])]) hp))
            · rcases List.mem_cons.mp hp with h | hp
              · exact NA p (h ▸ .head _)
              · exact NA p (.tail _ (List.mem_append_right [(pen, oP4), (cells, oC), (L0 + 1 + 1 + 1, o1), (L0 + 1 + 1, om), (L0 + 1, op3), (837, tabObj #[])] hp))⟩
        clear NA off
        refine LCg.ListComp_U (F₀ := by k_asm) (by with_unfolding_all rfl) (by decide) (by rfl) (by decide) (by rfl) ?_
        repeat' (first | (k_unfold; (try dsimp only)) | ((fail_if_success (first | (with_reducible show LCt.CompSrcT _ _ _ _ _ _ _ _ _ _ _ _ _ _ _) | (with_reducible show LCg.CompEnd _ _ _ _ _ _ _ _ _ _ _ _ _ _) | (with_reducible show LCg.CompSrc _ _ _ _ _ _ _ _ _ _ _ _ _ _) | (with_reducible show wpAny _ _ (call (Value.type "dict") _) _ _ _) | (with_reducible show wpAny _ _ (pyIter (Value.ref _)) _ _ _) | (with_reducible show wpAny _ _ (call (Value.ref _) _) _ _ _) | (with_reducible show wpAny _ _ (exec (Stmt.For _ _ _ _ _) _) _ _ _) | (with_reducible show wpAny _ _ (exec (Stmt.Assign [_] (Expr.ListComp _ _ _ _) _) _) _ _ _) | (with_reducible show wpAny _ _ (eval (Expr.ListComp _ _ _ _) _) _ _ _))); first | walk1 | (dsimp only; walk1)))
        refine LCg.CompSrc.range (n := 6) (by rfl) (by k_asm) (by k_asm) (by assumption) (by decide) (by rfl) (by simp [sizeLine_eq]) ?_
        intro g
        refine comp_invG (fun c zs nw => ∃ (R' : Ledger) (cs : List (Int × Tok)), Off R' [pen, cells, L0 + 1 + 1 + 1, L0 + 1 + 1, L0 + 1, 837] ∧ (∀ p ∈ R1, p ∈ R') ∧ nw = (pen, oP4) :: (cells, oC) :: (L0 + 1 + 1 + 1, o1) :: (L0 + 1 + 1, om) :: (L0 + 1, op3) :: (837, tabObj #[]) :: R' ∧ cs.length = c ∧ zs.length = c ∧ (∀ x ∈ cs, x.1 = 1 ∨ x.1 = 3) ∧ ∀ (i : Nat) (v : Value) (x : Int × Tok), zs[i]? = some v → cs[i]? = some x → ∃ (T k : Nat) (t : Tok), v = .ref T ∧ (T, ({ cls := .type "tuple", data := .seq #[.int (i : Int) t, .int x.1 x.2] k } : Obj)) ∈ R') ⟨R1, [], hR1, (fun _ h => h), rfl, rfl, rfl, (fun _ h => nomatch h), (fun i v x h => by simp at h)⟩ ?_ ?_
        · rintro c v I oI C oC' D3 m3 h tk E' hc6 ⟨tv, rfl⟩ Jq Gq hGq zs nw ⟨R', cs, hR', hs', rfl, hcl, hzl, hc13, hat⟩
          refine hGq _ _ ?_
          clear hGq Gq
          rintro hC hx F9 N9 off ne hJq
          --<
          have hin : (D2, listOf ys.toArray ys.length) ∈ (I, oI) :: (C, oC') :: (D3, LCg.lst zs) :: (pen, oP4) :: (cells, oC) :: (L0 + 1 + 1 + 1, o1) :: (L0 + 1 + 1, om) :: (L0 + 1, op3) :: (837, tabObj #[]) :: R' := .tail _ (.tail _ (.tail _ (.tail _ (.tail _ (.tail _ (.tail _ (.tail _ (.tail _ (hs' _ hmarks)))))))))
          have fin : ∀ (x : Int × Tok) (T : Nat) (t : Tok) (h' : Heap) (tk' : Nat), (x.1 = 1 ∨ x.1 = 3) → Fr b L0 h' (fun y => if y = Str.ofString "one" then o else if y = Str.ofString "infos" then some (Value.ref infl) else if y = Str.ofString "script" then some (Value.ref sc) else none) → (∀ p ∈ (I, oI) :: (C, oC') :: (D3, LCg.lst zs) :: (pen, oP4) :: (cells, oC) :: (L0 + 1 + 1 + 1, o1) :: (L0 + 1 + 1, om) :: (L0 + 1, op3) :: (837, tabObj #[]) :: R', @LT.lt Nat _ p.1 T) →
              News b L0 h' ((T, { cls := .type "tuple", data := .seq #[.int (c : Int) t, .int x.1 x.2] }) :: (I, oI) :: (C, oC') :: (D3, LCg.lst zs) :: (pen, oP4) :: (cells, oC) :: (L0 + 1 + 1 + 1, o1) :: (L0 + 1 + 1, om) :: (L0 + 1, op3) :: (837, tabObj #[]) :: R') →
              ∃ (R2 : Ledger) (cs2 : List (Int × Tok)), Off R2 [pen, cells, L0 + 1 + 1 + 1, L0 + 1 + 1, L0 + 1, 837] ∧ (∀ p ∈ R1, p ∈ R2) ∧ News b L0 h' ((I, oI) :: (C, oC') :: (D3, LCg.lst zs) :: (pen, oP4) :: (cells, oC) :: (L0 + 1 + 1 + 1, o1) :: (L0 + 1 + 1, om) :: (L0 + 1, op3) :: (837, tabObj #[]) :: R2) ∧ LCg.Off3 I C D3 ((pen, oP4) :: (cells, oC) :: (L0 + 1 + 1 + 1, o1) :: (L0 + 1 + 1, om) :: (L0 + 1, op3) :: (837, tabObj #[]) :: R2) ∧ cs2.length = c + 1 ∧ (∀ x ∈ cs2, x.1 = 1 ∨ x.1 = 3) ∧ ∀ (i : Nat) (v : Value) (x : Int × Tok), (zs ++ [Value.ref T])[i]? = some v → cs2[i]? = some x → ∃ (T k : Nat) (t : Tok), v = .ref T ∧ (T, ({ cls := .type "tuple", data := .seq #[.int (i : Int) t, .int x.1 x.2] k } : Obj)) ∈ R2 := by
            intro x T t h' tk' hx13 F' lt' N'
            have hTA : T ∉ [pen, cells, L0 + 1 + 1 + 1, L0 + 1 + 1, L0 + 1, 837] := fun hm => by
              obtain ⟨o, ho⟩ := in_six (l := (I, oI) :: (C, oC') :: (D3, LCg.lst zs) :: (pen, oP4) :: (cells, oC) :: (L0 + 1 + 1 + 1, o1) :: (L0 + 1 + 1, om) :: (L0 + 1, op3) :: (837, tabObj #[]) :: R') (by k_mem) (by k_mem) (by k_mem) (by k_mem) (by k_mem) (by k_mem) T hm
              exact Nat.lt_irrefl _ (lt' _ ho)
            refine ⟨(T, { cls := .type "tuple", data := .seq #[.int (c : Int) t, .int x.1 x.2] }) :: R', cs ++ [x], Off.cons hTA hR', fun p hp => .tail _ (hs' p hp), fun p hp => ?_, LCg.Off3.of fun p hp => ?_, by simp [hcl], fun y hy => ?_, fun i v y hv hy => ?_⟩
            · rcases List.mem_append.mp (show p ∈ (((I, oI) :: (C, oC') :: (D3, LCg.lst zs) :: [(pen, oP4), (cells, oC), (L0 + 1 + 1 + 1, o1), (L0 + 1 + 1, om), (L0 + 1, op3), (837, tabObj #[])]) ++ (_ :: R') : Ledger) from hp) with hp | hp
              · exact N' p (.tail _ (List.mem_append_left (bs := R') (as := (I, oI) :: (C, oC') :: (D3, LCg.lst zs) :: [(pen, oP4), (cells, oC), (L0 + 1 + 1 + 1, o1), (L0 + 1 + 1, om), (L0 + 1, op3), (837, tabObj #[])]) hp))
              · rcases List.mem_cons.mp hp with h | hp
                · exact N' p (h ▸ .head _)
                · exact N' p (.tail _ (List.mem_append_right ((I, oI) :: (C, oC') :: (D3, LCg.lst zs) :: [(pen, oP4), (cells, oC), (L0 + 1 + 1 + 1, o1), (L0 + 1 + 1, om), (L0 + 1, op3), (837, tabObj #[])]) hp))
            · rcases List.mem_append.mp (show p ∈ ([(pen, oP4), (cells, oC), (L0 + 1 + 1 + 1, o1), (L0 + 1 + 1, om), (L0 + 1, op3), (837, tabObj #[])] ++ (_ :: R') : Ledger) from hp) with hp | hp
              · exact off.mem p (List.mem_append_left (bs := R') (as := [(pen, oP4), (cells, oC), (L0 + 1 + 1 + 1, o1), (L0 + 1 + 1, om), (L0 + 1, op3), (837, tabObj #[])]) hp)
              · rcases List.mem_cons.mp hp with h | hp
                · rw [h]; exact ⟨Nat.ne_of_gt (lt' (I, oI) (.head _)), Nat.ne_of_gt (lt' (C, oC') (.tail _ (.head _))), Nat.ne_of_gt (lt' (D3, _) (.tail _ (.tail _ (.head _))))⟩
                · exact off.mem p (List.mem_append_right [(pen, oP4), (cells, oC), (L0 + 1 + 1 + 1, o1), (L0 + 1 + 1, om), (L0 + 1, op3), (837, tabObj #[])] hp)
            · rcases List.mem_append.mp hy with hy | hy
              · exact hc13 y hy
              · rw [List.mem_singleton.mp hy]; exact hx13
            · by_cases hi : i < c
              · rw [List.getElem?_append_left (by omega)] at hv hy
                obtain ⟨T', k', t', e, hm⟩ := hat i v y hv hy
                exact ⟨T', k', t', e, .tail _ hm⟩
              · have hlt := (List.getElem?_eq_some_iff.mp hy).1
                simp at hlt
                obtain rfl : i = c := by exact o_last hi (Nat.lt_of_lt_of_eq hlt (congrArg Nat.succ hcl))
                rw [List.getElem?_append_right (by omega)] at hv hy
                simp [hzl, hcl] at hv hy
                exact ⟨T, 0, t, hv.symm, hy ▸ .head _⟩
          repeat' (first | (k_unfold; (try dsimp only)) | ((fail_if_success (first | (with_reducible show LCt.CompSrcT _ _ _ _ _ _ _ _ _ _ _ _ _ _ _) | (with_reducible show LCg.CompEnd _ _ _ _ _ _ _ _ _ _ _ _ _ _) | (with_reducible show LCg.CompSrc _ _ _ _ _ _ _ _ _ _ _ _ _ _) | (with_reducible show wpAny _ _ (call (Value.type "dict") _) _ _ _) | (with_reducible show wpAny _ _ (pyIter (Value.ref _)) _ _ _) | (with_reducible show wpAny _ _ (call (Value.ref _) _) _ _ _) | (with_reducible show wpAny _ _ (exec (Stmt.For _ _ _ _ _) _) _ _ _) | (with_reducible show wpAny _ _ (exec (Stmt.Assign [_] (Expr.ListComp _ _ _ _) _) _) _ _ _) | (with_reducible show wpAny _ _ (eval (Expr.ListComp _ _ _ _) _) _ _ _))); first | walk1 | (dsimp only; walk1)))
          refine kf_in (its := ys.toArray) N9 hin (ints_kf hys) rfl ?_
          generalize (List.any ys.toArray.toList (isInt (0 + (c : Int)))) = bb
          cases bb with
          | true =>
            repeat' (first | (k_unfold; (try dsimp only)) | ((fail_if_success (first | (with_reducible show LCt.CompSrcT _ _ _ _ _ _ _ _ _ _ _ _ _ _ _) | (with_reducible show LCg.CompEnd _ _ _ _ _ _ _ _ _ _ _ _ _ _) | (with_reducible show LCg.CompSrc _ _ _ _ _ _ _ _ _ _ _ _ _ _) | (with_reducible show wpAny _ _ (call (Value.type "dict") _) _ _ _) | (with_reducible show wpAny _ _ (pyIter (Value.ref _)) _ _ _) | (with_reducible show wpAny _ _ (call (Value.ref _) _) _ _ _) | (with_reducible show wpAny _ _ (exec (Stmt.For _ _ _ _ _) _) _ _ _) | (with_reducible show wpAny _ _ (exec (Stmt.Assign [_] (Expr.ListComp _ _ _ _) _) _) _ _ _) | (with_reducible show wpAny _ _ (eval (Expr.ListComp _ _ _ _) _) _ _ _))); first | walk1 | (dsimp only; walk1)))
            rename_i T4 h4 F4 N4 l4
            rw [Int.zero_add] at N4
            obtain ⟨R2, cs2, q1, q2, q3, q4, q5, q6, q7⟩ := fin (3, _) T4 _ h4 0 (.inr rfl) F4 (kst_ltOf (show AllLt T4 ((I, oI) :: (C, oC') :: (D3, LCg.lst zs) :: (pen, oP4) :: (cells, oC) :: (L0 + 1 + 1 + 1, o1) :: (L0 + 1 + 1, om) :: (L0 + 1, op3) :: (837, tabObj #[]) :: R') from l4)) N4
            exact LCg.CompEnd.intro F4 q3 _ (fun p hp => hp) q4 trivial (hJq _ _ ⟨R2, cs2, q1, q2, rfl, q5, by simp [hzl], q6, q7⟩)
          | false =>
            repeat' (first | (k_unfold; (try dsimp only)) | ((fail_if_success (first | (with_reducible show LCt.CompSrcT _ _ _ _ _ _ _ _ _ _ _ _ _ _ _) | (with_reducible show LCg.CompEnd _ _ _ _ _ _ _ _ _ _ _ _ _ _) | (with_reducible show LCg.CompSrc _ _ _ _ _ _ _ _ _ _ _ _ _ _) | (with_reducible show wpAny _ _ (call (Value.type "dict") _) _ _ _) | (with_reducible show wpAny _ _ (pyIter (Value.ref _)) _ _ _) | (with_reducible show wpAny _ _ (call (Value.ref _) _) _ _ _) | (with_reducible show wpAny _ _ (exec (Stmt.For _ _ _ _ _) _) _ _ _) | (with_reducible show wpAny _ _ (exec (Stmt.Assign [_] (Expr.ListComp _ _ _ _) _) _) _ _ _) | (with_reducible show wpAny _ _ (eval (Expr.ListComp _ _ _ _) _) _ _ _))); first | walk1 | (dsimp only; walk1)))
            rename_i T4 h4 F4 N4 l4
            rw [Int.zero_add] at N4
            obtain ⟨R2, cs2, q1, q2, q3, q4, q5, q6, q7⟩ := fin (1, _) T4 _ h4 0 (.inl rfl) F4 (kst_ltOf (show AllLt T4 ((I, oI) :: (C, oC') :: (D3, LCg.lst zs) :: (pen, oP4) :: (cells, oC) :: (L0 + 1 + 1 + 1, o1) :: (L0 + 1 + 1, om) :: (L0 + 1, op3) :: (837, tabObj #[]) :: R') from l4)) N4
            exact LCg.CompEnd.intro F4 q3 _ (fun p hp => hp) q4 trivial (hJq _ _ ⟨R2, cs2, q1, q2, rfl, q5, by simp [hzl], q6, q7⟩)
          -->
        · rintro Gq hGq zs nw ⟨R', cs, hR', hs', rfl, hcl, hzl, hc13, hat⟩
          refine hGq _ _ ?_
          clear hGq Gq
          unfold LCg.FinE
          intro D3 h3 tk3 F9 N9 off
          have hcl : cs.length = 6 := hcl
          have hzl : zs.length = 6 := hzl
          repeat' (first | (k_unfold; (try dsimp only)) | ((fail_if_success (first | (with_reducible show LCt.CompSrcT _ _ _ _ _ _ _ _ _ _ _ _ _ _ _) | (with_reducible show LCg.CompEnd _ _ _ _ _ _ _ _ _ _ _ _ _ _) | (with_reducible show LCg.CompSrc _ _ _ _ _ _ _ _ _ _ _ _ _ _) | (with_reducible show wpAny _ _ (call (Value.type "dict") _) _ _ _) | (with_reducible show wpAny _ _ (pyIter (Value.ref _)) _ _ _) | (with_reducible show wpAny _ _ (call (Value.ref _) _) _ _ _) | (with_reducible show wpAny _ _ (exec (Stmt.For _ _ _ _ _) _) _ _ _) | (with_reducible show wpAny _ _ (exec (Stmt.Assign [_] (Expr.ListComp _ _ _ _) _) _) _ _ _) | (with_reducible show wpAny _ _ (eval (Expr.ListComp _ _ _ _) _) _ _ _))); first | walk1 | (dsimp only; walk1)))
          refine DPairs.dict_ints rfl F9 N9 (modules_low T.nolimit) (N9 _ (.head _)).1 (clsKvs cs) (clsKvs_nodup cs) (by simp [hzl, clsKvs]) (by simp [clsKvs]) (fun i v kv hv hkv => ?_) ?_
          · obtain ⟨hi6, rfl⟩ := clsKvs_at hkv
            rw [List.getElem?_toArray] at hv
            obtain ⟨T', k', t', e, hm⟩ := hat i v (cs.getD i (1, 0)) hv (by rw [List.getD_eq_getElem?_getD, List.getElem?_eq_getElem (by exact Nat.lt_of_lt_of_eq hi6 (Eq.symm (by assumption)))]; rfl)
            exact ⟨T', k', t', e, (N9 _ (.tail _ (.tail _ (.tail _ (.tail _ (.tail _ (.tail _ (.tail _ hm)))))))).1⟩
          intro dcl ocl h4 tk4 F10 N10 locl hkcl hltcl
          have hCls := cls_ok locl hkcl hc13
          replace N10 : News b L0 h4 ((dcl, ocl) :: (pen, oP4) :: (cells, oC) :: (L0 + 1 + 1 + 1, o1) :: (L0 + 1 + 1, om) :: (L0 + 1, op3) :: (837, tabObj #[]) :: R') := fun p hp => (List.mem_cons.mp hp).elim (fun h => N10 p (h ▸ .head _)) fun hp => N10 p (.tail _ (.tail _ hp))
          have hdA : dcl ∉ [pen, cells, L0 + 1 + 1 + 1, L0 + 1 + 1, L0 + 1, 837] := off_lt (fun p hp => hltcl p (.tail _ hp)) (in_six (l := (pen, oP4) :: (cells, oC) :: (L0 + 1 + 1 + 1, o1) :: (L0 + 1 + 1, om) :: (L0 + 1, op3) :: (837, tabObj #[]) :: R') (by k_mem) (by k_mem) (by k_mem) (by k_mem) (by k_mem) (by k_mem))
          replace N10 := absorb (X := [(pen, oP4), (cells, oC), (L0 + 1 + 1 + 1, o1), (L0 + 1 + 1, om), (L0 + 1, op3), (837, tabObj #[])]) (made := [(dcl, ocl)]) N10
          dsimp only [List.cons_append, List.nil_append] at N10
          have hRd : Off ((dcl, ocl) :: R') [pen, cells, L0 + 1 + 1 + 1, L0 + 1 + 1, L0 + 1, 837] := Off.cons hdA hR'
          repeat' (first | (k_unfold; (try dsimp only)) | ((fail_if_success (first | (with_reducible show LCt.CompSrcT _ _ _ _ _ _ _ _ _ _ _ _ _ _ _) | (with_reducible show LCg.CompEnd _ _ _ _ _ _ _ _ _ _ _ _ _ _) | (with_reducible show LCg.CompSrc _ _ _ _ _ _ _ _ _ _ _ _ _ _) | (with_reducible show wpAny _ _ (call (Value.type "dict") _) _ _ _) | (with_reducible show wpAny _ _ (pyIter (Value.ref _)) _ _ _) | (with_reducible show wpAny _ _ (call (Value.ref _) _) _ _ _) | (with_reducible show wpAny _ _ (exec (Stmt.For _ _ _ _ _) _) _ _ _) | (with_reducible show wpAny _ _ (exec (Stmt.Assign [_] (Expr.ListComp _ _ _ _) _) _) _ _ _) | (with_reducible show wpAny _ _ (eval (Expr.ListComp _ _ _ _) _) _ _ _))); first | walk1 | (dsimp only; walk1)))
          refine' use0N classdef_c ?hdp ?hun ?F ?N ?X ?T ?hi ?_
          ( (case hdp | hun => kwd_inv); (case F | N | X | T => k_asm))
          (case hi => exact fun p hp => nomatch hp)
          rintro Gq hGq n11 _ h11 tk11 _ ⟨cx, cdx, ckt, rfl, rfl⟩
          refine hGq _ _ _ _ _ ?_
          clear hGq Gq
          rintro hnew11 F11 N11
          obtain ⟨R3, hR3, hM3, hS3, N12⟩ := pack (X := [(pen, oP4), (cells, oC), (L0 + 1 + 1 + 1, o1), (L0 + 1 + 1, om), (L0 + 1, op3), (837, tabObj #[])]) N11 (Off.made hnew11 (in_six (by k_mem) (by k_mem) (by k_mem) (by k_mem) (by k_mem) (by k_mem))) hRd
          replace N12 : News b L0 h11 ((pen, oP4) :: (cells, oC) :: (L0 + 1 + 1 + 1, o1) :: (L0 + 1 + 1, om) :: (L0 + 1, op3) :: (837, tabObj #[]) :: R3) := N12
          clear N11 N10 N9 hnew11
          repeat' (first | (k_unfold; (try dsimp only)) | ((fail_if_success (first | (with_reducible show LCt.CompSrcT _ _ _ _ _ _ _ _ _ _ _ _ _ _ _) | (with_reducible show LCg.CompEnd _ _ _ _ _ _ _ _ _ _ _ _ _ _) | (with_reducible show LCg.CompSrc _ _ _ _ _ _ _ _ _ _ _ _ _ _) | (with_reducible show wpAny _ _ (call (Value.type "dict") _) _ _ _) | (with_reducible show wpAny _ _ (pyIter (Value.ref _)) _ _ _) | (with_reducible show wpAny _ _ (call (Value.ref _) _) _ _ _) | (with_reducible show wpAny _ _ (exec (Stmt.For _ _ _ _ _) _) _ _ _) | (with_reducible show wpAny _ _ (exec (Stmt.Assign [_] (Expr.ListComp _ _ _ _) _) _) _ _ _) | (with_reducible show wpAny _ _ (eval (Expr.ListComp _ _ _ _) _) _ _ _))); first | walk1 | (dsimp only; walk1)))
          rename_i d2 h12 o2d F12 N13 lo13 hs13 fs13 hi13 fi13 l13
          obtain ⟨R4, hR4, hM4, hS4, N14⟩ := pack (X := [(pen, oP4), (cells, oC), (L0 + 1 + 1 + 1, o1), (L0 + 1 + 1, om), (L0 + 1, op3), (837, tabObj #[])]) (M := [(d2, o2d)]) N13 (Off.one (kst_ltOf (show AllLt d2 ((pen, oP4) :: (cells, oC) :: (L0 + 1 + 1 + 1, o1) :: (L0 + 1 + 1, om) :: (L0 + 1, op3) :: (837, tabObj #[]) :: R3) from l13)) (in_six (by k_mem) (by k_mem) (by k_mem) (by k_mem) (by k_mem) (by k_mem))) hR3
          replace N14 : News b L0 h12 ((pen, oP4) :: (cells, oC) :: (L0 + 1 + 1 + 1, o1) :: (L0 + 1 + 1, om) :: (L0 + 1, op3) :: (837, tabObj #[]) :: R4) := N14
          clear N13 l13 hs13 fs13 hi13 fi13
          refine' use0N classdef_c ?hdp ?hun ?F ?N ?X ?T ?hi ?_
          ( (case hdp | hun => kwd_inv); (case F | N | X | T => k_asm))
          (case hi => exact fun p hp => nomatch hp)
          rintro Gq hGq n15 _ h15 tk15 _ ⟨cx2, cdx2, ckt2, rfl, rfl⟩
          refine hGq _ _ _ _ _ ?_
          clear hGq Gq
          rintro hnew15 F15 N15
          obtain ⟨R5, hR5, hM5, hS5, N16⟩ := pack (X := [(pen, oP4), (cells, oC), (L0 + 1 + 1 + 1, o1), (L0 + 1 + 1, om), (L0 + 1, op3), (837, tabObj #[])]) N15 (Off.made hnew15 (in_six (by k_mem) (by k_mem) (by k_mem) (by k_mem) (by k_mem) (by k_mem))) hR4
          replace N16 : News b L0 h15 ((pen, oP4) :: (cells, oC) :: (L0 + 1 + 1 + 1, o1) :: (L0 + 1 + 1, om) :: (L0 + 1, op3) :: (837, tabObj #[]) :: R5) := N16
          (try clear N15)
          (try clear N14)
          (try clear hnew15)
          repeat' (first | (k_unfold; (try dsimp only)) | ((fail_if_success (first | (with_reducible show LCt.CompSrcT _ _ _ _ _ _ _ _ _ _ _ _ _ _ _) | (with_reducible show LCg.CompEnd _ _ _ _ _ _ _ _ _ _ _ _ _ _) | (with_reducible show LCg.CompSrc _ _ _ _ _ _ _ _ _ _ _ _ _ _) | (with_reducible show wpAny _ _ (call (Value.type "dict") _) _ _ _) | (with_reducible show wpAny _ _ (pyIter (Value.ref _)) _ _ _) | (with_reducible show wpAny _ _ (call (Value.ref _) _) _ _ _) | (with_reducible show wpAny _ _ (exec (Stmt.For _ _ _ _ _) _) _ _ _) | (with_reducible show wpAny _ _ (exec (Stmt.Assign [_] (Expr.ListComp _ _ _ _) _) _) _ _ _) | (with_reducible show wpAny _ _ (eval (Expr.ListComp _ _ _ _) _) _ _ _))); first | walk1 | (dsimp only; walk1)))
          rename_i l2 h17 F17 N17 l17
          obtain ⟨R6, hR6, hM6, hS6, N18⟩ := pack (X := [(pen, oP4), (cells, oC), (L0 + 1 + 1 + 1, o1), (L0 + 1 + 1, om), (L0 + 1, op3), (837, tabObj #[])]) (M := [(l2, listOf #[] 0)]) N17 (Off.one (kst_ltOf (show AllLt l2 ((pen, oP4) :: (cells, oC) :: (L0 + 1 + 1 + 1, o1) :: (L0 + 1 + 1, om) :: (L0 + 1, op3) :: (837, tabObj #[]) :: R5) from l17)) (in_six (by k_mem) (by k_mem) (by k_mem) (by k_mem) (by k_mem) (by k_mem))) hR5
          replace N18 : News b L0 h17 ((pen, oP4) :: (cells, oC) :: (L0 + 1 + 1 + 1, o1) :: (L0 + 1 + 1, om) :: (L0 + 1, op3) :: (837, tabObj #[]) :: R6) := N18
          (try clear N17)
          (try clear l17)
          refine' use0N gdef_c ?hdp ?hun ?F ?N ?X ?T ?hi ?_
          ( (case hdp | hun => kwd_inv); (case F | N | X | T => k_asm))
          (case hi => exact fun p hp => nomatch hp)
          rintro Gq hGq n19 _ h19 tk19 _ ⟨gx, gdx, gkk, gpts, gcar, gmore, rfl, rfl⟩
          refine hGq _ _ _ _ _ ?_
          clear hGq Gq
          rintro hnew19 F19 N19
          obtain ⟨R7, hR7, hM7, hS7, N20⟩ := pack (X := [(pen, oP4), (cells, oC), (L0 + 1 + 1 + 1, o1), (L0 + 1 + 1, om), (L0 + 1, op3), (837, tabObj #[])]) N19 (Off.made hnew19 (in_six (by k_mem) (by k_mem) (by k_mem) (by k_mem) (by k_mem) (by k_mem))) hR6
          replace N20 : News b L0 h19 ((pen, oP4) :: (cells, oC) :: (L0 + 1 + 1 + 1, o1) :: (L0 + 1 + 1, om) :: (L0 + 1, op3) :: (837, tabObj #[]) :: R7) := N20
          (try clear N19)
          (try clear N18)
          (try clear hnew19)
          have hS37 : ∀ p ∈ R3, p ∈ R7 := fun p hp => hS7 p (hS6 p (hS5 p (hS4 p hp)))
          have hgled : ∀ p ∈ gdefLed w.params gx gdx cx cdx dcl ocl (fun i => if i = 5 then ckt else gkk i) (.ref cx2) (.ref l2) gpts gcar, p ∈ R7 := by
            intro p hp
            rcases List.mem_cons.mp hp with h | hp
            · exact h ▸ hM7 _ (.head _)
            rcases List.mem_cons.mp hp with h | hp
            · exact h ▸ hM7 _ (.tail _ (.head _))
            rcases List.mem_cons.mp hp with h | hp
            · exact h ▸ hS37 _ (hM3 _ (.head _))
            rcases List.mem_cons.mp hp with h | hp
            · exact h ▸ hS37 _ (hM3 _ (.tail _ (.head _)))
            · exact List.mem_singleton.mp hp ▸ hS37 _ (hS3 _ (.head _))
          have hinfm7 := hS37 _ (hS3 _ (.tail _ (hs' _ (hsub1 _ hinfm))))
          have hrowm7 : ∀ p ∈ rowsLed w.params rows, p ∈ R7 := fun p hp => hS37 _ (hS3 _ (.tail _ (hs' _ (hsub1 _ (hrowm p hp)))))
          (try clear hM3)
          (try clear hS3)
          (try clear hM4)
          (try clear hS4)
          (try clear hM5)
          (try clear hS5)
          (try clear hM6)
          (try clear hS6)
          (try clear hM7)
          (try clear hS7)
          (try clear hS37)
          (try clear hat)
          (try clear hR3)
          (try clear hR4)
          (try clear hR5)
          (try clear hR6)
          (try clear hRd)
          (try clear hR')
          repeat' (first | (k_unfold; (try dsimp only)) | ((fail_if_success (first | (with_reducible show LCt.CompSrcT _ _ _ _ _ _ _ _ _ _ _ _ _ _ _) | (with_reducible show LCg.CompEnd _ _ _ _ _ _ _ _ _ _ _ _ _ _) | (with_reducible show LCg.CompSrc _ _ _ _ _ _ _ _ _ _ _ _ _ _) | (with_reducible show wpAny _ _ (call (Value.type "dict") _) _ _ _) | (with_reducible show wpAny _ _ (pyIter (Value.ref _)) _ _ _) | (with_reducible show wpAny _ _ (call (Value.ref _) _) _ _ _) | (with_reducible show wpAny _ _ (exec (Stmt.For _ _ _ _ _) _) _ _ _) | (with_reducible show wpAny _ _ (exec (Stmt.Assign [_] (Expr.ListComp _ _ _ _) _) _) _ _ _) | (with_reducible show wpAny _ _ (eval (Expr.ListComp _ _ _ _) _) _ _ _))); first | walk1 | (dsimp only; walk1)))
          refine' useU (pick_p HC HP4 (by decide) ?hl) ?hdp ?hun ?F ?N ?X ?T ?U ?hi ?_
          (( (case hdp | hun => kwd_inv); (case F | N | X | T => k_asm)); (case U => k_updF); (case hi => repeat (first | exact List.forall_mem_nil _ | (refine List.forall_mem_cons.mpr ⟨?_, ?_⟩; first | exact Or.inr (by assumption) | exact Or.inl ⟨by k_mem, by k_ne⟩))))
          (case hl => exact ⟨Nat.le_of_ble_eq_true rfl, Nat.le_of_ble_eq_true rfl⟩)
          rintro Gq hGq n21 v21 h21 tk21 _ ⟨j21, oP5, hv21, HP5, rfl⟩
          refine hGq _ _ _ _ _ ?_
          clear hGq Gq
          rintro F21 N21 -
          replace N21 := N21 oP5 [] (fun _ h => h)
          dsimp only [List.nil_append] at N21
          obtain ⟨flag, tfl, rfl, hfl⟩ : ∃ (x : Int) (t : Tok), v21 = Value.int x t ∧ (x = 0 ∨ x = 2 ∨ x = 8) := by
            rcases j21 with _ | _ | _ | _ | j21 <;> first | exact ⟨_, _, (Option.some.inj hv21).symm, by decide⟩ | (simp at hv21)
          (try clear hv21)
          replace N21 : News b L0 h21 ((pen, oP5) :: (cells, oC) :: (L0 + 1 + 1 + 1, o1) :: (L0 + 1 + 1, om) :: (L0 + 1, op3) :: (837, tabObj #[]) :: R7) := fun p hp => N21 p (.tail _ hp)
          replace HP5 : PenOk cells 30 oP5 := HP5.mono (by decide)
          repeat' (first | (k_unfold; (try dsimp only)) | ((fail_if_success (first | (with_reducible show LCt.CompSrcT _ _ _ _ _ _ _ _ _ _ _ _ _ _ _) | (with_reducible show LCg.CompEnd _ _ _ _ _ _ _ _ _ _ _ _ _ _) | (with_reducible show LCg.CompSrc _ _ _ _ _ _ _ _ _ _ _ _ _ _) | (with_reducible show wpAny _ _ (call (Value.type "dict") _) _ _ _) | (with_reducible show wpAny _ _ (pyIter (Value.ref _)) _ _ _) | (with_reducible show wpAny _ _ (call (Value.ref _) _) _ _ _) | (with_reducible show wpAny _ _ (exec (Stmt.For _ _ _ _ _) _) _ _ _) | (with_reducible show wpAny _ _ (exec (Stmt.Assign [_] (Expr.ListComp _ _ _ _) _) _) _ _ _) | (with_reducible show wpAny _ _ (eval (Expr.ListComp _ _ _ _) _) _ _ _))); first | walk1 | (dsimp only; walk1)))
          refine LCt.ListComp_T (F₀ := by k_asm) (by with_unfolding_all rfl) (by decide) (by rfl) (by decide) (by rfl) ?_
          repeat' (first | (k_unfold; (try dsimp only)) | ((fail_if_success (first | (with_reducible show LCt.CompSrcT _ _ _ _ _ _ _ _ _ _ _ _ _ _ _) | (with_reducible show LCg.CompEnd _ _ _ _ _ _ _ _ _ _ _ _ _ _) | (with_reducible show LCg.CompSrc _ _ _ _ _ _ _ _ _ _ _ _ _ _) | (with_reducible show wpAny _ _ (call (Value.type "dict") _) _ _ _) | (with_reducible show wpAny _ _ (pyIter (Value.ref _)) _ _ _) | (with_reducible show wpAny _ _ (call (Value.ref _) _) _ _ _) | (with_reducible show wpAny _ _ (exec (Stmt.For _ _ _ _ _) _) _ _ _) | (with_reducible show wpAny _ _ (exec (Stmt.Assign [_] (Expr.ListComp _ _ _ _) _) _) _ _ _) | (with_reducible show wpAny _ _ (eval (Expr.ListComp _ _ _ _) _) _ _ _))); first | walk1 | (dsimp only; walk1)))
          refine LCt.CompSrcT.range (n := 6) (by rfl) (by k_asm) (by k_asm) (by assumption) (by decide) (by rfl) (by simp [sizeLine_eq]) ?_
          intro g
          refine comp_invTG (fun c zs nw => ∃ (oP' : Obj) (R' : Ledger) (vrs : List (Int × VR)), PenOk cells (30 + 4 * c) oP' ∧ nw = (pen, oP') :: (cells, oC) :: (L0 + 1 + 1 + 1, o1) :: (L0 + 1 + 1, om) :: (L0 + 1, op3) :: (837, tabObj #[]) :: R' ∧ Off R' [pen, cells, L0 + 1 + 1 + 1, L0 + 1 + 1, L0 + 1, 837] ∧ (∀ p ∈ R7, p ∈ R') ∧ zs.length = vrs.length ∧ vrs.length ≤ c ∧ (∀ p ∈ vrs, 0 ≤ p.1 ∧ p.1 < (c : Int)) ∧ (vrs.map (·.1)).Nodup ∧ (∀ p ∈ vrs, ∀ q ∈ p.2.led w.params, q ∈ R') ∧
            ∀ (i : Nat) (v : Value) (p : Int × VR), zs[i]? = some v → vrs[i]? = some p → ∃ (T k : Nat) (t : Tok), v = .ref T ∧ (T, ({ cls := .type "tuple", data := .seq #[.int p.1 t, .ref p.2.a] k } : Obj)) ∈ R') ⟨oP5, R7, [], HP5.mono (by decide), rfl, hR7, (fun _ h => h), rfl, Nat.le_refl _, (fun _ h => nomatch h), List.nodup_nil, (fun _ h => nomatch h), (fun i v x h => by simp at h)⟩ ?_ ?_
          · rintro c v I oI C oC' D3 m3 h tk E' hc6 ⟨tv, rfl⟩ Jq Gq hGq zs nw ⟨oP6, R', vrs, HP6, rfl, hR', hs7, hzl, hvl, hv6, hvn, hvm, hat⟩
            refine hGq _ _ ?_
            clear hGq Gq
            rintro hC hx F9 N9 off ne hJq
            have off2 := off
            simp only [LCg.Off3, and_true] at off2
            obtain ⟨⟨e1, e2, e3⟩, -⟩ := off2
            have e1 : @Ne Nat pen I := e1
            have e2 : @Ne Nat pen C := e2
            have e3 : @Ne Nat pen D3 := e3
            --<
            repeat' (first | (k_unfold; (try dsimp only)) | ((fail_if_success (first | (with_reducible show LCt.CompSrcT _ _ _ _ _ _ _ _ _ _ _ _ _ _ _) | (with_reducible show LCg.CompEnd _ _ _ _ _ _ _ _ _ _ _ _ _ _) | (with_reducible show LCg.CompSrc _ _ _ _ _ _ _ _ _ _ _ _ _ _) | (with_reducible show wpAny _ _ (call (Value.type "dict") _) _ _ _) | (with_reducible show wpAny _ _ (pyIter (Value.ref _)) _ _ _) | (with_reducible show wpAny _ _ (call (Value.ref _) _) _ _ _) | (with_reducible show wpAny _ _ (exec (Stmt.For _ _ _ _ _) _) _ _ _) | (with_reducible show wpAny _ _ (exec (Stmt.Assign [_] (Expr.ListComp _ _ _ _) _) _) _ _ _) | (with_reducible show wpAny _ _ (eval (Expr.ListComp _ _ _ _) _) _ _ _))); first | walk1 | (dsimp only; walk1)))
            refine' useU (draw_p HC HP6 (by exact o_ile (o_n30 hc6) rfl) (by decide)) ?hdp ?hun ?F ?N ?X ?T ?U ?hi ?_
            (( (case hdp | hun => kwd_inv); (case F | N | X | T => k_asm)); (case U => k_updF); (case hi => repeat (first | exact List.forall_mem_nil _ | (refine List.forall_mem_cons.mpr ⟨?_, ?_⟩; first | exact Or.inr (by assumption) | exact Or.inl ⟨by k_mem, by k_ne⟩))))
            rintro Gq hGq n5 _ h5 tk5 _ ⟨d, t5, oP7, rfl, hd0', hd1', HP7, rfl⟩
            refine hGq _ _ _ _ _ ?_
            clear hGq Gq
            rintro F10 N10 -
            replace N10 := N10 oP7 [] (fun _ h => h)
            dsimp only [List.nil_append] at N10
            have hoffn : ∀ oPx : Obj, LCg.Off3 I C D3 ((pen, oPx) :: (cells, oC) :: (L0 + 1 + 1 + 1, o1) :: (L0 + 1 + 1, om) :: (L0 + 1, op3) :: (837, tabObj #[]) :: R') := fun oPx => LCg.Off3.of fun p hp => by
              rcases List.mem_cons.mp hp with h | hp
              · rw [h]; exact ⟨e1, e2, e3⟩
              · exact off.mem p (.tail _ hp)
            repeat' (first | (k_unfold; (try dsimp only)) | ((fail_if_success (first | (with_reducible show LCt.CompSrcT _ _ _ _ _ _ _ _ _ _ _ _ _ _ _) | (with_reducible show LCg.CompEnd _ _ _ _ _ _ _ _ _ _ _ _ _ _) | (with_reducible show LCg.CompSrc _ _ _ _ _ _ _ _ _ _ _ _ _ _) | (with_reducible show wpAny _ _ (call (Value.type "dict") _) _ _ _) | (with_reducible show wpAny _ _ (pyIter (Value.ref _)) _ _ _) | (with_reducible show wpAny _ _ (call (Value.ref _) _) _ _ _) | (with_reducible show wpAny _ _ (exec (Stmt.For _ _ _ _ _) _) _ _ _) | (with_reducible show wpAny _ _ (exec (Stmt.Assign [_] (Expr.ListComp _ _ _ _) _) _) _ _ _) | (with_reducible show wpAny _ _ (eval (Expr.ListComp _ _ _ _) _) _ _ _))); first | walk1 | (dsimp only; walk1)))
            · rw [Int.zero_add]
              refine' useU (law_value_c HC HP7 (by exact o_cap1 (o_n30 hc6) rfl)) ?hdp ?hun ?F ?N ?X ?T ?U ?hi ?_
              (( (case hdp | hun => kwd_inv); (case F | N | X | T => k_asm)); (case U => k_updF); (case hi => repeat (first | exact List.forall_mem_nil _ | (refine List.forall_mem_cons.mpr ⟨?_, ?_⟩; first | exact Or.inr (by assumption) | exact Or.inl ⟨by k_mem, by k_ne⟩))))
              rintro Gq hGq n6 _ h6 tk6 _ ⟨u, oP8, rfl, HP8, rfl, ua, ud⟩
              refine hGq _ _ _ _ _ ?_
              clear hGq Gq
              rintro F11 N11 hfr
              replace N11 := N11 oP8 (u.led w.params) (fun _ h => h)
              have hnu := led_fresh hfr ua ud
              obtain ⟨R2, hR2, hM2, hS2, hI2, N12⟩ := pack2 (X := (I, oI) :: (C, oC') :: (D3, LCg.lst zs) :: [(pen, oP8), (cells, oC), (L0 + 1 + 1 + 1, o1), (L0 + 1 + 1, om), (L0 + 1, op3), (837, tabObj #[])]) N11 (Off.made hnu (in_six (by k_mem) (by k_mem) (by k_mem) (by k_mem) (by k_mem) (by k_mem))) hR'
              replace N12 : News b L0 h6 ((I, oI) :: (C, oC') :: (D3, LCg.lst zs) :: (pen, oP8) :: (cells, oC) :: (L0 + 1 + 1 + 1, o1) :: (L0 + 1 + 1, om) :: (L0 + 1, op3) :: (837, tabObj #[]) :: R2) := N12
              have hoff2 : LCg.Off3 I C D3 ((pen, oP8) :: (cells, oC) :: (L0 + 1 + 1 + 1, o1) :: (L0 + 1 + 1, om) :: (L0 + 1, op3) :: (837, tabObj #[]) :: R2) := LCg.Off3.of fun p hp => by
                rcases List.mem_append.mp (show p ∈ ([(pen, oP8), (cells, oC), (L0 + 1 + 1 + 1, o1), (L0 + 1 + 1, om), (L0 + 1, op3), (837, tabObj #[])] ++ R2 : Ledger) from hp) with hp | hp
                · exact (hoffn oP8).mem p (List.mem_append_left (bs := R') (as := [(pen, oP8), (cells, oC), (L0 + 1 + 1 + 1, o1), (L0 + 1 + 1, om), (L0 + 1, op3), (837, tabObj #[])]) hp)
                · rcases hI2 p hp with hp | hp
                  · exact ⟨hnu p hp (I, oI) (.head _), hnu p hp (C, oC') (.tail _ (.head _)), hnu p hp (D3, _) (.tail _ (.tail _ (.head _)))⟩
                  · exact (hoffn oP8).mem p (List.mem_append_right [(pen, oP8), (cells, oC), (L0 + 1 + 1 + 1, o1), (L0 + 1 + 1, om), (L0 + 1, op3), (837, tabObj #[])] hp)
              (try clear N11)
              (try clear hfr)
              (try clear N10)
              repeat' (first | (k_unfold; (try dsimp only)) | ((fail_if_success (first | (with_reducible show LCt.CompSrcT _ _ _ _ _ _ _ _ _ _ _ _ _ _ _) | (with_reducible show LCg.CompEnd _ _ _ _ _ _ _ _ _ _ _ _ _ _) | (with_reducible show LCg.CompSrc _ _ _ _ _ _ _ _ _ _ _ _ _ _) | (with_reducible show wpAny _ _ (call (Value.type "dict") _) _ _ _) | (with_reducible show wpAny _ _ (pyIter (Value.ref _)) _ _ _) | (with_reducible show wpAny _ _ (call (Value.ref _) _) _ _ _) | (with_reducible show wpAny _ _ (exec (Stmt.For _ _ _ _ _) _) _ _ _) | (with_reducible show wpAny _ _ (exec (Stmt.Assign [_] (Expr.ListComp _ _ _ _) _) _) _ _ _) | (with_reducible show wpAny _ _ (eval (Expr.ListComp _ _ _ _) _) _ _ _))); first | walk1 | (dsimp only; walk1)))
              rename_i T4 h7 F12 N13 l13
              have lt4 := kst_ltOf (show AllLt T4 ((I, oI) :: (C, oC') :: (D3, LCg.lst zs) :: (pen, oP8) :: (cells, oC) :: (L0 + 1 + 1 + 1, o1) :: (L0 + 1 + 1, om) :: (L0 + 1, op3) :: (837, tabObj #[]) :: R2) from l13)
              obtain ⟨R8, hR8, hM8, hS8, hI8, N14⟩ := pack2 (X := (I, oI) :: (C, oC') :: (D3, LCg.lst zs) :: [(pen, oP8), (cells, oC), (L0 + 1 + 1 + 1, o1), (L0 + 1 + 1, om), (L0 + 1, op3), (837, tabObj #[])]) (M := [(T4, { cls := .type "tuple", data := .seq #[.int (c : Int) tv, .ref u.a] })]) N13 (Off.one lt4 (in_six (by k_mem) (by k_mem) (by k_mem) (by k_mem) (by k_mem) (by k_mem))) hR2
              replace N14 : News b L0 h7 ((I, oI) :: (C, oC') :: (D3, LCg.lst zs) :: (pen, oP8) :: (cells, oC) :: (L0 + 1 + 1 + 1, o1) :: (L0 + 1 + 1, om) :: (L0 + 1, op3) :: (837, tabObj #[]) :: R8) := N14
              refine LCg.CompEnd.intro F12 N14 ((pen, oP8) :: (cells, oC) :: (L0 + 1 + 1 + 1, o1) :: (L0 + 1 + 1, om) :: (L0 + 1, op3) :: (837, tabObj #[]) :: R8) (fun p hp => hp) (LCg.Off3.of fun p hp => ?_) trivial (hJq _ _ ⟨oP8, R8, vrs ++ [((c : Int), u)], HP8.mono (by exact o_s30b), rfl, hR8, fun p hp => hS8 p (hS2 p (hs7 p hp)), by simp [hzl], by simp; exact hvl, fun p hp => ?_, ?_, fun p hp => ?_, ?_⟩)
              · rcases List.mem_append.mp (show p ∈ ([(pen, oP8), (cells, oC), (L0 + 1 + 1 + 1, o1), (L0 + 1 + 1, om), (L0 + 1, op3), (837, tabObj #[])] ++ R8 : Ledger) from hp) with hp | hp
                · exact hoff2.mem p (List.mem_append_left (bs := R2) (as := [(pen, oP8), (cells, oC), (L0 + 1 + 1 + 1, o1), (L0 + 1 + 1, om), (L0 + 1, op3), (837, tabObj #[])]) hp)
                · rcases hI8 p hp with hp | hp
                  · rw [List.mem_singleton.mp hp]; exact ⟨Nat.ne_of_gt (lt4 (I, oI) (.head _)), Nat.ne_of_gt (lt4 (C, oC') (.tail _ (.head _))), Nat.ne_of_gt (lt4 (D3, _) (.tail _ (.tail _ (.head _))))⟩
                  · exact hoff2.mem p (List.mem_append_right [(pen, oP8), (cells, oC), (L0 + 1 + 1 + 1, o1), (L0 + 1 + 1, om), (L0 + 1, op3), (837, tabObj #[])] hp)
              · rcases List.mem_append.mp hp with hp | hp
                · exact ⟨(hv6 p hp).1, by have := (hv6 p hp).2; exact Int.lt_trans this (Int.lt_succ _)⟩
                · rw [List.mem_singleton.mp hp]; exact ⟨by omega, by omega⟩
              · rw [List.map_append, List.nodup_append]
                refine ⟨hvn, by simp, fun a ha b' hb' => ?_⟩
                obtain ⟨p, hp, rfl⟩ := List.mem_map.mp ha
                have := (hv6 p hp).2
                simp at hb'
                exact Int.ne_of_lt (o_lteq this (Eq.symm hb'))
              · rcases List.mem_append.mp hp with hp | hp
                · exact fun q hq => hS8 q (hS2 q (hvm p hp q hq))
                · rw [List.mem_singleton.mp hp]; exact fun q hq => hS8 q (hM2 q hq)
              · refine snoc_at (z := Value.ref T4) (x := ((c : Int), u)) (Rr := []) (Pp := fun v p => ∃ (T k : Nat) (t : Tok), v = .ref T ∧ (T, ({ cls := .type "tuple", data := .seq #[.int p.1 t, .ref p.2.a] k } : Obj)) ∈ R8) hzl (fun i v p hv hp => ?_) ⟨T4, 0, tv, rfl, hM8 _ (.head _)⟩
                obtain ⟨T', k', t', e, hm⟩ := hat i v p hv hp
                exact ⟨T', k', t', e, hS8 _ (hS2 _ hm)⟩
            · exact LCg.CompEnd.intro F10 N10 _ (fun p hp => hp) (hoffn oP7) trivial (hJq _ _ ⟨oP7, R', vrs, HP7.mono (by exact Int.le_trans (Int.le_add_of_nonneg_right (by decide)) o_s30b), rfl, hR', hs7, hzl, by exact Nat.le_succ_of_le hvl, fun p hp => ⟨(hv6 p hp).1, by have := (hv6 p hp).2; exact Int.lt_trans this (Int.lt_succ _)⟩, hvn, hvm, hat⟩)
            -->
          · rintro Gq hGq zs nw ⟨oP6, R', vrs, HP6, rfl, hR', hs7, hzl, hvl, hv6, hvn, hvm, hat⟩
            refine hGq _ _ ?_
            clear hGq Gq
            unfold LCg.FinE
            intro D3 h3 tk3 F9 N9 off
            repeat' (first | (k_unfold; (try dsimp only)) | ((fail_if_success (first | (with_reducible show LCt.CompSrcT _ _ _ _ _ _ _ _ _ _ _ _ _ _ _) | (with_reducible show LCg.CompEnd _ _ _ _ _ _ _ _ _ _ _ _ _ _) | (with_reducible show LCg.CompSrc _ _ _ _ _ _ _ _ _ _ _ _ _ _) | (with_reducible show wpAny _ _ (call (Value.type "dict") _) _ _ _) | (with_reducible show wpAny _ _ (pyIter (Value.ref _)) _ _ _) | (with_reducible show wpAny _ _ (call (Value.ref _) _) _ _ _) | (with_reducible show wpAny _ _ (exec (Stmt.For _ _ _ _ _) _) _ _ _) | (with_reducible show wpAny _ _ (exec (Stmt.Assign [_] (Expr.ListComp _ _ _ _) _) _) _ _ _) | (with_reducible show wpAny _ _ (eval (Expr.ListComp _ _ _ _) _) _ _ _))); first | walk1 | (dsimp only; walk1)))
            refine DPairs.dict_ints rfl F9 N9 (modules_low T.nolimit) (N9 _ (.head _)).1 (kvOf vrs) (by unfold kvOf; rw [List.map_map]; exact hvn) (by simp [hzl, kvOf]) (by simp [kvOf]; exact o_le hvl rfl) (fun i v kv hv hkv => ?_) ?_
            · rw [List.getElem?_toArray] at hv
              obtain ⟨p, hp, rfl⟩ : ∃ p, vrs[i]? = some p ∧ kv = (p.1, .ref p.2.a) := by
                unfold kvOf at hkv
                rw [List.getElem?_map] at hkv
                obtain ⟨p, hp, e⟩ := Option.map_eq_some_iff.mp hkv
                exact ⟨p, hp, e.symm⟩
              obtain ⟨T', k', t', e, hm⟩ := hat i v p hv hp
              exact ⟨T', k', t', e, (N9 _ (.tail _ (.tail _ (.tail _ (.tail _ (.tail _ (.tail _ (.tail _ hm)))))))).1⟩
            intro vd od h4 tk4 F10 N10 lovd hkvd hltvd
            obtain ⟨R8, hR8, hvd8, hs8, N11⟩ : ∃ R8, Off R8 [pen, cells, L0 + 1 + 1 + 1, L0 + 1 + 1, L0 + 1, 837] ∧ (vd, od) ∈ R8 ∧ (∀ p ∈ R', p ∈ R8) ∧ News b L0 h4 ((pen, oP6) :: (cells, oC) :: (L0 + 1 + 1 + 1, o1) :: (L0 + 1 + 1, om) :: (L0 + 1, op3) :: (837, tabObj #[]) :: R8) := by
              replace N10 : News b L0 h4 ((vd, od) :: (pen, oP6) :: (cells, oC) :: (L0 + 1 + 1 + 1, o1) :: (L0 + 1 + 1, om) :: (L0 + 1, op3) :: (837, tabObj #[]) :: R') := fun p hp => (List.mem_cons.mp hp).elim (fun h => N10 p (h ▸ .head _)) fun hp => N10 p (.tail _ (.tail _ hp))
              have hdA : vd ∉ [pen, cells, L0 + 1 + 1 + 1, L0 + 1 + 1, L0 + 1, 837] := off_lt (fun p hp => hltvd p (.tail _ hp)) (in_six (l := (pen, oP6) :: (cells, oC) :: (L0 + 1 + 1 + 1, o1) :: (L0 + 1 + 1, om) :: (L0 + 1, op3) :: (837, tabObj #[]) :: R') (by k_mem) (by k_mem) (by k_mem) (by k_mem) (by k_mem) (by k_mem))
              exact ⟨_, Off.cons hdA hR', .head _, fun p hp => .tail _ hp, absorb (X := [(pen, oP6), (cells, oC), (L0 + 1 + 1 + 1, o1), (L0 + 1 + 1, om), (L0 + 1, op3), (837, tabObj #[])]) (made := [(vd, od)]) N10⟩
            (try clear N10)
            (try clear N9)
            (try clear off)
            (try clear F9)
            (try clear hltvd)
            repeat' (first | (k_unfold; (try dsimp only)) | ((fail_if_success (first | (with_reducible show LCt.CompSrcT _ _ _ _ _ _ _ _ _ _ _ _ _ _ _) | (with_reducible show LCg.CompEnd _ _ _ _ _ _ _ _ _ _ _ _ _ _) | (with_reducible show LCg.CompSrc _ _ _ _ _ _ _ _ _ _ _ _ _ _) | (with_reducible show wpAny _ _ (call (Value.type "dict") _) _ _ _) | (with_reducible show wpAny _ _ (pyIter (Value.ref _)) _ _ _) | (with_reducible show wpAny _ _ (call (Value.ref _) _) _ _ _) | (with_reducible show wpAny _ _ (exec (Stmt.For _ _ _ _ _) _) _ _ _) | (with_reducible show wpAny _ _ (exec (Stmt.Assign [_] (Expr.ListComp _ _ _ _) _) _) _ _ _) | (with_reducible show wpAny _ _ (eval (Expr.ListComp _ _ _ _) _) _ _ _))); first | walk1 | (dsimp only; walk1)))
            rename_i fZ cZ oZ vZ tZ ctZ hZ tkZ FZ NZ d1Z d2Z l1Z l2Z
            generalize hps1 : (#[] ++ #[rawInt _, rawInt _, Value.ref cZ]) = ps1 at NZ
            obtain ⟨R9, hR9, hM9, hS9, N12⟩ := pack (X := [(pen, oP6), (cells, oC), (L0 + 1 + 1 + 1, o1), (L0 + 1 + 1, om), (L0 + 1, op3), (837, tabObj ps1)]) (M := [(fZ, _), (cZ, oZ)]) NZ (by
              have lt1 := kst_ltOf (show AllLt cZ ((pen, oP6) :: (cells, oC) :: (L0 + 1 + 1 + 1, o1) :: (L0 + 1 + 1, om) :: (L0 + 1, op3) :: (837, tabObj ps1) :: R8) from l1Z)
              have hin : ∀ a ∈ [pen, cells, L0 + 1 + 1 + 1, L0 + 1 + 1, L0 + 1, 837], ∃ o, ((a, o) : Addr × Obj) ∈ ((pen, oP6) :: (cells, oC) :: (L0 + 1 + 1 + 1, o1) :: (L0 + 1 + 1, om) :: (L0 + 1, op3) :: (837, tabObj ps1) :: R8 : Ledger) := in_six (by k_mem) (by k_mem) (by k_mem) (by k_mem) (by k_mem) (by k_mem)
              exact Off.cons (off_lt (fun p hp => Nat.lt_trans (lt1 p hp) l2Z) hin) (Off.one lt1 hin)) hR8
            replace N12 : News b L0 hZ ((pen, oP6) :: (cells, oC) :: (L0 + 1 + 1 + 1, o1) :: (L0 + 1 + 1, om) :: (L0 + 1, op3) :: (837, tabObj ps1) :: R9) := N12
            have hk9 := hM9 _ (.head _)
            have hc9 := hM9 _ (.tail _ (.head _))
            (try clear NZ)
            (try clear l1Z)
            (try clear l2Z)
            (try clear hM9)
            have h6v : ∀ kv ∈ kvOf vrs, 0 ≤ kv.1 ∧ kv.1 < 6 := fun kv hkv => by
              obtain ⟨p, hp, rfl⟩ := List.mem_map.mp hkv
              exact hv6 p hp
            obtain ⟨esd, epd, hxd, hdatd, hkd, hpd, hnd⟩ := id hkvd
            refine' useU (parted_c (imm := R9) HC HP6 (by decide) (part_adj (hS9 _ hvd8) lovd hxd hdatd hkd hpd hnd (by simp [kvOf]; exact o_le hvl rfl) h6v d1Z d2Z hk9 hc9)) ?hdp ?hun ?F ?N ?X ?T ?U ?hi ?_
            (case hdp => kwd_inv)
            (case hun => kwd_inv)
            (case F => k_asm)
            (case N => exact N12)
            (case X => k_asm)
            (case T => k_asm)
            (case U => k_updF)
            (case hi =>
              exact hi_cons (.tail _ (.head _)) (fun e => hcp e) fun p hp => ⟨.tail _ (.tail _ (.tail _ (.tail _ (.tail _ (.tail _ hp))))), fun e => hR9 p hp (e ▸ .head _)⟩)
            rintro Gq hGq n13 _ h13 tk13 _ ⟨P, np, oP9, ts, hm, more, rfl, HP9, rfl, hPp, hmp, PP⟩
            refine hGq _ _ _ _ _ ?_
            clear hGq Gq
            rintro F13 N13 hfr
            replace N13 := N13 oP9 _ (fun _ h => h)
            obtain ⟨R10, hR10, hM10, hS10, N14⟩ := pack (X := [(pen, oP9), (cells, oC), (L0 + 1 + 1 + 1, o1), (L0 + 1 + 1, om), (L0 + 1, op3), (837, tabObj ps1)]) N13 (Off.made (fun p hp q hq => Ne.symm (hfr p (.tail _ hp) ((List.mem_cons.mp hp).elim (fun h => h ▸ hPp) (hmp p)) q hq)) (in_six (by k_mem) (by k_mem) (by k_mem) (by k_mem) (by k_mem) (by k_mem))) hR9
            replace N14 : News b L0 h13 ((pen, oP9) :: (cells, oC) :: (L0 + 1 + 1 + 1, o1) :: (L0 + 1 + 1, om) :: (L0 + 1, op3) :: (837, tabObj ps1) :: R10) := N14
            (try clear N13)
            (try clear N12)
            (try clear hfr)
            repeat' (first | (k_unfold; (try dsimp only)) | ((fail_if_success (first | (with_reducible show LCt.CompSrcT _ _ _ _ _ _ _ _ _ _ _ _ _ _ _) | (with_reducible show LCg.CompEnd _ _ _ _ _ _ _ _ _ _ _ _ _ _) | (with_reducible show LCg.CompSrc _ _ _ _ _ _ _ _ _ _ _ _ _ _) | (with_reducible show wpAny _ _ (call (Value.type "dict") _) _ _ _) | (with_reducible show wpAny _ _ (pyIter (Value.ref _)) _ _ _) | (with_reducible show wpAny _ _ (call (Value.ref _) _) _ _ _) | (with_reducible show wpAny _ _ (exec (Stmt.For _ _ _ _ _) _) _ _ _) | (with_reducible show wpAny _ _ (exec (Stmt.Assign [_] (Expr.ListComp _ _ _ _) _) _) _ _ _) | (with_reducible show wpAny _ _ (eval (Expr.ListComp _ _ _ _) _) _ _ _))); first | walk1 | (dsimp only; walk1)))
            refine' use0N adjust_c ?hdp ?hun ?F ?N ?X ?T ?hi ?_
            ( (case hdp | hun => kwd_inv); (case F | N | X | T => k_asm))
            (case hi => exact fun p hp => nomatch hp)
            rintro Gq hGq n15 _ h15 tk15 _ ⟨ax, adx, akt, rfl, rfl⟩
            refine hGq _ _ _ _ _ ?_
            clear hGq Gq
            rintro hnew15 F15 N15
            obtain ⟨R11, hR11, hM11, hS11, N16⟩ := pack (X := [(pen, oP9), (cells, oC), (L0 + 1 + 1 + 1, o1), (L0 + 1 + 1, om), (L0 + 1, op3), (837, tabObj ps1)]) N15 (Off.made hnew15 (in_six (by k_mem) (by k_mem) (by k_mem) (by k_mem) (by k_mem) (by k_mem))) hR10
            replace N16 : News b L0 h15 ((pen, oP9) :: (cells, oC) :: (L0 + 1 + 1 + 1, o1) :: (L0 + 1 + 1, om) :: (L0 + 1, op3) :: (837, tabObj ps1) :: R11) := N16
            (try clear N15)
            (try clear N14)
            (try clear hnew15)
            repeat' (first | (k_unfold; (try dsimp only)) | ((fail_if_success (first | (with_reducible show LCt.CompSrcT _ _ _ _ _ _ _ _ _ _ _ _ _ _ _) | (with_reducible show LCg.CompEnd _ _ _ _ _ _ _ _ _ _ _ _ _ _) | (with_reducible show LCg.CompSrc _ _ _ _ _ _ _ _ _ _ _ _ _ _) | (with_reducible show wpAny _ _ (call (Value.type "dict") _) _ _ _) | (with_reducible show wpAny _ _ (pyIter (Value.ref _)) _ _ _) | (with_reducible show wpAny _ _ (call (Value.ref _) _) _ _ _) | (with_reducible show wpAny _ _ (exec (Stmt.For _ _ _ _ _) _) _ _ _) | (with_reducible show wpAny _ _ (exec (Stmt.Assign [_] (Expr.ListComp _ _ _ _) _) _) _ _ _) | (with_reducible show wpAny _ _ (eval (Expr.ListComp _ _ _ _) _) _ _ _))); first | walk1 | (dsimp only; walk1)))
            rename_i l2c h17 F17 N17 l17
            obtain ⟨R12, hR12, hM12, hS12, N18⟩ := pack (X := [(pen, oP9), (cells, oC), (L0 + 1 + 1 + 1, o1), (L0 + 1 + 1, om), (L0 + 1, op3), (837, tabObj ps1)]) (M := [(l2c, listOf [Value.ref ax].toArray 0)]) N17 (Off.one (kst_ltOf (show AllLt l2c ((pen, oP9) :: (cells, oC) :: (L0 + 1 + 1 + 1, o1) :: (L0 + 1 + 1, om) :: (L0 + 1, op3) :: (837, tabObj ps1) :: R11) from l17)) (in_six (by k_mem) (by k_mem) (by k_mem) (by k_mem) (by k_mem) (by k_mem))) hR11
            replace N18 : News b L0 h17 ((pen, oP9) :: (cells, oC) :: (L0 + 1 + 1 + 1, o1) :: (L0 + 1 + 1, om) :: (L0 + 1, op3) :: (837, tabObj ps1) :: R12) := N18
            (try clear N17)
            (try clear N16)
            (try clear l17)
            refine' use0N lookup_c ?hdp ?hun ?F ?N ?X ?T ?hi ?_
            ( (case hdp | hun => kwd_inv); (case F | N | X | T => k_asm))
            (case hi => exact fun p hp => nomatch hp)
            rintro Gq hGq n19 _ h19 tk19 _ ⟨lx, ldx, lkk, rfl, rfl⟩
            refine hGq _ _ _ _ _ ?_
            clear hGq Gq
            rintro hnew19 F19 N19
            obtain ⟨R13, hR13, hM13, hS13, N20⟩ := pack (X := [(pen, oP9), (cells, oC), (L0 + 1 + 1 + 1, o1), (L0 + 1 + 1, om), (L0 + 1, op3), (837, tabObj ps1)]) N19 (Off.made hnew19 (in_six (by k_mem) (by k_mem) (by k_mem) (by k_mem) (by k_mem) (by k_mem))) hR12
            replace N20 : News b L0 h19 ((pen, oP9) :: (cells, oC) :: (L0 + 1 + 1 + 1, o1) :: (L0 + 1 + 1, om) :: (L0 + 1, op3) :: (837, tabObj ps1) :: R13) := N20
            (try clear N19)
            (try clear N18)
            (try clear hnew19)
            repeat' (first | (k_unfold; (try dsimp only)) | ((fail_if_success (first | (with_reducible show LCt.CompSrcT _ _ _ _ _ _ _ _ _ _ _ _ _ _ _) | (with_reducible show LCg.CompEnd _ _ _ _ _ _ _ _ _ _ _ _ _ _) | (with_reducible show LCg.CompSrc _ _ _ _ _ _ _ _ _ _ _ _ _ _) | (with_reducible show wpAny _ _ (call (Value.type "dict") _) _ _ _) | (with_reducible show wpAny _ _ (pyIter (Value.ref _)) _ _ _) | (with_reducible show wpAny _ _ (call (Value.ref _) _) _ _ _) | (with_reducible show wpAny _ _ (exec (Stmt.For _ _ _ _ _) _) _ _ _) | (with_reducible show wpAny _ _ (exec (Stmt.Assign [_] (Expr.ListComp _ _ _ _) _) _) _ _ _) | (with_reducible show wpAny _ _ (eval (Expr.ListComp _ _ _ _) _) _ _ _))); first | walk1 | (dsimp only; walk1)))
            refine' use0N lookup_c ?hdp ?hun ?F ?N ?X ?T ?hi ?_
            ( (case hdp | hun => kwd_inv); (case F | N | X | T => k_asm))
            (case hi => exact fun p hp => nomatch hp)
            rintro Gq hGq n21 _ h21 tk21 _ ⟨lx2, ldx2, lkk2, rfl, rfl⟩
            refine hGq _ _ _ _ _ ?_
            clear hGq Gq
            rintro hnew21 F21 N21
            obtain ⟨R14, hR14, hM14, hS14, N22⟩ := pack (X := [(pen, oP9), (cells, oC), (L0 + 1 + 1 + 1, o1), (L0 + 1 + 1, om), (L0 + 1, op3), (837, tabObj ps1)]) N21 (Off.made hnew21 (in_six (by k_mem) (by k_mem) (by k_mem) (by k_mem) (by k_mem) (by k_mem))) hR13
            replace N22 : News b L0 h21 ((pen, oP9) :: (cells, oC) :: (L0 + 1 + 1 + 1, o1) :: (L0 + 1 + 1, om) :: (L0 + 1, op3) :: (837, tabObj ps1) :: R14) := N22
            (try clear N21)
            (try clear N20)
            (try clear hnew21)
            repeat' (first | (k_unfold; (try dsimp only)) | ((fail_if_success (first | (with_reducible show LCt.CompSrcT _ _ _ _ _ _ _ _ _ _ _ _ _ _ _) | (with_reducible show LCg.CompEnd _ _ _ _ _ _ _ _ _ _ _ _ _ _) | (with_reducible show LCg.CompSrc _ _ _ _ _ _ _ _ _ _ _ _ _ _) | (with_reducible show wpAny _ _ (call (Value.type "dict") _) _ _ _) | (with_reducible show wpAny _ _ (pyIter (Value.ref _)) _ _ _) | (with_reducible show wpAny _ _ (call (Value.ref _) _) _ _ _) | (with_reducible show wpAny _ _ (exec (Stmt.For _ _ _ _ _) _) _ _ _) | (with_reducible show wpAny _ _ (exec (Stmt.Assign [_] (Expr.ListComp _ _ _ _) _) _) _ _ _) | (with_reducible show wpAny _ _ (eval (Expr.ListComp _ _ _ _) _) _ _ _))); first | walk1 | (dsimp only; walk1)))
            have hs1014 : ∀ p ∈ R10, p ∈ R14 := fun p hp => hS14 p (hS13 p (hS12 p (hS11 p hp)))
            have hs814 : ∀ p ∈ R8, p ∈ R14 := fun p hp => hs1014 p (hS10 p (hS9 p hp))
            have hs714 : ∀ p ∈ R7, p ∈ R14 := fun p hp => hs814 p (hs8 p (hs7 p hp))
            have hv14 : ∀ p ∈ vrs, ∀ q ∈ p.2.led w.params, q ∈ R14 := fun p hp q hq => hs814 _ (hs8 _ (hvm p hp q hq))
            have hv6' : ∀ p ∈ vrs, 0 ≤ p.1 ∧ p.1 < 6 := fun p hp => hv6 p hp
            have hesv : esd.size = vrs.length := by
              have := (pairs_at hpd).1
              rw [Array.length_toList] at this
              rw [this]; simp [kvOf]
            have HK1 := lk_adj (prog := prog) (w := w) (src := R14) (z := mkSc gx gdx cx cdx dcl lx ldx l2c lkk (fun i => if i = 5 then ckt else gkk i) ocl (.ref cx2) (.ref l2) gpts gcar "adjust" flag) (nt := 0) rfl ⟨adx, akt, hS14 _ (hS13 _ (hS12 _ (hM11 _ (.head _)))), hS14 _ (hS13 _ (hS12 _ (hM11 _ (.tail _ (.head _)))))⟩ (hs814 _ hvd8) lovd hkvd (by exact o_le hvl rfl) hv14 hv6' (hS14 _ (hS13 _ (hM12 _ (.head _))))
            have HK2 := lk_part_adj (prog := prog) (w := w) (src := R14) (z := mkSc gx gdx cx cdx dcl lx2 ldx2 P lkk2 (fun i => if i = 5 then ckt else gkk i) ocl (.ref cx2) (.ref l2) gpts gcar "adjust" flag) (nt := np) rfl hesv PP (fun p hp => hs1014 _ (hM10 _ (.tail _ hp))) (by exact o_le hvl rfl) hv14 hv6' (hs1014 _ (hM10 _ (.head _)))
            have hallc : ∀ c, 0 ≤ c → c < 3 → c ∈ ts.map (·.2.2.2) := fun c h0 h1 => by
              obtain ⟨t, ht, e⟩ := PP.all c h0 h1
              exact List.mem_map.mpr ⟨t, ht, e⟩
            have HAL := alike_c (infl := infl) (ni := (refs made).length) HK1 HK2 ⟨rfl, rfl, rfl, rfl⟩ rfl hCls hfl hall3 hmk hrows6 (fun rs a => by
              have := adj_heq (flag := flag) (cls := fun g => (cs.getD g.toNat (1, 0)).1) (f := vrOf vrs) PP.lo hallc rs a
              rw [List.map_map] at this ⊢
              exact this) (fun g => by
              have := adj_has (f := vrOf vrs) PP.lo hallc g
              rw [List.map_map] at this ⊢
              exact this)
            refine' use0N HAL ?hdp ?hun ?F ?N ?X ?T ?hi ?_
            ( (case hdp | hun => kwd_inv); (case F | N | X | T => k_asm))
            (case hi =>
              refine fun p hp => Or.inl (.tail _ (.tail _ (.tail _ (.tail _ (.tail _ (.tail _ ?_))))))
              rcases List.mem_append.mp hp with hp | hp
              · rcases List.mem_cons.mp hp with h | hp
                · exact h ▸ hs714 _ hinfm7
                · exact hs714 _ (hrowm7 p hp)
              rcases List.mem_append.mp hp with hp | hp
              · exact hs714 _ (hgled p hp)
              rcases List.mem_append.mp hp with hp | hp
              · exact hS14 _ (hM13 p hp)
              rcases List.mem_append.mp hp with hp | hp
              · exact hM14 p hp
              · exact hp)
            rintro Gq hGq n23 _ h23 tk23 _ ⟨rfl, rfl⟩
            refine hGq _ _ _ _ _ ?_
            clear hGq Gq
            rintro - F23 N23
            replace N23 : News b L0 h23 ((pen, oP9) :: (cells, oC) :: (L0 + 1 + 1 + 1, o1) :: (L0 + 1 + 1, om) :: (L0 + 1, op3) :: (837, tabObj ps1) :: R14) := N23
            clear HK1 HK2 HAL N22 hS14 hM14 hS13 hM13 hS12 hM12 hS11 hM11 hS10 hM10 hS9 PP hallc hesv hv14
            have hinf14 := hs714 _ hinfm7
            have hrow14 : ∀ p ∈ rowsLed w.params rows, p ∈ R14 := fun p hp => hs714 p (hrowm7 p hp)
            have hg14 := fun p hp => hs714 p (hgled p hp)
            clear hinfm7 hrowm7 hgled hs714 hs814 hs1014 hs7 hs8 hvd8 hvm hv6 hv6' hvn hzl hvl hkvd hxd hdatd hkd hpd hnd h6v hk9 hc9 hmp hPp hR13 F21 hR8 hR9 hR10 hR11 hR12
            repeat' (first | (k_unfold; (try dsimp only)) | ((fail_if_success (first | (with_reducible show LCt.CompSrcT _ _ _ _ _ _ _ _ _ _ _ _ _ _ _) | (with_reducible show LCg.CompEnd _ _ _ _ _ _ _ _ _ _ _ _ _ _) | (with_reducible show LCg.CompSrc _ _ _ _ _ _ _ _ _ _ _ _ _ _) | (with_reducible show wpAny _ _ (call (Value.type "dict") _) _ _ _) | (with_reducible show wpAny _ _ (pyIter (Value.ref _)) _ _ _) | (with_reducible show wpAny _ _ (call (Value.ref _) _) _ _ _) | (with_reducible show wpAny _ _ (exec (Stmt.For _ _ _ _ _) _) _ _ _) | (with_reducible show wpAny _ _ (exec (Stmt.Assign [_] (Expr.ListComp _ _ _ _) _) _) _ _ _) | (with_reducible show wpAny _ _ (eval (Expr.ListComp _ _ _ _) _) _ _ _))); first | walk1 | (dsimp only; walk1)))
            refine' useU (draw_p HC HP9 (by decide) (by decide)) ?hdp ?hun ?F ?N ?X ?T ?U ?hi ?_
            (( (case hdp | hun => kwd_inv); (case F | N | X | T => k_asm)); (case U => k_updF); (case hi => repeat (first | exact List.forall_mem_nil _ | (refine List.forall_mem_cons.mpr ⟨?_, ?_⟩; first | exact Or.inr (by assumption) | exact Or.inl ⟨by k_mem, by k_ne⟩))))
            rintro Gq hGq n24 _ h24 tk24 _ ⟨dS, tS, oP10, rfl, hS0, hS1, HP10, rfl⟩
            refine hGq _ _ _ _ _ ?_
            clear hGq Gq
            rintro F24 N24 -
            replace N24 := N24 oP10 [] (fun _ h => h)
            dsimp only [List.nil_append] at N24
            repeat' (first | (k_unfold; (try dsimp only)) | ((fail_if_success (first | (with_reducible show LCt.CompSrcT _ _ _ _ _ _ _ _ _ _ _ _ _ _ _) | (with_reducible show LCg.CompEnd _ _ _ _ _ _ _ _ _ _ _ _ _ _) | (with_reducible show LCg.CompSrc _ _ _ _ _ _ _ _ _ _ _ _ _ _) | (with_reducible show wpAny _ _ (call (Value.type "dict") _) _ _ _) | (with_reducible show wpAny _ _ (pyIter (Value.ref _)) _ _ _) | (with_reducible show wpAny _ _ (call (Value.ref _) _) _ _ _) | (with_reducible show wpAny _ _ (exec (Stmt.For _ _ _ _ _) _) _ _ _) | (with_reducible show wpAny _ _ (exec (Stmt.Assign [_] (Expr.ListComp _ _ _ _) _) _) _ _ _) | (with_reducible show wpAny _ _ (eval (Expr.ListComp _ _ _ _) _) _ _ _))); first | walk1 | (dsimp only; walk1)))
            rename_i dP hQ4 oPr loP hsP fsP hiP fiP l1P DT hQ3 l1T hQ2 hQ1 oS dS1 hQ F25 N25
            have ltP := kst_ltOf (show AllLt dP ((pen, oP10) :: (cells, oC) :: (L0 + 1 + 1 + 1, o1) :: (L0 + 1 + 1, om) :: (L0 + 1, op3) :: (837, tabObj ps1) :: R14) from l1P)
            have ltT := kst_ltOf (show AllLt DT ((dP, oPr) :: (pen, oP10) :: (cells, oC) :: (L0 + 1 + 1 + 1, o1) :: (L0 + 1 + 1, om) :: (L0 + 1, op3) :: (837, tabObj ps1) :: R14) from l1T)
            have hP6 : dP ∉ [pen, cells, L0 + 1 + 1 + 1, L0 + 1 + 1, L0 + 1, 837] := off_lt ltP (in_six (by k_mem) (by k_mem) (by k_mem) (by k_mem) (by k_mem) (by k_mem))
            obtain ⟨R15, hR15, hM15, hS15, hI15, N26⟩ := pack2 (X := (dP, oPr) :: [(pen, oP10), (cells, oC), (L0 + 1 + 1 + 1, oS), (L0 + 1 + 1, om), (L0 + 1, op3), (837, tabObj ps1)]) (M := [(DT, _)]) N25 (Off.one ltT (in_six (by k_mem) (by k_mem) (by k_mem) (by k_mem) (by k_mem) (by k_mem))) hR14
            replace N26 : News b L0 hQ ((dP, oPr) :: (pen, oP10) :: (cells, oC) :: (L0 + 1 + 1 + 1, oS) :: (L0 + 1 + 1, om) :: (L0 + 1, op3) :: (837, tabObj ps1) :: R15) := N26
            have hPR15 : Off R15 [dP] := fun p hp hm => by
              rw [List.mem_singleton] at hm
              rcases hI15 p hp with h | h
              · rw [List.mem_singleton.mp h] at hm; exact Nat.lt_irrefl DT (by have := ltT (dP, oPr) (.head _); rwa [← hm] at this)
              · exact Nat.lt_irrefl dP (by have := ltP p (.tail _ (.tail _ (.tail _ (.tail _ (.tail _ (.tail _ h)))))); rwa [hm] at this)
            have q1 : @Ne Nat dP pen := fun e => hP6 (e ▸ .head _)
            have q2 : @Ne Nat dP cells := fun e => hP6 (e ▸ .tail _ (.head _))
            have q3 : @Ne Nat dP (L0 + 1 + 1 + 1) := fun e => hP6 (e ▸ .tail _ (.tail _ (.head _)))
            have q4 : @Ne Nat dP (L0 + 1 + 1) := fun e => hP6 (e ▸ .tail _ (.tail _ (.tail _ (.head _))))
            have q5 : @Ne Nat dP (L0 + 1) := fun e => hP6 (e ▸ .tail _ (.tail _ (.tail _ (.tail _ (.head _)))))
            have q6 : @Ne Nat dP 837 := fun e => hP6 (e ▸ .tail _ (.tail _ (.tail _ (.tail _ (.tail _ (.head _))))))
            obtain ⟨esP, epP, hxP, hdatP, -, hpP, -⟩ := hiP
            have hesP : esP.toList = [] := List.length_eq_zero_iff.mp hpP.length
            replace hR15 : Off R15 (dP :: [pen, cells, L0 + 1 + 1 + 1, L0 + 1 + 1, L0 + 1, 837]) := fun p hp hm => (List.mem_cons.mp hm).elim (fun e => hPR15 p hp (by rw [e]; exact .head _)) (hR15 p hp)
            clear hPR15
            have hinf15 := hS15 _ hinf14
            have hrow15 : ∀ p ∈ rowsLed w.params rows, p ∈ R15 := fun p hp => hS15 p (hrow14 p hp)
            have hg15 := fun p hp => hS15 p (hg14 p hp)
            clear hinf14 hrow14 hg14 hS15 hM15 hI15 N25 l1P l1T ltP ltT hsP fsP fiP hpP hP6 hR14
            refine For_invV b (by rfl) (by rfl) ?_
            repeat' (first | (k_unfold; (try dsimp only)) | ((fail_if_success (first | (with_reducible show LCt.CompSrcT _ _ _ _ _ _ _ _ _ _ _ _ _ _ _) | (with_reducible show LCg.CompEnd _ _ _ _ _ _ _ _ _ _ _ _ _ _) | (with_reducible show LCg.CompSrc _ _ _ _ _ _ _ _ _ _ _ _ _ _) | (with_reducible show wpAny _ _ (call (Value.type "dict") _) _ _ _) | (with_reducible show wpAny _ _ (pyIter (Value.ref _)) _ _ _) | (with_reducible show wpAny _ _ (call (Value.ref _) _) _ _ _) | (with_reducible show wpAny _ _ (exec (Stmt.For _ _ _ _ _) _) _ _ _) | (with_reducible show wpAny _ _ (exec (Stmt.Assign [_] (Expr.ListComp _ _ _ _) _) _) _ _ _) | (with_reducible show wpAny _ _ (eval (Expr.ListComp _ _ _ _) _) _ _ _))); first | walk1 | (dsimp only; walk1)))
            refine' useU (draw_p HC HP10 (by decide) (by decide)) ?hdp ?hun ?F ?N ?X ?T ?U ?hi ?_
            (( (case hdp | hun => kwd_inv); (case F | N | X | T => k_asm)); (case U => k_updF); (case hi => repeat (first | exact List.forall_mem_nil _ | (refine List.forall_mem_cons.mpr ⟨?_, ?_⟩; first | exact Or.inr (by assumption) | exact Or.inl ⟨by k_mem, by k_ne⟩))))
            rintro Gq hGq n27 _ h27 tk27 _ ⟨dL, tL, oP11, rfl, hL0, hL1, HP11, rfl⟩
            refine hGq _ _ _ _ _ ?_
            clear hGq Gq
            rintro F27 N27 -
            replace N27 := N27 oP11 [] (fun _ h => h)
            dsimp only [List.nil_append] at N27
            repeat' (first | (k_unfold; (try dsimp only)) | ((fail_if_success (first | (with_reducible show LCt.CompSrcT _ _ _ _ _ _ _ _ _ _ _ _ _ _ _) | (with_reducible show LCg.CompEnd _ _ _ _ _ _ _ _ _ _ _ _ _ _) | (with_reducible show LCg.CompSrc _ _ _ _ _ _ _ _ _ _ _ _ _ _) | (with_reducible show wpAny _ _ (call (Value.type "dict") _) _ _ _) | (with_reducible show wpAny _ _ (pyIter (Value.ref _)) _ _ _) | (with_reducible show wpAny _ _ (call (Value.ref _) _) _ _ _) | (with_reducible show wpAny _ _ (exec (Stmt.For _ _ _ _ _) _) _ _ _) | (with_reducible show wpAny _ _ (exec (Stmt.Assign [_] (Expr.ListComp _ _ _ _) _) _) _ _ _) | (with_reducible show wpAny _ _ (eval (Expr.ListComp _ _ _ _) _) _ _ _))); first | walk1 | (dsimp only; walk1)))
            obtain ⟨nL, rfl⟩ : ∃ nL : Nat, dL = (nL : Int) := ⟨dL.toNat, by exact tn_cast hL0⟩
            refine iter_rangeG (n := nL) (news := (dP, oPr) :: (pen, oP11) :: (cells, oC) :: (L0 + 1 + 1 + 1, oS) :: (L0 + 1 + 1, om) :: (L0 + 1, op3) :: (837, tabObj ps1) :: R15) (fun i m nw => (∃ oa ob : Option Value, m = fun y => if y = Str.ofString "lap" then oa else if y = Str.ofString "other" then ob else if y = Str.ofString "pairs" then some (Value.ref dP) else if y = Str.ofString "parted" then some (Value.ref P) else if y = Str.ofString "values" then some (Value.ref vd) else if y = Str.ofString "flag" then some (Value.int flag tfl) else if y = Str.ofString "gdef" then some (Value.ref gx) else if y = Str.ofString "one" then o else if y = Str.ofString "infos" then some (Value.ref infl) else if y = Str.ofString "script" then some (Value.ref sc) else none) ∧ ∃ (oP' oD' : Obj) (R' : Ledger) (xs : List (List Int × Addr × Value)) (ff : Int → Int → Option (Nat × VR × VR)) (es : Array DictEntry) (ep : Nat), PenOk cells (64 + 8 * i) oP' ∧ nw = (dP, oD') :: (pen, oP') :: (cells, oC) :: (L0 + 1 + 1 + 1, oS) :: (L0 + 1 + 1, om) :: (L0 + 1, op3) :: (837, tabObj ps1) :: R' ∧ Off R' (dP :: [pen, cells, L0 + 1 + 1 + 1, L0 + 1 + 1, L0 + 1, 837]) ∧ (∀ p ∈ R15, p ∈ R') ∧ PY prog w R' xs ff ∧ xs.length ≤ i ∧ oD'.ExactDict ∧ oD'.data = .dict es ep ∧ es.toList = xs.map (entryOfKey (tupleKind (PySem.intKind prog w))) ∧ ((dS == 0) = false → ∀ a b t, ff a b = some t → t.2.2.Zero))
              rfl (by k_asm) rfl (by exact o_le (o_n12 hL1) rfl) (by k_asm) (by k_asm) ⟨two_of fun y h1 h2 => rfl, oP11, oPr, R15, [], fun _ _ => none, esP, epP, HP11.mono (by decide), rfl, hR15, fun _ h => h, .nil, Nat.le_refl _, hxP, hdatP, hesP, fun _ a b t h => nomatch h⟩ ?_ ?_
            · rintro i ti I oI h30 tk30 hiL Jq Gq hGq m3 nw3 ⟨⟨oa, ob, rfl⟩, oP12, oD12, R16, xs, ff, es, ep, HP12, rfl, hR16, hs16, hPY, hxl, hx12, hd12, hes12, hz12⟩
              refine hGq _ _ ?_
              clear hGq Gq
              rintro hnI F30 N30 hJq
              --<
              replace N30 : News b L0 h30 ((I, oI) :: (dP, oD12) :: (pen, oP12) :: (cells, oC) :: (L0 + 1 + 1 + 1, oS) :: (L0 + 1 + 1, om) :: (L0 + 1, op3) :: (837, tabObj ps1) :: R16) := N30
              have hRI : Off R16 (I :: dP :: [pen, cells, L0 + 1 + 1 + 1, L0 + 1 + 1, L0 + 1, 837]) := fun p hp hm => (List.mem_cons.mp hm).elim (fun e => hnI p (.tail _ (.tail _ (.tail _ (.tail _ (.tail _ (.tail _ (.tail _ hp))))))) e) (hR16 p hp)
              clear hR16
              have i0 : @Ne Nat dP I := hnI _ (.head _)
              have i1 : @Ne Nat pen I := hnI _ (.tail _ (.head _))
              have i2 : @Ne Nat cells I := hnI _ (.tail _ (.tail _ (.head _)))
              have i3 : @Ne Nat (L0 + 1 + 1 + 1) I := hnI _ (.tail _ (.tail _ (.tail _ (.head _))))
              have i4 : @Ne Nat (L0 + 1 + 1) I := hnI _ (.tail _ (.tail _ (.tail _ (.tail _ (.head _)))))
              have i5 : @Ne Nat (L0 + 1) I := hnI _ (.tail _ (.tail _ (.tail _ (.tail _ (.tail _ (.head _))))))
              have i6 : @Ne Nat 837 I := hnI _ (.tail _ (.tail _ (.tail _ (.tail _ (.tail _ (.tail _ (.head _)))))))
              repeat' (first | (k_unfold; (try dsimp only)) | ((fail_if_success (first | (with_reducible show LCt.CompSrcT _ _ _ _ _ _ _ _ _ _ _ _ _ _ _) | (with_reducible show LCg.CompEnd _ _ _ _ _ _ _ _ _ _ _ _ _ _) | (with_reducible show LCg.CompSrc _ _ _ _ _ _ _ _ _ _ _ _ _ _) | (with_reducible show wpAny _ _ (call (Value.type "dict") _) _ _ _) | (with_reducible show wpAny _ _ (pyIter (Value.ref _)) _ _ _) | (with_reducible show wpAny _ _ (call (Value.ref _) _) _ _ _) | (with_reducible show wpAny _ _ (exec (Stmt.For _ _ _ _ _) _) _ _ _) | (with_reducible show wpAny _ _ (exec (Stmt.Assign [_] (Expr.ListComp _ _ _ _) _) _) _ _ _) | (with_reducible show wpAny _ _ (eval (Expr.ListComp _ _ _ _) _) _ _ _))); first | walk1 | (dsimp only; walk1)))
              · rename_i hdS
                refine' useU (law_value_c HC HP12 (by exact o_ile (o_cap8 (o_c12 hL1 hiL)) rfl)) ?hdp ?hun ?F ?N ?X ?T ?U ?hi ?_
                (( (case hdp | hun => kwd_inv); (case F | N | X | T => k_asm)); (case U => k_updF); (case hi => repeat (first | exact List.forall_mem_nil _ | (refine List.forall_mem_cons.mpr ⟨?_, ?_⟩; first | exact Or.inr (by assumption) | exact Or.inl ⟨by k_mem, by k_ne⟩))))
                rintro Gq hGq n31 _ h31 tk31 _ ⟨u2, oP13, rfl, HP13, rfl, ua2, ud2⟩
                refine hGq _ _ _ _ _ ?_
                clear hGq Gq
                rintro F31 N31 hfr
                replace N31 := N31 oP13 (u2.led w.params) (fun _ h => h)
                have hnu2 := led_fresh hfr ua2 ud2
                obtain ⟨R17, hR17, hM17, hS17, N32⟩ := pack (X := (I, oI) :: (dP, oD12) :: [(pen, oP13), (cells, oC), (L0 + 1 + 1 + 1, oS), (L0 + 1 + 1, om), (L0 + 1, op3), (837, tabObj ps1)]) N31 (Off.made hnu2 (in_cons (o := oI) (by k_mem) (in_cons (o := oD12) (by k_mem) (in_six (by k_mem) (by k_mem) (by k_mem) (by k_mem) (by k_mem) (by k_mem))))) hRI
                replace N32 : News b L0 h31 ((I, oI) :: (dP, oD12) :: (pen, oP13) :: (cells, oC) :: (L0 + 1 + 1 + 1, oS) :: (L0 + 1 + 1, om) :: (L0 + 1, op3) :: (837, tabObj ps1) :: R17) := N32
                have hz2 : (dS == 0) = false → u2.Zero := fun e => absurd e (by simp [hdS])
                clear N31 hfr hnu2 N30
                repeat' (first | (k_unfold; (try dsimp only)) | ((fail_if_success (first | (with_reducible show LCt.CompSrcT _ _ _ _ _ _ _ _ _ _ _ _ _ _ _) | (with_reducible show LCg.CompEnd _ _ _ _ _ _ _ _ _ _ _ _ _ _) | (with_reducible show LCg.CompSrc _ _ _ _ _ _ _ _ _ _ _ _ _ _) | (with_reducible show wpAny _ _ (call (Value.type "dict") _) _ _ _) | (with_reducible show wpAny _ _ (pyIter (Value.ref _)) _ _ _) | (with_reducible show wpAny _ _ (call (Value.ref _) _) _ _ _) | (with_reducible show wpAny _ _ (exec (Stmt.For _ _ _ _ _) _) _ _ _) | (with_reducible show wpAny _ _ (exec (Stmt.Assign [_] (Expr.ListComp _ _ _ _) _) _) _ _ _) | (with_reducible show wpAny _ _ (eval (Expr.ListComp _ _ _ _) _) _ _ _))); first | walk1 | (dsimp only; walk1)))
                refine' useU (law_value_c HC HP13 (by exact o_cap1 (o_cap8 (o_c12 hL1 hiL)) rfl)) ?hdp ?hun ?F ?N ?X ?T ?U ?hi ?_
                (( (case hdp | hun => kwd_inv); (case F | N | X | T => k_asm)); (case U => k_updF); (case hi => repeat (first | exact List.forall_mem_nil _ | (refine List.forall_mem_cons.mpr ⟨?_, ?_⟩; first | exact Or.inr (by assumption) | exact Or.inl ⟨by k_mem, by k_ne⟩))))
                rintro Gq hGq n33 _ h33 tk33 _ ⟨u1, oP14, rfl, HP14, rfl, ua1, ud1⟩
                refine hGq _ _ _ _ _ ?_
                clear hGq Gq
                rintro F33 N33 hfr1
                replace N33 := N33 oP14 (u1.led w.params) (fun _ h => h)
                have hnu1 := led_fresh hfr1 ua1 ud1
                obtain ⟨R18, hR18, hM18, hS18, N34⟩ := pack (X := (I, oI) :: (dP, oD12) :: [(pen, oP14), (cells, oC), (L0 + 1 + 1 + 1, oS), (L0 + 1 + 1, om), (L0 + 1, op3), (837, tabObj ps1)]) N33 (Off.made hnu1 (in_cons (o := oI) (by k_mem) (in_cons (o := oD12) (by k_mem) (in_six (by k_mem) (by k_mem) (by k_mem) (by k_mem) (by k_mem) (by k_mem))))) hR17
                replace N34 : News b L0 h33 ((I, oI) :: (dP, oD12) :: (pen, oP14) :: (cells, oC) :: (L0 + 1 + 1 + 1, oS) :: (L0 + 1 + 1, om) :: (L0 + 1, op3) :: (837, tabObj ps1) :: R18) := N34
                clear N33 hfr1 hnu1
                repeat' (first | (k_unfold; (try dsimp only)) | ((fail_if_success (first | (with_reducible show LCt.CompSrcT _ _ _ _ _ _ _ _ _ _ _ _ _ _ _) | (with_reducible show LCg.CompEnd _ _ _ _ _ _ _ _ _ _ _ _ _ _) | (with_reducible show LCg.CompSrc _ _ _ _ _ _ _ _ _ _ _ _ _ _) | (with_reducible show wpAny _ _ (call (Value.type "dict") _) _ _ _) | (with_reducible show wpAny _ _ (pyIter (Value.ref _)) _ _ _) | (with_reducible show wpAny _ _ (call (Value.ref _) _) _ _ _) | (with_reducible show wpAny _ _ (exec (Stmt.For _ _ _ _ _) _) _ _ _) | (with_reducible show wpAny _ _ (exec (Stmt.Assign [_] (Expr.ListComp _ _ _ _) _) _) _ _ _) | (with_reducible show wpAny _ _ (eval (Expr.ListComp _ _ _ _) _) _ _ _))); first | walk1 | (dsimp only; walk1)))
                rename_i T3 h35 F35 N35 l35
                have lt3 := kst_ltOf (show AllLt T3 ((I, oI) :: (dP, oD12) :: (pen, oP14) :: (cells, oC) :: (L0 + 1 + 1 + 1, oS) :: (L0 + 1 + 1, om) :: (L0 + 1, op3) :: (837, tabObj ps1) :: R18) from l35)
                obtain ⟨R19, hR19, hM19, hS19, N36⟩ := pack (X := (I, oI) :: (dP, oD12) :: [(pen, oP14), (cells, oC), (L0 + 1 + 1 + 1, oS), (L0 + 1 + 1, om), (L0 + 1, op3), (837, tabObj ps1)]) (M := [(T3, { cls := .type "tuple", data := .seq #[.ref u1.a, .ref u2.a] })]) N35 (Off.one lt3 (in_cons (o := oI) (by k_mem) (in_cons (o := oD12) (by k_mem) (in_six (by k_mem) (by k_mem) (by k_mem) (by k_mem) (by k_mem) (by k_mem))))) hR18
                replace N36 : News b L0 h35 ((I, oI) :: (dP, oD12) :: (pen, oP14) :: (cells, oC) :: (L0 + 1 + 1 + 1, oS) :: (L0 + 1 + 1, om) :: (L0 + 1, op3) :: (837, tabObj ps1) :: R19) := N36
                clear N35 l35 lt3
                refine' useU (draw_p HC HP14 (by exact o_cap2 (o_cap8 (o_c12 hL1 hiL)) rfl) (by decide)) ?hdp ?hun ?F ?N ?X ?T ?U ?hi ?_
                (( (case hdp | hun => kwd_inv); (case F | N | X | T => k_asm)); (case U => k_updF); (case hi => repeat (first | exact List.forall_mem_nil _ | (refine List.forall_mem_cons.mpr ⟨?_, ?_⟩; first | exact Or.inr (by assumption) | exact Or.inl ⟨by k_mem, by k_ne⟩))))
                rintro Gq hGq n37 _ h37 tk37 _ ⟨ka, ta, oP15, rfl, ka0, ka1, HP15, rfl⟩
                refine hGq _ _ _ _ _ ?_
                clear hGq Gq
                rintro F37 N37 -
                replace N37 := N37 oP15 [] (fun _ h => h)
                dsimp only [List.nil_append] at N37
                clear N36
                repeat' (first | (k_unfold; (try dsimp only)) | ((fail_if_success (first | (with_reducible show LCt.CompSrcT _ _ _ _ _ _ _ _ _ _ _ _ _ _ _) | (with_reducible show LCg.CompEnd _ _ _ _ _ _ _ _ _ _ _ _ _ _) | (with_reducible show LCg.CompSrc _ _ _ _ _ _ _ _ _ _ _ _ _ _) | (with_reducible show wpAny _ _ (call (Value.type "dict") _) _ _ _) | (with_reducible show wpAny _ _ (pyIter (Value.ref _)) _ _ _) | (with_reducible show wpAny _ _ (call (Value.ref _) _) _ _ _) | (with_reducible show wpAny _ _ (exec (Stmt.For _ _ _ _ _) _) _ _ _) | (with_reducible show wpAny _ _ (exec (Stmt.Assign [_] (Expr.ListComp _ _ _ _) _) _) _ _ _) | (with_reducible show wpAny _ _ (eval (Expr.ListComp _ _ _ _) _) _ _ _))); first | walk1 | (dsimp only; walk1)))
                refine' useU (draw_p HC HP15 (by exact o_cap3 (o_cap8 (o_c12 hL1 hiL)) rfl) (by decide)) ?hdp ?hun ?F ?N ?X ?T ?U ?hi ?_
                (( (case hdp | hun => kwd_inv); (case F | N | X | T => k_asm)); (case U => k_updF); (case hi => repeat (first | exact List.forall_mem_nil _ | (refine List.forall_mem_cons.mpr ⟨?_, ?_⟩; first | exact Or.inr (by assumption) | exact Or.inl ⟨by k_mem, by k_ne⟩))))
                rintro Gq hGq n38 _ h38 tk38 _ ⟨kb, tb, oP16, rfl, kb0, kb1, HP16, rfl⟩
                refine hGq _ _ _ _ _ ?_
                clear hGq Gq
                rintro F38 N38 -
                replace N38 := N38 oP16 [] (fun _ h => h)
                dsimp only [List.nil_append] at N38
                clear N37
                repeat' (first | (k_unfold; (try dsimp only)) | ((fail_if_success (first | (with_reducible show LCt.CompSrcT _ _ _ _ _ _ _ _ _ _ _ _ _ _ _) | (with_reducible show LCg.CompEnd _ _ _ _ _ _ _ _ _ _ _ _ _ _) | (with_reducible show LCg.CompSrc _ _ _ _ _ _ _ _ _ _ _ _ _ _) | (with_reducible show wpAny _ _ (call (Value.type "dict") _) _ _ _) | (with_reducible show wpAny _ _ (pyIter (Value.ref _)) _ _ _) | (with_reducible show wpAny _ _ (call (Value.ref _) _) _ _ _) | (with_reducible show wpAny _ _ (exec (Stmt.For _ _ _ _ _) _) _ _ _) | (with_reducible show wpAny _ _ (exec (Stmt.Assign [_] (Expr.ListComp _ _ _ _) _) _) _ _ _) | (with_reducible show wpAny _ _ (eval (Expr.ListComp _ _ _ _) _) _ _ _))); first | walk1 | (dsimp only; walk1)))
                rename_i kA hK FK NK lK
                have ltK := kst_ltOf (show AllLt kA ((I, oI) :: (dP, oD12) :: (pen, oP16) :: (cells, oC) :: (L0 + 1 + 1 + 1, oS) :: (L0 + 1 + 1, om) :: (L0 + 1, op3) :: (837, tabObj ps1) :: R19) from lK)
                obtain ⟨R20, hR20, hM20, hS20, N40⟩ := pack (X := (I, oI) :: (dP, oD12) :: [(pen, oP16), (cells, oC), (L0 + 1 + 1 + 1, oS), (L0 + 1 + 1, om), (L0 + 1, op3), (837, tabObj ps1)]) (M := [(kA, { cls := .type "tuple", data := .seq #[.int ka ta, .int kb tb] })]) NK (Off.one ltK (in_cons (o := oI) (by k_mem) (in_cons (o := oD12) (by k_mem) (in_six (by k_mem) (by k_mem) (by k_mem) (by k_mem) (by k_mem) (by k_mem))))) hR19
                replace N40 : News b L0 hK ((I, oI) :: (dP, oD12) :: (pen, oP16) :: (cells, oC) :: (L0 + 1 + 1 + 1, oS) :: (L0 + 1 + 1, om) :: (L0 + 1, op3) :: (837, tabObj ps1) :: R20) := N40
                clear NK lK ltK
                have hs1720 : ∀ p ∈ R17, p ∈ R20 := fun p hp => hS20 p (hS19 p (hS18 p hp))
                have hs1620 : ∀ p ∈ R16, p ∈ R20 := fun p hp => hs1720 p (hS17 p hp)
                have hPY2 := hPY.up hs1620
                have htk : TupKeyObj (PySem.intKind prog w) [ka, kb] ({ cls := .type "tuple", data := .seq #[.int ka ta, .int kb tb] } : Obj) := tup_ints ka kb ta tb
                refine setItem_px (by kwd_inv) FK N40 (by k_updF) hx12 hd12 hes12 (fun x hx => let ⟨ok, e1, e2⟩ := hPY2.ks x hx; ⟨ok, (.tail _ (.tail _ (.tail _ (.tail _ (.tail _ (.tail _ (.tail _ (.tail _ e1)))))))), e2⟩) hPY.n (by exact Nat.le_trans hxl (o_n12 (o_c12 hL1 hiL))) (.tail _ (.tail _ (.tail _ (.tail _ (.tail _ (.tail _ (.tail _ (.tail _ (hM20 _ (.head _)))))))))) htk ?_
                intro h41 oD13 es13 ep13 tk41 F41 N41 hx13 hd13 hes13 hn13
                repeat' (first | (k_unfold; (try dsimp only)) | ((fail_if_success (first | (with_reducible show LCt.CompSrcT _ _ _ _ _ _ _ _ _ _ _ _ _ _ _) | (with_reducible show LCg.CompEnd _ _ _ _ _ _ _ _ _ _ _ _ _ _) | (with_reducible show LCg.CompSrc _ _ _ _ _ _ _ _ _ _ _ _ _ _) | (with_reducible show wpAny _ _ (call (Value.type "dict") _) _ _ _) | (with_reducible show wpAny _ _ (pyIter (Value.ref _)) _ _ _) | (with_reducible show wpAny _ _ (call (Value.ref _) _) _ _ _) | (with_reducible show wpAny _ _ (exec (Stmt.For _ _ _ _ _) _) _ _ _) | (with_reducible show wpAny _ _ (exec (Stmt.Assign [_] (Expr.ListComp _ _ _ _) _) _) _ _ _) | (with_reducible show wpAny _ _ (eval (Expr.ListComp _ _ _ _) _) _ _ _))); first | walk1 | (dsimp only; walk1)))
                refine turn_end (news' := (dP, oD13) :: (pen, oP16) :: (cells, oC) :: (L0 + 1 + 1 + 1, oS) :: (L0 + 1 + 1, om) :: (L0 + 1, op3) :: (837, tabObj ps1) :: R20) (.inl rfl) F41 N41 (fun p hp => hp) (fun p hp => ?_) (fun p hp => nomatch hp) (hJq _ _ ⟨two_of fun y h1 h2 => by simp only [h1, h2, if_false], oP16, oD13, R20, storedH xs [ka, kb] kA (.ref T3), ffPut ff ka kb (T3, u1, u2), es13, ep13, HP16.mono (by exact o_s64), rfl, fun p hp hm => hR20 p hp (.tail _ hm), fun p hp => hs1620 p (hs16 p hp), hPY2.put (hM20 _ (.head _)) htk hn13 ⟨ka0, by exact ka1⟩ (hS20 _ (hM19 _ (.head _))) (fun p hp => hS20 _ (hS19 _ (hM18 p hp))) (fun p hp => hs1720 p (hM17 p hp)), Nat.le_trans len_storedH (by exact Nat.succ_le_succ hxl), hx13, hd13, hes13, fun e a' b' t' ht => ?_⟩)
                · rcases List.mem_cons.mp hp with h | hp
                  · rw [h]; exact i0
                  rcases List.mem_append.mp (show p ∈ ([(pen, oP16), (cells, oC), (L0 + 1 + 1 + 1, oS), (L0 + 1 + 1, om), (L0 + 1, op3), (837, tabObj ps1)] ++ R20 : Ledger) from hp) with hp | hp
                  · simp only [List.mem_cons, List.not_mem_nil, or_false] at hp
                    rcases hp with h | h | h | h | h | h
                    · rw [h]; exact i1
                    · rw [h]; exact i2
                    · rw [h]; exact i3
                    · rw [h]; exact i4
                    · rw [h]; exact i5
                    · rw [h]; exact i6
                  · exact fun e => hR20 p hp (e ▸ .head _)
                · unfold ffPut at ht
                  by_cases q : a' = ka ∧ b' = kb
                  · rw [if_pos q] at ht
                    obtain rfl := Option.some.inj ht
                    exact hz2 e
                  · rw [if_neg q] at ht
                    exact hz12 e a' b' t' ht
              · refine' use0N value_c ?hdp ?hun ?F ?N ?X ?T ?hi ?_
                ( (case hdp | hun => kwd_inv); (case F | N | X | T => k_asm))
                (case hi => exact fun p hp => nomatch hp)
                rintro Gq hGq n31 _ h31 tk31 _ ⟨u2, rfl, x1, x2, x3, rfl⟩
                refine hGq _ _ _ _ _ ?_
                clear hGq Gq
                rintro hnew31 F31 N31
                obtain ⟨R17, hR17, hM17, hS17, N32⟩ := pack (X := (I, oI) :: (dP, oD12) :: [(pen, oP12), (cells, oC), (L0 + 1 + 1 + 1, oS), (L0 + 1 + 1, om), (L0 + 1, op3), (837, tabObj ps1)]) N31 (Off.made hnew31 (in_cons (o := oI) (by k_mem) (in_cons (o := oD12) (by k_mem) (in_six (by k_mem) (by k_mem) (by k_mem) (by k_mem) (by k_mem) (by k_mem))))) hRI
                replace N32 : News b L0 h31 ((I, oI) :: (dP, oD12) :: (pen, oP12) :: (cells, oC) :: (L0 + 1 + 1 + 1, oS) :: (L0 + 1 + 1, om) :: (L0 + 1, op3) :: (837, tabObj ps1) :: R17) := N32
                have hz2 : (dS == 0) = false → u2.Zero := fun _ => ⟨x1, x2, x3⟩
                have HP13 := HP12.mono (show 64 + 8 * (i : Int) ≤ 64 + 8 * (i : Int) + 3 by exact Int.le_add_of_nonneg_right (by decide))
                clear N31 hnew31 N30
                repeat' (first | (k_unfold; (try dsimp only)) | ((fail_if_success (first | (with_reducible show LCt.CompSrcT _ _ _ _ _ _ _ _ _ _ _ _ _ _ _) | (with_reducible show LCg.CompEnd _ _ _ _ _ _ _ _ _ _ _ _ _ _) | (with_reducible show LCg.CompSrc _ _ _ _ _ _ _ _ _ _ _ _ _ _) | (with_reducible show wpAny _ _ (call (Value.type "dict") _) _ _ _) | (with_reducible show wpAny _ _ (pyIter (Value.ref _)) _ _ _) | (with_reducible show wpAny _ _ (call (Value.ref _) _) _ _ _) | (with_reducible show wpAny _ _ (exec (Stmt.For _ _ _ _ _) _) _ _ _) | (with_reducible show wpAny _ _ (exec (Stmt.Assign [_] (Expr.ListComp _ _ _ _) _) _) _ _ _) | (with_reducible show wpAny _ _ (eval (Expr.ListComp _ _ _ _) _) _ _ _))); first | walk1 | (dsimp only; walk1)))
                refine' useU (law_value_c HC HP13 (by exact o_cap1 (o_cap8 (o_c12 hL1 hiL)) rfl)) ?hdp ?hun ?F ?N ?X ?T ?U ?hi ?_
                (( (case hdp | hun => kwd_inv); (case F | N | X | T => k_asm)); (case U => k_updF); (case hi => repeat (first | exact List.forall_mem_nil _ | (refine List.forall_mem_cons.mpr ⟨?_, ?_⟩; first | exact Or.inr (by assumption) | exact Or.inl ⟨by k_mem, by k_ne⟩))))
                rintro Gq hGq n33 _ h33 tk33 _ ⟨u1, oP14, rfl, HP14, rfl, ua1, ud1⟩
                refine hGq _ _ _ _ _ ?_
                clear hGq Gq
                rintro F33 N33 hfr1
                replace N33 := N33 oP14 (u1.led w.params) (fun _ h => h)
                have hnu1 := led_fresh hfr1 ua1 ud1
                obtain ⟨R18, hR18, hM18, hS18, N34⟩ := pack (X := (I, oI) :: (dP, oD12) :: [(pen, oP14), (cells, oC), (L0 + 1 + 1 + 1, oS), (L0 + 1 + 1, om), (L0 + 1, op3), (837, tabObj ps1)]) N33 (Off.made hnu1 (in_cons (o := oI) (by k_mem) (in_cons (o := oD12) (by k_mem) (in_six (by k_mem) (by k_mem) (by k_mem) (by k_mem) (by k_mem) (by k_mem))))) hR17
                replace N34 : News b L0 h33 ((I, oI) :: (dP, oD12) :: (pen, oP14) :: (cells, oC) :: (L0 + 1 + 1 + 1, oS) :: (L0 + 1 + 1, om) :: (L0 + 1, op3) :: (837, tabObj ps1) :: R18) := N34
                clear N33 hfr1 hnu1
                repeat' (first | (k_unfold; (try dsimp only)) | ((fail_if_success (first | (with_reducible show LCt.CompSrcT _ _ _ _ _ _ _ _ _ _ _ _ _ _ _) | (with_reducible show LCg.CompEnd _ _ _ _ _ _ _ _ _ _ _ _ _ _) | (with_reducible show LCg.CompSrc _ _ _ _ _ _ _ _ _ _ _ _ _ _) | (with_reducible show wpAny _ _ (call (Value.type "dict") _) _ _ _) | (with_reducible show wpAny _ _ (pyIter (Value.ref _)) _ _ _) | (with_reducible show wpAny _ _ (call (Value.ref _) _) _ _ _) | (with_reducible show wpAny _ _ (exec (Stmt.For _ _ _ _ _) _) _ _ _) | (with_reducible show wpAny _ _ (exec (Stmt.Assign [_] (Expr.ListComp _ _ _ _) _) _) _ _ _) | (with_reducible show wpAny _ _ (eval (Expr.ListComp _ _ _ _) _) _ _ _))); first | walk1 | (dsimp only; walk1)))
                rename_i T3 h35 F35 N35 l35
                have lt3 := kst_ltOf (show AllLt T3 ((I, oI) :: (dP, oD12) :: (pen, oP14) :: (cells, oC) :: (L0 + 1 + 1 + 1, oS) :: (L0 + 1 + 1, om) :: (L0 + 1, op3) :: (837, tabObj ps1) :: R18) from l35)
                obtain ⟨R19, hR19, hM19, hS19, N36⟩ := pack (X := (I, oI) :: (dP, oD12) :: [(pen, oP14), (cells, oC), (L0 + 1 + 1 + 1, oS), (L0 + 1 + 1, om), (L0 + 1, op3), (837, tabObj ps1)]) (M := [(T3, { cls := .type "tuple", data := .seq #[.ref u1.a, .ref u2.a] })]) N35 (Off.one lt3 (in_cons (o := oI) (by k_mem) (in_cons (o := oD12) (by k_mem) (in_six (by k_mem) (by k_mem) (by k_mem) (by k_mem) (by k_mem) (by k_mem))))) hR18
                replace N36 : News b L0 h35 ((I, oI) :: (dP, oD12) :: (pen, oP14) :: (cells, oC) :: (L0 + 1 + 1 + 1, oS) :: (L0 + 1 + 1, om) :: (L0 + 1, op3) :: (837, tabObj ps1) :: R19) := N36
                clear N35 l35 lt3
                refine' useU (draw_p HC HP14 (by exact o_cap2 (o_cap8 (o_c12 hL1 hiL)) rfl) (by decide)) ?hdp ?hun ?F ?N ?X ?T ?U ?hi ?_
                (( (case hdp | hun => kwd_inv); (case F | N | X | T => k_asm)); (case U => k_updF); (case hi => repeat (first | exact List.forall_mem_nil _ | (refine List.forall_mem_cons.mpr ⟨?_, ?_⟩; first | exact Or.inr (by assumption) | exact Or.inl ⟨by k_mem, by k_ne⟩))))
                rintro Gq hGq n37 _ h37 tk37 _ ⟨ka, ta, oP15, rfl, ka0, ka1, HP15, rfl⟩
                refine hGq _ _ _ _ _ ?_
                clear hGq Gq
                rintro F37 N37 -
                replace N37 := N37 oP15 [] (fun _ h => h)
                dsimp only [List.nil_append] at N37
                clear N36
                repeat' (first | (k_unfold; (try dsimp only)) | ((fail_if_success (first | (with_reducible show LCt.CompSrcT _ _ _ _ _ _ _ _ _ _ _ _ _ _ _) | (with_reducible show LCg.CompEnd _ _ _ _ _ _ _ _ _ _ _ _ _ _) | (with_reducible show LCg.CompSrc _ _ _ _ _ _ _ _ _ _ _ _ _ _) | (with_reducible show wpAny _ _ (call (Value.type "dict") _) _ _ _) | (with_reducible show wpAny _ _ (pyIter (Value.ref _)) _ _ _) | (with_reducible show wpAny _ _ (call (Value.ref _) _) _ _ _) | (with_reducible show wpAny _ _ (exec (Stmt.For _ _ _ _ _) _) _ _ _) | (with_reducible show wpAny _ _ (exec (Stmt.Assign [_] (Expr.ListComp _ _ _ _) _) _) _ _ _) | (with_reducible show wpAny _ _ (eval (Expr.ListComp _ _ _ _) _) _ _ _))); first | walk1 | (dsimp only; walk1)))
                refine' useU (draw_p HC HP15 (by exact o_cap3 (o_cap8 (o_c12 hL1 hiL)) rfl) (by decide)) ?hdp ?hun ?F ?N ?X ?T ?U ?hi ?_
                (( (case hdp | hun => kwd_inv); (case F | N | X | T => k_asm)); (case U => k_updF); (case hi => repeat (first | exact List.forall_mem_nil _ | (refine List.forall_mem_cons.mpr ⟨?_, ?_⟩; first | exact Or.inr (by assumption) | exact Or.inl ⟨by k_mem, by k_ne⟩))))
                rintro Gq hGq n38 _ h38 tk38 _ ⟨kb, tb, oP16, rfl, kb0, kb1, HP16, rfl⟩
                refine hGq _ _ _ _ _ ?_
                clear hGq Gq
                rintro F38 N38 -
                replace N38 := N38 oP16 [] (fun _ h => h)
                dsimp only [List.nil_append] at N38
                clear N37
                repeat' (first | (k_unfold; (try dsimp only)) | ((fail_if_success (first | (with_reducible show LCt.CompSrcT _ _ _ _ _ _ _ _ _ _ _ _ _ _ _) | (with_reducible show LCg.CompEnd _ _ _ _ _ _ _ _ _ _ _ _ _ _) | (with_reducible show LCg.CompSrc _ _ _ _ _ _ _ _ _ _ _ _ _ _) | (with_reducible show wpAny _ _ (call (Value.type "dict") _) _ _ _) | (with_reducible show wpAny _ _ (pyIter (Value.ref _)) _ _ _) | (with_reducible show wpAny _ _ (call (Value.ref _) _) _ _ _) | (with_reducible show wpAny _ _ (exec (Stmt.For _ _ _ _ _) _) _ _ _) | (with_reducible show wpAny _ _ (exec (Stmt.Assign [_] (Expr.ListComp _ _ _ _) _) _) _ _ _) | (with_reducible show wpAny _ _ (eval (Expr.ListComp _ _ _ _) _) _ _ _))); first | walk1 | (dsimp only; walk1)))
                rename_i kA hK FK NK lK
                have ltK := kst_ltOf (show AllLt kA ((I, oI) :: (dP, oD12) :: (pen, oP16) :: (cells, oC) :: (L0 + 1 + 1 + 1, oS) :: (L0 + 1 + 1, om) :: (L0 + 1, op3) :: (837, tabObj ps1) :: R19) from lK)
                obtain ⟨R20, hR20, hM20, hS20, N40⟩ := pack (X := (I, oI) :: (dP, oD12) :: [(pen, oP16), (cells, oC), (L0 + 1 + 1 + 1, oS), (L0 + 1 + 1, om), (L0 + 1, op3), (837, tabObj ps1)]) (M := [(kA, { cls := .type "tuple", data := .seq #[.int ka ta, .int kb tb] })]) NK (Off.one ltK (in_cons (o := oI) (by k_mem) (in_cons (o := oD12) (by k_mem) (in_six (by k_mem) (by k_mem) (by k_mem) (by k_mem) (by k_mem) (by k_mem))))) hR19
                replace N40 : News b L0 hK ((I, oI) :: (dP, oD12) :: (pen, oP16) :: (cells, oC) :: (L0 + 1 + 1 + 1, oS) :: (L0 + 1 + 1, om) :: (L0 + 1, op3) :: (837, tabObj ps1) :: R20) := N40
                clear NK lK ltK
                have hs1720 : ∀ p ∈ R17, p ∈ R20 := fun p hp => hS20 p (hS19 p (hS18 p hp))
                have hs1620 : ∀ p ∈ R16, p ∈ R20 := fun p hp => hs1720 p (hS17 p hp)
                have hPY2 := hPY.up hs1620
                have htk : TupKeyObj (PySem.intKind prog w) [ka, kb] ({ cls := .type "tuple", data := .seq #[.int ka ta, .int kb tb] } : Obj) := tup_ints ka kb ta tb
                refine setItem_px (by kwd_inv) FK N40 (by k_updF) hx12 hd12 hes12 (fun x hx => let ⟨ok, e1, e2⟩ := hPY2.ks x hx; ⟨ok, (.tail _ (.tail _ (.tail _ (.tail _ (.tail _ (.tail _ (.tail _ (.tail _ e1)))))))), e2⟩) hPY.n (by exact Nat.le_trans hxl (o_n12 (o_c12 hL1 hiL))) (.tail _ (.tail _ (.tail _ (.tail _ (.tail _ (.tail _ (.tail _ (.tail _ (hM20 _ (.head _)))))))))) htk ?_
                intro h41 oD13 es13 ep13 tk41 F41 N41 hx13 hd13 hes13 hn13
                repeat' (first | (k_unfold; (try dsimp only)) | ((fail_if_success (first | (with_reducible show LCt.CompSrcT _ _ _ _ _ _ _ _ _ _ _ _ _ _ _) | (with_reducible show LCg.CompEnd _ _ _ _ _ _ _ _ _ _ _ _ _ _) | (with_reducible show LCg.CompSrc _ _ _ _ _ _ _ _ _ _ _ _ _ _) | (with_reducible show wpAny _ _ (call (Value.type "dict") _) _ _ _) | (with_reducible show wpAny _ _ (pyIter (Value.ref _)) _ _ _) | (with_reducible show wpAny _ _ (call (Value.ref _) _) _ _ _) | (with_reducible show wpAny _ _ (exec (Stmt.For _ _ _ _ _) _) _ _ _) | (with_reducible show wpAny _ _ (exec (Stmt.Assign [_] (Expr.ListComp _ _ _ _) _) _) _ _ _) | (with_reducible show wpAny _ _ (eval (Expr.ListComp _ _ _ _) _) _ _ _))); first | walk1 | (dsimp only; walk1)))
                refine turn_end (news' := (dP, oD13) :: (pen, oP16) :: (cells, oC) :: (L0 + 1 + 1 + 1, oS) :: (L0 + 1 + 1, om) :: (L0 + 1, op3) :: (837, tabObj ps1) :: R20) (.inl rfl) F41 N41 (fun p hp => hp) (fun p hp => ?_) (fun p hp => nomatch hp) (hJq _ _ ⟨two_of fun y h1 h2 => by simp only [h1, h2, if_false], oP16, oD13, R20, storedH xs [ka, kb] kA (.ref T3), ffPut ff ka kb (T3, u1, u2), es13, ep13, HP16.mono (by exact o_s64), rfl, fun p hp hm => hR20 p hp (.tail _ hm), fun p hp => hs1620 p (hs16 p hp), hPY2.put (hM20 _ (.head _)) htk hn13 ⟨ka0, by exact ka1⟩ (hS20 _ (hM19 _ (.head _))) (fun p hp => hS20 _ (hS19 _ (hM18 p hp))) (fun p hp => hs1720 p (hM17 p hp)), Nat.le_trans len_storedH (by exact Nat.succ_le_succ hxl), hx13, hd13, hes13, fun e a' b' t' ht => ?_⟩)
                · rcases List.mem_cons.mp hp with h | hp
                  · rw [h]; exact i0
                  rcases List.mem_append.mp (show p ∈ ([(pen, oP16), (cells, oC), (L0 + 1 + 1 + 1, oS), (L0 + 1 + 1, om), (L0 + 1, op3), (837, tabObj ps1)] ++ R20 : Ledger) from hp) with hp | hp
                  · simp only [List.mem_cons, List.not_mem_nil, or_false] at hp
                    rcases hp with h | h | h | h | h | h
                    · rw [h]; exact i1
                    · rw [h]; exact i2
                    · rw [h]; exact i3
                    · rw [h]; exact i4
                    · rw [h]; exact i5
                    · rw [h]; exact i6
                  · exact fun e => hR20 p hp (e ▸ .head _)
                · unfold ffPut at ht
                  by_cases q : a' = ka ∧ b' = kb
                  · rw [if_pos q] at ht
                    obtain rfl := Option.some.inj ht
                    exact hz2 e
                  · rw [if_neg q] at ht
                    exact hz12 e a' b' t' ht
              -->
            · rintro h30 tk30 Gq hGq m3 nw3 ⟨⟨oa, ob, rfl⟩, oP12, oD12, R16, xs, ff, es, ep, HP12, rfl, hR16, hs16, hPY, hxl, hx12, hd12, hes12, hz12⟩
              refine hGq _ _ ?_
              clear hGq Gq
              rintro F30 N30
              replace F30 : Fr b L0 h30 _ := F30
              replace N30 : News b L0 h30 ((dP, oD12) :: (pen, oP12) :: (cells, oC) :: (L0 + 1 + 1 + 1, oS) :: (L0 + 1 + 1, om) :: (L0 + 1, op3) :: (837, tabObj ps1) :: R16) := N30
              subst hps1
              replace HP12 : PenOk cells 160 oP12 := HP12.mono (by exact o_ile (o_cap8 hL1) rfl)
              repeat' (first | (k_unfold; (try dsimp only)) | ((fail_if_success (first | (with_reducible show LCt.CompSrcT _ _ _ _ _ _ _ _ _ _ _ _ _ _ _) | (with_reducible show LCg.CompEnd _ _ _ _ _ _ _ _ _ _ _ _ _ _) | (with_reducible show LCg.CompSrc _ _ _ _ _ _ _ _ _ _ _ _ _ _) | (with_reducible show wpAny _ _ (call (Value.type "dict") _) _ _ _) | (with_reducible show wpAny _ _ (pyIter (Value.ref _)) _ _ _) | (with_reducible show wpAny _ _ (call (Value.ref _) _) _ _ _) | (with_reducible show wpAny _ _ (exec (Stmt.For _ _ _ _ _) _) _ _ _) | (with_reducible show wpAny _ _ (exec (Stmt.Assign [_] (Expr.ListComp _ _ _ _) _) _) _ _ _) | (with_reducible show wpAny _ _ (eval (Expr.ListComp _ _ _ _) _) _ _ _))); first | walk1 | (dsimp only; walk1)))
              rename_i fM cM oM vM tM ctM hM tkM FM NM d1M d2M l1M l2M fF cF oF vF tF ctF hF tkF FF NF d1F d2F l1F l2F
              generalize (#[] ++ #[rawInt _, rawInt _, Value.ref cZ] ++ #[rawInt _, rawInt _, Value.ref cM] ++ #[rawInt _, rawInt _, Value.ref cF]) = ps3 at NF
              have ltM := kst_ltOf (show AllLt cM ((dP, oD12) :: (pen, oP12) :: (cells, oC) :: (L0 + 1 + 1 + 1, oS) :: (L0 + 1 + 1, om) :: (L0 + 1, op3) :: (837, tabObj ps3) :: R16) from l1M)
              have ltF := kst_ltOf (show AllLt cF ((fM, oM) :: (cM, oM) :: (dP, oD12) :: (pen, oP12) :: (cells, oC) :: (L0 + 1 + 1 + 1, oS) :: (L0 + 1 + 1, om) :: (L0 + 1, op3) :: (837, tabObj ps3) :: R16) from l1F)
              have hin : ∀ a ∈ dP :: [pen, cells, L0 + 1 + 1 + 1, L0 + 1 + 1, L0 + 1, 837], ∃ o, ((a, o) : Addr × Obj) ∈ ((dP, oD12) :: (pen, oP12) :: (cells, oC) :: (L0 + 1 + 1 + 1, oS) :: (L0 + 1 + 1, om) :: (L0 + 1, op3) :: (837, tabObj ps3) :: R16 : Ledger) := in_cons (o := oD12) (by k_mem) (in_six (by k_mem) (by k_mem) (by k_mem) (by k_mem) (by k_mem) (by k_mem))
              obtain ⟨R17, hR17, hM17, hS17, N40⟩ := pack (X := (dP, oD12) :: [(pen, oP12), (cells, oC), (L0 + 1 + 1 + 1, oS), (L0 + 1 + 1, om), (L0 + 1, op3), (837, tabObj ps3)]) (M := [(fF, _), (cF, oF), (fM, _), (cM, oM)]) NF (Off.cons (off_lt (fun p hp => Nat.lt_trans (ltF p (.tail _ (.tail _ hp))) l2F) hin) (Off.cons (off_lt (fun p hp => ltF p (.tail _ (.tail _ hp))) hin) (Off.cons (off_lt (fun p hp => Nat.lt_trans (ltM p hp) l2M) hin) (Off.one ltM hin)))) hR16
              replace N40 : News b L0 hF ((dP, oD12) :: (pen, oP12) :: (cells, oC) :: (L0 + 1 + 1 + 1, oS) :: (L0 + 1 + 1, om) :: (L0 + 1, op3) :: (837, tabObj ps3) :: R17) := N40
              have hkF := hM17 _ (.head _)
              have hcF := hM17 _ (.tail _ (.head _))
              have hkM := hM17 _ (.tail _ (.tail _ (.head _)))
              have hcM := hM17 _ (.tail _ (.tail _ (.tail _ (.head _))))
              clear NF NM FM N30 l1M l2M l1F l2F ltM ltF hin hM17
              have hPYi : PY prog w ((dP, oD12) :: (L0 + 1 + 1 + 1, oS) :: R17) xs ff := hPY.up fun p hp => .tail _ (.tail _ (hS17 p hp))
              refine' useU (parted_c (imm := (dP, oD12) :: (L0 + 1 + 1 + 1, oS) :: R17) HC HP12 (by decide) (part_pair (sec := (dS == 0)) (.head _) loP hx12 hd12 hes12 hPYi.ks hPYi.n hPYi.kk hPYi.at' (by exact Nat.le_trans hxl (o_n12 hL1)) hPYi.val hz12 d1F d2F d1M d2M dS1 (.tail _ (.head _)) (.tail _ (.tail _ hkF)) (.tail _ (.tail _ hcF)) (.tail _ (.tail _ hkM)) (.tail _ (.tail _ hcM)))) ?hdp ?hun ?F ?N ?X ?T ?U ?hi ?_
              (case hdp => kwd_inv)
              (case hun => kwd_inv)
              (case F => k_asm)
              (case N => exact N40)
              (case X => k_asm)
              (case T => k_asm)
              (case U => k_updF)
              (case hi =>
                exact hi_cons (.tail _ (.tail _ (.head _))) (fun e => hcp e) fun p hp => by
                  rcases List.mem_cons.mp hp with h | hp
                  · rw [h]; exact ⟨.head _, q1⟩
                  rcases List.mem_cons.mp hp with h | hp
                  · rw [h]; exact ⟨.tail _ (.tail _ (.tail _ (.head _))), Ne.symm g1⟩
                  · exact ⟨.tail _ (.tail _ (.tail _ (.tail _ (.tail _ (.tail _ (.tail _ hp)))))), fun e => hR17 p hp (e ▸ .tail _ (.head _))⟩)
              rintro Gq hGq n41 _ h41 tk41 _ ⟨P2, np2, oP13, ts2, hm2, more2, rfl, HP13, rfl, hPp2, hmp2, PP2⟩
              refine hGq _ _ _ _ _ ?_
              clear hGq Gq
              rintro F41 N41 hfr2
              replace N41 := N41 oP13 _ (fun _ h => h)
              obtain ⟨R18, hR18, hM18, hS18, N42⟩ := pack (X := (dP, oD12) :: [(pen, oP13), (cells, oC), (L0 + 1 + 1 + 1, oS), (L0 + 1 + 1, om), (L0 + 1, op3), (837, tabObj ps3)]) N41 (Off.made (fun p hp q hq => Ne.symm (hfr2 p (.tail _ hp) ((List.mem_cons.mp hp).elim (fun h => h ▸ hPp2) (hmp2 p)) q hq)) (in_cons (o := oD12) (by k_mem) (in_six (by k_mem) (by k_mem) (by k_mem) (by k_mem) (by k_mem) (by k_mem)))) hR17
              replace N42 : News b L0 h41 ((dP, oD12) :: (pen, oP13) :: (cells, oC) :: (L0 + 1 + 1 + 1, oS) :: (L0 + 1 + 1, om) :: (L0 + 1, op3) :: (837, tabObj ps3) :: R18) := N42
              clear N41 N40 hfr2 hPYi hkF hcF hkM hcM
              repeat' (first | (k_unfold; (try dsimp only)) | ((fail_if_success (first | (with_reducible show LCt.CompSrcT _ _ _ _ _ _ _ _ _ _ _ _ _ _ _) | (with_reducible show LCg.CompEnd _ _ _ _ _ _ _ _ _ _ _ _ _ _) | (with_reducible show LCg.CompSrc _ _ _ _ _ _ _ _ _ _ _ _ _ _) | (with_reducible show wpAny _ _ (call (Value.type "dict") _) _ _ _) | (with_reducible show wpAny _ _ (pyIter (Value.ref _)) _ _ _) | (with_reducible show wpAny _ _ (call (Value.ref _) _) _ _ _) | (with_reducible show wpAny _ _ (exec (Stmt.For _ _ _ _ _) _) _ _ _) | (with_reducible show wpAny _ _ (exec (Stmt.Assign [_] (Expr.ListComp _ _ _ _) _) _) _ _ _) | (with_reducible show wpAny _ _ (eval (Expr.ListComp _ _ _ _) _) _ _ _))); first | walk1 | (dsimp only; walk1)))
              have hPX18 : PX prog w ((dP, oD12) :: R18) dP oD12 es ep xs ff := hPY.px (fun p hp => .tail _ (hS18 p (hS17 p hp))) (.head _) loP hx12 hd12 hes12 (by exact Nat.le_trans hxl (o_n12 hL1))
              refine' use0N (pairs_c hPX18.whole hz12) ?hdp ?hun ?F ?N ?X ?T ?hi ?_
              ( (case hdp | hun => kwd_inv); (case F | N | X | T => k_asm))
              (case hi =>
                refine fun p hp => Or.inl ?_
                rcases List.mem_cons.mp hp with h | hp
                · exact h ▸ .head _
                · exact .tail _ (.tail _ (.tail _ (.tail _ (.tail _ (.tail _ (.tail _ hp)))))))
              rintro Gq hGq n43 _ h43 tk43 _ ⟨px, pdx, pk1, pk2, rfl, rfl⟩
              refine hGq _ _ _ _ _ ?_
              clear hGq Gq
              rintro hnew43 F43 N43
              obtain ⟨R19, hR19, hM19, hS19, N44⟩ := pack (X := (dP, oD12) :: [(pen, oP13), (cells, oC), (L0 + 1 + 1 + 1, oS), (L0 + 1 + 1, om), (L0 + 1, op3), (837, tabObj ps3)]) N43 (Off.made hnew43 (in_cons (o := oD12) (by k_mem) (in_six (by k_mem) (by k_mem) (by k_mem) (by k_mem) (by k_mem) (by k_mem)))) hR18
              replace N44 : News b L0 h43 ((dP, oD12) :: (pen, oP13) :: (cells, oC) :: (L0 + 1 + 1 + 1, oS) :: (L0 + 1 + 1, om) :: (L0 + 1, op3) :: (837, tabObj ps3) :: R19) := N44
              (try clear N43)
              (try clear N42)
              (try clear hnew43)
              repeat' (first | (k_unfold; (try dsimp only)) | ((fail_if_success (first | (with_reducible show LCt.CompSrcT _ _ _ _ _ _ _ _ _ _ _ _ _ _ _) | (with_reducible show LCg.CompEnd _ _ _ _ _ _ _ _ _ _ _ _ _ _) | (with_reducible show LCg.CompSrc _ _ _ _ _ _ _ _ _ _ _ _ _ _) | (with_reducible show wpAny _ _ (call (Value.type "dict") _) _ _ _) | (with_reducible show wpAny _ _ (pyIter (Value.ref _)) _ _ _) | (with_reducible show wpAny _ _ (call (Value.ref _) _) _ _ _) | (with_reducible show wpAny _ _ (exec (Stmt.For _ _ _ _ _) _) _ _ _) | (with_reducible show wpAny _ _ (exec (Stmt.Assign [_] (Expr.ListComp _ _ _ _) _) _) _ _ _) | (with_reducible show wpAny _ _ (eval (Expr.ListComp _ _ _ _) _) _ _ _))); first | walk1 | (dsimp only; walk1)))
              rename_i l2d h45 F45 N45 l45
              obtain ⟨R20, hR20, hM20, hS20, N46⟩ := pack (X := (dP, oD12) :: [(pen, oP13), (cells, oC), (L0 + 1 + 1 + 1, oS), (L0 + 1 + 1, om), (L0 + 1, op3), (837, tabObj ps3)]) (M := [(l2d, listOf [Value.ref px].toArray 0)]) N45 (Off.one (kst_ltOf (show AllLt l2d ((dP, oD12) :: (pen, oP13) :: (cells, oC) :: (L0 + 1 + 1 + 1, oS) :: (L0 + 1 + 1, om) :: (L0 + 1, op3) :: (837, tabObj ps3) :: R19) from l45)) (in_cons (o := oD12) (by k_mem) (in_six (by k_mem) (by k_mem) (by k_mem) (by k_mem) (by k_mem) (by k_mem)))) hR19
              replace N46 : News b L0 h45 ((dP, oD12) :: (pen, oP13) :: (cells, oC) :: (L0 + 1 + 1 + 1, oS) :: (L0 + 1 + 1, om) :: (L0 + 1, op3) :: (837, tabObj ps3) :: R20) := N46
              (try clear N45)
              (try clear N44)
              (try clear l45)
              refine' use0N lookup_c ?hdp ?hun ?F ?N ?X ?T ?hi ?_
              ( (case hdp | hun => kwd_inv); (case F | N | X | T => k_asm))
              (case hi => exact fun p hp => nomatch hp)
              rintro Gq hGq n47 _ h47 tk47 _ ⟨lq, ldq, lkq, rfl, rfl⟩
              refine hGq _ _ _ _ _ ?_
              clear hGq Gq
              rintro hnew47 F47 N47
              obtain ⟨R21, hR21, hM21, hS21, N48⟩ := pack (X := (dP, oD12) :: [(pen, oP13), (cells, oC), (L0 + 1 + 1 + 1, oS), (L0 + 1 + 1, om), (L0 + 1, op3), (837, tabObj ps3)]) N47 (Off.made hnew47 (in_cons (o := oD12) (by k_mem) (in_six (by k_mem) (by k_mem) (by k_mem) (by k_mem) (by k_mem) (by k_mem)))) hR20
              replace N48 : News b L0 h47 ((dP, oD12) :: (pen, oP13) :: (cells, oC) :: (L0 + 1 + 1 + 1, oS) :: (L0 + 1 + 1, om) :: (L0 + 1, op3) :: (837, tabObj ps3) :: R21) := N48
              (try clear N47)
              (try clear N46)
              (try clear hnew47)
              repeat' (first | (k_unfold; (try dsimp only)) | ((fail_if_success (first | (with_reducible show LCt.CompSrcT _ _ _ _ _ _ _ _ _ _ _ _ _ _ _) | (with_reducible show LCg.CompEnd _ _ _ _ _ _ _ _ _ _ _ _ _ _) | (with_reducible show LCg.CompSrc _ _ _ _ _ _ _ _ _ _ _ _ _ _) | (with_reducible show wpAny _ _ (call (Value.type "dict") _) _ _ _) | (with_reducible show wpAny _ _ (pyIter (Value.ref _)) _ _ _) | (with_reducible show wpAny _ _ (call (Value.ref _) _) _ _ _) | (with_reducible show wpAny _ _ (exec (Stmt.For _ _ _ _ _) _) _ _ _) | (with_reducible show wpAny _ _ (exec (Stmt.Assign [_] (Expr.ListComp _ _ _ _) _) _) _ _ _) | (with_reducible show wpAny _ _ (eval (Expr.ListComp _ _ _ _) _) _ _ _))); first | walk1 | (dsimp only; walk1)))
              refine' use0N lookup_c ?hdp ?hun ?F ?N ?X ?T ?hi ?_
              ( (case hdp | hun => kwd_inv); (case F | N | X | T => k_asm))
              (case hi => exact fun p hp => nomatch hp)
              rintro Gq hGq n49 _ h49 tk49 _ ⟨lq2, ldq2, lkq2, rfl, rfl⟩
              refine hGq _ _ _ _ _ ?_
              clear hGq Gq
              rintro hnew49 F49 N49
              obtain ⟨R22, hR22, hM22, hS22, N50⟩ := pack (X := (dP, oD12) :: [(pen, oP13), (cells, oC), (L0 + 1 + 1 + 1, oS), (L0 + 1 + 1, om), (L0 + 1, op3), (837, tabObj ps3)]) N49 (Off.made hnew49 (in_cons (o := oD12) (by k_mem) (in_six (by k_mem) (by k_mem) (by k_mem) (by k_mem) (by k_mem) (by k_mem)))) hR21
              replace N50 : News b L0 h49 ((dP, oD12) :: (pen, oP13) :: (cells, oC) :: (L0 + 1 + 1 + 1, oS) :: (L0 + 1 + 1, om) :: (L0 + 1, op3) :: (837, tabObj ps3) :: R22) := N50
              (try clear N49)
              (try clear N48)
              (try clear hnew49)
              repeat' (first | (k_unfold; (try dsimp only)) | ((fail_if_success (first | (with_reducible show LCt.CompSrcT _ _ _ _ _ _ _ _ _ _ _ _ _ _ _) | (with_reducible show LCg.CompEnd _ _ _ _ _ _ _ _ _ _ _ _ _ _) | (with_reducible show LCg.CompSrc _ _ _ _ _ _ _ _ _ _ _ _ _ _) | (with_reducible show wpAny _ _ (call (Value.type "dict") _) _ _ _) | (with_reducible show wpAny _ _ (pyIter (Value.ref _)) _ _ _) | (with_reducible show wpAny _ _ (call (Value.ref _) _) _ _ _) | (with_reducible show wpAny _ _ (exec (Stmt.For _ _ _ _ _) _) _ _ _) | (with_reducible show wpAny _ _ (exec (Stmt.Assign [_] (Expr.ListComp _ _ _ _) _) _) _ _ _) | (with_reducible show wpAny _ _ (eval (Expr.ListComp _ _ _ _) _) _ _ _))); first | walk1 | (dsimp only; walk1)))
              have hs1822 : ∀ p ∈ R18, p ∈ R22 := fun p hp => hS22 p (hS21 p (hS20 p (hS19 p hp)))
              have hs1522 : ∀ p ∈ R15, p ∈ R22 := fun p hp => hs1822 p (hS18 p (hS17 p (hs16 p hp)))
              have hPX : PX prog w ((dP, oD12) :: R22) dP oD12 es ep xs ff := hPY.px (fun p hp => .tail _ (hs1822 p (hS18 p (hS17 p hp)))) (.head _) loP hx12 hd12 hes12 (by exact Nat.le_trans hxl (o_n12 hL1))
              have HK3 := lk_pair (prog := prog) (w := w) (src := (dP, oD12) :: R22) (z := mkSc gx gdx cx cdx dcl lq ldq l2d lkq (fun i => if i = 5 then ckt else gkk i) ocl (.ref cx2) (.ref l2) gpts gcar "pair" flag) (nt := 0) (sec := (dS == 0)) rfl ⟨pdx, pk1, pk2, .tail _ (hS22 _ (hS21 _ (hS20 _ (hM19 _ (.head _))))), .tail _ (hS22 _ (hS21 _ (hS20 _ (hM19 _ (.tail _ (.head _))))))⟩ hPX (.tail _ (hS22 _ (hS21 _ (hM20 _ (.head _)))))
              have HK4 := lk_part_pair (prog := prog) (w := w) (src := (dP, oD12) :: R22) (z := mkSc gx gdx cx cdx dcl lq2 ldq2 P2 lkq2 (fun i => if i = 5 then ckt else gkk i) ocl (.ref cx2) (.ref l2) gpts gcar "pair" flag) (nt := np2) (sec := (dS == 0)) rfl hPX PP2 (fun p hp => .tail _ (hs1822 _ (hM18 _ (.tail _ hp)))) (.tail _ (hs1822 _ (hM18 _ (.head _))))
              have hallc2 : ∀ c, 0 ≤ c → c < 3 → c ∈ ts2.map (·.2.2.2) := fun c h0 h1 => by
                obtain ⟨t, ht, e⟩ := PP2.all c h0 h1
                exact List.mem_map.mpr ⟨t, ht, e⟩
              have HAL2 := alike_c (infl := infl) (ni := (refs made).length) HK3 HK4 ⟨rfl, rfl, rfl, rfl⟩ rfl hCls hfl hall3 hmk hrows6 (fun rs a => by
                have := pair_heq (flag := flag) (cls := fun g => (cs.getD g.toNat (1, 0)).1) (sec := (dS == 0)) (f := ff) PP2.lo hallc2 rs a
                rw [List.map_map] at this ⊢
                exact this) (fun g => by
                have := pair_has (sec := (dS == 0)) (f := ff) PP2.lo hallc2 g
                rw [List.map_map] at this ⊢
                exact this)
              refine' use0N HAL2 ?hdp ?hun ?F ?N ?X ?T ?hi ?_
              ( (case hdp | hun => kwd_inv); (case F | N | X | T => k_asm))
              (case hi =>
                have up : ∀ p ∈ R22, p ∈ ((dP, oD12) :: (pen, oP13) :: (cells, oC) :: (L0 + 1 + 1 + 1, oS) :: (L0 + 1 + 1, om) :: (L0 + 1, op3) :: (837, tabObj ps3) :: R22 : Ledger) := fun p hp => .tail _ (.tail _ (.tail _ (.tail _ (.tail _ (.tail _ (.tail _ hp))))))
                refine fun p hp => Or.inl ?_
                rcases List.mem_append.mp hp with hp | hp
                · rcases List.mem_cons.mp hp with h | hp
                  · exact h ▸ up _ (hs1522 _ hinf15)
                  · exact up _ (hs1522 _ (hrow15 p hp))
                rcases List.mem_append.mp hp with hp | hp
                · exact up _ (hs1522 _ (hg15 p hp))
                rcases List.mem_append.mp hp with hp | hp
                · exact up _ (hS22 _ (hM21 p hp))
                rcases List.mem_append.mp hp with hp | hp
                · exact up _ (hM22 p hp)
                rcases List.mem_cons.mp hp with h | hp
                · exact h ▸ .head _
                · exact up _ hp)
              rintro Gq hGq n51 _ h51 tk51 _ ⟨rfl, rfl⟩
              refine hGq _ _ _ _ _ ?_
              clear hGq Gq
              rintro - F51 N51
              replace N51 : News b L0 h51 ((dP, oD12) :: (pen, oP13) :: (cells, oC) :: (L0 + 1 + 1 + 1, oS) :: (L0 + 1 + 1, om) :: (L0 + 1, op3) :: (837, tabObj ps3) :: R22) := N51
              repeat' (first | (k_unfold; (try dsimp only)) | ((fail_if_success (first | (with_reducible show LCt.CompSrcT _ _ _ _ _ _ _ _ _ _ _ _ _ _ _) | (with_reducible show LCg.CompEnd _ _ _ _ _ _ _ _ _ _ _ _ _ _) | (with_reducible show LCg.CompSrc _ _ _ _ _ _ _ _ _ _ _ _ _ _) | (with_reducible show wpAny _ _ (call (Value.type "dict") _) _ _ _) | (with_reducible show wpAny _ _ (pyIter (Value.ref _)) _ _ _) | (with_reducible show wpAny _ _ (call (Value.ref _) _) _ _ _) | (with_reducible show wpAny _ _ (exec (Stmt.For _ _ _ _ _) _) _ _ _) | (with_reducible show wpAny _ _ (exec (Stmt.Assign [_] (Expr.ListComp _ _ _ _) _) _) _ _ _) | (with_reducible show wpAny _ _ (eval (Expr.ListComp _ _ _ _) _) _ _ _))); first | walk1 | (dsimp only; walk1)))
              exact k _ _ _ _ ⟨rfl, ps3, .tail _ (.tail _ (.tail _ (.tail _ (.tail _ (.tail _ (.head _))))))⟩ (sub_of_fr (by assumption)) (led_of_news (by assumption) (fun _ hp => hp))
end

/-! the end: law's contract at the caller's -/
theorem callee_is {K : Frag} {h : Heap} {mg : Str → Option Value} {x : Str} {f fa : Addr} (X : K.In h) (G : h.Ns mainGlobals mg) (hf : nsIn K mainGlobals x = some (some (.ref f))) (hm : mg x = some (.ref fa)) : fa = f := by
  have e1 := mg_of X G hf
  rw [hm] at e1
  cases e1; rfl
theorem goodW_true {prog : Program} {w : World} {s₁ : Shared} {l : Addr} {sv : List Value} {sn : List Int} {p : Program} {loose : List Str} {mean : ExcName → Option Value} {mg mb : Str → Option Value} {c : ClaimW} {cl : Str → Option Addr} {args : List WData}
    (hT : TabsAt [(839, 837)] s₁.heap) (KX : (hd.heap_39 w.params).In s₁.heap) (hK : noTabs (hd.heap_39 w.params) = true) (T : Top p loose mean mg mb s₁.heap) (hg : s₁.gens = #[]) (hL : s₁.heap.IsList l sv.toArray) (hI : IntsAre sv sn) (hl : sn.length ≤ 63)
    (hn : ∀ cls, c.raises args cls = false) (hp : c.post args (.bool true) args = true) :
    codeAny (model prog w) callerA (.call (.ref 840) ⟨[.ref l], []⟩) (fun r s' => GoodW c cl mean args { s₁ with heap := ghostOf s₁.heap [(839, 837)] } r s' ∧ GrownAll [(839, 837)] s'.heap) s₁ := by
  obtain ⟨oX, hX, hc, n, hd⟩ := ghost_list hT hL
  have h837 := (hT (839, 837) (.head _)).2
  have hlen := hI.length
  refine law_c (sc := l) (oX := oX) hc hd hI (by exact Nat.le_trans (Nat.le_of_eq hlen) (o_le hl rfl)) 301 4 (some []) (some []) s₁ (ghostOf s₁.heap [(839, 837)]) _ (by decide) (by decide) ⟨Nat.le_of_eq (hideAll_size _ _), fun a o e => of_hideAll _ e⟩ ⟨ghost_K hT KX hK, _, _, _, _, _, ghost_top hT T⟩ (fun p hp => List.mem_singleton.mp hp ▸ hX) (fun p hp => ?_) ?_
  · rw [List.mem_singleton.mp hp]
    exact ⟨h837, hideAll_none _ (.head _)⟩
  · rintro v h' tk mu' ⟨rfl, ps, hps⟩ S' L'
    exact ⟨⟨.inl ⟨.bool true, .bool true, [], rfl, hn, .bool true, hp, unshared_nil⟩, S'.keep, rfl, hg⟩, ⟨ps, (L' _ hps).1⟩, True.intro⟩
end Mine
open Mine
theorem PySem.Challenge.cw_pb0208_01_holds : PySem.Challenge.rw_pb0208_01.Holds := by
  refine holds_law said0 fun said => ?_
  refine holds_open (q := hd.view_39) (loose := hd.loose) (Xt := seenAll) (XP := XL hd.view_39 []) (Yf := hk.obs) (Ya := hk.val) (YP := hk.says) (N := 6000) left_ok hk.of hk.keeps (fun s e => xl_of s (Bool.and_eq_true_iff.mp e).1) XL.keeps (by rfl) (by rfl) (by rfl) (fun s e => recFacts_of (Bool.and_eq_true_iff.mp e).2) (by rfl) said (by decide +kernel) ⟨rfl, rfl, rfl, rfl, rfl, by decide +kernel⟩ ?hw ?hc
  case hw => w_witness2
  show WalkO hd.view_39 hd.loose (XL hd.view_39 []) (kmHook hd.heap_39 hd.adrs hd.adrs_eq [837]).says _ _ _ _
  k_fill
  intro w s₀ s₁ mg mb G Y fa o pm cd doc dV kV ho hd hcd hD hmg hg args vals as hpre hlay hrd hwl hlo
  have KX := km_in_of Y
  km_tabs Y
  have X := (Ground.X G).1
  have V := (Ground.X G).2
  refine Ground.open G ?_
  intro T B D TE TW
  try (refine guard_noD D (by decide +kernel) ?_; clear D)
  km_lay T hmg ho hd cd
  obtain rfl : fa = 840 := callee_is (x := Str.ofString "law") KX T.g (by kernel_rfl) hmg
  wrow_args hpre hlay hrd hwl hlo
  refine enter_call ?_
  refine kn_post hT9 (fun _ _ => rfl) ?_
  refine goodW_true hT9 KX (by kernel_rfl) T hg (by assumption) (by assumption) (by exact Int.ofNat_le.mp (Int.not_lt.mp (by assumption))) (fun _ => rfl) (by first | exact postW_of rfl (w_res rfl) rfl | exact postW_of rfl (w_eq_bool (w_res rfl) w_lit) rfl | exact postW_of rfl (w_is (w_res rfl) w_lit) rfl)

