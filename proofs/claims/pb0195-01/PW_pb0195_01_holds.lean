import PyProof.Rows.All
import Wide.All
import OpenK.AllK
import Wide.FinOn
import Lean
import PySem.Challenge.RW_pb0195_01
open PySem PySem.W PySem.Calls PyProof.Rows
set_option Elab.async false
set_option linter.all false
set_option maxRecDepth 1000000
set_option maxHeartbeats 8000000
namespace Mine
theorem nay {G : Prop} (h : ¬ G → False) : G := Classical.byContradiction h
-- H2
theorem left_once {p q : Program} {loose : List Str} {Xt : Shared → Bool} {α : Type} {Yf : Shared → α} {Ya : World → α} {N : Nat} {g0 : Bool} {H₀ : Params → Heap} {gs₀ : Array GenState} {d₀ : Drawn} {k₀ : Nat} {m₀ : Nat} {ann : Option Value} {M : Nat}
    (open_ : ∀ w : World, (fencedOpening treeTable p w N).map (fun s => (s.heap, s.gens, s.drawn, s.toks)) = some (H₀ w.params, gs₀, d₀, k₀))
    (size : ∀ w : World, ((H₀ w.params).isNs mainGlobals && gs₀.size == 0, (H₀ w.params).objs.size, (H₀ w.params).nsMap mainGlobals "__annotations__") = (true, m₀, ann))
    (run : ∀ (w : World) (os : OsState), ∃ s₁, topRun treeTable p w m₀ ann M ⟨H₀ w.params, gs₀, d₀, k₀, os⟩ (topStub p) = some s₁ ∧
      (staticsOk (importedModules p.main.body) (H₀ w.params) s₁.heap && namesBound p s₁.heap && gensDone s₁ && laidKept (H₀ w.params) s₁.heap) = true ∧ openSeen q loose (importedModules p.main.body) Xt g0 s₁ = openGood q loose ∧ Yf s₁ = Ya w)
    (le : Nat.ble M N = true) : LeftO p q loose Xt Yf Ya N g0 := fun w => by
  obtain ⟨⟨h, gs, d, k, os⟩, e, e'⟩ := Option.map_eq_some_iff.mp (open_ w)
  obtain ⟨rfl, rfl, rfl, rfl⟩ : h = H₀ w.params ∧ gs = gs₀ ∧ d = d₀ ∧ k = k₀ := by simpa using e'
  obtain ⟨z1, z2, z3⟩ : _ ∧ _ ∧ _ := by simpa only [Prod.mk.injEq] using size w
  obtain ⟨s₁, r₀, l1, l2, l3⟩ := run w os
  have r := topRun_mono (N - M) _ _ _ _ r₀
  rw [show M + (N - M) = N by have := Nat.le_of_ble_eq_true le; omega] at r
  have t : topFrom treeTable p w N ⟨H₀ w.params, gs, d, k, os⟩ = some s₁ := by
    unfold topFrom
    dsimp only
    rw [z1, z2, z3, r]
    show (match staticsOk (importedModules p.main.body) (H₀ w.params) s₁.heap && namesBound p s₁.heap && gensDone s₁ && laidKept (H₀ w.params) s₁.heap with | true => _ | false => _) = _
    rw [l1]
  unfold openEnds
  rw [e]
  show (topFrom treeTable p w N _).map _ = _
  rw [t]
  exact congrArg some (Prod.ext l2 l3)
noncomputable abbrev pw : Program := PySem.Challenge.pw_pb0195_01
noncomputable def qw : Program := { pw with main := { pw.main with body := pw.main.body.drop 37 } }
noncomputable def looseW' : List Str := ["_wall", "ShapeError", "TableFault", "MOST_OFFSET", "check_room", "number_at", "OctetsIn", "number_octets", "OctetsOut", "laid", "Coverage", "coverage_of", "ranges_of", "read_ascending", "read_span", "read_spans", "read_coverage", "write_coverage", "by_glyph", "place_of", "read_coverages", "put_counted", "Reverse", "read_reverse", "write_reverse", "_law_taker", "_law_set", "_law_plan", "_law_bent", "_law_made", "_law_means"]
noncomputable def o11 : Obj := { cls := .type "tuple", data := .seq #[] }
noncomputable def o12 : Obj := { cls := .none, data := .fields #[] }
noncomputable def o13 : Obj := { cls := .type "code", data := .fields #[.str "<module>" 182, .str "<module>" 183, .str "/claim/cut.py" 184, .int 1 0, .int 0 0, .int 0 0, .int 0 0, .int 0 0, .ref 11, .bool false, .int 181 0, .ref 12, .none, .none, .none, .none, .int 185 0, .int 1 0, .str "/claim/cut.py" 186] }
noncomputable def o14 : Obj := { cls := .type "frame", data := .plain, slots := #[some (.ref 13), some (.ref 3), some (.ref 3), none, some (.str "__main__" 164), none, some (.ref 0)] }
noncomputable def tree0 (P : Params) : BT :=
  .node (boot_o_0 P)
    (.node (boot_o_1 P) (.node (boot_o_3 P) (.node (boot_o_7 P) .nil .nil) (.node o11 .nil .nil)) (.node (boot_o_5 P) (.node (boot_o_9 P) .nil .nil) (.node o13 .nil .nil)))
    (.node (boot_o_2 P) (.node (boot_o_4 P) (.node (boot_o_8 P) .nil .nil) (.node o12 .nil .nil)) (.node (boot_o_6 P) (.node (boot_o_10 P) .nil .nil) (.node o14 .nil .nil)))
noncomputable def env0 : Env := { scope := pw.main.scope, locals := mainNs, globals := mainNs, cells := [], code := .ref 13, frame := some 14 }
noncomputable def body0 : List Stmt := behindTheImports pw
noncomputable def code0 : Code := .body body0 env0
noncomputable def pos0 : Pos := ⟨0, 0, 0, 0⟩
noncomputable def B0 : List Frame := [topFrame pos0]
noncomputable def ann0 : Option Value := some (.ref 6)
noncomputable def S0 (w : World) (os : OsState) : SharedT := ⟨tree0 w.params, 15, {}, #[], boot_drawn, 187, os⟩
theorem open0 : ∀ w : World, (fencedOpening treeTable pw w 6098).map (fun s => (s.heap, s.gens, s.drawn, s.toks)) = some (boot_heap w.params, Array.mk [], boot_drawn, boot_toks) :=
  boot_open (p := pw) (N := 6098) (by kernel_rfl!) (by decide) (fun s => by kernel_rfl!)
theorem size0 (w : World) : ((boot_heap w.params).isNs mainGlobals && (#[] : Array GenState).size == 0, (boot_heap w.params).objs.size, (boot_heap w.params).nsMap mainGlobals "__annotations__") = (true, 11, ann0) := by kernel_rfl!
theorem pre_q (w : World) (os : OsState) : PySem.W.Fast.tw15667345088766844465 PySem.W.Fast.tw14364793385576792824 pw w 11 ann0 12 ⟨boot_heap w.params, #[], boot_drawn, boot_toks, os⟩ (topStub pw) =
    some ((S0 w os).abs, ⟨PySem.W.Fast.tw11892475500146522536 PySem.W.Fast.tw14364793385576792824 code0, code0, pos0, B0⟩) := by kernel_rfl!
theorem pre0 (w : World) (os : OsState) : topGo treeTable pw w 11 ann0 12 ⟨boot_heap w.params, #[], boot_drawn, boot_toks, os⟩ (topStub pw) = some ((S0 w os).abs, ⟨denote treeTable code0, code0, pos0, B0⟩) := by
  rw [PySem.W.Fast.te15667345088766844465, PySem.W.Fast.te14364793385576792824, PySem.W.Fast.te11892475500146522536]; exact pre_q w os
theorem block0 (w : World) (os : OsState) : segRun treeTable pw w 11 ann0 1 1 (S0 w os).abs (blockOf body0 env0 code0 pos0 B0) = some (.next, (S0 w os).abs, code0, pos0) := by kernel_rfl!
theorem fin0 (w : World) (s : Shared) (p : Pos) : topRun treeTable pw w 11 ann0 2 s ⟨doneF .next, code0, p, B0⟩ = some s := by kernel_rfl!
noncomputable def stAt (i : Nat) : Stmt := (pw.main.body[i]?).getD (.Pass default)
noncomputable def clsBody (st : Stmt) : List Stmt := match st with | .ClassDef _ _ _ b _ _ _ _ _ _ _ => b | _ => []
noncomputable def stIn (i j : Nat) : Stmt := ((clsBody (stAt i))[j]?).getD (.Pass default)
noncomputable def fnD (st : Stmt) (qual : Str) (dV mod : Value) (code : Nat) : FuncData := match st with
  | .FunctionDef name args body _ _ _ scope _ _ _ => { name, qualname := qual, params := args, body := .stmts body, scope, globals := 3, closure := [], defaults := dV, kwdefaults := .none, pyModule := mod, code := .ref code }
  | _ => default
noncomputable def f_check_room : FuncData := fnD (stAt 6) "check_room" (.none) (.str "joinedhand.octets" 254) 69
noncomputable def f_number_at : FuncData := fnD (stAt 7) "number_at" (.none) (.str "joinedhand.octets" 254) 76
noncomputable def f_OctetsIn__init : FuncData := fnD (stIn 8 0) "OctetsIn.__init__" (.ref 85) (.str "joinedhand.octets" 254) 91
noncomputable def f_OctetsIn_need : FuncData := fnD (stIn 8 1) "OctetsIn.need" (.none) (.str "joinedhand.octets" 254) 98
noncomputable def f_OctetsIn_number : FuncData := fnD (stIn 8 2) "OctetsIn.number" (.none) (.str "joinedhand.octets" 254) 105
noncomputable def f_OctetsIn_u16 : FuncData := fnD (stIn 8 4) "OctetsIn.u16" (.none) (.str "joinedhand.octets" 254) 119
noncomputable def f_OctetsIn_rows : FuncData := fnD (stIn 8 9) "OctetsIn.rows" (.none) (.str "joinedhand.octets" 254) 152
noncomputable def f_number_octets : FuncData := fnD (stAt 9) "number_octets" (.none) (.str "joinedhand.octets" 254) 171
noncomputable def f_OctetsOut__init : FuncData := fnD (stIn 10 0) "OctetsOut.__init__" (.none) (.str "joinedhand.octets" 254) 185
noncomputable def f_OctetsOut_u16 : FuncData := fnD (stIn 10 2) "OctetsOut.u16" (.none) (.str "joinedhand.octets" 254) 199
noncomputable def f_OctetsOut_rows : FuncData := fnD (stIn 10 7) "OctetsOut.rows" (.none) (.str "joinedhand.octets" 254) 232
noncomputable def f_OctetsOut_add : FuncData := fnD (stIn 10 8) "OctetsOut.add" (.none) (.str "joinedhand.octets" 254) 239
noncomputable def f_OctetsOut_octets : FuncData := fnD (stIn 10 10) "OctetsOut.octets" (.none) (.str "joinedhand.octets" 254) 253
noncomputable def f_laid : FuncData := fnD (stAt 11) "laid" (.ref 262) (.str "joinedhand.octets" 254) 268
noncomputable def f_Coverage__init : FuncData := fnD (stIn 13 0) "Coverage.__init__" (.none) (.str "joinedhand.coverage" 508) 282
noncomputable def f_Coverage_told : FuncData := fnD (stIn 13 3) "Coverage.told" (.none) (.str "joinedhand.coverage" 508) 303
noncomputable def f_coverage_of : FuncData := fnD (stAt 14) "coverage_of" (.none) (.str "joinedhand.coverage" 508) 317
noncomputable def f_ranges_of : FuncData := fnD (stAt 15) "ranges_of" (.none) (.str "joinedhand.coverage" 508) 324
noncomputable def f_read_ascending : FuncData := fnD (stAt 16) "read_ascending" (.none) (.str "joinedhand.coverage" 508) 331
noncomputable def f_read_span : FuncData := fnD (stAt 17) "read_span" (.none) (.str "joinedhand.coverage" 508) 338
noncomputable def f_read_spans : FuncData := fnD (stAt 18) "read_spans" (.none) (.str "joinedhand.coverage" 508) 345
noncomputable def f_read_coverage : FuncData := fnD (stAt 19) "read_coverage" (.none) (.str "joinedhand.coverage" 508) 352
noncomputable def f_write_coverage : FuncData := fnD (stAt 20) "write_coverage" (.ref 354) (.str "joinedhand.coverage" 508) 360
noncomputable def f_by_glyph : FuncData := fnD (stAt 21) "by_glyph" (.ref 362) (.str "joinedhand.coverage" 508) 368
noncomputable def f_place_of : FuncData := fnD (stAt 23) "place_of" (.none) (.str "joinedhand.contexts" 656) 375
noncomputable def f_read_coverages : FuncData := fnD (stAt 24) "read_coverages" (.none) (.str "joinedhand.contexts" 656) 382
noncomputable def f_put_counted : FuncData := fnD (stAt 25) "put_counted" (.none) (.str "joinedhand.contexts" 656) 389
noncomputable def f_Reverse__init : FuncData := fnD (stIn 27 0) "Reverse.__init__" (.none) (.str "joinedhand.reverse" 690) 403
noncomputable def f_Reverse_told : FuncData := fnD (stIn 27 1) "Reverse.told" (.none) (.str "joinedhand.reverse" 690) 408
noncomputable def f_read_reverse : FuncData := fnD (stAt 28) "read_reverse" (.none) (.str "joinedhand.reverse" 690) 422
noncomputable def f_write_reverse : FuncData := fnD (stAt 29) "write_reverse" (.none) (.str "joinedhand.reverse" 690) 427
noncomputable def f_law_taker : FuncData := fnD (stAt 31) "_law_taker" (.none) (.str "law_pb0195_01" 751) 434
noncomputable def f_law_set : FuncData := fnD (stAt 32) "_law_set" (.none) (.str "law_pb0195_01" 751) 439
noncomputable def f_law_plan : FuncData := fnD (stAt 33) "_law_plan" (.none) (.str "law_pb0195_01" 751) 444
noncomputable def f_law_bent : FuncData := fnD (stAt 34) "_law_bent" (.none) (.str "law_pb0195_01" 751) 449
noncomputable def f_law_made : FuncData := fnD (stAt 35) "_law_made" (.none) (.str "law_pb0195_01" 751) 454
noncomputable def f_law_means : FuncData := fnD (stAt 36) "_law_means" (.none) (.str "law_pb0195_01" 751) 459
noncomputable def f_law : FuncData := fnD (stAt 37) "law" (.none) (.str "law_pb0195_01" 751) 464
noncomputable def K (P : Params) : Frag := [
  (2, { cls := .none, data := .dict #[⟨PyData.keyHash P "type.__subclasses__.Exception.0", .str "type.__subclasses__.Exception.0" 234, .int (48) 0⟩, ⟨PyData.keyHash P "type.__subclasses__.Exception.n", .str "type.__subclasses__.Exception.n" 235, .int (1) 0⟩] 2 }),
  (3, { cls := .type "dict", data := .dict #[⟨PyData.keyHash P "__name__", .str "__name__" 165, .str "law_pb0195_01" 751⟩, ⟨PyData.keyHash P "__doc__", .str "__doc__" 166, .none⟩, ⟨PyData.keyHash P "__package__", .str "__package__" 167, .none⟩, ⟨PyData.keyHash P "__loader__", .str "__loader__" 168, .builtin "__main__.__loader__#opaque"⟩, ⟨PyData.keyHash P "__spec__", .str "__spec__" 169, .none⟩, ⟨PyData.keyHash P "__annotations__", .str "__annotations__" 170, .ref 6⟩, ⟨PyData.keyHash P "__builtins__", .str "__builtins__" 171, .ref 4⟩, ⟨PyData.keyHash P "__file__", .str "__file__" 173, .str "/claim/cut.py" 172⟩, ⟨PyData.keyHash P "__cached__", .str "__cached__" 174, .none⟩, ⟨PyData.keyHash P "_wall", .str "_wall" 193, .ref 21⟩, ⟨PyData.keyHash P "ShapeError", .str "ShapeError" 237, .ref 48⟩, ⟨PyData.keyHash P "TableFault", .str "TableFault" 253, .ref 61⟩, ⟨PyData.keyHash P "MOST_OFFSET", .str "MOST_OFFSET" 257, .int (65535) 256⟩, ⟨PyData.keyHash P "check_room", .str "check_room" 266, .ref 70⟩, ⟨PyData.keyHash P "number_at", .str "number_at" 277, .ref 77⟩, ⟨PyData.keyHash P "OctetsIn", .str "OctetsIn" 382, .ref 163⟩, ⟨PyData.keyHash P "number_octets", .str "number_octets" 388, .ref 172⟩, ⟨PyData.keyHash P "OctetsOut", .str "OctetsOut" 492, .ref 257⟩, ⟨PyData.keyHash P "laid", .str "laid" 507, .ref 269⟩, ⟨PyData.keyHash P "Coverage", .str "Coverage" 564, .ref 307⟩, ⟨PyData.keyHash P "coverage_of", .str "coverage_of" 573, .ref 318⟩, ⟨PyData.keyHash P "ranges_of", .str "ranges_of" 582, .ref 325⟩, ⟨PyData.keyHash P "read_ascending", .str "read_ascending" 593, .ref 332⟩, ⟨PyData.keyHash P "read_span", .str "read_span" 604, .ref 339⟩, ⟨PyData.keyHash P "read_spans", .str "read_spans" 617, .ref 346⟩, ⟨PyData.keyHash P "read_coverage", .str "read_coverage" 627, .ref 353⟩, ⟨PyData.keyHash P "write_coverage", .str "write_coverage" 642, .ref 361⟩, ⟨PyData.keyHash P "by_glyph", .str "by_glyph" 655, .ref 369⟩, ⟨PyData.keyHash P "place_of", .str "place_of" 667, .ref 376⟩, ⟨PyData.keyHash P "read_coverages", .str "read_coverages" 681, .ref 383⟩, ⟨PyData.keyHash P "put_counted", .str "put_counted" 689, .ref 390⟩, ⟨PyData.keyHash P "Reverse", .str "Reverse" 730, .ref 412⟩, ⟨PyData.keyHash P "read_reverse", .str "read_reverse" 744, .ref 423⟩, ⟨PyData.keyHash P "write_reverse", .str "write_reverse" 750, .ref 428⟩, ⟨PyData.keyHash P "_law_taker", .str "_law_taker" 762, .ref 435⟩, ⟨PyData.keyHash P "_law_set", .str "_law_set" 768, .ref 440⟩, ⟨PyData.keyHash P "_law_plan", .str "_law_plan" 774, .ref 445⟩, ⟨PyData.keyHash P "_law_bent", .str "_law_bent" 780, .ref 450⟩, ⟨PyData.keyHash P "_law_made", .str "_law_made" 786, .ref 455⟩, ⟨PyData.keyHash P "_law_means", .str "_law_means" 792, .ref 460⟩, ⟨PyData.keyHash P "law", .str "law" 798, .ref 465⟩] 41 }),
  (69, { cls := .type "code", data := .fields #[.str "check_room" 258, .str "check_room" 259, .str "/claim/cut.py" 260, .int (18) 0, .int (3) 0, .int (0) 0, .int (0) 0, .int (3) 0, .ref 64, .bool true, .int (181) 0, .ref 65, .none, .ref 66, .ref 67, .ref 68, .int (264) 0, .int (18) 0, .str "/claim/cut.py" 265] }),
  (70, ⟨.type "function", none, .func f_check_room, #[]⟩),
  (76, { cls := .type "code", data := .fields #[.str "number_at" 267, .str "number_at" 268, .str "/claim/cut.py" 269, .int (21) 0, .int (3) 0, .int (0) 0, .int (0) 0, .int (3) 0, .ref 71, .bool true, .int (181) 0, .ref 72, .none, .ref 73, .ref 74, .ref 75, .int (275) 0, .int (21) 0, .str "/claim/cut.py" 276] }),
  (77, ⟨.type "function", none, .func f_number_at, #[]⟩),
  (85, { cls := .type "tuple", data := .seq #[.int (0) 290] 0 }),
  (91, { cls := .type "code", data := .fields #[.str "__init__" 291, .str "OctetsIn.__init__" 292, .str "/claim/cut.py" 293, .int (29) 0, .int (3) 0, .int (0) 0, .int (0) 0, .int (3) 0, .ref 86, .bool true, .int (181) 0, .ref 87, .none, .ref 88, .ref 89, .ref 90, .int (297) 0, .int (29) 0, .str "/claim/cut.py" 298] }),
  (92, ⟨.type "function", none, .func f_OctetsIn__init, #[]⟩),
  (98, { cls := .type "code", data := .fields #[.str "need" 300, .str "OctetsIn.need" 301, .str "/claim/cut.py" 302, .int (33) 0, .int (2) 0, .int (0) 0, .int (0) 0, .int (3) 0, .ref 93, .bool true, .int (181) 0, .ref 94, .none, .ref 95, .ref 96, .ref 97, .int (305) 0, .int (33) 0, .str "/claim/cut.py" 306] }),
  (99, ⟨.type "function", none, .func f_OctetsIn_need, #[]⟩),
  (105, { cls := .type "code", data := .fields #[.str "number" 308, .str "OctetsIn.number" 309, .str "/claim/cut.py" 310, .int (36) 0, .int (2) 0, .int (0) 0, .int (0) 0, .int (3) 0, .ref 100, .bool true, .int (181) 0, .ref 101, .none, .ref 102, .ref 103, .ref 104, .int (314) 0, .int (36) 0, .str "/claim/cut.py" 315] }),
  (106, ⟨.type "function", none, .func f_OctetsIn_number, #[]⟩),
  (119, { cls := .type "code", data := .fields #[.str "u16" 324, .str "OctetsIn.u16" 325, .str "/claim/cut.py" 326, .int (44) 0, .int (1) 0, .int (0) 0, .int (0) 0, .int (3) 0, .ref 114, .bool true, .int (181) 0, .ref 115, .none, .ref 116, .ref 117, .ref 118, .int (328) 0, .int (44) 0, .str "/claim/cut.py" 329] }),
  (120, ⟨.type "function", none, .func f_OctetsIn_u16, #[]⟩),
  (152, { cls := .type "code", data := .fields #[.str "rows" 359, .str "OctetsIn.rows" 360, .str "/claim/cut.py" 361, .int (59) 0, .int (2) 0, .int (0) 0, .int (0) 0, .int (3) 0, .ref 149, .bool true, .int (181) 0, .ref 150, .none, .none, .none, .ref 151, .int (362) 0, .int (59) 0, .str "/claim/cut.py" 363] }),
  (153, ⟨.type "function", none, .func f_OctetsIn_rows, #[]⟩),
  (162, { cls := .type "dict", data := .dict #[⟨PyData.keyHash P "__module__", .str "__module__" 285, .str "joinedhand.octets" 254⟩, ⟨PyData.keyHash P "__firstlineno__", .str "__firstlineno__" 289, .int (27) 288⟩, ⟨PyData.keyHash P "__init__", .str "__init__" 299, .ref 92⟩, ⟨PyData.keyHash P "need", .str "need" 307, .ref 99⟩, ⟨PyData.keyHash P "number", .str "number" 316, .ref 106⟩, ⟨PyData.keyHash P "u8", .str "u8" 323, .ref 113⟩, ⟨PyData.keyHash P "u16", .str "u16" 330, .ref 120⟩, ⟨PyData.keyHash P "i16", .str "i16" 337, .ref 127⟩, ⟨PyData.keyHash P "u24", .str "u24" 344, .ref 134⟩, ⟨PyData.keyHash P "u32", .str "u32" 351, .ref 141⟩, ⟨PyData.keyHash P "tag", .str "tag" 358, .ref 148⟩, ⟨PyData.keyHash P "rows", .str "rows" 364, .ref 153⟩, ⟨PyData.keyHash P "here", .str "here" 372, .ref 160⟩, ⟨PyData.keyHash P "__static_attributes__", .str "__static_attributes__" 375, .ref 161⟩, ⟨PyData.keyHash P "__dict__", .str "__dict__" 377, .ref 164⟩, ⟨PyData.keyHash P "__weakref__", .str "__weakref__" 379, .ref 165⟩, ⟨PyData.keyHash P "__doc__", .str "__doc__" 380, .none⟩] 4 }),
  (163, { cls := .type "type", data := .cls { name := "OctetsIn", bases := [.type "object"], mro := [.ref 163, .type "object"], ns := 162, qualname := "OctetsIn", hasDict := true, subclasses := [], abstract := false, hasDel := false }, slots := #[none, none, (some (.str "OctetsIn" 278)), (some (.str "OctetsIn" 286)), (some (.builtin "object.__new__")), (some (.bool true))] }),
  (171, { cls := .type "code", data := .fields #[.str "number_octets" 383, .str "number_octets" 384, .str "/claim/cut.py" 385, .int (65) 0, .int (2) 0, .int (0) 0, .int (0) 0, .int (3) 0, .ref 168, .bool true, .int (181) 0, .ref 169, .none, .none, .none, .ref 170, .int (386) 0, .int (65) 0, .str "/claim/cut.py" 387] }),
  (172, ⟨.type "function", none, .func f_number_octets, #[]⟩),
  (185, { cls := .type "code", data := .fields #[.str "__init__" 401, .str "OctetsOut.__init__" 402, .str "/claim/cut.py" 403, .int (71) 0, .int (1) 0, .int (0) 0, .int (0) 0, .int (3) 0, .ref 180, .bool true, .int (181) 0, .ref 181, .none, .ref 182, .ref 183, .ref 184, .int (405) 0, .int (71) 0, .str "/claim/cut.py" 406] }),
  (186, ⟨.type "function", none, .func f_OctetsOut__init, #[]⟩),
  (199, { cls := .type "code", data := .fields #[.str "u16" 416, .str "OctetsOut.u16" 417, .str "/claim/cut.py" 418, .int (77) 0, .int (2) 0, .int (0) 0, .int (0) 0, .int (3) 0, .ref 194, .bool true, .int (181) 0, .ref 195, .none, .ref 196, .ref 197, .ref 198, .int (421) 0, .int (77) 0, .str "/claim/cut.py" 422] }),
  (200, ⟨.type "function", none, .func f_OctetsOut_u16, #[]⟩),
  (232, { cls := .type "code", data := .fields #[.str "rows" 456, .str "OctetsOut.rows" 457, .str "/claim/cut.py" 458, .int (92) 0, .int (2) 0, .int (0) 0, .int (0) 0, .int (3) 0, .ref 229, .bool true, .int (181) 0, .ref 230, .none, .none, .none, .ref 231, .int (459) 0, .int (92) 0, .str "/claim/cut.py" 460] }),
  (233, ⟨.type "function", none, .func f_OctetsOut_rows, #[]⟩),
  (239, { cls := .type "code", data := .fields #[.str "add" 462, .str "OctetsOut.add" 463, .str "/claim/cut.py" 464, .int (95) 0, .int (2) 0, .int (0) 0, .int (0) 0, .int (3) 0, .ref 234, .bool true, .int (181) 0, .ref 235, .none, .ref 236, .ref 237, .ref 238, .int (467) 0, .int (95) 0, .str "/claim/cut.py" 468] }),
  (240, ⟨.type "function", none, .func f_OctetsOut_add, #[]⟩),
  (253, { cls := .type "code", data := .fields #[.str "octets" 477, .str "OctetsOut.octets" 478, .str "/claim/cut.py" 479, .int (101) 0, .int (1) 0, .int (0) 0, .int (0) 0, .int (3) 0, .ref 248, .bool true, .int (181) 0, .ref 249, .none, .ref 250, .ref 251, .ref 252, .int (481) 0, .int (101) 0, .str "/claim/cut.py" 482] }),
  (254, ⟨.type "function", none, .func f_OctetsOut_octets, #[]⟩),
  (256, { cls := .type "dict", data := .dict #[⟨PyData.keyHash P "__module__", .str "__module__" 396, .str "joinedhand.octets" 254⟩, ⟨PyData.keyHash P "__firstlineno__", .str "__firstlineno__" 400, .int (69) 399⟩, ⟨PyData.keyHash P "__init__", .str "__init__" 407, .ref 186⟩, ⟨PyData.keyHash P "u8", .str "u8" 415, .ref 193⟩, ⟨PyData.keyHash P "u16", .str "u16" 423, .ref 200⟩, ⟨PyData.keyHash P "i16", .str "i16" 431, .ref 207⟩, ⟨PyData.keyHash P "u24", .str "u24" 439, .ref 214⟩, ⟨PyData.keyHash P "u32", .str "u32" 447, .ref 221⟩, ⟨PyData.keyHash P "tag", .str "tag" 455, .ref 228⟩, ⟨PyData.keyHash P "rows", .str "rows" 461, .ref 233⟩, ⟨PyData.keyHash P "add", .str "add" 469, .ref 240⟩, ⟨PyData.keyHash P "size", .str "size" 476, .ref 247⟩, ⟨PyData.keyHash P "octets", .str "octets" 483, .ref 254⟩, ⟨PyData.keyHash P "__static_attributes__", .str "__static_attributes__" 485, .ref 255⟩, ⟨PyData.keyHash P "__dict__", .str "__dict__" 487, .ref 258⟩, ⟨PyData.keyHash P "__weakref__", .str "__weakref__" 489, .ref 259⟩, ⟨PyData.keyHash P "__doc__", .str "__doc__" 490, .none⟩] 4 }),
  (257, { cls := .type "type", data := .cls { name := "OctetsOut", bases := [.type "object"], mro := [.ref 257, .type "object"], ns := 256, qualname := "OctetsOut", hasDict := true, subclasses := [], abstract := false, hasDel := false }, slots := #[none, none, (some (.str "OctetsOut" 389)), (some (.str "OctetsOut" 397)), (some (.builtin "object.__new__")), (some (.bool true))] }),
  (262, { cls := .type "tuple", data := .seq #[.bool true, .int (65535) 256] 0 }),
  (268, { cls := .type "code", data := .fields #[.str "laid" 493, .str "laid" 494, .str "/claim/cut.py" 495, .int (103) 0, .int (4) 0, .int (0) 0, .int (0) 0, .int (3) 0, .ref 263, .bool true, .int (181) 0, .ref 264, .none, .ref 265, .ref 266, .ref 267, .int (505) 0, .int (103) 0, .str "/claim/cut.py" 506] }),
  (269, ⟨.type "function", none, .func f_laid, #[]⟩),
  (282, { cls := .type "code", data := .fields #[.str "__init__" 522, .str "Coverage.__init__" 523, .str "/claim/cut.py" 524, .int (123) 0, .int (2) 0, .int (0) 0, .int (0) 0, .int (3) 0, .ref 277, .bool true, .int (181) 0, .ref 278, .none, .ref 279, .ref 280, .ref 281, .int (527) 0, .int (123) 0, .str "/claim/cut.py" 528] }),
  (283, ⟨.type "function", none, .func f_Coverage__init, #[]⟩),
  (303, { cls := .type "code", data := .fields #[.str "told" 549, .str "Coverage.told" 550, .str "/claim/cut.py" 551, .int (142) 0, .int (1) 0, .int (0) 0, .int (0) 0, .int (3) 0, .ref 298, .bool true, .int (181) 0, .ref 299, .none, .ref 300, .ref 301, .ref 302, .int (553) 0, .int (142) 0, .str "/claim/cut.py" 554] }),
  (304, ⟨.type "function", none, .func f_Coverage_told, #[]⟩),
  (306, { cls := .type "dict", data := .dict #[⟨PyData.keyHash P "__module__", .str "__module__" 517, .str "joinedhand.coverage" 508⟩, ⟨PyData.keyHash P "__firstlineno__", .str "__firstlineno__" 521, .int (121) 520⟩, ⟨PyData.keyHash P "__init__", .str "__init__" 529, .ref 283⟩, ⟨PyData.keyHash P "index", .str "index" 540, .ref 290⟩, ⟨PyData.keyHash P "has", .str "has" 548, .ref 297⟩, ⟨PyData.keyHash P "told", .str "told" 555, .ref 304⟩, ⟨PyData.keyHash P "__static_attributes__", .str "__static_attributes__" 557, .ref 305⟩, ⟨PyData.keyHash P "__dict__", .str "__dict__" 559, .ref 308⟩, ⟨PyData.keyHash P "__weakref__", .str "__weakref__" 561, .ref 309⟩, ⟨PyData.keyHash P "__doc__", .str "__doc__" 562, .none⟩] 4 }),
  (307, { cls := .type "type", data := .cls { name := "Coverage", bases := [.type "object"], mro := [.ref 307, .type "object"], ns := 306, qualname := "Coverage", hasDict := true, subclasses := [], abstract := false, hasDel := false }, slots := #[none, none, (some (.str "Coverage" 510)), (some (.str "Coverage" 518)), (some (.builtin "object.__new__")), (some (.bool true))] }),
  (317, { cls := .type "code", data := .fields #[.str "coverage_of" 565, .str "coverage_of" 566, .str "/claim/cut.py" 567, .int (144) 0, .int (1) 0, .int (0) 0, .int (0) 0, .int (3) 0, .ref 312, .bool true, .int (181) 0, .ref 313, .none, .ref 314, .ref 315, .ref 316, .int (571) 0, .int (144) 0, .str "/claim/cut.py" 572] }),
  (318, ⟨.type "function", none, .func f_coverage_of, #[]⟩),
  (324, { cls := .type "code", data := .fields #[.str "ranges_of" 574, .str "ranges_of" 575, .str "/claim/cut.py" 576, .int (149) 0, .int (1) 0, .int (0) 0, .int (0) 0, .int (3) 0, .ref 319, .bool true, .int (181) 0, .ref 320, .none, .ref 321, .ref 322, .ref 323, .int (580) 0, .int (149) 0, .str "/claim/cut.py" 581] }),
  (325, ⟨.type "function", none, .func f_ranges_of, #[]⟩),
  (331, { cls := .type "code", data := .fields #[.str "read_ascending" 583, .str "read_ascending" 584, .str "/claim/cut.py" 585, .int (157) 0, .int (1) 0, .int (0) 0, .int (0) 0, .int (3) 0, .ref 326, .bool true, .int (181) 0, .ref 327, .none, .ref 328, .ref 329, .ref 330, .int (591) 0, .int (157) 0, .str "/claim/cut.py" 592] }),
  (332, ⟨.type "function", none, .func f_read_ascending, #[]⟩),
  (338, { cls := .type "code", data := .fields #[.str "read_span" 594, .str "read_span" 595, .str "/claim/cut.py" 596, .int (166) 0, .int (2) 0, .int (0) 0, .int (0) 0, .int (3) 0, .ref 333, .bool true, .int (181) 0, .ref 334, .none, .ref 335, .ref 336, .ref 337, .int (602) 0, .int (166) 0, .str "/claim/cut.py" 603] }),
  (339, ⟨.type "function", none, .func f_read_span, #[]⟩),
  (345, { cls := .type "code", data := .fields #[.str "read_spans" 605, .str "read_spans" 606, .str "/claim/cut.py" 607, .int (176) 0, .int (1) 0, .int (0) 0, .int (0) 0, .int (3) 0, .ref 340, .bool true, .int (181) 0, .ref 341, .none, .ref 342, .ref 343, .ref 344, .int (615) 0, .int (176) 0, .str "/claim/cut.py" 616] }),
  (346, ⟨.type "function", none, .func f_read_spans, #[]⟩),
  (352, { cls := .type "code", data := .fields #[.str "read_coverage" 618, .str "read_coverage" 619, .str "/claim/cut.py" 620, .int (187) 0, .int (2) 0, .int (0) 0, .int (0) 0, .int (3) 0, .ref 347, .bool true, .int (181) 0, .ref 348, .none, .ref 349, .ref 350, .ref 351, .int (625) 0, .int (187) 0, .str "/claim/cut.py" 626] }),
  (353, ⟨.type "function", none, .func f_read_coverage, #[]⟩),
  (354, { cls := .type "tuple", data := .seq #[.int (0) 628] 0 }),
  (360, { cls := .type "code", data := .fields #[.str "write_coverage" 629, .str "write_coverage" 630, .str "/claim/cut.py" 631, .int (195) 0, .int (2) 0, .int (0) 0, .int (0) 0, .int (3) 0, .ref 355, .bool true, .int (181) 0, .ref 356, .none, .ref 357, .ref 358, .ref 359, .int (640) 0, .int (195) 0, .str "/claim/cut.py" 641] }),
  (361, ⟨.type "function", none, .func f_write_coverage, #[]⟩),
  (362, { cls := .type "tuple", data := .seq #[.int (-1) 644] 0 }),
  (368, { cls := .type "code", data := .fields #[.str "by_glyph" 645, .str "by_glyph" 646, .str "/claim/cut.py" 647, .int (216) 0, .int (3) 0, .int (0) 0, .int (0) 0, .int (3) 0, .ref 363, .bool true, .int (181) 0, .ref 364, .none, .ref 365, .ref 366, .ref 367, .int (653) 0, .int (216) 0, .str "/claim/cut.py" 654] }),
  (369, ⟨.type "function", none, .func f_by_glyph, #[]⟩),
  (375, { cls := .type "code", data := .fields #[.str "place_of" 658, .str "place_of" 659, .str "/claim/cut.py" 660, .int (224) 0, .int (2) 0, .int (0) 0, .int (0) 0, .int (3) 0, .ref 370, .bool true, .int (181) 0, .ref 371, .none, .ref 372, .ref 373, .ref 374, .int (665) 0, .int (224) 0, .str "/claim/cut.py" 666] }),
  (376, ⟨.type "function", none, .func f_place_of, #[]⟩),
  (382, { cls := .type "code", data := .fields #[.str "read_coverages" 668, .str "read_coverages" 669, .str "/claim/cut.py" 670, .int (230) 0, .int (4) 0, .int (0) 0, .int (0) 0, .int (3) 0, .ref 377, .bool true, .int (181) 0, .ref 378, .none, .ref 379, .ref 380, .ref 381, .int (679) 0, .int (230) 0, .str "/claim/cut.py" 680] }),
  (383, ⟨.type "function", none, .func f_read_coverages, #[]⟩),
  (389, { cls := .type "code", data := .fields #[.str "put_counted" 682, .str "put_counted" 683, .str "/claim/cut.py" 684, .int (239) 0, .int (2) 0, .int (0) 0, .int (0) 0, .int (3) 0, .ref 384, .bool true, .int (181) 0, .ref 385, .none, .ref 386, .ref 387, .ref 388, .int (687) 0, .int (239) 0, .str "/claim/cut.py" 688] }),
  (390, ⟨.type "function", none, .func f_put_counted, #[]⟩),
  (403, { cls := .type "code", data := .fields #[.str "__init__" 704, .str "Reverse.__init__" 705, .str "/claim/cut.py" 706, .int (245) 0, .int (4) 0, .int (0) 0, .int (0) 0, .int (3) 0, .ref 398, .bool true, .int (181) 0, .ref 399, .none, .ref 400, .ref 401, .ref 402, .int (711) 0, .int (245) 0, .str "/claim/cut.py" 712] }),
  (404, ⟨.type "function", none, .func f_Reverse__init, #[]⟩),
  (408, { cls := .type "code", data := .fields #[.str "told" 714, .str "Reverse.told" 715, .str "/claim/cut.py" 716, .int (250) 0, .int (1) 0, .int (0) 0, .int (0) 0, .int (3) 0, .ref 405, .bool true, .int (181) 0, .ref 406, .none, .none, .none, .ref 407, .int (717) 0, .int (250) 0, .str "/claim/cut.py" 718] }),
  (409, ⟨.type "function", none, .func f_Reverse_told, #[]⟩),
  (411, { cls := .type "dict", data := .dict #[⟨PyData.keyHash P "__module__", .str "__module__" 699, .str "joinedhand.reverse" 690⟩, ⟨PyData.keyHash P "__firstlineno__", .str "__firstlineno__" 703, .int (243) 702⟩, ⟨PyData.keyHash P "__init__", .str "__init__" 713, .ref 404⟩, ⟨PyData.keyHash P "told", .str "told" 719, .ref 409⟩, ⟨PyData.keyHash P "__static_attributes__", .str "__static_attributes__" 723, .ref 410⟩, ⟨PyData.keyHash P "__dict__", .str "__dict__" 725, .ref 413⟩, ⟨PyData.keyHash P "__weakref__", .str "__weakref__" 727, .ref 414⟩, ⟨PyData.keyHash P "__doc__", .str "__doc__" 728, .none⟩] 4 }),
  (412, { cls := .type "type", data := .cls { name := "Reverse", bases := [.type "object"], mro := [.ref 412, .type "object"], ns := 411, qualname := "Reverse", hasDict := true, subclasses := [], abstract := false, hasDel := false }, slots := #[none, none, (some (.str "Reverse" 692)), (some (.str "Reverse" 700)), (some (.builtin "object.__new__")), (some (.bool true))] }),
  (422, { cls := .type "code", data := .fields #[.str "read_reverse" 731, .str "read_reverse" 732, .str "/claim/cut.py" 733, .int (254) 0, .int (2) 0, .int (0) 0, .int (0) 0, .int (3) 0, .ref 417, .bool true, .int (181) 0, .ref 418, .none, .ref 419, .ref 420, .ref 421, .int (742) 0, .int (254) 0, .str "/claim/cut.py" 743] }),
  (423, ⟨.type "function", none, .func f_read_reverse, #[]⟩),
  (427, { cls := .type "code", data := .fields #[.str "write_reverse" 745, .str "write_reverse" 746, .str "/claim/cut.py" 747, .int (266) 0, .int (1) 0, .int (0) 0, .int (0) 0, .int (3) 0, .ref 424, .bool true, .int (181) 0, .ref 425, .none, .none, .none, .ref 426, .int (748) 0, .int (266) 0, .str "/claim/cut.py" 749] }),
  (428, ⟨.type "function", none, .func f_write_reverse, #[]⟩),
  (434, { cls := .type "code", data := .fields #[.str "_law_taker" 753, .str "_law_taker" 754, .str "/claim/cut.py" 755, .int (280) 0, .int (1) 0, .int (0) 0, .int (0) 0, .int (3) 0, .ref 429, .bool true, .int (181) 0, .ref 430, .none, .ref 431, .ref 432, .ref 433, .int (760) 0, .int (280) 0, .str "/claim/cut.py" 761] }),
  (435, ⟨.type "function", none, .func f_law_taker, #[]⟩),
  (439, { cls := .type "code", data := .fields #[.str "_law_set" 763, .str "_law_set" 764, .str "/claim/cut.py" 765, .int (292) 0, .int (1) 0, .int (0) 0, .int (0) 0, .int (3) 0, .ref 436, .bool true, .int (181) 0, .ref 437, .none, .none, .none, .ref 438, .int (766) 0, .int (292) 0, .str "/claim/cut.py" 767] }),
  (440, ⟨.type "function", none, .func f_law_set, #[]⟩),
  (444, { cls := .type "code", data := .fields #[.str "_law_plan" 769, .str "_law_plan" 770, .str "/claim/cut.py" 771, .int (294) 0, .int (1) 0, .int (0) 0, .int (0) 0, .int (3) 0, .ref 441, .bool true, .int (181) 0, .ref 442, .none, .none, .none, .ref 443, .int (772) 0, .int (294) 0, .str "/claim/cut.py" 773] }),
  (445, ⟨.type "function", none, .func f_law_plan, #[]⟩),
  (449, { cls := .type "code", data := .fields #[.str "_law_bent" 775, .str "_law_bent" 776, .str "/claim/cut.py" 777, .int (298) 0, .int (2) 0, .int (0) 0, .int (0) 0, .int (3) 0, .ref 446, .bool true, .int (181) 0, .ref 447, .none, .none, .none, .ref 448, .int (778) 0, .int (298) 0, .str "/claim/cut.py" 779] }),
  (450, ⟨.type "function", none, .func f_law_bent, #[]⟩),
  (454, { cls := .type "code", data := .fields #[.str "_law_made" 781, .str "_law_made" 782, .str "/claim/cut.py" 783, .int (320) 0, .int (2) 0, .int (0) 0, .int (0) 0, .int (3) 0, .ref 451, .bool true, .int (181) 0, .ref 452, .none, .none, .none, .ref 453, .int (784) 0, .int (320) 0, .str "/claim/cut.py" 785] }),
  (455, ⟨.type "function", none, .func f_law_made, #[]⟩),
  (459, { cls := .type "code", data := .fields #[.str "_law_means" 787, .str "_law_means" 788, .str "/claim/cut.py" 789, .int (325) 0, .int (1) 0, .int (0) 0, .int (0) 0, .int (3) 0, .ref 456, .bool true, .int (181) 0, .ref 457, .none, .none, .none, .ref 458, .int (790) 0, .int (325) 0, .str "/claim/cut.py" 791] }),
  (460, ⟨.type "function", none, .func f_law_means, #[]⟩),
  (464, { cls := .type "code", data := .fields #[.str "law" 793, .str "law" 794, .str "/claim/cut.py" 795, .int (327) 0, .int (1) 0, .int (0) 0, .int (0) 0, .int (3) 0, .ref 461, .bool true, .int (181) 0, .ref 462, .none, .none, .none, .ref 463, .int (796) 0, .int (327) 0, .str "/claim/cut.py" 797] }),
  (465, ⟨.type "function", none, .func f_law, #[]⟩)]
noncomputable def kAs : List Addr := [2, 3, 69, 70, 76, 77, 85, 91, 92, 98, 99, 105, 106, 119, 120, 152, 153, 162, 163, 171, 172, 185, 186, 199, 200, 232, 233, 239, 240, 253, 254, 256, 257, 262, 268, 269, 282, 283, 303, 304, 306, 307, 317, 318, 324, 325, 331, 332, 338, 339, 345, 346, 352, 353, 354, 360, 361, 362, 368, 369, 375, 376, 382, 383, 389, 390, 403, 404, 408, 409, 411, 412, 422, 423, 427, 428, 434, 435, 439, 440, 444, 445, 449, 450, 454, 455, 459, 460, 464, 465]
theorem kAs_ok (P : Params) : kAs = (K P).map (·.1) := by kernel_rfl!
noncomputable def posL : Pos := ⟨327, 0, 341, 119⟩
-- H3
theorem imp0 : importedModules pw.main.body = [] := by kernel_rfl!
-- W1
noncomputable abbrev PM := Addr → Option Obj
noncomputable def PM.put (b : PM) (a : Addr) (o : Obj) : PM := fun x => if x = a then some o else b x
theorem PM.put_self (b : PM) (a : Addr) (o : Obj) : b.put a o a = some o := by simp [PM.put]
theorem PM.put_le {b : PM} {a : Addr} (h : b a = none) (o : Obj) {x : Addr} {ox : Obj} (e : b x = some ox) : b.put a o x = some ox := by
  unfold PM.put; split
  · rename_i q; subst q; rw [h] at e; cases e
  · exact e
structure Base (w : World) (b : PM) : Prop where
  k : ∀ a o, (K w.params).lookup a = some o → b a = some o
  blt : ∃ o mb, b 0 = some o ∧ (∀ h : Heap, h.get? 0 = some o → h.Ns builtinsNs mb) ∧ ∀ x : Str, x ≠ "__name__" → mb x = bootBuiltins x
theorem Base.mono {w : World} {b b' : PM} (B : Base w b) (h : ∀ a o, b a = some o → b' a = some o) : Base w b' :=
  ⟨fun a o e => h a o (B.k a o e), let ⟨o, mb, e, r⟩ := B.blt; ⟨o, mb, h _ _ e, r⟩⟩
theorem Base.kin {w : World} {b : PM} (B : Base w b) {h : Heap} (hs : ∀ a o, b a = some o → h.get? a = some o) : (K w.params).In h := fun a o e => hs a o (B.k a o e)
structure En where
  h : Heap
  b : PM
  X : List Addr
structure St (w : World) (e : En) (b : PM) (L : Addr) (m : Str → Option Value) (mu : List (Addr × Obj)) (s : Shared) : Prop where
  base : Base w b
  sub : ∀ a o, b a = some o → s.heap.get? a = some o
  up : ∀ a o, e.b a = some o → b a = some o
  new : ∀ a o, b a = some o → e.b a = some o ∨ e.h.objs.size ≤ a
  keep : ∀ a o, e.h.get? a = some o → a ∉ e.X → s.heap.get? a = some o
  ns : s.heap.Ns L m
  Lnew : e.h.objs.size ≤ L
  Lb : b L = none
  tu : ∀ p ∈ mu, s.heap.get? p.1 = some p.2 ∧ p.1 ≠ L ∧ b p.1 = none ∧ (p.1 ∈ e.X ∨ e.h.objs.size ≤ p.1)
  nd : (mu.map (·.1)).Nodup
structure Grow (b b' : PM) (h h' : Heap) (X : List Addr) : Prop where
  up : ∀ a o, b a = some o → b' a = some o
  sub : ∀ a o, b' a = some o → h'.get? a = some o
  new : ∀ a o, b' a = some o → b a = some o ∨ h.objs.size ≤ a
  keep : ∀ a o, h.get? a = some o → a ∉ X → h'.get? a = some o
  size : h.objs.size ≤ h'.objs.size
section
variable {w : World} {e : En} {b : PM} {L : Addr} {m : Str → Option Value} {mu : List (Addr × Obj)} {s : Shared}
theorem St.lt (S : St w e b L m mu s) : L < s.heap.objs.size := S.ns.lt
theorem St.kin (S : St w e b L m mu s) : (K w.params).In s.heap := S.base.kin S.sub
theorem St.get (S : St w e b L m mu s) {a : Addr} {o : Obj} (h : b a = some o) : s.heap.get? a = some o := S.sub a o h
theorem St.muGet (S : St w e b L m mu s) {a : Addr} {o : Obj} (h : (a, o) ∈ mu) : s.heap.get? a = some o := (S.tu _ h).1
theorem St.size (S : St w e b L m mu s) : e.h.objs.size ≤ s.heap.objs.size := Nat.le_trans S.Lnew (Nat.le_of_lt S.lt)
theorem St.b_new (S : St w e b L m mu s) : b s.heap.objs.size = none := by
  cases q : b s.heap.objs.size with
  | none => rfl
  | some o => exact absurd (Heap.lt_size (S.sub _ _ q)) (Nat.lt_irrefl _)
theorem St.toks (S : St w e b L m mu s) (t : Nat) : St w e b L m mu { s with toks := t } := ⟨S.base, S.sub, S.up, S.new, S.keep, S.ns, S.Lnew, S.Lb, S.tu, S.nd⟩
theorem St.ext (S : St w e b L m mu s) {h' : Heap} {t : Nat} (k : ∀ a o, s.heap.get? a = some o → h'.get? a = some o) : St w e b L m mu { s with heap := h', toks := t } :=
  ⟨S.base, fun a o h => k a o (S.sub a o h), S.up, S.new, fun a o h h' => k a o (S.keep a o h h'), S.ns.keeps k, S.Lnew, S.Lb, fun p hp => ⟨k _ _ (S.tu p hp).1, (S.tu p hp).2⟩, S.nd⟩
theorem St.put (S : St w e b L m mu s) {a : Addr} {o : Obj} (g : s.heap.get? a = some o) (hL : a ≠ L) (hm : ∀ p ∈ mu, p.1 ≠ a) (hb : b a = none) (hn : e.h.objs.size ≤ a) : St w e (b.put a o) L m mu s := by
  refine ⟨S.base.mono fun x ox h => PM.put_le hb o h, fun x ox h => ?_, fun x ox h => PM.put_le hb o (S.up x ox h), fun x ox h => ?_, S.keep, S.ns, S.Lnew, ?_, fun p hp => ?_, S.nd⟩
  · unfold PM.put at h; split at h
    · rename_i q; subst q; cases h; exact g
    · exact S.sub x ox h
  · unfold PM.put at h; split at h
    · rename_i q; subst q; exact .inr hn
    · exact S.new x ox h
  · unfold PM.put; rw [if_neg (Ne.symm hL)]; exact S.Lb
  · have := S.tu p hp
    refine ⟨this.1, this.2.1, ?_, this.2.2.2⟩
    unfold PM.put; rw [if_neg (hm p hp)]; exact this.2.2.1
theorem St.mu_lt (S : St w e b L m mu s) {p : Addr × Obj} (hp : p ∈ mu) : p.1 < s.heap.objs.size := Heap.lt_size (S.tu p hp).1
theorem St.push (S : St w e b L m mu s) (o : Obj) {t : Nat} (hf : o.isFreed = false := by rfl) : St w e (b.put s.heap.objs.size o) L m mu { s with heap := s.heap.push o, toks := t } := by
  have S' : St w e b L m mu { s with heap := s.heap.push o, toks := t } := S.ext fun a ox h => Heap.get?_push_of_some _ h
  exact S'.put (Heap.get?_push_size _ hf) (Nat.ne_of_gt S.lt) (fun p hp => Nat.ne_of_lt (S.mu_lt hp)) S.b_new S.size
theorem St.pushM (S : St w e b L m mu s) (o : Obj) {t : Nat} (hf : o.isFreed = false := by rfl) : St w e b L m ((s.heap.objs.size, o) :: mu) { s with heap := s.heap.push o, toks := t } := by
  have S' : St w e b L m mu { s with heap := s.heap.push o, toks := t } := S.ext fun a ox h => Heap.get?_push_of_some _ h
  refine ⟨S'.base, S'.sub, S'.up, S'.new, S'.keep, S'.ns, S'.Lnew, S'.Lb, fun p hp => ?_, ?_⟩
  · rcases List.mem_cons.mp hp with rfl | hp
    · exact ⟨Heap.get?_push_size _ hf, Nat.ne_of_gt S.lt, S.b_new, .inr S.size⟩
    · exact S'.tu p hp
  · rw [List.map_cons]
    refine List.nodup_cons.mpr ⟨fun hm => ?_, S.nd⟩
    refine nay fun hG => ?_
    obtain ⟨p, hp, hp1⟩ := List.mem_map.mp hm
    refine hG ?_; clear hG
    exact Nat.ne_of_lt (S.mu_lt hp) hp1
theorem St.freeze {a : Addr} {o : Obj} (S : St w e b L m ((a, o) :: mu) s) (hn : e.h.objs.size ≤ a) : St w e (b.put a o) L m mu s := by
  have h := S.tu _ (.head _)
  have nd := List.nodup_cons.mp (by simpa only [List.map_cons] using S.nd)
  have S' : St w e b L m mu s := ⟨S.base, S.sub, S.up, S.new, S.keep, S.ns, S.Lnew, S.Lb, fun p hp => S.tu p (.tail _ hp), nd.2⟩
  exact S'.put h.1 h.2.1 (fun p hp q => nd.1 (List.mem_map.mpr ⟨p, hp, q⟩)) h.2.2.1 hn
theorem St.drop {p : Addr × Obj} (S : St w e b L m (p :: mu) s) : St w e b L m mu s :=
  ⟨S.base, S.sub, S.up, S.new, S.keep, S.ns, S.Lnew, S.Lb, fun p hp => S.tu p (.tail _ hp), (List.nodup_cons.mp (by simpa only [List.map_cons] using S.nd)).2⟩
noncomputable def ext (m : Str → Option Value) (x : Str) (v : Value) : Str → Option Value := fun y => if y = x then some v else m y
theorem St.set (S : St w e b L m mu s) {m' : Str → Option Value} {h' : Heap} {t : Nat} (hn : h'.Ns L m') (hs : Heap.SameBut L s.heap h') : St w e b L m' mu { s with heap := h', toks := t } := by
  have ne : ∀ a o, b a = some o → a ≠ L := fun a o h q => by subst q; rw [S.Lb] at h; cases h
  refine ⟨S.base, fun a o h => (hs.2 a (ne a o h)).trans (S.sub a o h), S.up, S.new, fun a o h h' => ?_, hn, S.Lnew, S.Lb, fun p hp => ?_, S.nd⟩
  · refine (hs.2 a ?_).trans (S.keep a o h h')
    exact Nat.ne_of_lt (Nat.lt_of_lt_of_le (Heap.lt_size h) S.Lnew)
  · have := S.tu p hp
    exact ⟨(hs.2 _ this.2.1).trans this.1, this.2⟩
theorem St.upd {a : Addr} {o o' : Obj} {f : Obj → Obj} {t : Nat} (S : St w e b L m ((a, o) :: mu) s) (ho : f o = o') (hf : o'.isFreed = false) : St w e b L m ((a, o') :: mu) { s with heap := s.heap.update a f, toks := t } := by
  have h := S.tu _ (.head _)
  have nd := List.nodup_cons.mp (by simpa only [List.map_cons] using S.nd)
  have g : (s.heap.update a f).get? a = some o' := ho ▸ Heap.get?_update_self f h.1 (ho ▸ hf)
  have ne : ∀ c, c ≠ a → (s.heap.update a f).get? c = s.heap.get? c := fun c q => Heap.get?_update_ne _ _ _ _ q
  refine nay fun hG => ?_
  obtain ⟨oL, es, ep, hL, r⟩ := S.ns
  refine hG ?_; clear hG
  refine ⟨S.base, fun c oc k => ?_, S.up, S.new, fun c oc k k' => ?_, ⟨oL, es, ep, (ne L h.2.1.symm).trans hL, r⟩, S.Lnew, S.Lb, fun p hp => ?_, by simpa only [List.map_cons] using S.nd⟩
  · exact (ne c fun q => by subst q; rw [h.2.2.1] at k; cases k).trans (S.sub c oc k)
  · refine (ne c fun q => ?_).trans (S.keep c oc k k')
    subst q
    rcases h.2.2.2 with z | z
    · exact k' z
    · exact absurd (Heap.lt_size k) (Nat.not_lt.mpr z)
  · rcases List.mem_cons.mp hp with rfl | hp
    · exact ⟨g, h.2⟩
    · have z := S.tu p (.tail _ hp)
      exact ⟨(ne _ fun q => nd.1 (List.mem_map.mpr ⟨p, hp, q⟩)).trans z.1, z.2⟩
theorem St.perm {mu' : List (Addr × Obj)} (S : St w e b L m mu s) (h : mu.Perm mu') : St w e b L m mu' s :=
  ⟨S.base, S.sub, S.up, S.new, S.keep, S.ns, S.Lnew, S.Lb, fun p hp => S.tu p (h.mem_iff.mpr hp), (h.map _).nodup_iff.mp S.nd⟩
theorem St.swap {p q : Addr × Obj} (S : St w e b L m (p :: q :: mu) s) : St w e b L m (q :: p :: mu) s := S.perm (List.Perm.swap _ _ _)
theorem St.call0 (S : St w e b L m mu s) {b' : PM} {h' : Heap} {t : Nat} (G : Grow b b' s.heap h' []) : St w e b' L m mu { s with heap := h', toks := t } := by
  have k : ∀ a o, s.heap.get? a = some o → h'.get? a = some o := fun a o h => G.keep a o h (by simp)
  have nb : ∀ a, a < s.heap.objs.size → b a = none → b' a = none := fun a hl hb => by
    cases q : b' a with
    | none => rfl
    | some o => rcases G.new a o q with z | z
                · rw [hb] at z; cases z
                · exact absurd hl (Nat.not_lt.mpr z)
  refine ⟨S.base.mono G.up, G.sub, fun a o h => G.up a o (S.up a o h), fun a o h => ?_, fun a o h q => k a o (S.keep a o h q), S.ns.keeps k, S.Lnew, nb _ S.lt S.Lb, fun p hp => ?_, S.nd⟩
  · rcases G.new a o h with z | z
    · exact S.new a o z
    · exact .inr (Nat.le_trans S.size z)
  · have z := S.tu p hp
    exact ⟨k _ _ z.1, z.2.1, nb _ (S.mu_lt hp) z.2.2.1, z.2.2.2⟩
theorem St.call1 {a : Addr} {o o' : Obj} (S : St w e b L m ((a, o) :: mu) s) {b' : PM} {h' : Heap} {t : Nat} (G : Grow b b' s.heap h' [a]) (g : h'.get? a = some o') : St w e b' L m ((a, o') :: mu) { s with heap := h', toks := t } := by
  have k : ∀ c o, s.heap.get? c = some o → c ≠ a → h'.get? c = some o := fun c o h q => G.keep c o h (by simpa using q)
  have nb : ∀ a, a < s.heap.objs.size → b a = none → b' a = none := fun a hl hb => by
    cases q : b' a with
    | none => rfl
    | some o => rcases G.new a o q with z | z
                · rw [hb] at z; cases z
                · exact absurd hl (Nat.not_lt.mpr z)
  have ha := S.tu _ (.head _)
  have nd := List.nodup_cons.mp (by simpa only [List.map_cons] using S.nd)
  refine nay fun hG => ?_
  obtain ⟨oL, es, ep, hL, r⟩ := S.ns
  refine hG ?_; clear hG
  refine ⟨S.base.mono G.up, G.sub, fun a o h => G.up a o (S.up a o h), fun a o h => ?_, fun c oc h q => k c oc (S.keep c oc h q) fun z => ?_, ⟨oL, es, ep, k _ _ hL ha.2.1.symm, r⟩, S.Lnew, nb _ S.lt S.Lb, fun p hp => ?_, by simpa only [List.map_cons] using S.nd⟩
  · rcases G.new a o h with z | z
    · exact S.new a o z
    · exact .inr (Nat.le_trans S.size z)
  · subst z
    rcases ha.2.2.2 with z | z
    · exact q z
    · exact absurd (Heap.lt_size h) (Nat.not_lt.mpr z)
  · rcases List.mem_cons.mp hp with rfl | hp
    · exact ⟨g, ha.2.1, nb _ (Heap.lt_size ha.1) ha.2.2.1, ha.2.2.2⟩
    · have z := S.tu p (.tail _ hp)
      exact ⟨k _ _ z.1 fun q => nd.1 (List.mem_map.mpr ⟨p, hp, q⟩), z.2.1, nb _ (S.mu_lt (.tail _ hp)) z.2.2.1, z.2.2.2⟩
theorem St.grow (S : St w e b L m mu s) : Grow e.b b e.h s.heap e.X := ⟨S.up, S.sub, S.new, S.keep, S.size⟩
end
theorem ext_here {m : Str → Option Value} {x : Str} {v : Value} : ext m x v x = some v := by simp [ext]
theorem ext_skip {m : Str → Option Value} {x y : Str} {v u : Value} (h : y ≠ x) (e : m y = some u) : ext m x v y = some u := by unfold ext; rw [if_neg h]; exact e
structure Room (A : Around) (n : Nat) : Prop where
  hd : A.handled = none
  dp : A.depth + n < 900
  un : A.units + 10 * n < 9000
theorem Room.deeper {A : Around} {n : Nat} {env : Env} (R : Room A (n + 1)) : Room (A.deeper env) n := ⟨R.hd, by have := R.dp; show A.depth + 1 + n < _; lia, by have := R.un; show A.units + 3 + _ < _; lia⟩
theorem Room.limit {A : Around} {n : Nat} (R : Room A n) : A.depth < recursionLimit := by have := R.dp; show _ < 1000; lia
theorem Room.line {A : Around} {n : Nat} (R : Room A n) : A.units < cLine := by have := R.un; show _ < 9900; lia
-- W2
noncomputable def allStr (es : Array DictEntry) : Bool := es.toList.all fun e => match e.key with | .str _ _ => true | _ => false
theorem strKeys_of {es : Array DictEntry} (h : allStr es = true) : StrKeys es := by
  intro e he
  have := List.all_eq_true.mp h e (by simpa using he)
  revert this
  cases e.key <;> intro q <;> first | exact ⟨_, _, rfl⟩ | cases q
theorem ns_of {h : Heap} {a : Addr} {c : Value} {d : Option Addr} {sl : Array (Option Value)} {es : Array DictEntry} {n : Nat} (g : h.get? a = some ⟨c, d, .dict es n, sl⟩) (k : allStr es = true) : h.Ns a (nsFind es) := ⟨_, es, n, g, rfl, strKeys_of k, fun _ => rfl⟩
noncomputable def dictAt (k : Frag) (a : Addr) : Array DictEntry := match k.lookup a with | some ⟨_, _, .dict es _, _⟩ => es | _ => #[]
theorem lk2 (P : Params) : ∃ c d n sl, (K P).lookup 2 = some ⟨c, d, .dict (dictAt (K P) 2) n, sl⟩ := ⟨_, _, _, _, by rfl⟩
theorem lk3 (P : Params) : ∃ c d n sl, (K P).lookup 3 = some ⟨c, d, .dict (dictAt (K P) 3) n, sl⟩ := ⟨_, _, _, _, by rfl⟩
theorem all2 (P : Params) : allStr (dictAt (K P) 2) = true := by kernel_rfl!
theorem all3 (P : Params) : allStr (dictAt (K P) 3) = true := by kernel_rfl!
theorem lim2 (P : Params) : nsFind (dictAt (K P) 2) "sys.recursionlimit" = none := by kernel_rfl!
theorem noLimit_of {P : Params} {h : Heap} (X : (K P).In h) : h.NoLimit := by
  refine nay fun hG => ?_
  obtain ⟨c, d, n, sl, e⟩ := lk2 P
  refine hG ?_; clear hG
  exact ⟨_, ns_of (X _ _ e) (all2 P), lim2 P⟩
theorem globs_of {P : Params} {h : Heap} (X : (K P).In h) : h.Ns mainGlobals (nsFind (dictAt (K P) 3)) := by
  refine nay fun hG => ?_
  obtain ⟨c, d, n, sl, e⟩ := lk3 P
  refine hG ?_; clear hG
  exact ns_of (X _ _ e) (all3 P)
noncomputable def gv (P : Params) (x : Str) : Option Value := nsFind (dictAt (K P) 3) x
section
variable {w : World} {A : Around} {E : Value → Shared → Prop} {s : Shared} {e : En} {b : PM} {L : Addr} {m : Str → Option Value} {mu : List (Addr × Obj)} {env : Env}
theorem n_loc {x : Str} {pos : Pos} {v : Value} {Q : Value → Shared → Prop} (S : St w e b env.locals m mu s) (hv : m x = some v) (hk : env.scope.kind = .function) (hl : env.kindOf x = some .local) (hd : (x == ("__debug__" : Str)) = false) (h : Q v s) :
    wpAny (model pw w) A (eval (.Name x pos) env) Q E s := wpAny_Name (wpAny_loadName_local hk hl S.ns hv h) hd
theorem n_glob {x : Str} {pos : Pos} {v : Value} {Q : Value → Shared → Prop} (S : St w e b L m mu s) (hv : gv w.params x = some v) (hk : env.scope.kind = .function) (hl : env.kindOf x = some .globalImplicit) (hg : env.globals = mainGlobals) (hd : (x == ("__debug__" : Str)) = false) (h : Q v s) :
    wpAny (model pw w) A (eval (.Name x pos) env) Q E s := Name_function_global hk hl (loadGlobal_global (by rw [hg]; exact globs_of S.kin) hv h) hd
theorem n_blt {x : Str} {pos : Pos} {v : Value} {Q : Value → Shared → Prop} (S : St w e b L m mu s) (hn : gv w.params x = none) (hv : bootBuiltins x = some v) (hx : x ≠ "__name__") (hk : env.scope.kind = .function) (hl : env.kindOf x = some .globalImplicit) (hg : env.globals = mainGlobals) (hb : env.builtins = builtinsNs) (hd : (x == ("__debug__" : Str)) = false) (h : Q v s) :
    wpAny (model pw w) A (eval (.Name x pos) env) Q E s := by
  refine nay fun hG => ?_
  obtain ⟨o, mb, e1, e2, e3⟩ := S.base.blt
  refine hG ?_; clear hG
  exact Name_function_global hk hl (loadGlobal_builtin (by rw [hg]; exact globs_of S.kin) hn (by rw [hb]; exact e2 _ (S.sub _ _ e1)) ((e3 x hx).trans hv) h) hd
theorem st_loc {x : Str} {v : Value} {Q : Unit → Shared → Prop} (S : St w e b env.locals m mu s) (hl : env.kindOf x = some .local) (hp : (env.scope.kind == .class || (env.scope.kind == .module && env.locals != env.globals)) = false)
    (h : ∀ h' t', St w e b env.locals (ext m x v) mu { s with heap := h', toks := t' } → Q () { s with heap := h', toks := t' }) : wpAny (model pw w) A (storeName env x v) Q E s :=
  wpAny_storeName_local hl S.ns (fun h' hn hs => h h' _ (S.set hn hs)) hp
noncomputable def extL : List (Str × Value) → (Str → Option Value) → Str → Option Value
  | [], m => m
  | p :: r, m => extL r (ext m p.1 p.2)
theorem extL_app (l r : List (Str × Value)) (m : Str → Option Value) : extL (l ++ r) m = extL r (extL l m) := by
  induction l generalizing m with
  | nil => rfl
  | cons p l ih => exact ih _
theorem extL_lookup (l : List (Str × Value)) : (fun y => l.reverse.lookup y) = extL l fun _ => none := by
  have key : ∀ (l : List (Str × Value)) (y : Str), l.reverse.lookup y = extL l (fun _ => none) y := by
    intro l
    have : ∀ l : List (Str × Value), ∀ y, l.lookup y = extL l.reverse (fun _ => none) y := by
      intro l
      induction l with
      | nil => intro y; rfl
      | cons p l ih =>
        intro y
        rw [List.reverse_cons, extL_app]
        show List.lookup y (p :: l) = ext (extL l.reverse fun _ => none) p.1 p.2 y
        obtain ⟨k, v⟩ := p
        rw [List.lookup_cons]
        unfold ext
        by_cases h : y = k
        · subst h; simp
        · have : (y == k) = false := by simpa using h
          rw [this, if_neg h]; exact ih y
    intro y
    have := this l.reverse y
    rwa [List.reverse_reverse] at this
  funext y; exact key l y
theorem enter {f : Addr} {fd : FuncData} {body : List Stmt} {args : List Value} {binds : List (Str × Value)} {n : Nat} {Q : Value → Shared → Prop}
    (R : Room A (n + 1)) (B : Base w b) (hs : ∀ a o, b a = some o → s.heap.get? a = some o) (mu : List (Addr × Obj)) (hm : ∀ p ∈ mu, s.heap.get? p.1 = some p.2 ∧ b p.1 = none) (nd : (mu.map (·.1)).Nodup)
    (hf : (K w.params).lookup f = some ⟨.type "function", none, .func fd, #[]⟩) (hc : codeIn (K w.params) fd.code fd.qualname = true) (hbody : fd.body = .stmts body) (hbind : BindsTo s fd ⟨args, []⟩ binds)
    (hcell : ∀ x ∈ fd.scope.names, x.2 ≠ .cell) (hloc : (binds.all fun x => decide (fd.scope.names.lookup x.1 = some .local)) = true) (hco : fd.scope.isCoroutine = false) (hgen : fd.scope.isGenerator = false) (hk : fd.scope.kind = .function)
    (h : ∀ L h₁ t₁, L = s.heap.objs.size → St w ⟨s.heap, b, mu.map (·.1)⟩ b L (extL binds fun _ => none) mu { s with heap := h₁, toks := t₁ } → Room (A.deeper (callEnv fd L f)) n →
      wpAny (model pw w) (A.deeper (callEnv fd L f)) (execs body (callEnv fd L f)) (fun fl s' => Q (match fl with | .ret v => v | _ => .none) s') (fun _ _ => False) { s with heap := h₁, toks := t₁ }) :
    wpAny (model pw w) A (call (.ref f) args) Q E s := by
  have X : (K w.params).In s.heap := B.kin hs
  refine wpAny_call (codeAny_call_def R.limit (X _ _ hf) rfl (noLimit_of X) (codeRec_of X hc) hbody hbind hcell (locs hloc) (fun h₁ hn hk₁ => ?_) hco hgen hk)
  have S : St w ⟨s.heap, b, mu.map (·.1)⟩ b s.heap.objs.size (extL binds fun _ => none) mu { s with heap := h₁, toks := s.toks + binds.length } := by
    refine ⟨B, fun a o q => hk₁ a o (hs a o q), fun a o q => q, fun a o q => .inl q, fun a o q _ => hk₁ a o q, (by rw [← extL_lookup]; exact hn), Nat.le_refl _, ?_, fun p hp => ⟨hk₁ _ _ (hm p hp).1, Nat.ne_of_lt (Heap.lt_size (hm p hp).1), (hm p hp).2, .inl (List.mem_map_of_mem hp)⟩, nd⟩
    cases q : b s.heap.objs.size with
    | none => rfl
    | some o => exact absurd (Heap.lt_size (hs _ _ q)) (Nat.lt_irrefl _)
  exact wpAny_mono (h _ _ _ rfl S R.deeper) (fun fl s' z => z) fun _ _ z => z.elim
end
-- W3
theorem lk_check_room (P : Params) : (K P).lookup 70 = some ⟨.type "function", none, .func f_check_room, #[]⟩ := by kernel_rfl!
theorem cd_check_room (P : Params) : codeIn (K P) f_check_room.code f_check_room.qualname = true := by kernel_rfl!
theorem lk_number_at (P : Params) : (K P).lookup 77 = some ⟨.type "function", none, .func f_number_at, #[]⟩ := by kernel_rfl!
theorem cd_number_at (P : Params) : codeIn (K P) f_number_at.code f_number_at.qualname = true := by kernel_rfl!
theorem lk_OctetsIn__init (P : Params) : (K P).lookup 92 = some ⟨.type "function", none, .func f_OctetsIn__init, #[]⟩ := by kernel_rfl!
theorem cd_OctetsIn__init (P : Params) : codeIn (K P) f_OctetsIn__init.code f_OctetsIn__init.qualname = true := by kernel_rfl!
theorem lk_OctetsIn_need (P : Params) : (K P).lookup 99 = some ⟨.type "function", none, .func f_OctetsIn_need, #[]⟩ := by kernel_rfl!
theorem cd_OctetsIn_need (P : Params) : codeIn (K P) f_OctetsIn_need.code f_OctetsIn_need.qualname = true := by kernel_rfl!
theorem lk_OctetsIn_number (P : Params) : (K P).lookup 106 = some ⟨.type "function", none, .func f_OctetsIn_number, #[]⟩ := by kernel_rfl!
theorem cd_OctetsIn_number (P : Params) : codeIn (K P) f_OctetsIn_number.code f_OctetsIn_number.qualname = true := by kernel_rfl!
theorem lk_OctetsIn_u16 (P : Params) : (K P).lookup 120 = some ⟨.type "function", none, .func f_OctetsIn_u16, #[]⟩ := by kernel_rfl!
theorem cd_OctetsIn_u16 (P : Params) : codeIn (K P) f_OctetsIn_u16.code f_OctetsIn_u16.qualname = true := by kernel_rfl!
theorem lk_OctetsIn_rows (P : Params) : (K P).lookup 153 = some ⟨.type "function", none, .func f_OctetsIn_rows, #[]⟩ := by kernel_rfl!
theorem cd_OctetsIn_rows (P : Params) : codeIn (K P) f_OctetsIn_rows.code f_OctetsIn_rows.qualname = true := by kernel_rfl!
theorem lk_number_octets (P : Params) : (K P).lookup 172 = some ⟨.type "function", none, .func f_number_octets, #[]⟩ := by kernel_rfl!
theorem cd_number_octets (P : Params) : codeIn (K P) f_number_octets.code f_number_octets.qualname = true := by kernel_rfl!
theorem lk_OctetsOut__init (P : Params) : (K P).lookup 186 = some ⟨.type "function", none, .func f_OctetsOut__init, #[]⟩ := by kernel_rfl!
theorem cd_OctetsOut__init (P : Params) : codeIn (K P) f_OctetsOut__init.code f_OctetsOut__init.qualname = true := by kernel_rfl!
theorem lk_OctetsOut_u16 (P : Params) : (K P).lookup 200 = some ⟨.type "function", none, .func f_OctetsOut_u16, #[]⟩ := by kernel_rfl!
theorem cd_OctetsOut_u16 (P : Params) : codeIn (K P) f_OctetsOut_u16.code f_OctetsOut_u16.qualname = true := by kernel_rfl!
theorem lk_OctetsOut_rows (P : Params) : (K P).lookup 233 = some ⟨.type "function", none, .func f_OctetsOut_rows, #[]⟩ := by kernel_rfl!
theorem cd_OctetsOut_rows (P : Params) : codeIn (K P) f_OctetsOut_rows.code f_OctetsOut_rows.qualname = true := by kernel_rfl!
theorem lk_OctetsOut_add (P : Params) : (K P).lookup 240 = some ⟨.type "function", none, .func f_OctetsOut_add, #[]⟩ := by kernel_rfl!
theorem cd_OctetsOut_add (P : Params) : codeIn (K P) f_OctetsOut_add.code f_OctetsOut_add.qualname = true := by kernel_rfl!
theorem lk_OctetsOut_octets (P : Params) : (K P).lookup 254 = some ⟨.type "function", none, .func f_OctetsOut_octets, #[]⟩ := by kernel_rfl!
theorem cd_OctetsOut_octets (P : Params) : codeIn (K P) f_OctetsOut_octets.code f_OctetsOut_octets.qualname = true := by kernel_rfl!
theorem lk_laid (P : Params) : (K P).lookup 269 = some ⟨.type "function", none, .func f_laid, #[]⟩ := by kernel_rfl!
theorem cd_laid (P : Params) : codeIn (K P) f_laid.code f_laid.qualname = true := by kernel_rfl!
theorem lk_Coverage__init (P : Params) : (K P).lookup 283 = some ⟨.type "function", none, .func f_Coverage__init, #[]⟩ := by kernel_rfl!
theorem cd_Coverage__init (P : Params) : codeIn (K P) f_Coverage__init.code f_Coverage__init.qualname = true := by kernel_rfl!
theorem lk_Coverage_told (P : Params) : (K P).lookup 304 = some ⟨.type "function", none, .func f_Coverage_told, #[]⟩ := by kernel_rfl!
theorem cd_Coverage_told (P : Params) : codeIn (K P) f_Coverage_told.code f_Coverage_told.qualname = true := by kernel_rfl!
theorem lk_coverage_of (P : Params) : (K P).lookup 318 = some ⟨.type "function", none, .func f_coverage_of, #[]⟩ := by kernel_rfl!
theorem cd_coverage_of (P : Params) : codeIn (K P) f_coverage_of.code f_coverage_of.qualname = true := by kernel_rfl!
theorem lk_ranges_of (P : Params) : (K P).lookup 325 = some ⟨.type "function", none, .func f_ranges_of, #[]⟩ := by kernel_rfl!
theorem cd_ranges_of (P : Params) : codeIn (K P) f_ranges_of.code f_ranges_of.qualname = true := by kernel_rfl!
theorem lk_read_ascending (P : Params) : (K P).lookup 332 = some ⟨.type "function", none, .func f_read_ascending, #[]⟩ := by kernel_rfl!
theorem cd_read_ascending (P : Params) : codeIn (K P) f_read_ascending.code f_read_ascending.qualname = true := by kernel_rfl!
theorem lk_read_span (P : Params) : (K P).lookup 339 = some ⟨.type "function", none, .func f_read_span, #[]⟩ := by kernel_rfl!
theorem cd_read_span (P : Params) : codeIn (K P) f_read_span.code f_read_span.qualname = true := by kernel_rfl!
theorem lk_read_spans (P : Params) : (K P).lookup 346 = some ⟨.type "function", none, .func f_read_spans, #[]⟩ := by kernel_rfl!
theorem cd_read_spans (P : Params) : codeIn (K P) f_read_spans.code f_read_spans.qualname = true := by kernel_rfl!
theorem lk_read_coverage (P : Params) : (K P).lookup 353 = some ⟨.type "function", none, .func f_read_coverage, #[]⟩ := by kernel_rfl!
theorem cd_read_coverage (P : Params) : codeIn (K P) f_read_coverage.code f_read_coverage.qualname = true := by kernel_rfl!
theorem lk_write_coverage (P : Params) : (K P).lookup 361 = some ⟨.type "function", none, .func f_write_coverage, #[]⟩ := by kernel_rfl!
theorem cd_write_coverage (P : Params) : codeIn (K P) f_write_coverage.code f_write_coverage.qualname = true := by kernel_rfl!
theorem lk_by_glyph (P : Params) : (K P).lookup 369 = some ⟨.type "function", none, .func f_by_glyph, #[]⟩ := by kernel_rfl!
theorem cd_by_glyph (P : Params) : codeIn (K P) f_by_glyph.code f_by_glyph.qualname = true := by kernel_rfl!
theorem lk_place_of (P : Params) : (K P).lookup 376 = some ⟨.type "function", none, .func f_place_of, #[]⟩ := by kernel_rfl!
theorem cd_place_of (P : Params) : codeIn (K P) f_place_of.code f_place_of.qualname = true := by kernel_rfl!
theorem lk_read_coverages (P : Params) : (K P).lookup 383 = some ⟨.type "function", none, .func f_read_coverages, #[]⟩ := by kernel_rfl!
theorem cd_read_coverages (P : Params) : codeIn (K P) f_read_coverages.code f_read_coverages.qualname = true := by kernel_rfl!
theorem lk_put_counted (P : Params) : (K P).lookup 390 = some ⟨.type "function", none, .func f_put_counted, #[]⟩ := by kernel_rfl!
theorem cd_put_counted (P : Params) : codeIn (K P) f_put_counted.code f_put_counted.qualname = true := by kernel_rfl!
theorem lk_Reverse__init (P : Params) : (K P).lookup 404 = some ⟨.type "function", none, .func f_Reverse__init, #[]⟩ := by kernel_rfl!
theorem cd_Reverse__init (P : Params) : codeIn (K P) f_Reverse__init.code f_Reverse__init.qualname = true := by kernel_rfl!
theorem lk_Reverse_told (P : Params) : (K P).lookup 409 = some ⟨.type "function", none, .func f_Reverse_told, #[]⟩ := by kernel_rfl!
theorem cd_Reverse_told (P : Params) : codeIn (K P) f_Reverse_told.code f_Reverse_told.qualname = true := by kernel_rfl!
theorem lk_read_reverse (P : Params) : (K P).lookup 423 = some ⟨.type "function", none, .func f_read_reverse, #[]⟩ := by kernel_rfl!
theorem cd_read_reverse (P : Params) : codeIn (K P) f_read_reverse.code f_read_reverse.qualname = true := by kernel_rfl!
theorem lk_write_reverse (P : Params) : (K P).lookup 428 = some ⟨.type "function", none, .func f_write_reverse, #[]⟩ := by kernel_rfl!
theorem cd_write_reverse (P : Params) : codeIn (K P) f_write_reverse.code f_write_reverse.qualname = true := by kernel_rfl!
theorem lk_law_taker (P : Params) : (K P).lookup 435 = some ⟨.type "function", none, .func f_law_taker, #[]⟩ := by kernel_rfl!
theorem cd_law_taker (P : Params) : codeIn (K P) f_law_taker.code f_law_taker.qualname = true := by kernel_rfl!
theorem lk_law_set (P : Params) : (K P).lookup 440 = some ⟨.type "function", none, .func f_law_set, #[]⟩ := by kernel_rfl!
theorem cd_law_set (P : Params) : codeIn (K P) f_law_set.code f_law_set.qualname = true := by kernel_rfl!
theorem lk_law_plan (P : Params) : (K P).lookup 445 = some ⟨.type "function", none, .func f_law_plan, #[]⟩ := by kernel_rfl!
theorem cd_law_plan (P : Params) : codeIn (K P) f_law_plan.code f_law_plan.qualname = true := by kernel_rfl!
theorem lk_law_bent (P : Params) : (K P).lookup 450 = some ⟨.type "function", none, .func f_law_bent, #[]⟩ := by kernel_rfl!
theorem cd_law_bent (P : Params) : codeIn (K P) f_law_bent.code f_law_bent.qualname = true := by kernel_rfl!
theorem lk_law_made (P : Params) : (K P).lookup 455 = some ⟨.type "function", none, .func f_law_made, #[]⟩ := by kernel_rfl!
theorem cd_law_made (P : Params) : codeIn (K P) f_law_made.code f_law_made.qualname = true := by kernel_rfl!
theorem lk_law_means (P : Params) : (K P).lookup 460 = some ⟨.type "function", none, .func f_law_means, #[]⟩ := by kernel_rfl!
theorem cd_law_means (P : Params) : codeIn (K P) f_law_means.code f_law_means.qualname = true := by kernel_rfl!
theorem lk_law (P : Params) : (K P).lookup 465 = some ⟨.type "function", none, .func f_law, #[]⟩ := by kernel_rfl!
theorem cd_law (P : Params) : codeIn (K P) f_law.code f_law.qualname = true := by kernel_rfl!
theorem in_check_room {w : World} {A : Around} {E : Value → Shared → Prop} {s : Shared} {b : PM} {k : Nat} {Q : Value → Shared → Prop} {body : List Stmt} {x0 x1 x2 : Value} (hbody : f_check_room.body = .stmts body)
    (R : Room A (k + 1)) (B : Base w b) (hs : ∀ a o, b a = some o → s.heap.get? a = some o) (mu : List (Addr × Obj)) (hm : ∀ p ∈ mu, s.heap.get? p.1 = some p.2 ∧ b p.1 = none) (nd : (mu.map (·.1)).Nodup)
    (h : ∀ L h₁ t₁, L = s.heap.objs.size → St w ⟨s.heap, b, mu.map (·.1)⟩ b L (extL [("data", x0), ("at", x1), ("count", x2)] fun _ => none) mu { s with heap := h₁, toks := t₁ } → Room (A.deeper (callEnv f_check_room L 70)) k →
      wpAny (model pw w) (A.deeper (callEnv f_check_room L 70)) (execs body (callEnv f_check_room L 70)) (fun fl s' => Q (match fl with | .ret v => v | _ => .none) s') (fun _ _ => False) { s with heap := h₁, toks := t₁ }) :
    wpAny (model pw w) A (call (.ref 70) [x0, x1, x2]) Q E s :=
  enter R B hs mu hm nd (lk_check_room _) (cd_check_room _) hbody (BindsTo.of_eq rfl) (by decide +kernel) (by kernel_rfl!) (by kernel_rfl!) (by kernel_rfl!) (by kernel_rfl!) h
theorem in_number_at {w : World} {A : Around} {E : Value → Shared → Prop} {s : Shared} {b : PM} {k : Nat} {Q : Value → Shared → Prop} {body : List Stmt} {x0 x1 x2 : Value} (hbody : f_number_at.body = .stmts body)
    (R : Room A (k + 1)) (B : Base w b) (hs : ∀ a o, b a = some o → s.heap.get? a = some o) (mu : List (Addr × Obj)) (hm : ∀ p ∈ mu, s.heap.get? p.1 = some p.2 ∧ b p.1 = none) (nd : (mu.map (·.1)).Nodup)
    (h : ∀ L h₁ t₁, L = s.heap.objs.size → St w ⟨s.heap, b, mu.map (·.1)⟩ b L (extL [("data", x0), ("at", x1), ("count", x2)] fun _ => none) mu { s with heap := h₁, toks := t₁ } → Room (A.deeper (callEnv f_number_at L 77)) k →
      wpAny (model pw w) (A.deeper (callEnv f_number_at L 77)) (execs body (callEnv f_number_at L 77)) (fun fl s' => Q (match fl with | .ret v => v | _ => .none) s') (fun _ _ => False) { s with heap := h₁, toks := t₁ }) :
    wpAny (model pw w) A (call (.ref 77) [x0, x1, x2]) Q E s :=
  enter R B hs mu hm nd (lk_number_at _) (cd_number_at _) hbody (BindsTo.of_eq rfl) (by decide +kernel) (by kernel_rfl!) (by kernel_rfl!) (by kernel_rfl!) (by kernel_rfl!) h
theorem in_OctetsIn_need {w : World} {A : Around} {E : Value → Shared → Prop} {s : Shared} {b : PM} {k : Nat} {Q : Value → Shared → Prop} {body : List Stmt} {x0 x1 : Value} (hbody : f_OctetsIn_need.body = .stmts body)
    (R : Room A (k + 1)) (B : Base w b) (hs : ∀ a o, b a = some o → s.heap.get? a = some o) (mu : List (Addr × Obj)) (hm : ∀ p ∈ mu, s.heap.get? p.1 = some p.2 ∧ b p.1 = none) (nd : (mu.map (·.1)).Nodup)
    (h : ∀ L h₁ t₁, L = s.heap.objs.size → St w ⟨s.heap, b, mu.map (·.1)⟩ b L (extL [("self", x0), ("count", x1)] fun _ => none) mu { s with heap := h₁, toks := t₁ } → Room (A.deeper (callEnv f_OctetsIn_need L 99)) k →
      wpAny (model pw w) (A.deeper (callEnv f_OctetsIn_need L 99)) (execs body (callEnv f_OctetsIn_need L 99)) (fun fl s' => Q (match fl with | .ret v => v | _ => .none) s') (fun _ _ => False) { s with heap := h₁, toks := t₁ }) :
    wpAny (model pw w) A (call (.ref 99) [x0, x1]) Q E s :=
  enter R B hs mu hm nd (lk_OctetsIn_need _) (cd_OctetsIn_need _) hbody (BindsTo.of_eq rfl) (by decide +kernel) (by kernel_rfl!) (by kernel_rfl!) (by kernel_rfl!) (by kernel_rfl!) h
theorem in_OctetsIn_number {w : World} {A : Around} {E : Value → Shared → Prop} {s : Shared} {b : PM} {k : Nat} {Q : Value → Shared → Prop} {body : List Stmt} {x0 x1 : Value} (hbody : f_OctetsIn_number.body = .stmts body)
    (R : Room A (k + 1)) (B : Base w b) (hs : ∀ a o, b a = some o → s.heap.get? a = some o) (mu : List (Addr × Obj)) (hm : ∀ p ∈ mu, s.heap.get? p.1 = some p.2 ∧ b p.1 = none) (nd : (mu.map (·.1)).Nodup)
    (h : ∀ L h₁ t₁, L = s.heap.objs.size → St w ⟨s.heap, b, mu.map (·.1)⟩ b L (extL [("self", x0), ("count", x1)] fun _ => none) mu { s with heap := h₁, toks := t₁ } → Room (A.deeper (callEnv f_OctetsIn_number L 106)) k →
      wpAny (model pw w) (A.deeper (callEnv f_OctetsIn_number L 106)) (execs body (callEnv f_OctetsIn_number L 106)) (fun fl s' => Q (match fl with | .ret v => v | _ => .none) s') (fun _ _ => False) { s with heap := h₁, toks := t₁ }) :
    wpAny (model pw w) A (call (.ref 106) [x0, x1]) Q E s :=
  enter R B hs mu hm nd (lk_OctetsIn_number _) (cd_OctetsIn_number _) hbody (BindsTo.of_eq rfl) (by decide +kernel) (by kernel_rfl!) (by kernel_rfl!) (by kernel_rfl!) (by kernel_rfl!) h
theorem in_OctetsIn_u16 {w : World} {A : Around} {E : Value → Shared → Prop} {s : Shared} {b : PM} {k : Nat} {Q : Value → Shared → Prop} {body : List Stmt} {x0 : Value} (hbody : f_OctetsIn_u16.body = .stmts body)
    (R : Room A (k + 1)) (B : Base w b) (hs : ∀ a o, b a = some o → s.heap.get? a = some o) (mu : List (Addr × Obj)) (hm : ∀ p ∈ mu, s.heap.get? p.1 = some p.2 ∧ b p.1 = none) (nd : (mu.map (·.1)).Nodup)
    (h : ∀ L h₁ t₁, L = s.heap.objs.size → St w ⟨s.heap, b, mu.map (·.1)⟩ b L (extL [("self", x0)] fun _ => none) mu { s with heap := h₁, toks := t₁ } → Room (A.deeper (callEnv f_OctetsIn_u16 L 120)) k →
      wpAny (model pw w) (A.deeper (callEnv f_OctetsIn_u16 L 120)) (execs body (callEnv f_OctetsIn_u16 L 120)) (fun fl s' => Q (match fl with | .ret v => v | _ => .none) s') (fun _ _ => False) { s with heap := h₁, toks := t₁ }) :
    wpAny (model pw w) A (call (.ref 120) [x0]) Q E s :=
  enter R B hs mu hm nd (lk_OctetsIn_u16 _) (cd_OctetsIn_u16 _) hbody (BindsTo.of_eq rfl) (by decide +kernel) (by kernel_rfl!) (by kernel_rfl!) (by kernel_rfl!) (by kernel_rfl!) h
theorem in_OctetsOut_octets {w : World} {A : Around} {E : Value → Shared → Prop} {s : Shared} {b : PM} {k : Nat} {Q : Value → Shared → Prop} {body : List Stmt} {x0 : Value} (hbody : f_OctetsOut_octets.body = .stmts body)
    (R : Room A (k + 1)) (B : Base w b) (hs : ∀ a o, b a = some o → s.heap.get? a = some o) (mu : List (Addr × Obj)) (hm : ∀ p ∈ mu, s.heap.get? p.1 = some p.2 ∧ b p.1 = none) (nd : (mu.map (·.1)).Nodup)
    (h : ∀ L h₁ t₁, L = s.heap.objs.size → St w ⟨s.heap, b, mu.map (·.1)⟩ b L (extL [("self", x0)] fun _ => none) mu { s with heap := h₁, toks := t₁ } → Room (A.deeper (callEnv f_OctetsOut_octets L 254)) k →
      wpAny (model pw w) (A.deeper (callEnv f_OctetsOut_octets L 254)) (execs body (callEnv f_OctetsOut_octets L 254)) (fun fl s' => Q (match fl with | .ret v => v | _ => .none) s') (fun _ _ => False) { s with heap := h₁, toks := t₁ }) :
    wpAny (model pw w) A (call (.ref 254) [x0]) Q E s :=
  enter R B hs mu hm nd (lk_OctetsOut_octets _) (cd_OctetsOut_octets _) hbody (BindsTo.of_eq rfl) (by decide +kernel) (by kernel_rfl!) (by kernel_rfl!) (by kernel_rfl!) (by kernel_rfl!) h
theorem in_Coverage_told {w : World} {A : Around} {E : Value → Shared → Prop} {s : Shared} {b : PM} {k : Nat} {Q : Value → Shared → Prop} {body : List Stmt} {x0 : Value} (hbody : f_Coverage_told.body = .stmts body)
    (R : Room A (k + 1)) (B : Base w b) (hs : ∀ a o, b a = some o → s.heap.get? a = some o) (mu : List (Addr × Obj)) (hm : ∀ p ∈ mu, s.heap.get? p.1 = some p.2 ∧ b p.1 = none) (nd : (mu.map (·.1)).Nodup)
    (h : ∀ L h₁ t₁, L = s.heap.objs.size → St w ⟨s.heap, b, mu.map (·.1)⟩ b L (extL [("self", x0)] fun _ => none) mu { s with heap := h₁, toks := t₁ } → Room (A.deeper (callEnv f_Coverage_told L 304)) k →
      wpAny (model pw w) (A.deeper (callEnv f_Coverage_told L 304)) (execs body (callEnv f_Coverage_told L 304)) (fun fl s' => Q (match fl with | .ret v => v | _ => .none) s') (fun _ _ => False) { s with heap := h₁, toks := t₁ }) :
    wpAny (model pw w) A (call (.ref 304) [x0]) Q E s :=
  enter R B hs mu hm nd (lk_Coverage_told _) (cd_Coverage_told _) hbody (BindsTo.of_eq rfl) (by decide +kernel) (by kernel_rfl!) (by kernel_rfl!) (by kernel_rfl!) (by kernel_rfl!) h
theorem in_coverage_of {w : World} {A : Around} {E : Value → Shared → Prop} {s : Shared} {b : PM} {k : Nat} {Q : Value → Shared → Prop} {body : List Stmt} {x0 : Value} (hbody : f_coverage_of.body = .stmts body)
    (R : Room A (k + 1)) (B : Base w b) (hs : ∀ a o, b a = some o → s.heap.get? a = some o) (mu : List (Addr × Obj)) (hm : ∀ p ∈ mu, s.heap.get? p.1 = some p.2 ∧ b p.1 = none) (nd : (mu.map (·.1)).Nodup)
    (h : ∀ L h₁ t₁, L = s.heap.objs.size → St w ⟨s.heap, b, mu.map (·.1)⟩ b L (extL [("glyphs", x0)] fun _ => none) mu { s with heap := h₁, toks := t₁ } → Room (A.deeper (callEnv f_coverage_of L 318)) k →
      wpAny (model pw w) (A.deeper (callEnv f_coverage_of L 318)) (execs body (callEnv f_coverage_of L 318)) (fun fl s' => Q (match fl with | .ret v => v | _ => .none) s') (fun _ _ => False) { s with heap := h₁, toks := t₁ }) :
    wpAny (model pw w) A (call (.ref 318) [x0]) Q E s :=
  enter R B hs mu hm nd (lk_coverage_of _) (cd_coverage_of _) hbody (BindsTo.of_eq rfl) (by decide +kernel) (by kernel_rfl!) (by kernel_rfl!) (by kernel_rfl!) (by kernel_rfl!) h
theorem in_ranges_of {w : World} {A : Around} {E : Value → Shared → Prop} {s : Shared} {b : PM} {k : Nat} {Q : Value → Shared → Prop} {body : List Stmt} {x0 : Value} (hbody : f_ranges_of.body = .stmts body)
    (R : Room A (k + 1)) (B : Base w b) (hs : ∀ a o, b a = some o → s.heap.get? a = some o) (mu : List (Addr × Obj)) (hm : ∀ p ∈ mu, s.heap.get? p.1 = some p.2 ∧ b p.1 = none) (nd : (mu.map (·.1)).Nodup)
    (h : ∀ L h₁ t₁, L = s.heap.objs.size → St w ⟨s.heap, b, mu.map (·.1)⟩ b L (extL [("glyphs", x0)] fun _ => none) mu { s with heap := h₁, toks := t₁ } → Room (A.deeper (callEnv f_ranges_of L 325)) k →
      wpAny (model pw w) (A.deeper (callEnv f_ranges_of L 325)) (execs body (callEnv f_ranges_of L 325)) (fun fl s' => Q (match fl with | .ret v => v | _ => .none) s') (fun _ _ => False) { s with heap := h₁, toks := t₁ }) :
    wpAny (model pw w) A (call (.ref 325) [x0]) Q E s :=
  enter R B hs mu hm nd (lk_ranges_of _) (cd_ranges_of _) hbody (BindsTo.of_eq rfl) (by decide +kernel) (by kernel_rfl!) (by kernel_rfl!) (by kernel_rfl!) (by kernel_rfl!) h
theorem in_read_ascending {w : World} {A : Around} {E : Value → Shared → Prop} {s : Shared} {b : PM} {k : Nat} {Q : Value → Shared → Prop} {body : List Stmt} {x0 : Value} (hbody : f_read_ascending.body = .stmts body)
    (R : Room A (k + 1)) (B : Base w b) (hs : ∀ a o, b a = some o → s.heap.get? a = some o) (mu : List (Addr × Obj)) (hm : ∀ p ∈ mu, s.heap.get? p.1 = some p.2 ∧ b p.1 = none) (nd : (mu.map (·.1)).Nodup)
    (h : ∀ L h₁ t₁, L = s.heap.objs.size → St w ⟨s.heap, b, mu.map (·.1)⟩ b L (extL [("octets_in", x0)] fun _ => none) mu { s with heap := h₁, toks := t₁ } → Room (A.deeper (callEnv f_read_ascending L 332)) k →
      wpAny (model pw w) (A.deeper (callEnv f_read_ascending L 332)) (execs body (callEnv f_read_ascending L 332)) (fun fl s' => Q (match fl with | .ret v => v | _ => .none) s') (fun _ _ => False) { s with heap := h₁, toks := t₁ }) :
    wpAny (model pw w) A (call (.ref 332) [x0]) Q E s :=
  enter R B hs mu hm nd (lk_read_ascending _) (cd_read_ascending _) hbody (BindsTo.of_eq rfl) (by decide +kernel) (by kernel_rfl!) (by kernel_rfl!) (by kernel_rfl!) (by kernel_rfl!) h
theorem in_read_span {w : World} {A : Around} {E : Value → Shared → Prop} {s : Shared} {b : PM} {k : Nat} {Q : Value → Shared → Prop} {body : List Stmt} {x0 x1 : Value} (hbody : f_read_span.body = .stmts body)
    (R : Room A (k + 1)) (B : Base w b) (hs : ∀ a o, b a = some o → s.heap.get? a = some o) (mu : List (Addr × Obj)) (hm : ∀ p ∈ mu, s.heap.get? p.1 = some p.2 ∧ b p.1 = none) (nd : (mu.map (·.1)).Nodup)
    (h : ∀ L h₁ t₁, L = s.heap.objs.size → St w ⟨s.heap, b, mu.map (·.1)⟩ b L (extL [("octets_in", x0), ("least", x1)] fun _ => none) mu { s with heap := h₁, toks := t₁ } → Room (A.deeper (callEnv f_read_span L 339)) k →
      wpAny (model pw w) (A.deeper (callEnv f_read_span L 339)) (execs body (callEnv f_read_span L 339)) (fun fl s' => Q (match fl with | .ret v => v | _ => .none) s') (fun _ _ => False) { s with heap := h₁, toks := t₁ }) :
    wpAny (model pw w) A (call (.ref 339) [x0, x1]) Q E s :=
  enter R B hs mu hm nd (lk_read_span _) (cd_read_span _) hbody (BindsTo.of_eq rfl) (by decide +kernel) (by kernel_rfl!) (by kernel_rfl!) (by kernel_rfl!) (by kernel_rfl!) h
theorem in_read_spans {w : World} {A : Around} {E : Value → Shared → Prop} {s : Shared} {b : PM} {k : Nat} {Q : Value → Shared → Prop} {body : List Stmt} {x0 : Value} (hbody : f_read_spans.body = .stmts body)
    (R : Room A (k + 1)) (B : Base w b) (hs : ∀ a o, b a = some o → s.heap.get? a = some o) (mu : List (Addr × Obj)) (hm : ∀ p ∈ mu, s.heap.get? p.1 = some p.2 ∧ b p.1 = none) (nd : (mu.map (·.1)).Nodup)
    (h : ∀ L h₁ t₁, L = s.heap.objs.size → St w ⟨s.heap, b, mu.map (·.1)⟩ b L (extL [("octets_in", x0)] fun _ => none) mu { s with heap := h₁, toks := t₁ } → Room (A.deeper (callEnv f_read_spans L 346)) k →
      wpAny (model pw w) (A.deeper (callEnv f_read_spans L 346)) (execs body (callEnv f_read_spans L 346)) (fun fl s' => Q (match fl with | .ret v => v | _ => .none) s') (fun _ _ => False) { s with heap := h₁, toks := t₁ }) :
    wpAny (model pw w) A (call (.ref 346) [x0]) Q E s :=
  enter R B hs mu hm nd (lk_read_spans _) (cd_read_spans _) hbody (BindsTo.of_eq rfl) (by decide +kernel) (by kernel_rfl!) (by kernel_rfl!) (by kernel_rfl!) (by kernel_rfl!) h
theorem in_read_coverage {w : World} {A : Around} {E : Value → Shared → Prop} {s : Shared} {b : PM} {k : Nat} {Q : Value → Shared → Prop} {body : List Stmt} {x0 x1 : Value} (hbody : f_read_coverage.body = .stmts body)
    (R : Room A (k + 1)) (B : Base w b) (hs : ∀ a o, b a = some o → s.heap.get? a = some o) (mu : List (Addr × Obj)) (hm : ∀ p ∈ mu, s.heap.get? p.1 = some p.2 ∧ b p.1 = none) (nd : (mu.map (·.1)).Nodup)
    (h : ∀ L h₁ t₁, L = s.heap.objs.size → St w ⟨s.heap, b, mu.map (·.1)⟩ b L (extL [("data", x0), ("at", x1)] fun _ => none) mu { s with heap := h₁, toks := t₁ } → Room (A.deeper (callEnv f_read_coverage L 353)) k →
      wpAny (model pw w) (A.deeper (callEnv f_read_coverage L 353)) (execs body (callEnv f_read_coverage L 353)) (fun fl s' => Q (match fl with | .ret v => v | _ => .none) s') (fun _ _ => False) { s with heap := h₁, toks := t₁ }) :
    wpAny (model pw w) A (call (.ref 353) [x0, x1]) Q E s :=
  enter R B hs mu hm nd (lk_read_coverage _) (cd_read_coverage _) hbody (BindsTo.of_eq rfl) (by decide +kernel) (by kernel_rfl!) (by kernel_rfl!) (by kernel_rfl!) (by kernel_rfl!) h
theorem in_by_glyph {w : World} {A : Around} {E : Value → Shared → Prop} {s : Shared} {b : PM} {k : Nat} {Q : Value → Shared → Prop} {body : List Stmt} {x0 x1 : Value} (hbody : f_by_glyph.body = .stmts body)
    (R : Room A (k + 1)) (B : Base w b) (hs : ∀ a o, b a = some o → s.heap.get? a = some o) (mu : List (Addr × Obj)) (hm : ∀ p ∈ mu, s.heap.get? p.1 = some p.2 ∧ b p.1 = none) (nd : (mu.map (·.1)).Nodup)
    (h : ∀ L h₁ t₁, L = s.heap.objs.size → St w ⟨s.heap, b, mu.map (·.1)⟩ b L (extL [("coverage", x0), ("rows", x1), ("at", .int (-1) 644)] fun _ => none) mu { s with heap := h₁, toks := t₁ } → Room (A.deeper (callEnv f_by_glyph L 369)) k →
      wpAny (model pw w) (A.deeper (callEnv f_by_glyph L 369)) (execs body (callEnv f_by_glyph L 369)) (fun fl s' => Q (match fl with | .ret v => v | _ => .none) s') (fun _ _ => False) { s with heap := h₁, toks := t₁ }) :
    wpAny (model pw w) A (call (.ref 369) [x0, x1]) Q E s :=
  enter R B hs mu hm nd (lk_by_glyph _) (cd_by_glyph _) hbody (binds_K (B.kin hs) (T := 362) rfl (by rfl) rfl rfl rfl) (by decide +kernel) (by kernel_rfl!) (by kernel_rfl!) (by kernel_rfl!) (by kernel_rfl!) h
theorem in_place_of {w : World} {A : Around} {E : Value → Shared → Prop} {s : Shared} {b : PM} {k : Nat} {Q : Value → Shared → Prop} {body : List Stmt} {x0 x1 : Value} (hbody : f_place_of.body = .stmts body)
    (R : Room A (k + 1)) (B : Base w b) (hs : ∀ a o, b a = some o → s.heap.get? a = some o) (mu : List (Addr × Obj)) (hm : ∀ p ∈ mu, s.heap.get? p.1 = some p.2 ∧ b p.1 = none) (nd : (mu.map (·.1)).Nodup)
    (h : ∀ L h₁ t₁, L = s.heap.objs.size → St w ⟨s.heap, b, mu.map (·.1)⟩ b L (extL [("head", x0), ("begin", x1)] fun _ => none) mu { s with heap := h₁, toks := t₁ } → Room (A.deeper (callEnv f_place_of L 376)) k →
      wpAny (model pw w) (A.deeper (callEnv f_place_of L 376)) (execs body (callEnv f_place_of L 376)) (fun fl s' => Q (match fl with | .ret v => v | _ => .none) s') (fun _ _ => False) { s with heap := h₁, toks := t₁ }) :
    wpAny (model pw w) A (call (.ref 376) [x0, x1]) Q E s :=
  enter R B hs mu hm nd (lk_place_of _) (cd_place_of _) hbody (BindsTo.of_eq rfl) (by decide +kernel) (by kernel_rfl!) (by kernel_rfl!) (by kernel_rfl!) (by kernel_rfl!) h
theorem in_read_coverages {w : World} {A : Around} {E : Value → Shared → Prop} {s : Shared} {b : PM} {k : Nat} {Q : Value → Shared → Prop} {body : List Stmt} {x0 x1 x2 x3 : Value} (hbody : f_read_coverages.body = .stmts body)
    (R : Room A (k + 1)) (B : Base w b) (hs : ∀ a o, b a = some o → s.heap.get? a = some o) (mu : List (Addr × Obj)) (hm : ∀ p ∈ mu, s.heap.get? p.1 = some p.2 ∧ b p.1 = none) (nd : (mu.map (·.1)).Nodup)
    (h : ∀ L h₁ t₁, L = s.heap.objs.size → St w ⟨s.heap, b, mu.map (·.1)⟩ b L (extL [("data", x0), ("at", x1), ("head", x2), ("count", x3)] fun _ => none) mu { s with heap := h₁, toks := t₁ } → Room (A.deeper (callEnv f_read_coverages L 383)) k →
      wpAny (model pw w) (A.deeper (callEnv f_read_coverages L 383)) (execs body (callEnv f_read_coverages L 383)) (fun fl s' => Q (match fl with | .ret v => v | _ => .none) s') (fun _ _ => False) { s with heap := h₁, toks := t₁ }) :
    wpAny (model pw w) A (call (.ref 383) [x0, x1, x2, x3]) Q E s :=
  enter R B hs mu hm nd (lk_read_coverages _) (cd_read_coverages _) hbody (BindsTo.of_eq rfl) (by decide +kernel) (by kernel_rfl!) (by kernel_rfl!) (by kernel_rfl!) (by kernel_rfl!) h
theorem in_read_reverse {w : World} {A : Around} {E : Value → Shared → Prop} {s : Shared} {b : PM} {k : Nat} {Q : Value → Shared → Prop} {body : List Stmt} {x0 x1 : Value} (hbody : f_read_reverse.body = .stmts body)
    (R : Room A (k + 1)) (B : Base w b) (hs : ∀ a o, b a = some o → s.heap.get? a = some o) (mu : List (Addr × Obj)) (hm : ∀ p ∈ mu, s.heap.get? p.1 = some p.2 ∧ b p.1 = none) (nd : (mu.map (·.1)).Nodup)
    (h : ∀ L h₁ t₁, L = s.heap.objs.size → St w ⟨s.heap, b, mu.map (·.1)⟩ b L (extL [("data", x0), ("at", x1)] fun _ => none) mu { s with heap := h₁, toks := t₁ } → Room (A.deeper (callEnv f_read_reverse L 423)) k →
      wpAny (model pw w) (A.deeper (callEnv f_read_reverse L 423)) (execs body (callEnv f_read_reverse L 423)) (fun fl s' => Q (match fl with | .ret v => v | _ => .none) s') (fun _ _ => False) { s with heap := h₁, toks := t₁ }) :
    wpAny (model pw w) A (call (.ref 423) [x0, x1]) Q E s :=
  enter R B hs mu hm nd (lk_read_reverse _) (cd_read_reverse _) hbody (BindsTo.of_eq rfl) (by decide +kernel) (by kernel_rfl!) (by kernel_rfl!) (by kernel_rfl!) (by kernel_rfl!) h
theorem in_law_bent {w : World} {A : Around} {E : Value → Shared → Prop} {s : Shared} {b : PM} {k : Nat} {Q : Value → Shared → Prop} {body : List Stmt} {x0 x1 : Value} (hbody : f_law_bent.body = .stmts body)
    (R : Room A (k + 1)) (B : Base w b) (hs : ∀ a o, b a = some o → s.heap.get? a = some o) (mu : List (Addr × Obj)) (hm : ∀ p ∈ mu, s.heap.get? p.1 = some p.2 ∧ b p.1 = none) (nd : (mu.map (·.1)).Nodup)
    (h : ∀ L h₁ t₁, L = s.heap.objs.size → St w ⟨s.heap, b, mu.map (·.1)⟩ b L (extL [("take", x0), ("plan", x1)] fun _ => none) mu { s with heap := h₁, toks := t₁ } → Room (A.deeper (callEnv f_law_bent L 450)) k →
      wpAny (model pw w) (A.deeper (callEnv f_law_bent L 450)) (execs body (callEnv f_law_bent L 450)) (fun fl s' => Q (match fl with | .ret v => v | _ => .none) s') (fun _ _ => False) { s with heap := h₁, toks := t₁ }) :
    wpAny (model pw w) A (call (.ref 450) [x0, x1]) Q E s :=
  enter R B hs mu hm nd (lk_law_bent _) (cd_law_bent _) hbody (BindsTo.of_eq rfl) (by decide +kernel) (by kernel_rfl!) (by kernel_rfl!) (by kernel_rfl!) (by kernel_rfl!) h
theorem in_law_made {w : World} {A : Around} {E : Value → Shared → Prop} {s : Shared} {b : PM} {k : Nat} {Q : Value → Shared → Prop} {body : List Stmt} {x0 x1 : Value} (hbody : f_law_made.body = .stmts body)
    (R : Room A (k + 1)) (B : Base w b) (hs : ∀ a o, b a = some o → s.heap.get? a = some o) (mu : List (Addr × Obj)) (hm : ∀ p ∈ mu, s.heap.get? p.1 = some p.2 ∧ b p.1 = none) (nd : (mu.map (·.1)).Nodup)
    (h : ∀ L h₁ t₁, L = s.heap.objs.size → St w ⟨s.heap, b, mu.map (·.1)⟩ b L (extL [("take", x0), ("plan", x1)] fun _ => none) mu { s with heap := h₁, toks := t₁ } → Room (A.deeper (callEnv f_law_made L 455)) k →
      wpAny (model pw w) (A.deeper (callEnv f_law_made L 455)) (execs body (callEnv f_law_made L 455)) (fun fl s' => Q (match fl with | .ret v => v | _ => .none) s') (fun _ _ => False) { s with heap := h₁, toks := t₁ }) :
    wpAny (model pw w) A (call (.ref 455) [x0, x1]) Q E s :=
  enter R B hs mu hm nd (lk_law_made _) (cd_law_made _) hbody (BindsTo.of_eq rfl) (by decide +kernel) (by kernel_rfl!) (by kernel_rfl!) (by kernel_rfl!) (by kernel_rfl!) h
theorem in_law_means {w : World} {A : Around} {E : Value → Shared → Prop} {s : Shared} {b : PM} {k : Nat} {Q : Value → Shared → Prop} {body : List Stmt} {x0 : Value} (hbody : f_law_means.body = .stmts body)
    (R : Room A (k + 1)) (B : Base w b) (hs : ∀ a o, b a = some o → s.heap.get? a = some o) (mu : List (Addr × Obj)) (hm : ∀ p ∈ mu, s.heap.get? p.1 = some p.2 ∧ b p.1 = none) (nd : (mu.map (·.1)).Nodup)
    (h : ∀ L h₁ t₁, L = s.heap.objs.size → St w ⟨s.heap, b, mu.map (·.1)⟩ b L (extL [("plan", x0)] fun _ => none) mu { s with heap := h₁, toks := t₁ } → Room (A.deeper (callEnv f_law_means L 460)) k →
      wpAny (model pw w) (A.deeper (callEnv f_law_means L 460)) (execs body (callEnv f_law_means L 460)) (fun fl s' => Q (match fl with | .ret v => v | _ => .none) s') (fun _ _ => False) { s with heap := h₁, toks := t₁ }) :
    wpAny (model pw w) A (call (.ref 460) [x0]) Q E s :=
  enter R B hs mu hm nd (lk_law_means _) (cd_law_means _) hbody (BindsTo.of_eq rfl) (by decide +kernel) (by kernel_rfl!) (by kernel_rfl!) (by kernel_rfl!) (by kernel_rfl!) h
-- W4
theorem n_check_room {w : World} {A : Around} {E : Value → Shared → Prop} {s : Shared} {e : En} {b : PM} {L : Addr} {m : Str → Option Value} {mu : List (Addr × Obj)} {env : Env} {pos : Pos} {Q : Value → Shared → Prop} {t0 : Nat} (S : St w e b L m mu { s with toks := t0 }) (hk : env.scope.kind = .function) (hl : env.kindOf "check_room" = some .globalImplicit) (hg : env.globals = mainGlobals) (h : Q (.ref 70) s) : wpAny (model pw w) A (eval (.Name "check_room" pos) env) Q E s := n_glob (S.toks s.toks) (v := .ref 70) (by kernel_rfl!) hk hl hg (by decide +kernel) h
theorem n_number_at {w : World} {A : Around} {E : Value → Shared → Prop} {s : Shared} {e : En} {b : PM} {L : Addr} {m : Str → Option Value} {mu : List (Addr × Obj)} {env : Env} {pos : Pos} {Q : Value → Shared → Prop} {t0 : Nat} (S : St w e b L m mu { s with toks := t0 }) (hk : env.scope.kind = .function) (hl : env.kindOf "number_at" = some .globalImplicit) (hg : env.globals = mainGlobals) (h : Q (.ref 77) s) : wpAny (model pw w) A (eval (.Name "number_at" pos) env) Q E s := n_glob (S.toks s.toks) (v := .ref 77) (by kernel_rfl!) hk hl hg (by decide +kernel) h
theorem n_OctetsIn {w : World} {A : Around} {E : Value → Shared → Prop} {s : Shared} {e : En} {b : PM} {L : Addr} {m : Str → Option Value} {mu : List (Addr × Obj)} {env : Env} {pos : Pos} {Q : Value → Shared → Prop} {t0 : Nat} (S : St w e b L m mu { s with toks := t0 }) (hk : env.scope.kind = .function) (hl : env.kindOf "OctetsIn" = some .globalImplicit) (hg : env.globals = mainGlobals) (h : Q (.ref 163) s) : wpAny (model pw w) A (eval (.Name "OctetsIn" pos) env) Q E s := n_glob (S.toks s.toks) (v := .ref 163) (by kernel_rfl!) hk hl hg (by decide +kernel) h
theorem n_number_octets {w : World} {A : Around} {E : Value → Shared → Prop} {s : Shared} {e : En} {b : PM} {L : Addr} {m : Str → Option Value} {mu : List (Addr × Obj)} {env : Env} {pos : Pos} {Q : Value → Shared → Prop} {t0 : Nat} (S : St w e b L m mu { s with toks := t0 }) (hk : env.scope.kind = .function) (hl : env.kindOf "number_octets" = some .globalImplicit) (hg : env.globals = mainGlobals) (h : Q (.ref 172) s) : wpAny (model pw w) A (eval (.Name "number_octets" pos) env) Q E s := n_glob (S.toks s.toks) (v := .ref 172) (by kernel_rfl!) hk hl hg (by decide +kernel) h
theorem n_OctetsOut {w : World} {A : Around} {E : Value → Shared → Prop} {s : Shared} {e : En} {b : PM} {L : Addr} {m : Str → Option Value} {mu : List (Addr × Obj)} {env : Env} {pos : Pos} {Q : Value → Shared → Prop} {t0 : Nat} (S : St w e b L m mu { s with toks := t0 }) (hk : env.scope.kind = .function) (hl : env.kindOf "OctetsOut" = some .globalImplicit) (hg : env.globals = mainGlobals) (h : Q (.ref 257) s) : wpAny (model pw w) A (eval (.Name "OctetsOut" pos) env) Q E s := n_glob (S.toks s.toks) (v := .ref 257) (by kernel_rfl!) hk hl hg (by decide +kernel) h
theorem n_laid {w : World} {A : Around} {E : Value → Shared → Prop} {s : Shared} {e : En} {b : PM} {L : Addr} {m : Str → Option Value} {mu : List (Addr × Obj)} {env : Env} {pos : Pos} {Q : Value → Shared → Prop} {t0 : Nat} (S : St w e b L m mu { s with toks := t0 }) (hk : env.scope.kind = .function) (hl : env.kindOf "laid" = some .globalImplicit) (hg : env.globals = mainGlobals) (h : Q (.ref 269) s) : wpAny (model pw w) A (eval (.Name "laid" pos) env) Q E s := n_glob (S.toks s.toks) (v := .ref 269) (by kernel_rfl!) hk hl hg (by decide +kernel) h
theorem n_Coverage {w : World} {A : Around} {E : Value → Shared → Prop} {s : Shared} {e : En} {b : PM} {L : Addr} {m : Str → Option Value} {mu : List (Addr × Obj)} {env : Env} {pos : Pos} {Q : Value → Shared → Prop} {t0 : Nat} (S : St w e b L m mu { s with toks := t0 }) (hk : env.scope.kind = .function) (hl : env.kindOf "Coverage" = some .globalImplicit) (hg : env.globals = mainGlobals) (h : Q (.ref 307) s) : wpAny (model pw w) A (eval (.Name "Coverage" pos) env) Q E s := n_glob (S.toks s.toks) (v := .ref 307) (by kernel_rfl!) hk hl hg (by decide +kernel) h
theorem n_coverage_of {w : World} {A : Around} {E : Value → Shared → Prop} {s : Shared} {e : En} {b : PM} {L : Addr} {m : Str → Option Value} {mu : List (Addr × Obj)} {env : Env} {pos : Pos} {Q : Value → Shared → Prop} {t0 : Nat} (S : St w e b L m mu { s with toks := t0 }) (hk : env.scope.kind = .function) (hl : env.kindOf "coverage_of" = some .globalImplicit) (hg : env.globals = mainGlobals) (h : Q (.ref 318) s) : wpAny (model pw w) A (eval (.Name "coverage_of" pos) env) Q E s := n_glob (S.toks s.toks) (v := .ref 318) (by kernel_rfl!) hk hl hg (by decide +kernel) h
theorem n_ranges_of {w : World} {A : Around} {E : Value → Shared → Prop} {s : Shared} {e : En} {b : PM} {L : Addr} {m : Str → Option Value} {mu : List (Addr × Obj)} {env : Env} {pos : Pos} {Q : Value → Shared → Prop} {t0 : Nat} (S : St w e b L m mu { s with toks := t0 }) (hk : env.scope.kind = .function) (hl : env.kindOf "ranges_of" = some .globalImplicit) (hg : env.globals = mainGlobals) (h : Q (.ref 325) s) : wpAny (model pw w) A (eval (.Name "ranges_of" pos) env) Q E s := n_glob (S.toks s.toks) (v := .ref 325) (by kernel_rfl!) hk hl hg (by decide +kernel) h
theorem n_read_ascending {w : World} {A : Around} {E : Value → Shared → Prop} {s : Shared} {e : En} {b : PM} {L : Addr} {m : Str → Option Value} {mu : List (Addr × Obj)} {env : Env} {pos : Pos} {Q : Value → Shared → Prop} {t0 : Nat} (S : St w e b L m mu { s with toks := t0 }) (hk : env.scope.kind = .function) (hl : env.kindOf "read_ascending" = some .globalImplicit) (hg : env.globals = mainGlobals) (h : Q (.ref 332) s) : wpAny (model pw w) A (eval (.Name "read_ascending" pos) env) Q E s := n_glob (S.toks s.toks) (v := .ref 332) (by kernel_rfl!) hk hl hg (by decide +kernel) h
theorem n_read_span {w : World} {A : Around} {E : Value → Shared → Prop} {s : Shared} {e : En} {b : PM} {L : Addr} {m : Str → Option Value} {mu : List (Addr × Obj)} {env : Env} {pos : Pos} {Q : Value → Shared → Prop} {t0 : Nat} (S : St w e b L m mu { s with toks := t0 }) (hk : env.scope.kind = .function) (hl : env.kindOf "read_span" = some .globalImplicit) (hg : env.globals = mainGlobals) (h : Q (.ref 339) s) : wpAny (model pw w) A (eval (.Name "read_span" pos) env) Q E s := n_glob (S.toks s.toks) (v := .ref 339) (by kernel_rfl!) hk hl hg (by decide +kernel) h
theorem n_read_spans {w : World} {A : Around} {E : Value → Shared → Prop} {s : Shared} {e : En} {b : PM} {L : Addr} {m : Str → Option Value} {mu : List (Addr × Obj)} {env : Env} {pos : Pos} {Q : Value → Shared → Prop} {t0 : Nat} (S : St w e b L m mu { s with toks := t0 }) (hk : env.scope.kind = .function) (hl : env.kindOf "read_spans" = some .globalImplicit) (hg : env.globals = mainGlobals) (h : Q (.ref 346) s) : wpAny (model pw w) A (eval (.Name "read_spans" pos) env) Q E s := n_glob (S.toks s.toks) (v := .ref 346) (by kernel_rfl!) hk hl hg (by decide +kernel) h
theorem n_read_coverage {w : World} {A : Around} {E : Value → Shared → Prop} {s : Shared} {e : En} {b : PM} {L : Addr} {m : Str → Option Value} {mu : List (Addr × Obj)} {env : Env} {pos : Pos} {Q : Value → Shared → Prop} {t0 : Nat} (S : St w e b L m mu { s with toks := t0 }) (hk : env.scope.kind = .function) (hl : env.kindOf "read_coverage" = some .globalImplicit) (hg : env.globals = mainGlobals) (h : Q (.ref 353) s) : wpAny (model pw w) A (eval (.Name "read_coverage" pos) env) Q E s := n_glob (S.toks s.toks) (v := .ref 353) (by kernel_rfl!) hk hl hg (by decide +kernel) h
theorem n_write_coverage {w : World} {A : Around} {E : Value → Shared → Prop} {s : Shared} {e : En} {b : PM} {L : Addr} {m : Str → Option Value} {mu : List (Addr × Obj)} {env : Env} {pos : Pos} {Q : Value → Shared → Prop} {t0 : Nat} (S : St w e b L m mu { s with toks := t0 }) (hk : env.scope.kind = .function) (hl : env.kindOf "write_coverage" = some .globalImplicit) (hg : env.globals = mainGlobals) (h : Q (.ref 361) s) : wpAny (model pw w) A (eval (.Name "write_coverage" pos) env) Q E s := n_glob (S.toks s.toks) (v := .ref 361) (by kernel_rfl!) hk hl hg (by decide +kernel) h
theorem n_by_glyph {w : World} {A : Around} {E : Value → Shared → Prop} {s : Shared} {e : En} {b : PM} {L : Addr} {m : Str → Option Value} {mu : List (Addr × Obj)} {env : Env} {pos : Pos} {Q : Value → Shared → Prop} {t0 : Nat} (S : St w e b L m mu { s with toks := t0 }) (hk : env.scope.kind = .function) (hl : env.kindOf "by_glyph" = some .globalImplicit) (hg : env.globals = mainGlobals) (h : Q (.ref 369) s) : wpAny (model pw w) A (eval (.Name "by_glyph" pos) env) Q E s := n_glob (S.toks s.toks) (v := .ref 369) (by kernel_rfl!) hk hl hg (by decide +kernel) h
theorem n_place_of {w : World} {A : Around} {E : Value → Shared → Prop} {s : Shared} {e : En} {b : PM} {L : Addr} {m : Str → Option Value} {mu : List (Addr × Obj)} {env : Env} {pos : Pos} {Q : Value → Shared → Prop} {t0 : Nat} (S : St w e b L m mu { s with toks := t0 }) (hk : env.scope.kind = .function) (hl : env.kindOf "place_of" = some .globalImplicit) (hg : env.globals = mainGlobals) (h : Q (.ref 376) s) : wpAny (model pw w) A (eval (.Name "place_of" pos) env) Q E s := n_glob (S.toks s.toks) (v := .ref 376) (by kernel_rfl!) hk hl hg (by decide +kernel) h
theorem n_read_coverages {w : World} {A : Around} {E : Value → Shared → Prop} {s : Shared} {e : En} {b : PM} {L : Addr} {m : Str → Option Value} {mu : List (Addr × Obj)} {env : Env} {pos : Pos} {Q : Value → Shared → Prop} {t0 : Nat} (S : St w e b L m mu { s with toks := t0 }) (hk : env.scope.kind = .function) (hl : env.kindOf "read_coverages" = some .globalImplicit) (hg : env.globals = mainGlobals) (h : Q (.ref 383) s) : wpAny (model pw w) A (eval (.Name "read_coverages" pos) env) Q E s := n_glob (S.toks s.toks) (v := .ref 383) (by kernel_rfl!) hk hl hg (by decide +kernel) h
theorem n_put_counted {w : World} {A : Around} {E : Value → Shared → Prop} {s : Shared} {e : En} {b : PM} {L : Addr} {m : Str → Option Value} {mu : List (Addr × Obj)} {env : Env} {pos : Pos} {Q : Value → Shared → Prop} {t0 : Nat} (S : St w e b L m mu { s with toks := t0 }) (hk : env.scope.kind = .function) (hl : env.kindOf "put_counted" = some .globalImplicit) (hg : env.globals = mainGlobals) (h : Q (.ref 390) s) : wpAny (model pw w) A (eval (.Name "put_counted" pos) env) Q E s := n_glob (S.toks s.toks) (v := .ref 390) (by kernel_rfl!) hk hl hg (by decide +kernel) h
theorem n_Reverse {w : World} {A : Around} {E : Value → Shared → Prop} {s : Shared} {e : En} {b : PM} {L : Addr} {m : Str → Option Value} {mu : List (Addr × Obj)} {env : Env} {pos : Pos} {Q : Value → Shared → Prop} {t0 : Nat} (S : St w e b L m mu { s with toks := t0 }) (hk : env.scope.kind = .function) (hl : env.kindOf "Reverse" = some .globalImplicit) (hg : env.globals = mainGlobals) (h : Q (.ref 412) s) : wpAny (model pw w) A (eval (.Name "Reverse" pos) env) Q E s := n_glob (S.toks s.toks) (v := .ref 412) (by kernel_rfl!) hk hl hg (by decide +kernel) h
theorem n_read_reverse {w : World} {A : Around} {E : Value → Shared → Prop} {s : Shared} {e : En} {b : PM} {L : Addr} {m : Str → Option Value} {mu : List (Addr × Obj)} {env : Env} {pos : Pos} {Q : Value → Shared → Prop} {t0 : Nat} (S : St w e b L m mu { s with toks := t0 }) (hk : env.scope.kind = .function) (hl : env.kindOf "read_reverse" = some .globalImplicit) (hg : env.globals = mainGlobals) (h : Q (.ref 423) s) : wpAny (model pw w) A (eval (.Name "read_reverse" pos) env) Q E s := n_glob (S.toks s.toks) (v := .ref 423) (by kernel_rfl!) hk hl hg (by decide +kernel) h
theorem n_write_reverse {w : World} {A : Around} {E : Value → Shared → Prop} {s : Shared} {e : En} {b : PM} {L : Addr} {m : Str → Option Value} {mu : List (Addr × Obj)} {env : Env} {pos : Pos} {Q : Value → Shared → Prop} {t0 : Nat} (S : St w e b L m mu { s with toks := t0 }) (hk : env.scope.kind = .function) (hl : env.kindOf "write_reverse" = some .globalImplicit) (hg : env.globals = mainGlobals) (h : Q (.ref 428) s) : wpAny (model pw w) A (eval (.Name "write_reverse" pos) env) Q E s := n_glob (S.toks s.toks) (v := .ref 428) (by kernel_rfl!) hk hl hg (by decide +kernel) h
theorem n_law_taker {w : World} {A : Around} {E : Value → Shared → Prop} {s : Shared} {e : En} {b : PM} {L : Addr} {m : Str → Option Value} {mu : List (Addr × Obj)} {env : Env} {pos : Pos} {Q : Value → Shared → Prop} {t0 : Nat} (S : St w e b L m mu { s with toks := t0 }) (hk : env.scope.kind = .function) (hl : env.kindOf "_law_taker" = some .globalImplicit) (hg : env.globals = mainGlobals) (h : Q (.ref 435) s) : wpAny (model pw w) A (eval (.Name "_law_taker" pos) env) Q E s := n_glob (S.toks s.toks) (v := .ref 435) (by kernel_rfl!) hk hl hg (by decide +kernel) h
theorem n_law_set {w : World} {A : Around} {E : Value → Shared → Prop} {s : Shared} {e : En} {b : PM} {L : Addr} {m : Str → Option Value} {mu : List (Addr × Obj)} {env : Env} {pos : Pos} {Q : Value → Shared → Prop} {t0 : Nat} (S : St w e b L m mu { s with toks := t0 }) (hk : env.scope.kind = .function) (hl : env.kindOf "_law_set" = some .globalImplicit) (hg : env.globals = mainGlobals) (h : Q (.ref 440) s) : wpAny (model pw w) A (eval (.Name "_law_set" pos) env) Q E s := n_glob (S.toks s.toks) (v := .ref 440) (by kernel_rfl!) hk hl hg (by decide +kernel) h
theorem n_law_plan {w : World} {A : Around} {E : Value → Shared → Prop} {s : Shared} {e : En} {b : PM} {L : Addr} {m : Str → Option Value} {mu : List (Addr × Obj)} {env : Env} {pos : Pos} {Q : Value → Shared → Prop} {t0 : Nat} (S : St w e b L m mu { s with toks := t0 }) (hk : env.scope.kind = .function) (hl : env.kindOf "_law_plan" = some .globalImplicit) (hg : env.globals = mainGlobals) (h : Q (.ref 445) s) : wpAny (model pw w) A (eval (.Name "_law_plan" pos) env) Q E s := n_glob (S.toks s.toks) (v := .ref 445) (by kernel_rfl!) hk hl hg (by decide +kernel) h
theorem n_law_bent {w : World} {A : Around} {E : Value → Shared → Prop} {s : Shared} {e : En} {b : PM} {L : Addr} {m : Str → Option Value} {mu : List (Addr × Obj)} {env : Env} {pos : Pos} {Q : Value → Shared → Prop} {t0 : Nat} (S : St w e b L m mu { s with toks := t0 }) (hk : env.scope.kind = .function) (hl : env.kindOf "_law_bent" = some .globalImplicit) (hg : env.globals = mainGlobals) (h : Q (.ref 450) s) : wpAny (model pw w) A (eval (.Name "_law_bent" pos) env) Q E s := n_glob (S.toks s.toks) (v := .ref 450) (by kernel_rfl!) hk hl hg (by decide +kernel) h
theorem n_law_made {w : World} {A : Around} {E : Value → Shared → Prop} {s : Shared} {e : En} {b : PM} {L : Addr} {m : Str → Option Value} {mu : List (Addr × Obj)} {env : Env} {pos : Pos} {Q : Value → Shared → Prop} {t0 : Nat} (S : St w e b L m mu { s with toks := t0 }) (hk : env.scope.kind = .function) (hl : env.kindOf "_law_made" = some .globalImplicit) (hg : env.globals = mainGlobals) (h : Q (.ref 455) s) : wpAny (model pw w) A (eval (.Name "_law_made" pos) env) Q E s := n_glob (S.toks s.toks) (v := .ref 455) (by kernel_rfl!) hk hl hg (by decide +kernel) h
theorem n_law_means {w : World} {A : Around} {E : Value → Shared → Prop} {s : Shared} {e : En} {b : PM} {L : Addr} {m : Str → Option Value} {mu : List (Addr × Obj)} {env : Env} {pos : Pos} {Q : Value → Shared → Prop} {t0 : Nat} (S : St w e b L m mu { s with toks := t0 }) (hk : env.scope.kind = .function) (hl : env.kindOf "_law_means" = some .globalImplicit) (hg : env.globals = mainGlobals) (h : Q (.ref 460) s) : wpAny (model pw w) A (eval (.Name "_law_means" pos) env) Q E s := n_glob (S.toks s.toks) (v := .ref 460) (by kernel_rfl!) hk hl hg (by decide +kernel) h
theorem n_len {w : World} {A : Around} {E : Value → Shared → Prop} {s : Shared} {e : En} {b : PM} {L : Addr} {m : Str → Option Value} {mu : List (Addr × Obj)} {env : Env} {pos : Pos} {Q : Value → Shared → Prop} {t0 : Nat} (S : St w e b L m mu { s with toks := t0 }) (hk : env.scope.kind = .function) (hl : env.kindOf "len" = some .globalImplicit) (hg : env.globals = mainGlobals) (hb : env.builtins = builtinsNs) (h : Q (.builtin "len") s) : wpAny (model pw w) A (eval (.Name "len" pos) env) Q E s := n_blt (S.toks s.toks) (by kernel_rfl!) (v := .builtin "len") (by boot_by_name) (by decide +kernel) hk hl hg hb (by decide +kernel) h
theorem n_range {w : World} {A : Around} {E : Value → Shared → Prop} {s : Shared} {e : En} {b : PM} {L : Addr} {m : Str → Option Value} {mu : List (Addr × Obj)} {env : Env} {pos : Pos} {Q : Value → Shared → Prop} {t0 : Nat} (S : St w e b L m mu { s with toks := t0 }) (hk : env.scope.kind = .function) (hl : env.kindOf "range" = some .globalImplicit) (hg : env.globals = mainGlobals) (hb : env.builtins = builtinsNs) (h : Q (.type "range") s) : wpAny (model pw w) A (eval (.Name "range" pos) env) Q E s := n_blt (S.toks s.toks) (by kernel_rfl!) (v := .type "range") (by boot_by_name) (by decide +kernel) hk hl hg hb (by decide +kernel) h
theorem n_bytes {w : World} {A : Around} {E : Value → Shared → Prop} {s : Shared} {e : En} {b : PM} {L : Addr} {m : Str → Option Value} {mu : List (Addr × Obj)} {env : Env} {pos : Pos} {Q : Value → Shared → Prop} {t0 : Nat} (S : St w e b L m mu { s with toks := t0 }) (hk : env.scope.kind = .function) (hl : env.kindOf "bytes" = some .globalImplicit) (hg : env.globals = mainGlobals) (hb : env.builtins = builtinsNs) (h : Q (.type "bytes") s) : wpAny (model pw w) A (eval (.Name "bytes" pos) env) Q E s := n_blt (S.toks s.toks) (by kernel_rfl!) (v := .type "bytes") (by boot_by_name) (by decide +kernel) hk hl hg hb (by decide +kernel) h
theorem n_bytearray {w : World} {A : Around} {E : Value → Shared → Prop} {s : Shared} {e : En} {b : PM} {L : Addr} {m : Str → Option Value} {mu : List (Addr × Obj)} {env : Env} {pos : Pos} {Q : Value → Shared → Prop} {t0 : Nat} (S : St w e b L m mu { s with toks := t0 }) (hk : env.scope.kind = .function) (hl : env.kindOf "bytearray" = some .globalImplicit) (hg : env.globals = mainGlobals) (hb : env.builtins = builtinsNs) (h : Q (.type "bytearray") s) : wpAny (model pw w) A (eval (.Name "bytearray" pos) env) Q E s := n_blt (S.toks s.toks) (by kernel_rfl!) (v := .type "bytearray") (by boot_by_name) (by decide +kernel) hk hl hg hb (by decide +kernel) h
theorem n_sorted {w : World} {A : Around} {E : Value → Shared → Prop} {s : Shared} {e : En} {b : PM} {L : Addr} {m : Str → Option Value} {mu : List (Addr × Obj)} {env : Env} {pos : Pos} {Q : Value → Shared → Prop} {t0 : Nat} (S : St w e b L m mu { s with toks := t0 }) (hk : env.scope.kind = .function) (hl : env.kindOf "sorted" = some .globalImplicit) (hg : env.globals = mainGlobals) (hb : env.builtins = builtinsNs) (h : Q (.builtin "sorted") s) : wpAny (model pw w) A (eval (.Name "sorted" pos) env) Q E s := n_blt (S.toks s.toks) (by kernel_rfl!) (v := .builtin "sorted") (by boot_by_name) (by decide +kernel) hk hl hg hb (by decide +kernel) h
theorem n_tuple {w : World} {A : Around} {E : Value → Shared → Prop} {s : Shared} {e : En} {b : PM} {L : Addr} {m : Str → Option Value} {mu : List (Addr × Obj)} {env : Env} {pos : Pos} {Q : Value → Shared → Prop} {t0 : Nat} (S : St w e b L m mu { s with toks := t0 }) (hk : env.scope.kind = .function) (hl : env.kindOf "tuple" = some .globalImplicit) (hg : env.globals = mainGlobals) (hb : env.builtins = builtinsNs) (h : Q (.type "tuple") s) : wpAny (model pw w) A (eval (.Name "tuple" pos) env) Q E s := n_blt (S.toks s.toks) (by kernel_rfl!) (v := .type "tuple") (by boot_by_name) (by decide +kernel) hk hl hg hb (by decide +kernel) h
theorem n_list {w : World} {A : Around} {E : Value → Shared → Prop} {s : Shared} {e : En} {b : PM} {L : Addr} {m : Str → Option Value} {mu : List (Addr × Obj)} {env : Env} {pos : Pos} {Q : Value → Shared → Prop} {t0 : Nat} (S : St w e b L m mu { s with toks := t0 }) (hk : env.scope.kind = .function) (hl : env.kindOf "list" = some .globalImplicit) (hg : env.globals = mainGlobals) (hb : env.builtins = builtinsNs) (h : Q (.type "list") s) : wpAny (model pw w) A (eval (.Name "list" pos) env) Q E s := n_blt (S.toks s.toks) (by kernel_rfl!) (v := .type "list") (by boot_by_name) (by decide +kernel) hk hl hg hb (by decide +kernel) h
theorem n_dict {w : World} {A : Around} {E : Value → Shared → Prop} {s : Shared} {e : En} {b : PM} {L : Addr} {m : Str → Option Value} {mu : List (Addr × Obj)} {env : Env} {pos : Pos} {Q : Value → Shared → Prop} {t0 : Nat} (S : St w e b L m mu { s with toks := t0 }) (hk : env.scope.kind = .function) (hl : env.kindOf "dict" = some .globalImplicit) (hg : env.globals = mainGlobals) (hb : env.builtins = builtinsNs) (h : Q (.type "dict") s) : wpAny (model pw w) A (eval (.Name "dict" pos) env) Q E s := n_blt (S.toks s.toks) (by kernel_rfl!) (v := .type "dict") (by boot_by_name) (by decide +kernel) hk hl hg hb (by decide +kernel) h
theorem n_set {w : World} {A : Around} {E : Value → Shared → Prop} {s : Shared} {e : En} {b : PM} {L : Addr} {m : Str → Option Value} {mu : List (Addr × Obj)} {env : Env} {pos : Pos} {Q : Value → Shared → Prop} {t0 : Nat} (S : St w e b L m mu { s with toks := t0 }) (hk : env.scope.kind = .function) (hl : env.kindOf "set" = some .globalImplicit) (hg : env.globals = mainGlobals) (hb : env.builtins = builtinsNs) (h : Q (.type "set") s) : wpAny (model pw w) A (eval (.Name "set" pos) env) Q E s := n_blt (S.toks s.toks) (by kernel_rfl!) (v := .type "set") (by boot_by_name) (by decide +kernel) hk hl hg hb (by decide +kernel) h
theorem ite_no {c : Bool} {P Q : Prop} (hc : c = false) (h : Q) : if c = true then P else Q := by rw [hc]; exact h
theorem ite_yes {c : Bool} {P Q : Prop} (hc : c = true) (h : P) : if c = true then P else Q := by rw [hc]; exact h
theorem n_loc' {w : World} {A : Around} {E : Value → Shared → Prop} {s : Shared} {e : En} {b : PM} {L : Addr} {m : Str → Option Value} {mu : List (Addr × Obj)} {env : Env} {x : Str} {pos : Pos} {v : Value} {Q : Value → Shared → Prop} {t0 : Nat} (S : St w e b L m mu { s with toks := t0 }) (hL : env.locals = L) (hv : m x = some v) (hk : env.scope.kind = .function) (hl : env.kindOf x = some .local) (hd : (x == ("__debug__" : Str)) = false) (h : Q v s) :
    wpAny (model pw w) A (eval (.Name x pos) env) Q E s := by subst hL; exact n_loc (S.toks s.toks) hv hk hl hd h
theorem st_loc' {w : World} {A : Around} {E : Value → Shared → Prop} {s s0 : Shared} {e : En} {b : PM} {L : Addr} {m : Str → Option Value} {mu : List (Addr × Obj)} {env : Env} {x : Str} {v : Value} {Q : Unit → Shared → Prop} {t0 : Nat} (S : St w e b L m mu { s0 with heap := s.heap, toks := t0 }) (hq : s = { s0 with heap := s.heap, toks := s.toks }) (hL : env.locals = L) (hl : env.kindOf x = some .local) (hp : (env.scope.kind == .class || (env.scope.kind == .module && env.locals != env.globals)) = false)
    (h : ∀ h' t', St w e b L (ext m x v) mu { s0 with heap := h', toks := t' } → Q () { s0 with heap := h', toks := t' }) : wpAny (model pw w) A (storeName env x v) Q E s := by
  subst hL
  refine st_loc (s := s) (by rw [hq]; exact S.toks s.toks) hl hp fun h' t' S' => ?_
  rw [hq] at S' ⊢
  exact h h' t' S'
-- W5
section
variable {w : World} {A : Around} {E : Value → Shared → Prop} {s : Shared} {e : En} {b : PM} {L : Addr} {m : Str → Option Value} {mu : List (Addr × Obj)} {env : Env}
theorem St.toFront {p : Addr × Obj} (S : St w e b L m (mu ++ [p]) s) : St w e b L m (p :: mu) s := S.perm (by
  have := @List.perm_append_comm _ mu [p]
  simpa using this)
theorem St.toBack {p : Addr × Obj} (S : St w e b L m (p :: mu) s) : St w e b L m (mu ++ [p]) s := S.perm (by
  have := @List.perm_append_comm _ [p] mu
  simpa using this)
theorem St.turn {a : Addr} {o o' : Obj} {h' : Heap} {t : Nat} (S : St w e b L m ((a, o) :: mu) s) (g : h'.get? a = some o') (k : ∀ c oc, c ≠ a → s.heap.get? c = some oc → h'.get? c = some oc) :
    St w e b L m ((a, o') :: mu) { s with heap := h', toks := t } := by
  have hs := S.tu _ (.head _)
  have nd := List.nodup_cons.mp (by simpa only [List.map_cons] using S.nd)
  refine nay fun hG => ?_
  obtain ⟨oL, es, ep, hL, r⟩ := S.ns
  refine hG ?_; clear hG
  refine ⟨S.base, fun c oc q => ?_, S.up, S.new, fun c oc q q' => ?_, ⟨oL, es, ep, k _ _ hs.2.1.symm hL, r⟩, S.Lnew, S.Lb, fun p hp => ?_, by simpa only [List.map_cons] using S.nd⟩
  · exact k c oc (fun z => by subst z; rw [hs.2.2.1] at q; cases q) (S.sub c oc q)
  · refine k c oc (fun z => ?_) (S.keep c oc q q')
    subst z
    rcases hs.2.2.2 with z | z
    · exact q' z
    · exact absurd (Heap.lt_size q) (Nat.not_lt.mpr z)
  · rcases List.mem_cons.mp hp with rfl | hp
    · exact ⟨g, hs.2⟩
    · have z := S.tu p (.tail _ hp)
      exact ⟨k _ _ (fun q => nd.1 (List.mem_map.mpr ⟨p, hp, q⟩)) z.1, z.2⟩
theorem for_walk {R : Result → Shared → Prop} {x : Str} {px : Pos} {body : List Stmt} {I : Addr} {fp : List Addr} {n : Nat} {P : Nat → Value → Prop} {Z : Nat → Heap → Prop} {oI : Obj}
    (W : Walks pw w A I fp [I] n P Z) (hZ : ∀ i h, Z i h → ∃ o, h.get? I = some o) (hfp : ∀ a ∈ fp, a = I ∨ ∃ o, b a = some o) (S : St w e b L m (mu ++ [(I, oI)]) s) (h0 : Z 0 s.heap)
    (hL : env.locals = L) (hl : env.kindOf x = some .local) (hp : (env.scope.kind == .class || (env.scope.kind == .module && env.locals != env.globals)) = false)
    (J : Nat → PM → (Str → Option Value) → List (Addr × Obj) → Prop) (hJ : J 0 b m mu)
    (turn : ∀ i v b' m' mu' oI' h' t', i < n → P i v → J i b' m' mu' → (∀ a o, b a = some o → b' a = some o) → St w e b' L (ext m' x v) (mu' ++ [(I, oI')]) { s with heap := h', toks := t' } →
      wpAny (model pw w) A (execs body env) (fun f s' => match f with
        | .next | .cont => ∃ b'' m'' mu'' h'' t'', s' = { s with heap := h'', toks := t'' } ∧ J (i + 1) b'' m'' mu'' ∧ (∀ a o, b a = some o → b'' a = some o) ∧ St w e b'' L m'' (mu'' ++ [(I, oI')]) { s with heap := h'', toks := t'' }
        | .brk => R (.ok .next) s'
        | .ret v => R (.ok (.ret v)) s') (fun _ _ => False) { s with heap := h', toks := t' })
    (done : ∀ b' m' mu' h' t', J n b' m' mu' → (∀ a o, b a = some o → b' a = some o) → St w e b' L m' mu' { s with heap := h', toks := t' } → R (.ok .next) { s with heap := h', toks := t' }) :
    codeAny (model pw w) A (.forLoop (.Name x px) (.ref I) body [] env) R s := by
  subst hL
  refine codeAny_forLoop (fun k s' => ∃ i b' m' mu' oI' h' t', s' = { s with heap := h', toks := t' } ∧ i ≤ n ∧ k = n + 1 - i ∧ J i b' m' mu' ∧ (∀ a o, b a = some o → b' a = some o) ∧ Z i h' ∧ St w e b' env.locals m' (mu' ++ [(I, oI')]) { s with heap := h', toks := t' }) ?_ (n + 1)
    ⟨0, b, m, mu, oI, s.heap, s.toks, rfl, Nat.zero_le _, rfl, hJ, fun _ _ q => q, h0, S⟩
  intro k s' hx1
  refine nay fun hG => ?_
  obtain ⟨i, b', m', mu', oI', h', t', rfl, hi, rfl, hJi, hb, hz, S'⟩ := hx1
  refine hG ?_; clear hG
  by_cases hlt : i < n
  · refine W.item i _ _ _ hlt hz fun v h₁ t₁ hP hz₁ hk₁ => ?_
    obtain ⟨o₁, g₁⟩ := hZ _ _ hz₁
    have S₁ : St w e b' env.locals m' (mu' ++ [(I, o₁)]) { s with heap := h₁, toks := t₁ } := (S'.toFront.turn g₁ fun c oc q q' => hk₁ c oc (by simpa using q) q').toBack
    refine wpAny_assign_Name (wpAny_storeName_local hl S₁.ns (fun h₂ hn₂ hs₂ => ?_) hp)
    have S₂ : St w e b' env.locals (ext m' x v) (mu' ++ [(I, o₁)]) { s with heap := h₂, toks := t₁ + 1 } := S₁.set hn₂ hs₂
    refine wpAny_mono (turn i v b' m' mu' o₁ h₂ (t₁ + 1) hlt hP hJi hb S₂) (fun f s₃ h₃ => ?_) fun _ _ z => z.elim
    have fin : (∃ b'' m'' mu'' h'' t'', s₃ = { s with heap := h'', toks := t'' } ∧ J (i + 1) b'' m'' mu'' ∧ (∀ a o, b a = some o → b'' a = some o) ∧ St w e b'' env.locals m'' (mu'' ++ [(I, o₁)]) { s with heap := h'', toks := t'' }) →
        ∃ k', k' < n + 1 - i ∧ ∃ i b' m' mu' oI' h' t', s₃ = { s with heap := h', toks := t' } ∧ i ≤ n ∧ k' = n + 1 - i ∧ J i b' m' mu' ∧ (∀ a o, b a = some o → b' a = some o) ∧ Z i h' ∧ St w e b' env.locals m' (mu' ++ [(I, oI')]) { s with heap := h', toks := t' } := by
      intro hx1
      refine nay fun hG => ?_
      obtain ⟨b'', m'', mu'', h'', t'', rfl, hJ', hb'', S₄⟩ := hx1
      refine hG ?_; clear hG
      refine ⟨n + 1 - (i + 1), by lia, i + 1, b'', m'', mu'', o₁, h'', t'', rfl, hlt, rfl, hJ', hb'', ?_, S₄⟩
      have S₃I := S₂.toFront.tu _ (.head _)
      have S₄I := S₄.toFront.tu _ (.head _)
      have nl : I ≠ env.locals := S₃I.2.1
      have g2 : h₂.get? I = some o₁ := S₃I.1
      refine W.frame _ _ _ hz₁ fun a ha o q => ?_
      rcases hfp a ha with rfl | ⟨oa, hoa⟩
      · rw [g₁] at q; cases q; exact S₄I.1
      · have q1 : h₁.get? a = some oa := S₁.sub a oa (hb a oa hoa)
        rw [q1] at q; cases q
        exact S₄.sub a _ (hb'' a _ hoa)
    cases f with
    | next => exact fin h₃
    | cont => exact fin h₃
    | brk => exact h₃
    | ret v => exact h₃
  · have hin : i = n := by lia
    subst hin
    refine W.done _ _ _ hz fun h₁ t₁ hk₁ => wpAny_execs_nil ?_
    have S₀ := S'.toFront.drop
    have hI := S'.toFront.tu _ (.head _)
    have ndI := List.nodup_cons.mp (by simpa only [List.map_cons] using S'.toFront.nd)
    refine done b' m' mu' h₁ t₁ hJi hb ?_
    have kk : ∀ c oc, c ≠ I → h'.get? c = some oc → h₁.get? c = some oc := fun c oc q q' => hk₁ c oc (by simpa using q) q'
    refine nay fun hG => ?_
    obtain ⟨oL, es, ep, hLL, r⟩ := S₀.ns
    refine hG ?_; clear hG
    refine ⟨S₀.base, fun c oc q => kk c oc (fun z => by subst z; rw [hI.2.2.1] at q; cases q) (S₀.sub c oc q), S₀.up, S₀.new, fun c oc q q' => kk c oc (fun z => ?_) (S₀.keep c oc q q'), ⟨oL, es, ep, kk _ _ hI.2.1.symm hLL, r⟩, S₀.Lnew, S₀.Lb, fun p hp => ?_, S₀.nd⟩
    · subst z
      rcases hI.2.2.2 with z | z
      · exact q' z
      · exact absurd (Heap.lt_size q) (Nat.not_lt.mpr z)
    · have z := S₀.tu p hp
      exact ⟨kk _ _ (fun q => ndI.1 (List.mem_map.mpr ⟨p, hp, q⟩)) z.1, z.2⟩
end
-- W6
noncomputable abbrev tupO (vs : Array Value) : Obj := { cls := .type "tuple", data := .seq vs }
section
variable {w : World} {A : Around} {E : Value → Shared → Prop} {s : Shared} {e : En} {b : PM} {L : Addr} {m : Str → Option Value} {mu : List (Addr × Obj)} {env : Env}
theorem St.leave {oL : Obj} (S : St w e b L m mu s) (g : s.heap.get? L = some oL) {C : Addr} {mC : Str → Option Value} {h' : Heap} {t : Nat} (k : ∀ a o, s.heap.get? a = some o → h'.get? a = some o) (hn : h'.Ns C mC) (hC : s.heap.get? C = none) (hCn : e.h.objs.size ≤ C) :
    St w e b C mC (mu ++ [(L, oL)]) { s with heap := h', toks := t } := by
  have bC : b C = none := by
    cases q : b C with
    | none => rfl
    | some o => have := S.sub _ _ q; rw [hC] at this; cases this
  refine ⟨S.base, fun a o q => k a o (S.sub a o q), S.up, S.new, fun a o q q' => k a o (S.keep a o q q'), hn, hCn, bC, fun p hp => ?_, ?_⟩
  · rcases List.mem_append.mp hp with hp | hp
    · have z := S.tu p hp
      exact ⟨k _ _ z.1, (fun q => by have z1 := z.1; rw [q, hC] at z1; cases z1), z.2.2⟩
    · rw [List.mem_singleton.mp hp]
      exact ⟨k _ _ g, (fun q => by rw [show L = C from q, hC] at g; cases g), S.Lb, Or.inr S.Lnew⟩
  · rw [List.map_append]
    refine List.nodup_append.mpr ⟨S.nd, by simp, fun a ha c hc q => ?_⟩
    subst q
    refine nay fun hG => ?_
    obtain ⟨p, hp, rfl⟩ := List.mem_map.mp ha
    refine hG ?_; clear hG
    simp at hc
    exact (S.tu p hp).2.1 hc
theorem St.back {oL : Obj} {C : Addr} {mC : Str → Option Value} (S : St w e b C mC (mu ++ [(L, oL)]) s) {h₀ : Heap} (hLn : e.h.objs.size ≤ L) (hL : h₀.get? L = some oL) (hn : h₀.Ns L m) {h' : Heap} {t : Nat} (hs : Heap.SameBut C s.heap h') : St w e b L m mu { s with heap := h', toks := t } := by
  have T := S.toFront
  have zL := T.tu _ (.head _)
  have nd := List.nodup_cons.mp (by simpa only [List.map_cons] using T.nd)
  have kk : ∀ a o, a ≠ C → s.heap.get? a = some o → h'.get? a = some o := fun a o q q' => (hs.2 a q).trans q'
  have T' := T.drop
  refine nay fun hG => ?_
  obtain ⟨o, es, ep, ho, r⟩ := hn
  refine hG ?_; clear hG
  rw [hL] at ho; cases ho
  refine ⟨T'.base, fun a o q => kk a o (fun z => by subst z; rw [T'.Lb] at q; cases q) (T'.sub a o q), T'.up, T'.new, fun a o q q' => kk a o (fun z => ?_) (T'.keep a o q q'), ⟨_, es, ep, kk _ _ zL.2.1 zL.1, r⟩, hLn, zL.2.2.1, fun p hp => ?_, T'.nd⟩
  · subst z
    exact absurd (Heap.lt_size q) (Nat.not_lt.mpr T'.Lnew)
  · have z := T'.tu p hp
    exact ⟨kk _ _ z.2.1 z.1, fun q => nd.1 (List.mem_map.mpr ⟨p, hp, q⟩), z.2.2⟩
theorem comp_block {Q : Value → Shared → Prop} {elt iter : Expr} {x : Str} {px : Pos} {scope : Scope} {cl : List (Str × Addr)} {pos : Pos} {I : Addr} {fp : List Addr} {n : Nat} {P : Nat → Value → Prop} {Z : Nat → Heap → Prop} {oI : Obj}
    (W : Walks pw w A I fp [I] n P Z) (hZ : ∀ i h, Z i h → ∃ o, h.get? I = some o) (hfp : ∀ a ∈ fp, a = I ∨ ∃ o, b a = some o) (S : St w e b L m (mu ++ [(I, oI)]) s) (h0 : Z 0 s.heap) (hsz : n ≤ 1000)
    (hcell : ∀ y ∈ scope.names, y.2 ≠ .cell) (hkind : scope.kind = .function) (hx : scope.names.lookup x = some .local)
    (J : Nat → PM → List (Addr × Obj) → Array Value → Prop) (hJ : J 0 b mu #[])
    (turn : ∀ i v b' mC mu' ys tl h' t' C, i < n → P i v → J i b' mu' ys → (∀ a o, b a = some o → b' a = some o) → St w e b' C (ext mC x v) (mu' ++ tl) { s with heap := h', toks := t' } →
      wpAny (model pw w) A (eval elt (compEnvC scope cl C env)) (fun y s' => ∃ b'' mC'' mu'' h'' t'', s' = { s with heap := h'', toks := t'' } ∧ J (i + 1) b'' mu'' (ys.push y) ∧ (∀ a o, b a = some o → b'' a = some o) ∧ St w e b'' C mC'' (mu'' ++ tl) { s with heap := h'', toks := t'' })
        (fun _ _ => False) { s with heap := h', toks := t' })
    (done : ∀ b' mu' ys k D h' t', ys.size = n → J n b' mu' ys → (∀ a o, b a = some o → b' a = some o) → St w e b' L m ((D, listOf ys k) :: mu') { s with heap := h', toks := t' } → e.h.objs.size ≤ D → Q (.ref D) { s with heap := h', toks := t' }) :
    wpAny (model pw w) A (newList []) (fun acc s₃ => wpAny (model pw w) A (newFunctionEnv scope env.globals cl [] env.qual none .none (some env)) (fun cenv s₄ =>
      codeAny (model pw w) A (.compStart (.ListComp elt [⟨.Name x px, iter, [], 0⟩] scope pos) 0 (.ref I) acc { cenv with scope := relabel scope env }) (compPost (model pw w) A E none Q acc cenv.locals) s₄) E s₃) E s := by
  refine wpAny_newObj_type (wpAny_newFunctionEnv hcell (by intro y hy; simp at hy) (fun h₁ hns₁ hsb₁ => ?_) hkind)
  have hH2 : (s.heap.push (listOf #[] 0)).objs.size = s.heap.objs.size + 1 := Heap.size_push ..
  have S1 := S.pushM (listOf #[] 0) (t := s.toks)
  refine nay fun hG => ?_
  obtain ⟨oL, hoL⟩ : ∃ o, (s.heap.push (listOf #[] 0)).get? L = some o := let ⟨o, _, _, h, _⟩ := S1.ns; ⟨o, h⟩
  refine hG ?_; clear hG
  have hC0 : (s.heap.push (listOf #[] 0)).get? (s.heap.push (listOf #[] 0)).objs.size = none := by
    cases q : (s.heap.push (listOf #[] 0)).get? (s.heap.push (listOf #[] 0)).objs.size with
    | none => rfl
    | some o => exact absurd (Heap.lt_size q) (Nat.lt_irrefl _)
  have old : ∀ a o, (s.heap.push (listOf #[] 0)).get? a = some o → h₁.get? a = some o := fun a o q => hsb₁.extBut a o (Nat.ne_of_lt (Heap.lt_size q)) (Heap.get?_push_of_some _ q)
  have hDn : e.h.objs.size ≤ s.heap.objs.size := S.size
  generalize hDD : s.heap.objs.size = D at *
  generalize hCC : (s.heap.push (listOf #[] 0)).objs.size = C at *
  have S2 : St w e b C (fun x => [].reverse.lookup x) (mu ++ [(D, listOf #[] 0), (I, oI), (L, oL)]) { s with heap := h₁, toks := s.toks + ([] : List (Str × Value)).length } := by
    have z := S1.leave hoL (C := C) (h' := h₁) (t := s.toks + ([] : List (Str × Value)).length) old hns₁ hC0 (by lia)
    refine z.perm ?_
    have := List.perm_middle (a := (D, listOf #[] 0)) (l₁ := mu) (l₂ := [(I, oI), (L, oL)])
    simpa using this.symm
  have hz₁ : Z 0 h₁ := W.frame _ _ _ h0 fun a _ o q => old a o (Heap.get?_push_of_some _ q)
  have loop : ∀ s₃ : Shared, s₃ = { s with heap := h₁, toks := s.toks + ([] : List (Str × Value)).length } →
      codeAny (model pw w) A (.compLoop (.ListComp elt [⟨.Name x px, iter, [], 0⟩] scope pos) 0 (.ref I) (.ref D) (compEnvC scope cl C env)) (compPost (model pw w) A E none Q (.ref D) C) s₃ := by
    rintro s₃ rfl
    refine codeAny_compLoop_tests (fun k s' => ∃ i b' mC mu' ys kk oI' h' t', s' = { s with heap := h', toks := t' } ∧ i ≤ n ∧ k = n + 1 - i ∧ ys.size = i ∧ J i b' mu' ys ∧ (∀ a o, b a = some o → b' a = some o) ∧ Z i h' ∧
      St w e b' C mC (mu' ++ [(D, listOf ys kk), (I, oI'), (L, oL)]) { s with heap := h', toks := t' }) ?_ (n + 1)
      ⟨0, b, _, mu, #[], 0, oI, h₁, _, rfl, Nat.zero_le _, rfl, rfl, hJ, fun _ _ q => q, hz₁, S2⟩
    intro k s' hx1
    refine nay fun hG => ?_
    obtain ⟨i, b', mC, mu', ys, kk, oI', h', t', rfl, hi, rfl, hys, hJi, hb, hz, S'⟩ := hx1
    refine hG ?_; clear hG
    have pI : ∀ (o : Obj), (mu' ++ [(D, listOf ys kk), (I, o), (L, oL)]).Perm ((I, o) :: (mu' ++ [(D, listOf ys kk), (L, oL)])) := fun o => by
      have := List.perm_middle (a := (I, o)) (l₁ := mu' ++ [(D, listOf ys kk)]) (l₂ := [(L, oL)])
      simpa using this
    by_cases hlt : i < n
    · refine W.item i _ _ _ hlt hz fun v h₂ t₂ hP hz₂ hk₂ => ?_
      obtain ⟨o₂, g₂⟩ := hZ _ _ hz₂
      have S₃ : St w e b' C mC (mu' ++ [(D, listOf ys kk), (I, o₂), (L, oL)]) { s with heap := h₂, toks := t₂ } := ((S'.perm (pI oI')).turn g₂ fun c oc q q' => hk₂ c oc (by simpa using q) q').perm (pI o₂).symm
      refine wpAny_assign_Name (wpAny_storeName_local (env := compEnvC scope cl C env) (lookup_relabel_local hx) S₃.ns (fun h₃ hn₃ hs₃ => ?_) (by simp [compEnvC, relabel, hkind]))
      have S₄ : St w e b' C (ext mC x v) (mu' ++ [(D, listOf ys kk), (I, o₂), (L, oL)]) { s with heap := h₃, toks := t₂ + 1 } := S₃.set hn₃ hs₃
      refine wpAny_pure (a := true) ?_
      rw [if_pos rfl]
      refine wpAny_mono (turn i v b' mC mu' ys [(D, listOf ys kk), (I, o₂), (L, oL)] h₃ (t₂ + 1) C hlt hP hJi hb S₄) (fun y s₅ h₅ => ?_) fun _ _ z => z.elim
      refine nay fun hG => ?_
      obtain ⟨b'', mC'', mu'', h'', t'', rfl, hJ', hb'', S₅⟩ := h₅
      refine hG ?_; clear hG
      have pD : ∀ (o : Obj), (mu'' ++ [(D, o), (I, o₂), (L, oL)]).Perm ((D, o) :: (mu'' ++ [(I, o₂), (L, oL)])) := fun o => List.perm_middle
      have S₅D := S₅.perm (pD _)
      refine append_at (hsz := by rw [hys, sizeLine_eq]; lia) (S₅D.tu _ (.head _)).1 fun h₆ hs₆ g₆ => ?_
      have S₆ : St w e b'' C mC'' (mu'' ++ [(D, listOf (ys.push y) (kk + 1)), (I, o₂), (L, oL)]) { s with heap := h₆, toks := t'' } := (S₅D.turn g₆ fun c oc q q' => hs₆.extBut c oc q q').perm (pD _).symm
      refine ⟨n + 1 - (i + 1), by lia, i + 1, b'', mC'', mu'', ys.push y, kk + 1, o₂, h₆, t'', rfl, hlt, rfl, by rw [Array.size_push, hys], hJ', hb'', ?_, S₆⟩
      refine W.frame _ _ _ hz₂ fun a ha o q => ?_
      have hI3 : h₃.get? I = some o₂ := (S₄.perm (pI o₂) |>.tu _ (.head _)).1
      rcases hfp a ha with rfl | ⟨oa, hoa⟩
      · rw [g₂] at q; cases q
        have := S₆.tu (a, o₂) (by simp)
        exact this.1
      · have q1 : h₂.get? a = some oa := S₃.sub a oa (hb a oa hoa)
        rw [q1] at q; cases q
        exact S₆.sub a _ (hb'' a _ hoa)
    · have hin : i = n := by lia
      subst hin
      refine W.done _ _ _ hz fun h₂ t₂ hk₂ => ?_
      refine ⟨mC, ?_, fun h₃ hs₃ => ?_⟩
      · have hI := (S'.perm (pI oI')).tu _ (.head _)
        exact S'.ns.at' fun o q => hk₂ C o (by simpa using hI.2.1.symm) q
      · have T := (S'.perm (pI oI'))
        have hI := T.tu _ (.head _)
        have T0 := T.drop
        have ndI := List.nodup_cons.mp (by simpa only [List.map_cons] using T.nd)
        have kk2 : ∀ c oc, c ≠ I → h'.get? c = some oc → h₂.get? c = some oc := fun c oc q q' => hk₂ c oc (by simpa using q) q'
        refine nay fun hG => ?_
        obtain ⟨oC, esC, epC, hCC', rC⟩ := T0.ns
        refine hG ?_; clear hG
        have T1 : St w e b' C mC (mu' ++ [(D, listOf ys kk), (L, oL)]) { s with heap := h₂, toks := t₂ } := by
          refine ⟨T0.base, fun c oc q => kk2 c oc (fun z => by subst z; rw [hI.2.2.1] at q; cases q) (T0.sub c oc q), T0.up, T0.new, fun c oc q q' => kk2 c oc (fun z => ?_) (T0.keep c oc q q'), ⟨oC, esC, epC, kk2 _ _ hI.2.1.symm hCC', rC⟩, T0.Lnew, T0.Lb, fun p hp => ?_, T0.nd⟩
          · subst z
            rcases hI.2.2.2 with z | z
            · exact q' z
            · exact absurd (Heap.lt_size q) (Nat.not_lt.mpr z)
          · have z := T0.tu p hp
            exact ⟨kk2 _ _ (fun q => ndI.1 (List.mem_map.mpr ⟨p, hp, q⟩)) z.1, z.2⟩
        have T2 : St w e b' C mC (((D, listOf ys kk) :: mu') ++ [(L, oL)]) { s with heap := h₂, toks := t₂ } := T1.perm (by
          have := List.perm_middle (a := (D, listOf ys kk)) (l₁ := mu') (l₂ := [(L, oL)])
          simpa using this)
        exact done b' mu' ys kk D h₃ t₂ hys hJi hb (T2.back S.Lnew hoL S1.ns hs₃) hDn
  exact codeAny_compStart_list (loop _ rfl) (W.self 0 _ _ _ hz₁ (loop _ rfl))
end
-- W7
section
variable {w : World} {A : Around} {E : Value → Shared → Prop} {s : Shared}
noncomputable def ent (P : Params) (x : Str) (t : Tok) (v : Value) : DictEntry := ⟨PyData.keyHash P x, .str x t, v⟩
theorem set_attr {x C dx : Addr} {name : Str} {v : Value} {es : List DictEntry} {n : Nat} {Q : Unit → Shared → Prop} (X : (K w.params).In s.heap) (hx : s.heap.get? x = some (instObj C dx)) (hd : s.heap.get? dx = some (dictOf es n))
    (hs : findIn (K w.params) (.ref C) "__setattr__" = some (some (.builtin "object.__setattr__"))) (hp : plainOver (K w.params) C = true) (ht : takerIn (K w.params) C name = some none) (hh : hasDictIn (K w.params) C = true)
    (hk : (!es.any (·.key.isStr name) && es.any (·.refKey)) = false) (hz : es.length ≤ 1000) (hz' : (putL name (PyData.keyHash w.params name) (.str name (s.toks + 1)) v es).length ≤ 1000)
    (h : ∀ t', Q () { s with heap := s.heap.update dx (Obj.putName name (PyData.keyHash w.params name) (.str name (s.toks + 1)) v), toks := t' }) : wpAny (model pw w) A (setAttr (.ref x) name v) Q E s := by
  refine nay fun hG => ?_
  obtain ⟨hp', gg, dd, tt, oo⟩ := s
  refine hG ?_; clear hG
  dsimp only at *
  have I : InstAt hp' x (instObj C dx) C (some (dictOf es n)) := ⟨hx, rfl, rfl, hd⟩
  refine set_plain X I hs ?_
  refine osa_open (s := ⟨hp', gg, dd, tt + 1, oo⟩) X I hp ht fun bb => ?_
  refine nay fun hG => ?_
  obtain ⟨cd, hc, hd'⟩ := any_some hh
  refine hG ?_; clear hG
  have D := hd
  have e := putName_dict name (PyData.keyHash w.params name) (.str name (tt + 1)) v es n
  have D' : (hp'.update dx (Obj.putName name (PyData.keyHash w.params name) (.str name (tt + 1)) v)).get? dx = some (dictOf (putL name (PyData.keyHash w.params name) (.str name (tt + 1)) v es) (putN name es n)) := by
    rw [← e]; exact Heap.get?_update_self _ D (by rw [e]; rfl)
  refine wpAny_bind (wpAny_pure (wpAny_bind (wpAny_bind (wpAny_loadPart hx (wpAny_bind ((looks_clsIn X hc).at ?_))))))
  rw [hd']
  refine wpAny_pure (a := some dx) (wpAny_bind (wpAny_pure (wpAny_bind ?_)))
  unfold nsSet
  refine wpAny_bind (wpAny_bind (wpAny_askSetting (wpAny_pure (wpAny_bind (wpAny_mkText (wpAny_bind (wpAny_loadPart D ?_)))))))
  show wpAny _ _ (if aRefKeyMayBeTheName name es.toArray then _ else _) _ _ _
  rw [aRefKeyMayBeTheName_at, ← Array.any_toList, ← Array.any_toList, hk]
  refine wpAny_updatePart D ?_
  refine wpAny_bind (wpAny_lookBehind D' (pastItsLine_dict (by rw [List.size_toArray, sizeLine_eq]; lia)) ?_)
  exact wpAny_pure (h _)
theorem get_attr {x C dx : Addr} {name : Str} {v : Value} {es : List DictEntry} {n : Nat} {expr : Bool} {Q : Value → Shared → Prop} (X : (K w.params).In s.heap) (hx : s.heap.get? x = some (instObj C dx)) (hd : s.heap.get? dx = some (dictOf es n))
    (hg : findIn (K w.params) (.ref C) "__getattribute__" = some (some (.builtin "object.__getattribute__"))) (hh : hasDictIn (K w.params) C = true) (ha : findIn (K w.params) (.ref C) name = some none)
    (hl : getL name es = some (some v)) (hv : handedIn v = true) (h : ∀ t', Q v { s with toks := t' }) : wpAny (model pw w) A (getAttr (.ref x) name expr) Q E s :=
  get_value X (od := some (dictOf es n)) ⟨hx, rfl, rfl, hd⟩ hg (findObj_own hh ha rfl hl) hv (h _)
theorem get_meth {x C dx f : Addr} {name : Str} {es : List DictEntry} {n : Nat} {pl : Sem Bool} {Q : Value × List Value → Shared → Prop} (X : (K w.params).In s.heap) (hx : s.heap.get? x = some (instObj C dx)) (hd : s.heap.get? dx = some (dictOf es n))
    (hg : findIn (K w.params) (.ref C) "__getattribute__" = some (some (.builtin "object.__getattribute__"))) (hk : findIn (K w.params) (.ref C) "__getattr__" = some none) (hf : findIn (K w.params) (.ref C) name = some (some (.ref f)))
    (ht : typeIn (K w.params) (.ref f) = some (.type "function")) (hl : getL name es = some none) (h : Q (.ref f, [.ref x]) s) : wpAny (model pw w) A (getMethod (.ref x) name pl) Q E s :=
  method_fn X (od := some (dictOf es n)) ⟨hx, rfl, rfl, hd⟩ hg hk hf ht (by unfold shadowIn; show (lookIn name (dictOf es n)).map _ = _; rw [lookIn_dict, hl]; rfl) h
theorem Room.make {n : Nat} {C : Addr} {vals : List Value} (R : Room A (n + 1)) : Room (A.under (.builtin "type.__call__" ⟨.ref C :: vals, []⟩)) n :=
  ⟨R.hd, by have := R.dp; show A.depth + 1 + n < _; lia, by have := R.un; show A.units + 1 + _ < _; lia⟩
theorem new_inst {C fI : Addr} {rest : List Value} {Q : Value → Shared → Prop} (X : (K w.params).In s.heap) (hm : makesIn (K w.params) C = true) (hi : findIn (K w.params) (.ref C) "__init__" = some (some (.ref fI))) (hf : typeIn (K w.params) (.ref fI) = some (.type "function"))
    (h : codeAny (model pw w) (A.under (.builtin "type.__call__" ⟨.ref C :: rest, []⟩)) (.call (.ref fI) ⟨.ref (s.heap.objs.size + 1) :: rest, []⟩) (fun r s' => r = .ok (.ret .none) ∧ Q (.ref (s.heap.objs.size + 1)) s') { s with heap := (s.heap.push emptyDict).push (instObj C s.heap.objs.size) }) :
    wpAny (model pw w) A (call (.ref C) rest) Q E s := by
  refine nay fun hG => ?_
  obtain ⟨hh, g, d, t, os⟩ := s
  refine hG ?_; clear hG
  refine wpAny_call (make_core (makes_of X hm) (looks_findIn X hi) (fun self => bind_fn X self hf) (.inl rfl) (codeAny_mono h fun r s' z => ?_))
  obtain ⟨rfl, z⟩ := z
  exact ⟨rfl, z⟩
theorem enterC {b : PM} {f : Addr} {fd : FuncData} {body : List Stmt} {args : List Value} {binds : List (Str × Value)} {n : Nat} {R' : Result → Shared → Prop}
    (R : Room A (n + 1)) (B : Base w b) (hs : ∀ a o, b a = some o → s.heap.get? a = some o) (mu : List (Addr × Obj)) (hm : ∀ p ∈ mu, s.heap.get? p.1 = some p.2 ∧ b p.1 = none) (nd : (mu.map (·.1)).Nodup)
    (hf : (K w.params).lookup f = some ⟨.type "function", none, .func fd, #[]⟩) (hc : codeIn (K w.params) fd.code fd.qualname = true) (hbody : fd.body = .stmts body) (hbind : BindsTo s fd ⟨args, []⟩ binds)
    (hcell : ∀ x ∈ fd.scope.names, x.2 ≠ .cell) (hloc : (binds.all fun x => decide (fd.scope.names.lookup x.1 = some .local)) = true) (hco : fd.scope.isCoroutine = false) (hgen : fd.scope.isGenerator = false) (hk : fd.scope.kind = .function)
    (h : ∀ L h₁ t₁, L = s.heap.objs.size → St w ⟨s.heap, b, mu.map (·.1)⟩ b L (extL binds fun _ => none) mu { s with heap := h₁, toks := t₁ } → Room (A.deeper (callEnv fd L f)) n →
      wpAny (model pw w) (A.deeper (callEnv fd L f)) (execs body (callEnv fd L f)) (fun fl s' => R' (.ok (.ret (match fl with | .ret v => v | _ => .none))) s') (fun _ _ => False) { s with heap := h₁, toks := t₁ }) :
    codeAny (model pw w) A (.call (.ref f) ⟨args, []⟩) R' s := by
  have X : (K w.params).In s.heap := B.kin hs
  refine codeAny_call_def R.limit (X _ _ hf) rfl (noLimit_of X) (codeRec_of X hc) hbody hbind hcell (locs hloc) (fun h₁ hn hk₁ => ?_) hco hgen hk
  have S : St w ⟨s.heap, b, mu.map (·.1)⟩ b s.heap.objs.size (extL binds fun _ => none) mu { s with heap := h₁, toks := s.toks + binds.length } := by
    refine ⟨B, fun a o q => hk₁ a o (hs a o q), fun a o q => q, fun a o q => .inl q, fun a o q _ => hk₁ a o q, (by rw [← extL_lookup]; exact hn), Nat.le_refl _, ?_, fun p hp => ⟨hk₁ _ _ (hm p hp).1, Nat.ne_of_lt (Heap.lt_size (hm p hp).1), (hm p hp).2, .inl (List.mem_map_of_mem hp)⟩, nd⟩
    cases q : b s.heap.objs.size with
    | none => rfl
    | some o => exact absurd (Heap.lt_size (hs _ _ q)) (Nat.lt_irrefl _)
  exact wpAny_mono (h _ _ _ rfl S R.deeper) (fun fl s' z => z) fun _ _ z => z.elim
end
-- W8
theorem ga_OctetsIn (P : Params) : findIn (K P) (.ref 163) "__getattribute__" = some (some (.builtin "object.__getattribute__")) := by kernel_rfl!
theorem gt_OctetsIn (P : Params) : findIn (K P) (.ref 163) "__getattr__" = some none := by kernel_rfl!
theorem sa_OctetsIn (P : Params) : findIn (K P) (.ref 163) "__setattr__" = some (some (.builtin "object.__setattr__")) := by kernel_rfl!
theorem po_OctetsIn (P : Params) : plainOver (K P) 163 = true := by kernel_rfl!
theorem hd_OctetsIn (P : Params) : hasDictIn (K P) 163 = true := by kernel_rfl!
theorem mk_OctetsIn (P : Params) : makesIn (K P) 163 = true := by kernel_rfl!
theorem ii_OctetsIn (P : Params) : findIn (K P) (.ref 163) "__init__" = some (some (.ref 92)) := by kernel_rfl!
theorem ty_OctetsIn_init (P : Params) : typeIn (K P) (.ref 92) = some (.type "function") := by kernel_rfl!
theorem kp_OctetsIn (P : Params) : keepIn (K P) (.ref 163) = true := by kernel_rfl!
theorem fa_OctetsIn_data (P : Params) : findIn (K P) (.ref 163) "data" = some none := by kernel_rfl!
theorem ta_OctetsIn_data (P : Params) : takerIn (K P) 163 "data" = some none := by kernel_rfl!
theorem fa_OctetsIn_at (P : Params) : findIn (K P) (.ref 163) "at" = some none := by kernel_rfl!
theorem ta_OctetsIn_at (P : Params) : takerIn (K P) 163 "at" = some none := by kernel_rfl!
theorem fm_OctetsIn_need (P : Params) : findIn (K P) (.ref 163) "need" = some (some (.ref 99)) := by kernel_rfl!
theorem tm_OctetsIn_need (P : Params) : typeIn (K P) (.ref 99) = some (.type "function") := by kernel_rfl!
theorem fm_OctetsIn_number (P : Params) : findIn (K P) (.ref 163) "number" = some (some (.ref 106)) := by kernel_rfl!
theorem tm_OctetsIn_number (P : Params) : typeIn (K P) (.ref 106) = some (.type "function") := by kernel_rfl!
theorem fm_OctetsIn_u16 (P : Params) : findIn (K P) (.ref 163) "u16" = some (some (.ref 120)) := by kernel_rfl!
theorem tm_OctetsIn_u16 (P : Params) : typeIn (K P) (.ref 120) = some (.type "function") := by kernel_rfl!
theorem fm_OctetsIn_rows (P : Params) : findIn (K P) (.ref 163) "rows" = some (some (.ref 153)) := by kernel_rfl!
theorem tm_OctetsIn_rows (P : Params) : typeIn (K P) (.ref 153) = some (.type "function") := by kernel_rfl!
theorem ga_OctetsOut (P : Params) : findIn (K P) (.ref 257) "__getattribute__" = some (some (.builtin "object.__getattribute__")) := by kernel_rfl!
theorem gt_OctetsOut (P : Params) : findIn (K P) (.ref 257) "__getattr__" = some none := by kernel_rfl!
theorem sa_OctetsOut (P : Params) : findIn (K P) (.ref 257) "__setattr__" = some (some (.builtin "object.__setattr__")) := by kernel_rfl!
theorem po_OctetsOut (P : Params) : plainOver (K P) 257 = true := by kernel_rfl!
theorem hd_OctetsOut (P : Params) : hasDictIn (K P) 257 = true := by kernel_rfl!
theorem mk_OctetsOut (P : Params) : makesIn (K P) 257 = true := by kernel_rfl!
theorem ii_OctetsOut (P : Params) : findIn (K P) (.ref 257) "__init__" = some (some (.ref 186)) := by kernel_rfl!
theorem ty_OctetsOut_init (P : Params) : typeIn (K P) (.ref 186) = some (.type "function") := by kernel_rfl!
theorem kp_OctetsOut (P : Params) : keepIn (K P) (.ref 257) = true := by kernel_rfl!
theorem fa_OctetsOut_made (P : Params) : findIn (K P) (.ref 257) "made" = some none := by kernel_rfl!
theorem ta_OctetsOut_made (P : Params) : takerIn (K P) 257 "made" = some none := by kernel_rfl!
theorem fm_OctetsOut_u16 (P : Params) : findIn (K P) (.ref 257) "u16" = some (some (.ref 200)) := by kernel_rfl!
theorem tm_OctetsOut_u16 (P : Params) : typeIn (K P) (.ref 200) = some (.type "function") := by kernel_rfl!
theorem fm_OctetsOut_rows (P : Params) : findIn (K P) (.ref 257) "rows" = some (some (.ref 233)) := by kernel_rfl!
theorem tm_OctetsOut_rows (P : Params) : typeIn (K P) (.ref 233) = some (.type "function") := by kernel_rfl!
theorem fm_OctetsOut_add (P : Params) : findIn (K P) (.ref 257) "add" = some (some (.ref 240)) := by kernel_rfl!
theorem tm_OctetsOut_add (P : Params) : typeIn (K P) (.ref 240) = some (.type "function") := by kernel_rfl!
theorem fm_OctetsOut_octets (P : Params) : findIn (K P) (.ref 257) "octets" = some (some (.ref 254)) := by kernel_rfl!
theorem tm_OctetsOut_octets (P : Params) : typeIn (K P) (.ref 254) = some (.type "function") := by kernel_rfl!
theorem ga_Coverage (P : Params) : findIn (K P) (.ref 307) "__getattribute__" = some (some (.builtin "object.__getattribute__")) := by kernel_rfl!
theorem gt_Coverage (P : Params) : findIn (K P) (.ref 307) "__getattr__" = some none := by kernel_rfl!
theorem sa_Coverage (P : Params) : findIn (K P) (.ref 307) "__setattr__" = some (some (.builtin "object.__setattr__")) := by kernel_rfl!
theorem po_Coverage (P : Params) : plainOver (K P) 307 = true := by kernel_rfl!
theorem hd_Coverage (P : Params) : hasDictIn (K P) 307 = true := by kernel_rfl!
theorem mk_Coverage (P : Params) : makesIn (K P) 307 = true := by kernel_rfl!
theorem ii_Coverage (P : Params) : findIn (K P) (.ref 307) "__init__" = some (some (.ref 283)) := by kernel_rfl!
theorem ty_Coverage_init (P : Params) : typeIn (K P) (.ref 283) = some (.type "function") := by kernel_rfl!
theorem kp_Coverage (P : Params) : keepIn (K P) (.ref 307) = true := by kernel_rfl!
theorem fa_Coverage_glyphs (P : Params) : findIn (K P) (.ref 307) "glyphs" = some none := by kernel_rfl!
theorem ta_Coverage_glyphs (P : Params) : takerIn (K P) 307 "glyphs" = some none := by kernel_rfl!
theorem fm_Coverage_told (P : Params) : findIn (K P) (.ref 307) "told" = some (some (.ref 304)) := by kernel_rfl!
theorem tm_Coverage_told (P : Params) : typeIn (K P) (.ref 304) = some (.type "function") := by kernel_rfl!
theorem ga_Reverse (P : Params) : findIn (K P) (.ref 412) "__getattribute__" = some (some (.builtin "object.__getattribute__")) := by kernel_rfl!
theorem gt_Reverse (P : Params) : findIn (K P) (.ref 412) "__getattr__" = some none := by kernel_rfl!
theorem sa_Reverse (P : Params) : findIn (K P) (.ref 412) "__setattr__" = some (some (.builtin "object.__setattr__")) := by kernel_rfl!
theorem po_Reverse (P : Params) : plainOver (K P) 412 = true := by kernel_rfl!
theorem hd_Reverse (P : Params) : hasDictIn (K P) 412 = true := by kernel_rfl!
theorem mk_Reverse (P : Params) : makesIn (K P) 412 = true := by kernel_rfl!
theorem ii_Reverse (P : Params) : findIn (K P) (.ref 412) "__init__" = some (some (.ref 404)) := by kernel_rfl!
theorem ty_Reverse_init (P : Params) : typeIn (K P) (.ref 404) = some (.type "function") := by kernel_rfl!
theorem kp_Reverse (P : Params) : keepIn (K P) (.ref 412) = true := by kernel_rfl!
theorem fa_Reverse_mapping (P : Params) : findIn (K P) (.ref 412) "mapping" = some none := by kernel_rfl!
theorem ta_Reverse_mapping (P : Params) : takerIn (K P) 412 "mapping" = some none := by kernel_rfl!
theorem fa_Reverse_back (P : Params) : findIn (K P) (.ref 412) "back" = some none := by kernel_rfl!
theorem ta_Reverse_back (P : Params) : takerIn (K P) 412 "back" = some none := by kernel_rfl!
theorem fa_Reverse_ahead (P : Params) : findIn (K P) (.ref 412) "ahead" = some none := by kernel_rfl!
theorem ta_Reverse_ahead (P : Params) : takerIn (K P) 412 "ahead" = some none := by kernel_rfl!
theorem fm_Reverse_told (P : Params) : findIn (K P) (.ref 412) "told" = some (some (.ref 409)) := by kernel_rfl!
theorem tm_Reverse_told (P : Params) : typeIn (K P) (.ref 409) = some (.type "function") := by kernel_rfl!
theorem kp_f_check_room (P : Params) : keepIn (K P) (.ref 70) = true := by kernel_rfl!
theorem kp_f_number_at (P : Params) : keepIn (K P) (.ref 77) = true := by kernel_rfl!
theorem kp_f_OctetsIn_need (P : Params) : keepIn (K P) (.ref 99) = true := by kernel_rfl!
theorem kp_f_OctetsIn_number (P : Params) : keepIn (K P) (.ref 106) = true := by kernel_rfl!
theorem kp_f_OctetsIn_u16 (P : Params) : keepIn (K P) (.ref 120) = true := by kernel_rfl!
theorem kp_f_OctetsIn_rows (P : Params) : keepIn (K P) (.ref 153) = true := by kernel_rfl!
theorem kp_f_number_octets (P : Params) : keepIn (K P) (.ref 172) = true := by kernel_rfl!
theorem kp_f_OctetsOut_u16 (P : Params) : keepIn (K P) (.ref 200) = true := by kernel_rfl!
theorem kp_f_OctetsOut_rows (P : Params) : keepIn (K P) (.ref 233) = true := by kernel_rfl!
theorem kp_f_OctetsOut_add (P : Params) : keepIn (K P) (.ref 240) = true := by kernel_rfl!
theorem kp_f_OctetsOut_octets (P : Params) : keepIn (K P) (.ref 254) = true := by kernel_rfl!
theorem kp_f_laid (P : Params) : keepIn (K P) (.ref 269) = true := by kernel_rfl!
theorem kp_f_Coverage_told (P : Params) : keepIn (K P) (.ref 304) = true := by kernel_rfl!
theorem kp_f_coverage_of (P : Params) : keepIn (K P) (.ref 318) = true := by kernel_rfl!
theorem kp_f_ranges_of (P : Params) : keepIn (K P) (.ref 325) = true := by kernel_rfl!
theorem kp_f_read_ascending (P : Params) : keepIn (K P) (.ref 332) = true := by kernel_rfl!
theorem kp_f_read_span (P : Params) : keepIn (K P) (.ref 339) = true := by kernel_rfl!
theorem kp_f_read_spans (P : Params) : keepIn (K P) (.ref 346) = true := by kernel_rfl!
theorem kp_f_read_coverage (P : Params) : keepIn (K P) (.ref 353) = true := by kernel_rfl!
theorem kp_f_write_coverage (P : Params) : keepIn (K P) (.ref 361) = true := by kernel_rfl!
theorem kp_f_by_glyph (P : Params) : keepIn (K P) (.ref 369) = true := by kernel_rfl!
theorem kp_f_place_of (P : Params) : keepIn (K P) (.ref 376) = true := by kernel_rfl!
theorem kp_f_read_coverages (P : Params) : keepIn (K P) (.ref 383) = true := by kernel_rfl!
theorem kp_f_put_counted (P : Params) : keepIn (K P) (.ref 390) = true := by kernel_rfl!
theorem kp_f_Reverse_told (P : Params) : keepIn (K P) (.ref 409) = true := by kernel_rfl!
theorem kp_f_read_reverse (P : Params) : keepIn (K P) (.ref 423) = true := by kernel_rfl!
theorem kp_f_write_reverse (P : Params) : keepIn (K P) (.ref 428) = true := by kernel_rfl!
theorem kp_f_law_taker (P : Params) : keepIn (K P) (.ref 435) = true := by kernel_rfl!
theorem kp_f_law_set (P : Params) : keepIn (K P) (.ref 440) = true := by kernel_rfl!
theorem kp_f_law_plan (P : Params) : keepIn (K P) (.ref 445) = true := by kernel_rfl!
theorem kp_f_law_bent (P : Params) : keepIn (K P) (.ref 450) = true := by kernel_rfl!
theorem kp_f_law_made (P : Params) : keepIn (K P) (.ref 455) = true := by kernel_rfl!
theorem kp_f_law_means (P : Params) : keepIn (K P) (.ref 460) = true := by kernel_rfl!
theorem inC_OctetsIn__init_2 {w : World} {A : Around} {s : Shared} {b : PM} {k : Nat} {R' : Result → Shared → Prop} {body : List Stmt} {x0 x1 : Value} (hbody : f_OctetsIn__init.body = .stmts body)
    (R : Room A (k + 1)) (B : Base w b) (hs : ∀ a o, b a = some o → s.heap.get? a = some o) (mu : List (Addr × Obj)) (hm : ∀ p ∈ mu, s.heap.get? p.1 = some p.2 ∧ b p.1 = none) (nd : (mu.map (·.1)).Nodup)
    (h : ∀ L h₁ t₁, L = s.heap.objs.size → St w ⟨s.heap, b, mu.map (·.1)⟩ b L (extL [("self", x0), ("data", x1), ("at", .int 0 290)] fun _ => none) mu { s with heap := h₁, toks := t₁ } → Room (A.deeper (callEnv f_OctetsIn__init L 92)) k →
      wpAny (model pw w) (A.deeper (callEnv f_OctetsIn__init L 92)) (execs body (callEnv f_OctetsIn__init L 92)) (fun fl s' => R' (.ok (.ret (match fl with | .ret v => v | _ => .none))) s') (fun _ _ => False) { s with heap := h₁, toks := t₁ }) :
    codeAny (model pw w) A (.call (.ref 92) ⟨[x0, x1], []⟩) R' s :=
  enterC R B hs mu hm nd (lk_OctetsIn__init _) (cd_OctetsIn__init _) hbody (binds_K (B.kin hs) (T := 85) rfl (by rfl) rfl rfl rfl) (by decide +kernel) (by kernel_rfl!) (by kernel_rfl!) (by kernel_rfl!) (by kernel_rfl!) h
theorem inC_OctetsIn__init {w : World} {A : Around} {s : Shared} {b : PM} {k : Nat} {R' : Result → Shared → Prop} {body : List Stmt} {x0 x1 x2 : Value} (hbody : f_OctetsIn__init.body = .stmts body)
    (R : Room A (k + 1)) (B : Base w b) (hs : ∀ a o, b a = some o → s.heap.get? a = some o) (mu : List (Addr × Obj)) (hm : ∀ p ∈ mu, s.heap.get? p.1 = some p.2 ∧ b p.1 = none) (nd : (mu.map (·.1)).Nodup)
    (h : ∀ L h₁ t₁, L = s.heap.objs.size → St w ⟨s.heap, b, mu.map (·.1)⟩ b L (extL [("self", x0), ("data", x1), ("at", x2)] fun _ => none) mu { s with heap := h₁, toks := t₁ } → Room (A.deeper (callEnv f_OctetsIn__init L 92)) k →
      wpAny (model pw w) (A.deeper (callEnv f_OctetsIn__init L 92)) (execs body (callEnv f_OctetsIn__init L 92)) (fun fl s' => R' (.ok (.ret (match fl with | .ret v => v | _ => .none))) s') (fun _ _ => False) { s with heap := h₁, toks := t₁ }) :
    codeAny (model pw w) A (.call (.ref 92) ⟨[x0, x1, x2], []⟩) R' s :=
  enterC R B hs mu hm nd (lk_OctetsIn__init _) (cd_OctetsIn__init _) hbody (binds_K (B.kin hs) (T := 85) rfl (by rfl) rfl rfl rfl) (by decide +kernel) (by kernel_rfl!) (by kernel_rfl!) (by kernel_rfl!) (by kernel_rfl!) h
theorem inC_Coverage__init {w : World} {A : Around} {s : Shared} {b : PM} {k : Nat} {R' : Result → Shared → Prop} {body : List Stmt} {x0 x1 : Value} (hbody : f_Coverage__init.body = .stmts body)
    (R : Room A (k + 1)) (B : Base w b) (hs : ∀ a o, b a = some o → s.heap.get? a = some o) (mu : List (Addr × Obj)) (hm : ∀ p ∈ mu, s.heap.get? p.1 = some p.2 ∧ b p.1 = none) (nd : (mu.map (·.1)).Nodup)
    (h : ∀ L h₁ t₁, L = s.heap.objs.size → St w ⟨s.heap, b, mu.map (·.1)⟩ b L (extL [("self", x0), ("glyphs", x1)] fun _ => none) mu { s with heap := h₁, toks := t₁ } → Room (A.deeper (callEnv f_Coverage__init L 283)) k →
      wpAny (model pw w) (A.deeper (callEnv f_Coverage__init L 283)) (execs body (callEnv f_Coverage__init L 283)) (fun fl s' => R' (.ok (.ret (match fl with | .ret v => v | _ => .none))) s') (fun _ _ => False) { s with heap := h₁, toks := t₁ }) :
    codeAny (model pw w) A (.call (.ref 283) ⟨[x0, x1], []⟩) R' s :=
  enterC R B hs mu hm nd (lk_Coverage__init _) (cd_Coverage__init _) hbody (BindsTo.of_eq rfl) (by decide +kernel) (by kernel_rfl!) (by kernel_rfl!) (by kernel_rfl!) (by kernel_rfl!) h
theorem inC_Reverse__init {w : World} {A : Around} {s : Shared} {b : PM} {k : Nat} {R' : Result → Shared → Prop} {body : List Stmt} {x0 x1 x2 x3 : Value} (hbody : f_Reverse__init.body = .stmts body)
    (R : Room A (k + 1)) (B : Base w b) (hs : ∀ a o, b a = some o → s.heap.get? a = some o) (mu : List (Addr × Obj)) (hm : ∀ p ∈ mu, s.heap.get? p.1 = some p.2 ∧ b p.1 = none) (nd : (mu.map (·.1)).Nodup)
    (h : ∀ L h₁ t₁, L = s.heap.objs.size → St w ⟨s.heap, b, mu.map (·.1)⟩ b L (extL [("self", x0), ("mapping", x1), ("back", x2), ("ahead", x3)] fun _ => none) mu { s with heap := h₁, toks := t₁ } → Room (A.deeper (callEnv f_Reverse__init L 404)) k →
      wpAny (model pw w) (A.deeper (callEnv f_Reverse__init L 404)) (execs body (callEnv f_Reverse__init L 404)) (fun fl s' => R' (.ok (.ret (match fl with | .ret v => v | _ => .none))) s') (fun _ _ => False) { s with heap := h₁, toks := t₁ }) :
    codeAny (model pw w) A (.call (.ref 404) ⟨[x0, x1, x2, x3], []⟩) R' s :=
  enterC R B hs mu hm nd (lk_Reverse__init _) (cd_Reverse__init _) hbody (BindsTo.of_eq rfl) (by decide +kernel) (by kernel_rfl!) (by kernel_rfl!) (by kernel_rfl!) (by kernel_rfl!) h
section
variable {w : World} {A : Around} {E : Value → Shared → Prop} {s : Shared} {e : En} {b : PM} {L : Addr} {m : Str → Option Value} {mu : List (Addr × Obj)}
theorem Grow.put {b' : PM} {h h' : Heap} {X : List Addr} (G : Grow b b' h h' X) {a : Addr} {o : Obj} (g : h'.get? a = some o) (hb : b' a = none) (hn : h.objs.size ≤ a) : Grow b (b'.put a o) h h' X :=
  ⟨fun x ox q => PM.put_le hb o (G.up x ox q), fun x ox q => by
    unfold PM.put at q; split at q
    · rename_i z; subst z; cases q; exact g
    · exact G.sub x ox q, fun x ox q => by
    unfold PM.put at q; split at q
    · rename_i z; subst z; exact .inr hn
    · exact G.new x ox q, G.keep, G.size⟩
theorem St.call0M (S : St w e b L m mu s) {b' : PM} {h' : Heap} {t : Nat} (G : Grow b b' s.heap h' []) {a : Addr} {o : Obj} (g : h'.get? a = some o) (hb : b' a = none) (hn : s.heap.objs.size ≤ a) : St w e b' L m ((a, o) :: mu) { s with heap := h', toks := t } := by
  have T := S.call0 (t := t) G
  refine ⟨T.base, T.sub, T.up, T.new, T.keep, T.ns, T.Lnew, T.Lb, fun p hp => ?_, ?_⟩
  · rcases List.mem_cons.mp hp with rfl | hp
    · exact ⟨g, Nat.ne_of_gt (Nat.lt_of_lt_of_le S.lt hn), hb, .inr (Nat.le_trans S.size hn)⟩
    · exact T.tu p hp
  · rw [List.map_cons]
    refine List.nodup_cons.mpr ⟨fun hm => ?_, T.nd⟩
    refine nay fun hG => ?_
    obtain ⟨p, hp, hp1⟩ := List.mem_map.mp hm
    refine hG ?_; clear hG
    have := S.mu_lt hp
    rw [show p.1 = a from hp1] at this
    exact absurd this (Nat.not_lt.mpr hn)
theorem St.call1M {c : Addr} {oc oc' : Obj} (S : St w e b L m ((c, oc) :: mu) s) {b' : PM} {h' : Heap} {t : Nat} (G : Grow b b' s.heap h' [c]) (gc : h'.get? c = some oc') {a : Addr} {o : Obj} (g : h'.get? a = some o) (hb : b' a = none) (hn : s.heap.objs.size ≤ a) :
    St w e b' L m ((a, o) :: (c, oc') :: mu) { s with heap := h', toks := t } := by
  have T := S.call1 (t := t) G gc
  refine ⟨T.base, T.sub, T.up, T.new, T.keep, T.ns, T.Lnew, T.Lb, fun p hp => ?_, ?_⟩
  · rcases List.mem_cons.mp hp with rfl | hp
    · exact ⟨g, Nat.ne_of_gt (Nat.lt_of_lt_of_le S.lt hn), hb, .inr (Nat.le_trans S.size hn)⟩
    · exact T.tu p hp
  · rw [List.map_cons]
    refine List.nodup_cons.mpr ⟨fun hm => ?_, T.nd⟩
    refine nay fun hG => ?_
    obtain ⟨p, hp, hp1⟩ := List.mem_map.mp hm
    refine hG ?_; clear hG
    have : p.1 < s.heap.objs.size := by
      rcases List.mem_cons.mp hp with rfl | hp
      · exact S.mu_lt (p := (c, oc)) (.head _)
      · exact S.mu_lt (.tail _ hp)
    rw [show p.1 = a from hp1] at this
    exact absurd this (Nat.not_lt.mpr hn)
theorem new_obj {n C fI : Addr} {rest : List Value} {Q : Value → Shared → Prop} (Post : Obj → Prop) (B : Base w b) (hs : ∀ a o, b a = some o → s.heap.get? a = some o)
    (hm : makesIn (K w.params) C = true) (hi : findIn (K w.params) (.ref C) "__init__" = some (some (.ref fI))) (hf : typeIn (K w.params) (.ref fI) = some (.type "function")) (R : Room A (n + 1))
    (h : ∀ (A' : Around) (x dx : Addr) (b₁ : PM) (s₁ : Shared) (R' : Result → Shared → Prop), Room A' n → Base w b₁ → (∀ a o, b₁ a = some o → s₁.heap.get? a = some o) → b₁ x = some (instObj C dx) → (∀ p ∈ [(dx, dictOf [] 0)], s₁.heap.get? p.1 = some p.2 ∧ b₁ p.1 = none) →
      (∀ a o, b a = some o → b₁ a = some o) → (∀ (b' : PM) (L : Addr) (m' : Str → Option Value) (od : Obj) (h' : Heap) (t' : Nat), St w ⟨s₁.heap, b₁, [dx]⟩ b' L m' [(dx, od)] { s₁ with heap := h', toks := t' } → Post od → R' (.ok (.ret .none)) { s₁ with heap := h', toks := t' }) →
      codeAny (model pw w) A' (.call (.ref fI) ⟨.ref x :: rest, []⟩) R' s₁)
    (k : ∀ x dx od b' h' t', Grow b b' s.heap h' [] → b' x = some (instObj C dx) → b' dx = none → h'.get? dx = some od → s.heap.objs.size ≤ dx → Post od → Q (.ref x) { s with heap := h', toks := t' }) :
    wpAny (model pw w) A (call (.ref C) rest) Q E s := by
  refine new_inst (B.kin hs) hm hi hf ?_
  have g0 : (s.heap.push emptyDict).objs.size = s.heap.objs.size + 1 := Heap.size_push ..
  have bn : ∀ a, s.heap.objs.size ≤ a → b a = none := fun a ha => by
    cases q : b a with
    | none => rfl
    | some o => exact absurd (Heap.lt_size (hs _ _ q)) (Nat.not_lt.mpr ha)
  have k2 : ∀ a o, s.heap.get? a = some o → ((s.heap.push emptyDict).push (instObj C s.heap.objs.size)).get? a = some o := fun a o q => Heap.get?_push_of_some _ (Heap.get?_push_of_some _ q)
  have gx : ((s.heap.push emptyDict).push (instObj C s.heap.objs.size)).get? (s.heap.objs.size + 1) = some (instObj C s.heap.objs.size) := by rw [← g0]; exact Heap.get?_push_size _ rfl
  have gd : ((s.heap.push emptyDict).push (instObj C s.heap.objs.size)).get? s.heap.objs.size = some emptyDict := Heap.get?_push_of_some _ (Heap.get?_push_size _ rfl)
  have bx := bn (s.heap.objs.size + 1) (Nat.le_succ _)
  refine h _ (s.heap.objs.size + 1) s.heap.objs.size (b.put (s.heap.objs.size + 1) (instObj C s.heap.objs.size)) _ _ R.make (B.mono fun a o q => PM.put_le bx _ q) (fun a o q => ?_) (PM.put_self ..) (fun p hp => ?_) (fun a o q => PM.put_le bx _ q) fun b' L' m' od h' t' S hp => ⟨rfl, ?_⟩
  · unfold PM.put at q; split at q
    · rename_i z; subst z; cases q; exact gx
    · exact k2 a o (hs a o q)
  · rw [List.mem_singleton.mp hp]
    refine ⟨gd, ?_⟩
    unfold PM.put; rw [if_neg (Nat.ne_of_lt (Nat.lt_succ_self _))]; exact bn _ (Nat.le_refl _)
  · have hd := S.tu _ (.head _)
    refine k (s.heap.objs.size + 1) s.heap.objs.size od b' h' t' ⟨fun a o q => S.up a o (PM.put_le bx _ q), S.sub, fun a o q => ?_, fun a o q _ => ?_, ?_⟩ (S.up _ _ (PM.put_self ..)) hd.2.2.1 hd.1 (Nat.le_refl _) hp
    · rcases S.new a o q with z | z
      · show b a = some o ∨ _
        change b.put _ _ a = some o at z
        unfold PM.put at z; split at z
        · rename_i y; subst y; exact .inr (Nat.le_succ _)
        · exact .inl z
      · right
        have : (s.heap.push emptyDict |>.push (instObj C s.heap.objs.size)).objs.size = s.heap.objs.size + 1 + 1 := by rw [Heap.size_push, g0]
        change (s.heap.push emptyDict |>.push (instObj C s.heap.objs.size)).objs.size ≤ a at z
        lia
    · refine S.keep a o (k2 a o q) fun z => ?_
      have : a = s.heap.objs.size := by simpa using z
      subst this
      exact absurd (Heap.lt_size q) (Nat.lt_irrefl _)
    · have := S.size
      have e2 : (s.heap.push emptyDict |>.push (instObj C s.heap.objs.size)).objs.size = s.heap.objs.size + 1 + 1 := by rw [Heap.size_push, g0]
      change (s.heap.push emptyDict |>.push (instObj C s.heap.objs.size)).objs.size ≤ _ at this
      show s.heap.objs.size ≤ h'.objs.size
      have h2 : _ ≤ h'.objs.size := this
      lia
end
-- CutW
theorem cutW {α : Type} {M : Model} {A : Around} {t : Sem α} {Q : α → Shared → Prop} {E : Value → Shared → Prop} {s : Shared} (k : ∀ K : α → Shared → Prop, (∀ v s', Q v s' → K v s') → wpAny M A t K E s) : wpAny M A t Q E s := k Q fun _ _ h => h
theorem St.frzK {w : World} {e : En} {b : PM} {L : Addr} {m : Str → Option Value} {mu : List (Addr × Obj)} {s : Shared} {a : Addr} {o : Obj} {G : Prop} (S : St w e b L m ((a, o) :: mu) s) (hn : e.h.objs.size ≤ a)
    (k : ∀ b', (∀ c oc, b c = some oc → b' c = some oc) → b' a = some o → St w e b' L m mu s → G) : G :=
  k (b.put a o) (fun _ _ q => PM.put_le (S.tu _ (.head _)).2.2.1 _ q) (PM.put_self ..) (S.freeze hn)
noncomputable def locOk (env : Env) (x : Str) : Bool := (match env.scope.kind with | .function => true | _ => false) && ((match env.kindOf x with | some .local => true | _ => false) && !(x == ("__debug__" : Str)))
theorem locOk_kind {env : Env} {x : Str} (h : locOk env x = true) : env.scope.kind = .function := by
  have := (Bool.and_eq_true_iff.mp h).1
  revert this; cases env.scope.kind <;> intro q <;> first | rfl | cases q
theorem locOk_local {env : Env} {x : Str} (h : locOk env x = true) : env.kindOf x = some .local := by
  have := (Bool.and_eq_true_iff.mp (Bool.and_eq_true_iff.mp h).2).1
  revert this; cases env.kindOf x with
  | none => intro q; cases q
  | some k => cases k <;> intro q <;> first | rfl | cases q
theorem locOk_debug {env : Env} {x : Str} (h : locOk env x = true) : (x == ("__debug__" : Str)) = false := by
  have := (Bool.and_eq_true_iff.mp (Bool.and_eq_true_iff.mp h).2).2
  simpa using this
theorem n_loc2 {w : World} {A : Around} {E : Value → Shared → Prop} {s : Shared} {e : En} {b : PM} {L : Addr} {m : Str → Option Value} {mu : List (Addr × Obj)} {env : Env} {x : Str} {pos : Pos} {v : Value} {Q : Value → Shared → Prop} {t0 : Nat} (S : St w e b L m mu { s with toks := t0 }) (hL : env.locals = L) (hv : m x = some v) (hc : locOk env x = true) (h : Q v s) :
    wpAny (model pw w) A (eval (.Name x pos) env) Q E s := n_loc' S hL hv (locOk_kind hc) (locOk_local hc) (locOk_debug hc) h
theorem turnI {w : World} {e : En} {b' b2 : PM} {C : Addr} {m2 : Str → Option Value} {mu2 tl : List (Addr × Obj)} {h2 : Heap} {t2 : Nat} {s s' : Shared} {P : PM → (Str → Option Value) → List (Addr × Obj) → Prop} (hs : s' = { s with heap := h2, toks := t2 })
    (hP : P b2 m2 mu2) (up : ∀ a o, b' a = some o → b2 a = some o) (S : St w e b2 C m2 (mu2 ++ tl) { s with heap := h2, toks := t2 }) :
    ∃ b3 m3 mu3 h3 t3, s' = { s with heap := h3, toks := t3 } ∧ P b3 m3 mu3 ∧ (∀ a o, b' a = some o → b3 a = some o) ∧ St w e b3 C m3 (mu3 ++ tl) { s with heap := h3, toks := t3 } := ⟨b2, m2, mu2, h2, t2, hs, hP, up, S⟩
-- WA
local macro_rules | `(tactic| walk_at "W look") => `(tactic| first | with_reducible exact ext_here | ((with_reducible refine' ext_skip ?hne ?hnx); (case hne => decide); (case hnx => walk_at "W look")) | assumption)
section
variable {w : World} {A : Around} {E : Value → Shared → Prop} {s : Shared} {e : En} {b : PM} {L : Addr} {m : Str → Option Value} {mu : List (Addr × Obj)}
theorem kinH {hp : Heap} {g d o} {t : Nat} (S : St w e b L m mu ⟨hp, g, d, t, o⟩) : (K w.params).In hp := S.kin
theorem mcall {o : Expr} {name : Str} {apos pos : Pos} {args : List Expr} {env : Env} {Q : Value → Shared → Prop}
    (h : wpAny (model pw w) A (eval o env) (fun ov s₁ => wpAny (model pw w) A (getMethod ov name (do return (← importBound o env).getD true)) (fun fx s₂ => wpAny (model pw w) A (callWith pos fx.1 fx.2 (backTo pos (starEach args env)) []) Q E s₂) E s₁) E s)
    (he : eval (.Call (.Attribute o name apos) args [] pos) env = (do
      let ov ← eval o env
      standAt apos.atName
      let (f, first) ← holding [ov] (getMethod ov name (do return (← importBound o env).getD true))
      callWith pos f first (backTo pos (starEach args env)) [])) :
    wpAny (model pw w) A (eval (.Call (.Attribute o name apos) args [] pos) env) Q E s := MethodCall_ h he
theorem at_mu {C x dx : Addr} {name : Str} {v : Value} {es : List DictEntry} {n : Nat} {expr : Bool} {Q : Value → Shared → Prop} {s0 : Shared} {t0 : Nat}
    (hg : findIn (K w.params) (.ref C) "__getattribute__" = some (some (.builtin "object.__getattribute__"))) (hh : hasDictIn (K w.params) C = true) (ha : findIn (K w.params) (.ref C) name = some none)
    (hl : getL name es = some (some v)) (S : St w e b L m mu { s0 with heap := s.heap, toks := t0 }) (hq : s = { s0 with heap := s.heap, toks := s.toks }) (hx : b x = some (instObj C dx)) (hm : (dx, dictOf es n) ∈ mu) (hv : handedIn v = true) (h : ∀ t', Q v { s0 with heap := s.heap, toks := t' }) :
    wpAny (model pw w) A (getAttr (.ref x) name expr) Q E s :=
  get_attr (show (K w.params).In s.heap from S.kin) (S.get hx) (S.muGet hm) hg hh ha hl hv fun t' => by rw [hq]; exact h t'
theorem at_b {C x dx : Addr} {name : Str} {v : Value} {es : List DictEntry} {n : Nat} {expr : Bool} {Q : Value → Shared → Prop} {s0 : Shared} {t0 : Nat}
    (hg : findIn (K w.params) (.ref C) "__getattribute__" = some (some (.builtin "object.__getattribute__"))) (hh : hasDictIn (K w.params) C = true) (ha : findIn (K w.params) (.ref C) name = some none)
    (hl : getL name es = some (some v)) (S : St w e b L m mu { s0 with heap := s.heap, toks := t0 }) (hq : s = { s0 with heap := s.heap, toks := s.toks }) (hx : b x = some (instObj C dx)) (hm : b dx = some (dictOf es n)) (hv : handedIn v = true) (h : ∀ t', Q v { s0 with heap := s.heap, toks := t' }) :
    wpAny (model pw w) A (getAttr (.ref x) name expr) Q E s :=
  get_attr (show (K w.params).In s.heap from S.kin) (S.get hx) (S.get hm) hg hh ha hl hv fun t' => by rw [hq]; exact h t'
theorem me_mu {C x dx f : Addr} {name : Str} {es : List DictEntry} {n : Nat} {pl : Sem Bool} {Q : Value × List Value → Shared → Prop} {t0 : Nat}
    (hg : findIn (K w.params) (.ref C) "__getattribute__" = some (some (.builtin "object.__getattribute__"))) (hk : findIn (K w.params) (.ref C) "__getattr__" = some none) (hf : findIn (K w.params) (.ref C) name = some (some (.ref f)))
    (ht : typeIn (K w.params) (.ref f) = some (.type "function")) (hl : getL name es = some none) (S : St w e b L m mu { s with toks := t0 }) (hx : b x = some (instObj C dx)) (hm : (dx, dictOf es n) ∈ mu) (h : Q (.ref f, [.ref x]) s) : wpAny (model pw w) A (getMethod (.ref x) name pl) Q E s :=
  get_meth S.kin (S.get hx) (S.muGet hm) hg hk hf ht hl h
theorem me_b {C x dx f : Addr} {name : Str} {es : List DictEntry} {n : Nat} {pl : Sem Bool} {Q : Value × List Value → Shared → Prop} {t0 : Nat}
    (hg : findIn (K w.params) (.ref C) "__getattribute__" = some (some (.builtin "object.__getattribute__"))) (hk : findIn (K w.params) (.ref C) "__getattr__" = some none) (hf : findIn (K w.params) (.ref C) name = some (some (.ref f)))
    (ht : typeIn (K w.params) (.ref f) = some (.type "function")) (hl : getL name es = some none) (S : St w e b L m mu { s with toks := t0 }) (hx : b x = some (instObj C dx)) (hm : b dx = some (dictOf es n)) (h : Q (.ref f, [.ref x]) s) : wpAny (model pw w) A (getMethod (.ref x) name pl) Q E s :=
  get_meth S.kin (S.get hx) (S.get hm) hg hk hf ht hl h
theorem as_mu {C x dx : Addr} {name : Str} {v : Value} {es es' : List DictEntry} {n : Nat} {Q : Unit → Shared → Prop} {s0 : Shared} {t0 : Nat}
    (hs : findIn (K w.params) (.ref C) "__setattr__" = some (some (.builtin "object.__setattr__"))) (hp : plainOver (K w.params) C = true) (ht : takerIn (K w.params) C name = some none) (hh : hasDictIn (K w.params) C = true)
    (hp' : putL name (PyData.keyHash w.params name) (.str name (s.toks + 1)) v es = es') (S : St w e b L m ((dx, dictOf es n) :: mu) { s0 with heap := s.heap, toks := t0 }) (hq : s = { s0 with heap := s.heap, toks := s.toks }) (hx : b x = some (instObj C dx))
    (hk : (!es.any (·.key.isStr name) && es.any (·.refKey)) = false) (hz : es.length ≤ 1000) (hz' : es'.length ≤ 1000)
    (h : ∀ n' h' t', St w e b L m ((dx, dictOf es' n') :: mu) { s0 with heap := h', toks := t' } → Q () { s0 with heap := h', toks := t' }) : wpAny (model pw w) A (setAttr (.ref x) name v) Q E s := by
  refine set_attr (show (K w.params).In s.heap from S.kin) (S.get hx) (S.muGet (.head _)) hs hp ht hh hk hz (by rw [hp']; exact hz') fun t' => ?_
  have e := putName_dict name (PyData.keyHash w.params name) (.str name (s.toks + 1)) v es n
  rw [hp'] at e
  have z := S.upd (t := t') e rfl
  have z2 := h _ _ _ z
  have eqs : ({ s with heap := s.heap.update dx (Obj.putName name (PyData.keyHash w.params name) (.str name (s.toks + 1)) v), toks := t' } : Shared) = { s0 with heap := s.heap.update dx (Obj.putName name (PyData.keyHash w.params name) (.str name (s.toks + 1)) v), toks := t' } := by
    generalize s.heap.update dx (Obj.putName name (PyData.keyHash w.params name) (.str name (s.toks + 1)) v) = hh
    rw [hq]
  rw [eqs]
  exact z2
end
noncomputable abbrev dIn (P : Params) (t1 : Tok) (v1 : Value) (t2 : Tok) (v2 : Value) : List DictEntry := [ent P "data" t1 v1, ent P "at" t2 v2]
noncomputable abbrev dOut (P : Params) (t1 : Tok) (v1 : Value) : List DictEntry := [ent P "made" t1 v1]
noncomputable abbrev dCov (P : Params) (t1 : Tok) (v1 : Value) : List DictEntry := [ent P "glyphs" t1 v1]
noncomputable abbrev dRev (P : Params) (t1 : Tok) (v1 : Value) (t2 : Tok) (v2 : Value) (t3 : Tok) (v3 : Value) : List DictEntry := [ent P "mapping" t1 v1, ent P "back" t2 v2, ent P "ahead" t3 v3]
section
variable {P : Params} {t1 t2 t3 : Tok} {v1 v2 v3 : Value}
theorem gl_data : getL "data" (dIn P t1 v1 t2 v2) = some (some v1) := by kernel_rfl!
theorem gl_at : getL "at" (dIn P t1 v1 t2 v2) = some (some v2) := by kernel_rfl!
theorem gl_u16 : getL "u16" (dIn P t1 v1 t2 v2) = some none := by kernel_rfl!
theorem gl_need : getL "need" (dIn P t1 v1 t2 v2) = some none := by kernel_rfl!
theorem gl_number : getL "number" (dIn P t1 v1 t2 v2) = some none := by kernel_rfl!
theorem gl_rows : getL "rows" (dIn P t1 v1 t2 v2) = some none := by kernel_rfl!
theorem gl_made : getL "made" (dOut P t1 v1) = some (some v1) := by kernel_rfl!
theorem gl_out_u16 : getL "u16" (dOut P t1 v1) = some none := by kernel_rfl!
theorem gl_out_rows : getL "rows" (dOut P t1 v1) = some none := by kernel_rfl!
theorem gl_out_add : getL "add" (dOut P t1 v1) = some none := by kernel_rfl!
theorem gl_out_octets : getL "octets" (dOut P t1 v1) = some none := by kernel_rfl!
theorem gl_glyphs : getL "glyphs" (dCov P t1 v1) = some (some v1) := by kernel_rfl!
theorem gl_cov_told : getL "told" (dCov P t1 v1) = some none := by kernel_rfl!
theorem gl_mapping : getL "mapping" (dRev P t1 v1 t2 v2 t3 v3) = some (some v1) := by kernel_rfl!
theorem gl_back : getL "back" (dRev P t1 v1 t2 v2 t3 v3) = some (some v2) := by kernel_rfl!
theorem gl_ahead : getL "ahead" (dRev P t1 v1 t2 v2 t3 v3) = some (some v3) := by kernel_rfl!
theorem gl_rev_told : getL "told" (dRev P t1 v1 t2 v2 t3 v3) = some none := by kernel_rfl!
theorem pl_data {t : Tok} {v : Value} : putL "data" (PyData.keyHash P "data") (.str "data" t) v [] = [ent P "data" t v] := by kernel_rfl!
theorem pl_at {t : Tok} {v : Value} : putL "at" (PyData.keyHash P "at") (.str "at" t) v [ent P "data" t1 v1] = dIn P t1 v1 t v := by kernel_rfl!
theorem pl_at2 {t : Tok} {v : Value} : putL "at" (PyData.keyHash P "at") (.str "at" t) v (dIn P t1 v1 t2 v2) = dIn P t1 v1 t2 v := by kernel_rfl!
theorem pl_made {t : Tok} {v : Value} : putL "made" (PyData.keyHash P "made") (.str "made" t) v [] = dOut P t v := by kernel_rfl!
theorem pl_glyphs {t : Tok} {v : Value} : putL "glyphs" (PyData.keyHash P "glyphs") (.str "glyphs" t) v [] = dCov P t v := by kernel_rfl!
theorem pl_mapping {t : Tok} {v : Value} : putL "mapping" (PyData.keyHash P "mapping") (.str "mapping" t) v [] = [ent P "mapping" t v] := by kernel_rfl!
theorem pl_back {t : Tok} {v : Value} : putL "back" (PyData.keyHash P "back") (.str "back" t) v [ent P "mapping" t1 v1] = [ent P "mapping" t1 v1, ent P "back" t v] := by kernel_rfl!
theorem pl_ahead {t : Tok} {v : Value} : putL "ahead" (PyData.keyHash P "ahead") (.str "ahead" t) v [ent P "mapping" t1 v1, ent P "back" t2 v2] = dRev P t1 v1 t2 v2 t v := by kernel_rfl!
end
-- W9
local macro_rules | `(tactic| walk_at "n") => `(tactic| (refine n_loc2 (by assumption) (by rfl) (by walk_at "W look") (by kernel_rfl!) ?_))
local macro_rules | `(tactic| walk_at "c") => `(tactic| (refine args_cons ?_ (by kernel_rfl!)))
local macro_rules | `(tactic| walk_at "x") => `(tactic| (with_reducible refine wpAny_execs_cons ?_))
local macro_rules | `(tactic| walk_at "i") => `(tactic| (with_reducible refine wpAny_Constant_int ?_))
local macro_rules | `(tactic| walk_at "z") => `(tactic| (with_reducible refine wpAny_execs_nil ?_))
local macro_rules | `(tactic| walk_at "t") => `(tactic| (with_reducible refine wpAny_truthy_bool ?_))
local macro_rules | `(tactic| walk_at "q") => `(tactic| (refine wpAny_isTrue_Compare1 ?_ (by kernel_rfl!)))
local macro_rules | `(tactic| walk_at "f") => `(tactic| (refine Call_ ?_ (by kernel_rfl!)))
theorem bbot {h : Addr × Obj} {P : Prop} (x : h ∈ ([] : List (Addr × Obj))) : P := nomatch x
theorem c_check_room {w : World} {A : Around} {E : Value → Shared → Prop} {s : Shared} {b : PM} {n : Nat} {d : Array UInt8} {p c : Int} {t1 t2 t3 : Tok} {Q : Value → Shared → Prop} (R : Room A (n + 1)) (B : Base w b) (hs : ∀ a o, b a = some o → s.heap.get? a = some o)
    (h0 : 0 ≤ p) (h1 : p + c ≤ d.size) (hz : d.size ≤ 100000) (k : ∀ b' h' t', Grow b b' s.heap h' [] → Q .none { s with heap := h', toks := t' }) :
    wpAny (model pw w) A (call (.ref 70) [.bytes d t1, .int p t2, .int c t3]) Q E s := by
  refine in_check_room (body := _) rfl R B hs [] (fun _ h => bbot h) List.nodup_nil ?_
  intro L h₁ t₁ hL S R'
  dsimp only [extL] at S
  walk_at "x"
  refine wpAny_If ?_
  with_reducible refine isTrue_or ?_
  walk_at "q"; walk_at "n"; walk_at "i"
  with_reducible refine lt_int ?_
  walk_at "t"
  refine ite_no (decide_eq_false (by lia)) ?_
  with_reducible refine isTrue_or ?_
  walk_at "q"
  with_reducible refine wpAny_BinOp ?_
  walk_at "n"; walk_at "n"
  with_reducible refine add_int ?_
  walk_at "f"
  refine n_len (by assumption) (by kernel_rfl!) (by kernel_rfl!) (by kernel_rfl!) (by kernel_rfl!) ?_
  refine PyProof.Rows.callWith_builtin1 ?_ (by kernel_rfl!) (by kernel_rfl!)
  walk_at "c"; walk_at "n"
  refine args_nil ?_
  refine KBw.len_K rfl (by rw [KBw.ints_length]; lia) ?_
  rw [KBw.ints_length]
  with_reducible refine gt_int ?_
  walk_at "t"
  refine ite_no (decide_eq_false (by lia)) ?_
  with_reducible refine isTrue_or_nil ?_
  with_reducible refine ite_no (by with_reducible rfl) ?_
  walk_at "z"; walk_at "z"
  exact k _ _ _ (St.grow (by assumption))
-- WB
noncomputable def Num (d : Array UInt8) (p : Nat) (x : Int) : Prop := ∃ hi lo : UInt8, d[p]? = some hi ∧ d[p + 1]? = some lo ∧ x = (hi.toNat : Int) * 256 + lo.toNat
theorem bitOr_bytes {a c : Nat} (hc : c < 256) : Builtin.bitOr ((a : Int) * 256) (c : Int) = (a : Int) * 256 + c := by
  rw [bitOr_and]
  have : Builtin.bitAnd ((a : Int) * 256) (c : Int) = 0 := by
    have e : Nat.land (a * 256) c = 0 := by
      refine Nat.eq_of_testBit_eq fun i => ?_
      rw [show Nat.land (a * 256) c = (a * 256) &&& c from rfl, Nat.testBit_and, show a * 256 = 2 ^ 8 * a by lia, Nat.testBit_two_pow_mul, Nat.zero_testBit]
      by_cases hi : 8 ≤ i
      · rw [Nat.testBit_lt_two_pow (Nat.lt_of_lt_of_le hc (by have := Nat.pow_le_pow_right (n := 2) (by decide) hi; lia))]; simp
      · simp [hi]
    unfold Builtin.bitAnd
    have h1 : decide ((0 : Int) ≤ (a : Int) * 256) = true := decide_eq_true (by lia)
    have h2 : decide ((0 : Int) ≤ (c : Int)) = true := decide_eq_true (by lia)
    rw [h1, h2]
    show (((((a : Int) * 256).toNat &&& (c : Int).toNat : Nat)) : Int) = 0
    rw [show ((a : Int) * 256).toNat = a * 256 by lia, Int.toNat_natCast]
    exact congrArg Int.ofNat e
  rw [this]; lia
theorem Num.lt {d : Array UInt8} {p : Nat} {x : Int} (h : Num d p x) : p + 2 ≤ d.size := by
  refine nay fun hG => ?_
  obtain ⟨hi, lo, h1, h2, _⟩ := h
  obtain ⟨q, _⟩ := Array.getElem?_eq_some_iff.mp h2
  refine hG ?_; clear hG
  lia
theorem Num.nn {d : Array UInt8} {p : Nat} {x : Int} (h : Num d p x) : 0 ≤ x ∧ x < 65536 := by
  refine nay fun hG => ?_
  obtain ⟨hi, lo, h1, h2, rfl⟩ := h
  refine hG ?_; clear hG
  have := hi.toNat_lt
  have := lo.toNat_lt
  lia
theorem clip_nat {n k : Nat} (h : k ≤ n) : clipAt n (k : Int) = k := by unfold clipAt; lia
theorem picked2 {d : Array UInt8} {p : Nat} {x : Int} (h : Num d p x) : ∃ hi lo : UInt8, KBy.picked d (some (p : Int)) (some ((p : Int) + 2)) = #[hi, lo] ∧ x = (hi.toNat : Int) * 256 + lo.toNat := by
  have hl := h.lt
  refine nay fun hG => ?_
  obtain ⟨hi, lo, h1, h2, e⟩ := h
  refine hG ?_; clear hG
  refine ⟨hi, lo, ?_, e⟩
  rw [KBc.picked_eq]
  show ((d.toList.drop (clipAt d.size (p : Int))).take (clipAt d.size ((p : Int) + 2) - clipAt d.size (p : Int))).toArray = _
  rw [show ((p : Int) + 2) = ((p + 2 : Nat) : Int) by lia, clip_nat (k := p) (by lia), clip_nat hl, show p + 2 - p = 2 by lia]
  refine nay fun hG => ?_
  obtain ⟨q1, e1⟩ := Array.getElem?_eq_some_iff.mp h1
  obtain ⟨q2, e2⟩ := Array.getElem?_eq_some_iff.mp h2
  refine hG ?_; clear hG
  rw [List.drop_eq_getElem_cons (by simpa using q1), List.drop_eq_getElem_cons (by simpa using q2)]
  simp [e1, e2]
theorem sub_bytes {w : World} {A : Around} {E : Value → Shared → Prop} {s : Shared} {e : En} {b : PM} {L : Addr} {m : Str → Option Value} {mu : List (Addr × Obj)} {value slice : Expr} {d : Array UInt8} {t : Tok} {l u : Value} {lo hi : Option Int} {Q : Value → Shared → Prop} {t0 : Nat}
    (S : St w e b L m mu { s with toks := t0 }) (hl : IsPart l lo) (hu : IsPart u hi) (hz : d.size ≤ 100000)
    (hs : subscripted slice false (.bytes d t) (.ref s.heap.objs.size) = operate [.ref s.heap.objs.size, .bytes d t] (getItem (.bytes d t) (.ref s.heap.objs.size)))
    (ht : ∀ r, letTemporaryGo value (.bytes d t) r = pure ())
    (h : ∀ h' t' k, St w e b L m mu { s with heap := h', toks := k } → Q (.bytes (KBy.picked d lo hi) t') { s with heap := h', toks := k }) :
    wpAny (model pw w) A (subscriptTail value slice (.bytes d t) (.ref s.heap.objs.size)) Q E { s with heap := s.heap.push { cls := .type "slice", data := .fields #[l, u, .none] } } :=
  tail_of_ItemOn ⟨"bytes", _, FB.slot_bytes_getitem.lookup, typeIs_bytes _ _ _, getItem_meets (typeIs_bytes _ _ _) (by decide) FB.slot_bytes_getitem FB.entry_bytes_getitem (FB.args_bytes_getitem_2 _ _) (KBc.meets_slice2 d t _ hl hu)
    ⟨Heap.IsSliceOf.new _ _ _ _, Nat.le_trans (KBc.size_picked_le d lo hi) (by rw [sizeLine_eq]; lia), fun t' k => h _ _ _ ((S.toks s.toks).ext fun a o g => Heap.get?_push_of_some _ g)⟩⟩ hs ht
theorem c_number_at {w : World} {A : Around} {E : Value → Shared → Prop} {s : Shared} {b : PM} {n : Nat} {d : Array UInt8} {p : Nat} {x : Int} {t1 t2 t3 : Tok} {Q : Value → Shared → Prop} (R : Room A (n + 2)) (B : Base w b) (hs : ∀ a o, b a = some o → s.heap.get? a = some o)
    (hx : Num d p x) (hz : d.size ≤ 100000) (k : ∀ t b' h' t', Grow b b' s.heap h' [] → Q (.int x t) { s with heap := h', toks := t' }) :
    wpAny (model pw w) A (call (.ref 77) [.bytes d t1, .int p t2, .int 2 t3]) Q E s := by
  refine in_number_at (body := _) rfl R B hs [] (fun _ h => bbot h) List.nodup_nil ?_
  intro L h₁ t₁ hL S R'
  dsimp only [extL] at S
  walk_at "x"
  refine wpAny_Expr_any ?_ (by kernel_rfl!) (by kernel_rfl!)
  walk_at "f"
  refine n_check_room (by assumption) (by kernel_rfl!) (by kernel_rfl!) (by kernel_rfl!) ?_
  refine callWith_K (kinH (by assumption)) (by with_reducible exact kp_f_check_room _) ?_ (by kernel_rfl!) (by kernel_rfl!)
  walk_at "c"; walk_at "n"; walk_at "c"; walk_at "n"; walk_at "c"; walk_at "n"
  refine args_nil ?_
  refine And.intro (kinH (by assumption)) ?_
  refine c_check_room (n := n) R' S.base S.sub (by lia) (by have := hx.lt; lia) hz fun b' h' t' G => ?_
  replace S := S.call0 (t := t') G
  walk_at "x"
  refine wpAny_Assign_Name ?_ (by kernel_rfl!)
  walk_at "i"
  refine st_loc' (by assumption) (by rfl) rfl (by kernel_rfl!) (by kernel_rfl!) fun _ _ S => ?_
  walk_at "x"
  refine wpAny_For ?_ (by intro _; kernel_rfl!)
  refine Subscript_ ?_
  walk_at "n"
  refine wpAny_Slice ?_
  with_reducible refine evalPart_some_step ?_
  walk_at "n"
  with_reducible refine evalPart_some_step ?_
  with_reducible refine wpAny_BinOp ?_
  walk_at "n"; walk_at "n"
  with_reducible refine add_int ?_
  with_reducible refine evalPart_none_step ?_
  refine sub_bytes (by assumption) (.int _ _) (.int _ _) hz (by with_unfolding_all rfl) (by intro _; with_unfolding_all rfl) fun h₂ t₂ k₂ S => ?_
  refine nay fun hG => ?_
  obtain ⟨hi, lo, e2, ex⟩ := picked2 hx
  refine hG ?_; clear hG
  rw [e2]
  refine KBw.pyIter_bytes ?_
  have S1 := S.pushM { cls := .type "bytes_iterator", data := .fields #[.bytes #[hi, lo] t₂, .int 0 0] } (t := k₂)
  clear S
  dsimp only at S1
  refine for_walk (mu := []) (KBw.walks R'.hd _ #[hi, lo] t₂) (fun i h z => let ⟨o, ho, _⟩ := z; ⟨o, ho⟩) (fun a ha => .inl (List.mem_singleton.mp ha)) S1 ⟨_, Heap.get?_push_size _ rfl, rfl, rfl⟩ rfl (by kernel_rfl!) (by kernel_rfl!)
    (fun i _ m mu => mu = [] ∧ ∃ t, m "total" = some (.int (if i = 0 then 0 else if i = 1 then hi.toNat else x) t)) ⟨rfl, _, ext_here⟩ ?_ ?_
  · intro i v b₁ m₁ mu₁ oI h₁ t₁ hi2 hx1 hx2 hb S
    refine nay fun hG => ?_
    obtain ⟨c, u, hc, rfl⟩ := hx1
    obtain ⟨rfl, tt, hm⟩ := hx2
    refine hG ?_; clear hG
    walk_at "x"
    refine wpAny_Assign_Name ?_ (by kernel_rfl!)
    with_reducible refine wpAny_BinOp ?_
    with_reducible refine wpAny_BinOp ?_
    walk_at "n"; walk_at "i"
    have c1 := hi.toNat_lt
    have c2 := c.toNat_lt
    refine lshift_int_small (by decide) (by decide) (by have := hx.nn; split; · decide
                                                        · split <;> lia) ?_
    walk_at "n"
    refine or_int ?_
    refine st_loc' (by assumption) (by rfl) rfl (by kernel_rfl!) (by kernel_rfl!) fun _ _ S => ?_
    walk_at "z"
    refine turnI (b2 := b₁) (mu2 := []) rfl ⟨rfl, ?tok, ?hh⟩ hb S
    case hh =>
    refine ext_here.trans ?_
    have : i = 0 ∨ i = 1 := by have : i < 2 := hi2; lia
    rcases this with rfl | rfl
    · have : c = hi := by simpa using hc.symm
      subst this
      have e : Builtin.bitOr 0 (c.toNat : Int) = c.toNat := by
        have := @bitOr_bytes 0 c.toNat c2
        simpa using this
      show some (Value.int (Builtin.bitOr (0 * 2 ^ Int.toNat 8) _) _) = _
      rw [Int.zero_mul, e]
      rfl
    · have : c = lo := by simpa using hc.symm
      subst this
      show some (Value.int (Builtin.bitOr ((hi.toNat : Int) * 2 ^ Int.toNat 8) _) _) = _
      rw [show (2 : Int) ^ Int.toNat 8 = 256 from rfl, bitOr_bytes c2, ← ex]
      rfl
  · intro b₁ m₁ mu₁ h₁ t₁ hx1 hb S
    refine nay fun hG => ?_
    obtain ⟨rfl, tt, hm⟩ := hx1
    refine hG ?_; clear hG
    walk_at "x"
    refine wpAny_Return_some ?_
    walk_at "n"
    exact k _ _ _ _ (St.grow (by assumption))
-- WC
noncomputable def InO (P : Params) (d : Array UInt8) (p : Nat) (o : Obj) : Prop := ∃ t1 t2 t3 t4 n, o = dictOf (dIn P t1 (.bytes d t2) t3 (.int (p : Nat) t4)) n
theorem one_mu {h : Heap} {b : PM} {dx : Addr} {od : Obj} (hd : h.get? dx = some od) (hb : b dx = none) : ∀ p ∈ [(dx, od)], h.get? p.1 = some p.2 ∧ b p.1 = none := fun p hp => by rw [List.mem_singleton.mp hp]; exact ⟨hd, hb⟩
theorem one_nd {dx : Addr} {od : Obj} : ([(dx, od)].map (·.1)).Nodup := by simp
section
variable {w : World} {A : Around} {E : Value → Shared → Prop} {s : Shared} {b : PM} {n : Nat} {d : Array UInt8} {p : Nat} {Q : Value → Shared → Prop}
theorem c_new_in {t1 t2 : Tok} (R : Room A (n + 3)) (B : Base w b) (hs : ∀ a o, b a = some o → s.heap.get? a = some o)
    (k : ∀ x dx od b' h' t', Grow b b' s.heap h' [] → b' x = some (instObj 163 dx) → b' dx = none → h'.get? dx = some od → s.heap.objs.size ≤ dx → InO w.params d p od → Q (.ref x) { s with heap := h', toks := t' }) :
    wpAny (model pw w) A (call (.ref 163) [.bytes d t1, .int (p : Nat) t2]) Q E s := by
  refine new_obj (InO w.params d p) B hs (mk_OctetsIn _) (ii_OctetsIn _) (ty_OctetsIn_init _) R ?_ k
  intro A' x dx b₁ s₁ Q' R1 B1 hs1 hx hm hup k1
  refine inC_OctetsIn__init (body := _) rfl R1 B1 hs1 [(dx, dictOf [] 0)] hm one_nd ?_
  intro L h₁ t₁ hL S R'
  dsimp only [extL] at S
  walk_at "x"
  refine plainObj_wpAny_Assign_Attribute ?_ (by kernel_rfl!)
  walk_at "n"; walk_at "n"
  (with_reducible rename St _ _ _ _ _ _ _ => sOld); refine as_mu (sa_OctetsIn _) (po_OctetsIn _) (ta_OctetsIn_data _) (hd_OctetsIn _) pl_data sOld (by rfl) (by assumption) (by kernel_rfl!) (Nat.le_of_ble_eq_true (by kernel_rfl!)) (Nat.le_of_ble_eq_true (by kernel_rfl!)) ?_; clear sOld; intro _ _ _ _
  walk_at "x"
  refine plainObj_wpAny_Assign_Attribute ?_ (by kernel_rfl!)
  walk_at "n"; walk_at "n"
  (with_reducible rename St _ _ _ _ _ _ _ => sOld); refine as_mu (sa_OctetsIn _) (po_OctetsIn _) (ta_OctetsIn_at _) (hd_OctetsIn _) pl_at sOld (by rfl) (by assumption) (by kernel_rfl!) (Nat.le_of_ble_eq_true (by kernel_rfl!)) (Nat.le_of_ble_eq_true (by kernel_rfl!)) ?_; clear sOld; intro _ _ _ _
  walk_at "z"
  exact k1 _ _ _ _ _ _ (by assumption) ⟨_, _, _, _, _, rfl⟩
theorem c_In_need {x dx : Addr} {od : Obj} {c : Int} {t5 : Tok} (R : Room A (n + 3)) (B : Base w b) (hs : ∀ a o, b a = some o → s.heap.get? a = some o)
    (hx : b x = some (instObj 163 dx)) (hb : b dx = none) (hd : s.heap.get? dx = some od) (ho : InO w.params d p od) (hc : (p : Int) + c ≤ d.size) (hz : d.size ≤ 100000)
    (k : ∀ b' h' t', Grow b b' s.heap h' [dx] → h'.get? dx = some od → Q .none { s with heap := h', toks := t' }) :
    wpAny (model pw w) A (call (.ref 99) [.ref x, .int c t5]) Q E s := by
  refine nay fun hG => ?_
  obtain ⟨t1, t2, t3, t4, nn, rfl⟩ := ho
  refine hG ?_; clear hG
  refine in_OctetsIn_need (body := _) rfl R B hs _ (one_mu hd hb) one_nd ?_
  intro L h₁ t₁ hL S R'
  dsimp only [extL] at S
  walk_at "x"
  refine wpAny_Expr_any ?_ (by kernel_rfl!) (by kernel_rfl!)
  walk_at "f"
  refine n_check_room (by assumption) (by kernel_rfl!) (by kernel_rfl!) (by kernel_rfl!) ?_
  refine callWith_K (kinH (by assumption)) (by with_reducible exact kp_f_check_room _) ?_ (by kernel_rfl!) (by kernel_rfl!)
  walk_at "c"
  refine Attribute_any_ ?_ (by kernel_rfl!)
  walk_at "n"
  refine at_mu (ga_OctetsIn _) (hd_OctetsIn _) (fa_OctetsIn_data _) gl_data (by assumption) (by rfl) (by assumption) (by repeat (first | constructor | apply List.mem_append_left)) (by first | rfl | assumption) ?_; intro _
  walk_at "c"
  refine Attribute_any_ ?_ (by kernel_rfl!)
  walk_at "n"
  refine at_mu (ga_OctetsIn _) (hd_OctetsIn _) (fa_OctetsIn_at _) gl_at (by assumption) (by rfl) (by assumption) (by repeat (first | constructor | apply List.mem_append_left)) (by first | rfl | assumption) ?_; intro _
  walk_at "c"; walk_at "n"
  refine args_nil ?_
  refine And.intro (kinH (by assumption)) ?_
  rename St _ _ _ _ _ _ _ => S
  refine c_check_room R' S.base S.sub (by lia) hc hz fun b' h' t' G => ?_
  replace S := S.call0 (t := t') G
  walk_at "z"
  exact k _ _ _ (St.grow S) (S.muGet (.head _))
theorem c_In_number {x dx : Addr} {od : Obj} {v : Int} {t5 : Tok} (R : Room A (n + 4)) (B : Base w b) (hs : ∀ a o, b a = some o → s.heap.get? a = some o)
    (hx : b x = some (instObj 163 dx)) (hb : b dx = none) (hd : s.heap.get? dx = some od) (ho : InO w.params d p od) (hN : Num d p v) (hz : d.size ≤ 100000)
    (k : ∀ t od' b' h' t', Grow b b' s.heap h' [dx] → h'.get? dx = some od' → InO w.params d (p + 2) od' → Q (.int v t) { s with heap := h', toks := t' }) :
    wpAny (model pw w) A (call (.ref 106) [.ref x, .int 2 t5]) Q E s := by
  refine nay fun hG => ?_
  obtain ⟨t1, t2, t3, t4, nn, rfl⟩ := ho
  refine hG ?_; clear hG
  refine in_OctetsIn_number (body := _) rfl R B hs _ (one_mu hd hb) one_nd ?_
  intro L h₁ t₁ hL S R'
  dsimp only [extL] at S
  walk_at "x"
  refine wpAny_Assign_Name ?_ (by kernel_rfl!)
  walk_at "f"
  refine n_number_at (by assumption) (by kernel_rfl!) (by kernel_rfl!) (by kernel_rfl!) ?_
  refine callWith_K (kinH (by assumption)) (by with_reducible exact kp_f_number_at _) ?_ (by kernel_rfl!) (by kernel_rfl!)
  walk_at "c"
  refine Attribute_any_ ?_ (by kernel_rfl!)
  walk_at "n"
  refine at_mu (ga_OctetsIn _) (hd_OctetsIn _) (fa_OctetsIn_data _) gl_data (by assumption) (by rfl) (by assumption) (by repeat (first | constructor | apply List.mem_append_left)) (by first | rfl | assumption) ?_; intro _
  walk_at "c"
  refine Attribute_any_ ?_ (by kernel_rfl!)
  walk_at "n"
  refine at_mu (ga_OctetsIn _) (hd_OctetsIn _) (fa_OctetsIn_at _) gl_at (by assumption) (by rfl) (by assumption) (by repeat (first | constructor | apply List.mem_append_left)) (by first | rfl | assumption) ?_; intro _
  walk_at "c"; walk_at "n"
  refine args_nil ?_
  refine And.intro (kinH (by assumption)) ?_
  rename St _ _ _ _ _ _ _ => S
  refine c_number_at R' S.base S.sub hN hz fun t b' h' t' G => ?_
  replace S := S.call0 (t := t') G
  replace hx := G.up _ _ hx
  dsimp only at S
  refine st_loc' (by assumption) (by rfl) rfl (by kernel_rfl!) (by kernel_rfl!) fun _ _ S => ?_
  walk_at "x"
  refine plainObj_wpAny_Assign_Attribute ?_ (by kernel_rfl!)
  with_reducible refine wpAny_BinOp ?_
  refine Attribute_any_ ?_ (by kernel_rfl!)
  walk_at "n"
  refine at_mu (ga_OctetsIn _) (hd_OctetsIn _) (fa_OctetsIn_at _) gl_at (by assumption) (by rfl) (by assumption) (by repeat (first | constructor | apply List.mem_append_left)) (by first | rfl | assumption) ?_; intro _
  walk_at "n"
  with_reducible refine add_int ?_
  walk_at "n"
  (with_reducible rename St _ _ _ _ _ _ _ => sOld); refine as_mu (sa_OctetsIn _) (po_OctetsIn _) (ta_OctetsIn_at _) (hd_OctetsIn _) pl_at2 sOld (by rfl) (by assumption) (by kernel_rfl!) (Nat.le_of_ble_eq_true (by kernel_rfl!)) (Nat.le_of_ble_eq_true (by kernel_rfl!)) ?_; clear sOld; intro _ _ _ _
  walk_at "x"
  refine wpAny_Return_some ?_
  walk_at "n"
  rename St _ _ _ _ _ _ _ => S
  exact k _ _ _ _ _ (St.grow S) (S.muGet (.head _)) ⟨_, _, _, _, _, rfl⟩
theorem c_In_u16 {x dx : Addr} {od : Obj} {v : Int} (R : Room A (n + 5)) (B : Base w b) (hs : ∀ a o, b a = some o → s.heap.get? a = some o)
    (hx : b x = some (instObj 163 dx)) (hb : b dx = none) (hd : s.heap.get? dx = some od) (ho : InO w.params d p od) (hN : Num d p v) (hz : d.size ≤ 100000)
    (k : ∀ t od' b' h' t', Grow b b' s.heap h' [dx] → h'.get? dx = some od' → InO w.params d (p + 2) od' → Q (.int v t) { s with heap := h', toks := t' }) :
    wpAny (model pw w) A (call (.ref 120) [.ref x]) Q E s := by
  have ho' := ho
  refine nay fun hG => ?_
  obtain ⟨t1, t2, t3, t4, nn, rfl⟩ := ho
  refine hG ?_; clear hG
  refine in_OctetsIn_u16 (body := _) rfl R B hs _ (one_mu hd hb) one_nd ?_
  intro L h₁ t₁ hL S R'
  dsimp only [extL] at S
  walk_at "x"
  refine wpAny_Return_some ?_
  refine mcall ?_ (by kernel_rfl!)
  walk_at "n"
  refine me_mu (ga_OctetsIn _) (gt_OctetsIn _) (fm_OctetsIn_number _) (tm_OctetsIn_number _) gl_number (by assumption) (by assumption) (by repeat (first | constructor | apply List.mem_append_left)) ?_
  refine callWith_K (kinH (by assumption)) (by with_reducible exact kp_f_OctetsIn_number _) ?_ (by kernel_rfl!) (by kernel_rfl!)
  walk_at "c"; walk_at "i"
  refine args_nil ?_
  refine And.intro (kinH (by assumption)) ?_
  refine c_In_number R' S.base S.sub hx hb (S.muGet (.head _)) ho' hN hz fun t od' b' h' t' G g o' => ?_
  replace S := S.call1 (t := t') G g
  exact k _ _ _ _ _ (St.grow S) (S.muGet (.head _)) o'
end
-- WD
inductive All2 {α : Type} (P : Value → α → Prop) : List Value → List α → Prop
  | nil : All2 P [] []
  | cons {v x vs xs} : P v x → All2 P vs xs → All2 P (v :: vs) (x :: xs)
namespace All2
variable {α : Type} {P P' : Value → α → Prop} {vs us : List Value} {xs ys : List α}
theorem mono (h : All2 P vs xs) (f : ∀ v x, P v x → P' v x) : All2 P' vs xs := by induction h with
  | nil => exact .nil
  | cons a _ ih => exact .cons (f _ _ a) ih
theorem length (h : All2 P vs xs) : vs.length = xs.length := by induction h with
  | nil => rfl
  | cons _ _ ih => simp [ih]
theorem append (h : All2 P vs xs) (h' : All2 P us ys) : All2 P (vs ++ us) (xs ++ ys) := by induction h with
  | nil => exact h'
  | cons a _ ih => exact .cons a ih
theorem push (h : All2 P vs xs) {v : Value} {x : α} (a : P v x) : All2 P (vs ++ [v]) (xs ++ [x]) := h.append (.cons a .nil)
theorem get (h : All2 P vs xs) {i : Nat} {v : Value} (e : vs[i]? = some v) : ∃ x, xs[i]? = some x ∧ P v x := by
  induction h generalizing i with
  | nil => simp at e
  | cons a _ ih =>
    cases i with
    | zero => simp at e; subst e; exact ⟨_, rfl, a⟩
    | succ i => simpa using ih (by simpa using e)
theorem get' (h : All2 P vs xs) {i : Nat} {x : α} (e : xs[i]? = some x) : ∃ v, vs[i]? = some v ∧ P v x := by
  induction h generalizing i with
  | nil => simp at e
  | cons a _ ih =>
    cases i with
    | zero => simp at e; subst e; exact ⟨_, rfl, a⟩
    | succ i => simpa using ih (by simpa using e)
theorem take (h : All2 P vs xs) (n : Nat) : All2 P (vs.take n) (xs.take n) := by
  induction h generalizing n with
  | nil => simp; exact .nil
  | cons a _ ih => cases n with
    | zero => simp; exact .nil
    | succ n => simpa using .cons a (ih n)
theorem drop (h : All2 P vs xs) (n : Nat) : All2 P (vs.drop n) (xs.drop n) := by
  induction h generalizing n with
  | nil => simp; exact .nil
  | cons a b ih => cases n with
    | zero => simpa using .cons a b
    | succ n => simpa using ih n
theorem reverse (h : All2 P vs xs) : All2 P vs.reverse xs.reverse := by
  induction h with
  | nil => simp; exact .nil
  | cons a _ ih => simpa using ih.push a
theorem push_take (h : All2 P vs (xs.take n)) {v : Value} {x : α} (e : xs[n]? = some x) (a : P v x) : All2 P (vs ++ [v]) (xs.take (n + 1)) := by
  rw [List.take_add_one, e]
  exact h.push a
end All2
noncomputable def IsI (v : Value) (x : Int) : Prop := ∃ t, v = .int x t
theorem IsI.mk {x : Int} (t : Tok) : IsI (.int x t) x := ⟨t, rfl⟩
noncomputable def ListOf {α : Type} (b : PM) (P : Value → α → Prop) (v : Value) (xs : List α) : Prop := ∃ D vs k, v = .ref D ∧ b D = some (listOf vs k) ∧ All2 P vs.toList xs
noncomputable def TupOf {α : Type} (b : PM) (P : Value → α → Prop) (v : Value) (xs : List α) : Prop := ∃ D vs, v = .ref D ∧ b D = some (tupO vs) ∧ All2 P vs.toList xs
theorem ListOf.mono {α : Type} {b b' : PM} {P P' : Value → α → Prop} {v : Value} {xs : List α} (h : ListOf b P v xs) (hb : ∀ a o, b a = some o → b' a = some o) (f : ∀ v x, P v x → P' v x) : ListOf b' P' v xs := by
  refine nay fun hG => ?_
  obtain ⟨D, vs, k, e, g, a⟩ := h
  refine hG ?_; clear hG
  exact ⟨D, vs, k, e, hb _ _ g, a.mono f⟩
theorem TupOf.mono {α : Type} {b b' : PM} {P P' : Value → α → Prop} {v : Value} {xs : List α} (h : TupOf b P v xs) (hb : ∀ a o, b a = some o → b' a = some o) (f : ∀ v x, P v x → P' v x) : TupOf b' P' v xs := by
  refine nay fun hG => ?_
  obtain ⟨D, vs, e, g, a⟩ := h
  refine hG ?_; clear hG
  exact ⟨D, vs, e, hb _ _ g, a.mono f⟩
theorem ListOf.up {α : Type} {b b' : PM} {P : Value → α → Prop} {v : Value} {xs : List α} (h : ListOf b P v xs) (hb : ∀ a o, b a = some o → b' a = some o) : ListOf b' P v xs := h.mono hb fun _ _ x => x
theorem TupOf.up {α : Type} {b b' : PM} {P : Value → α → Prop} {v : Value} {xs : List α} (h : TupOf b P v xs) (hb : ∀ a o, b a = some o → b' a = some o) : TupOf b' P v xs := h.mono hb fun _ _ x => x
noncomputable def Src (w : World) (A : Around) (b : PM) (I : Addr) (n : Nat) (P : Nat → Value → Prop) (hp : Heap) : Prop :=
  ∃ fp Z, Walks pw w A I fp [I] n P Z ∧ (∀ i h, Z i h → ∃ o, h.get? I = some o) ∧ (∀ a ∈ fp, a = I ∨ ∃ o, b a = some o) ∧ Z 0 hp
noncomputable def CellAt (b : PM) (c : Addr) (v : Value) : Prop := ∃ o, b c = some o ∧ o.data = .cell (some v)
theorem CellAt.up {b b' : PM} {c : Addr} {v : Value} (h : CellAt b c v) (hb : ∀ a o, b a = some o → b' a = some o) : CellAt b' c v := by
  refine nay fun hG => ?_
  obtain ⟨o, g, e⟩ := h
  refine hG ?_; clear hG
  exact ⟨o, hb _ _ g, e⟩
section
variable {w : World} {A : Around} {E : Value → Shared → Prop} {s s0 : Shared} {e : En} {b : PM} {L : Addr} {m : Str → Option Value} {mu : List (Addr × Obj)} {env : Env} {t0 : Nat} {Q : Value → Shared → Prop}
theorem small_up {a c : Int} (h1 : -1000000 ≤ a) (h2 : a ≤ 1000000) (h3 : -1000000 ≤ c) (h4 : c ≤ 1000000) : Builtin.Range.rangeSize a c 1 = ((c - a).toNat : Int) ∧ Builtin.Range.small a c 1 = true := by
  have e : Builtin.Range.rangeSize a c 1 = ((c - a).toNat : Int) := by
    unfold Builtin.Range.rangeSize
    rw [if_pos (by decide)]
    split <;> lia
  refine ⟨e, ?_⟩
  unfold Builtin.Range.small
  rw [e]
  simp only [Builtin.Range.rangeFitsLong, Bool.and_eq_true, Bool.or_eq_true, decide_eq_true_eq, beq_iff_eq, show ((1 : Int) > 0) by decide, if_true]
  lia
theorem St.src {o : Obj} (S : St w e b L m mu { s0 with heap := s.heap, toks := t0 }) (hq : s = { s0 with heap := s.heap, toks := s.toks }) {t1 : Nat} (hf : o.isFreed = false := by rfl) :
    St w e b L m (mu ++ [(s.heap.objs.size, o)]) { s0 with heap := s.heap.push o, toks := t1 } := (S.pushM o (t := t1) hf).toBack
theorem it_range {r : Addr} {a c : Int} {t u v : Tok} (hh : A.handled = none) (S : St w e b L m mu { s0 with heap := s.heap, toks := t0 }) (hq : s = { s0 with heap := s.heap, toks := s.toks }) (hr : IsRange s.heap r a c 1 t u v)
    (h1 : -1000000 ≤ a) (h2 : a ≤ 1000000) (h3 : -1000000 ≤ c) (h4 : c ≤ 1000000)
    (h : ∀ I oI h' t', Src w A b I (c - a).toNat (fun i v => ∃ t, v = .int (a + i * 1) t) h' → St w e b L m (mu ++ [(I, oI)]) { s0 with heap := h', toks := t' } → Q (.ref I) { s0 with heap := h', toks := t' }) :
    wpAny (model pw w) A (pyIter (.ref r)) Q E s := by
  obtain ⟨e1, e2⟩ := small_up h1 h2 h3 h4
  refine wpAny_pyIter_range hr e2 ?_
  rw [hq]
  refine h _ _ _ _ ⟨[s.heap.objs.size], _, Walks.range hh _ a 1 _, fun i h z => ⟨_, z⟩, fun x hx => .inl (List.mem_singleton.mp hx), ?_⟩ (S.src hq)
  show (s.heap.push _).get? _ = _
  rw [Heap.get?_push_size _ rfl, e1]
  simp
theorem it_range1 {n : Int} {t : Tok} (hh : A.handled = none) (S : St w e b L m mu { s0 with heap := s.heap, toks := t0 }) (hq : s = { s0 with heap := s.heap, toks := s.toks }) (h3 : 0 ≤ n) (h4 : n ≤ 1000000)
    (h : ∀ I oI h' t', Src w A b I n.toNat (fun i v => ∃ t, v = .int i t) h' → St w e b L m (mu ++ [(I, oI)]) { s0 with heap := h', toks := t' } → Q (.ref I) { s0 with heap := h', toks := t' }) :
    wpAny (model pw w) A (call (.type "range") [.int n t]) (fun x s₁ => wpAny (model pw w) A (pyIter x) Q E s₁) E s := by
  refine call_range_1 ?_
  refine it_range (s0 := s0) (t0 := t0) hh (S.ext fun a o g => Heap.get?_push_of_some _ g) (by rw [hq]) (IsRange.new ..) (by decide) (by decide) (by lia) h4 fun I oI h' t' W S' => h I oI h' t' ?_ S'
  rw [show (n - 0).toNat = n.toNat by simp] at W
  refine nay fun hG => ?_
  obtain ⟨fp, Z, W, r⟩ := W
  refine hG ?_; clear hG
  refine ⟨fp, Z, ⟨W.sub, W.frame, fun i s Q E hi st hQ => W.item i s Q E hi st fun v h' tk ⟨t, ht⟩ => hQ v h' tk ⟨t, by rw [ht]; simp⟩, W.done, W.self⟩, r⟩
theorem it_tuple {T : Addr} {vs : Array Value} (hh : A.handled = none) (S : St w e b L m mu { s0 with heap := s.heap, toks := t0 }) (hq : s = { s0 with heap := s.heap, toks := s.toks }) (hb : b T = some (tupO vs))
    (h : ∀ I oI h' t', Src w A b I vs.size (fun i v => vs[i]? = some v) h' → St w e b L m (mu ++ [(I, oI)]) { s0 with heap := h', toks := t' } → Q (.ref I) { s0 with heap := h', toks := t' }) :
    wpAny (model pw w) A (pyIter (.ref T)) Q E s := by
  have g : s.heap.get? T = some (tupO vs) := S.get hb
  refine wpAny_pyIter_tuple ⟨_, g, rfl, 0, rfl⟩ ?_
  rw [hq]
  refine h _ _ _ _ ⟨[s.heap.objs.size, T], _, Walks.tuple hh _ T (Nat.ne_of_lt (Heap.lt_size g)) vs, fun i h z => let ⟨⟨o, ho, _⟩, _⟩ := z; ⟨o, ho⟩, fun x hx => ?_, ⟨⟨_, Heap.get?_push_size _ rfl, rfl, rfl⟩, ⟨_, Heap.get?_push_of_some _ g, rfl, 0, rfl⟩⟩⟩ (S.src hq)
  rcases List.mem_cons.mp hx with z | z
  · exact .inl z
  · exact .inr ⟨_, by rw [List.mem_singleton.mp z]; exact hb⟩
theorem it_list {T : Addr} {vs : Array Value} {k : Nat} (hh : A.handled = none) (S : St w e b L m mu { s0 with heap := s.heap, toks := t0 }) (hq : s = { s0 with heap := s.heap, toks := s.toks }) (hb : b T = some (listOf vs k))
    (h : ∀ I oI h' t', Src w A b I vs.size (fun i v => vs[i]? = some v) h' → St w e b L m (mu ++ [(I, oI)]) { s0 with heap := h', toks := t' } → Q (.ref I) { s0 with heap := h', toks := t' }) :
    wpAny (model pw w) A (pyIter (.ref T)) Q E s := by
  have g : s.heap.get? T = some (listOf vs k) := S.get hb
  refine wpAny_pyIter_list ⟨_, g, rfl, k, rfl⟩ ?_
  rw [hq]
  refine h _ _ _ _ ⟨[s.heap.objs.size, T], _, Walks.list hh _ T (Nat.ne_of_lt (Heap.lt_size g)) vs, fun i h z => let ⟨⟨o, ho, _⟩, _⟩ := z; ⟨o, ho⟩, fun x hx => ?_, ⟨⟨_, Heap.get?_push_size _ rfl, rfl, rfl⟩, ⟨_, Heap.get?_push_of_some _ g, rfl, k, rfl⟩⟩⟩ (S.src hq)
  rcases List.mem_cons.mp hx with z | z
  · exact .inl z
  · exact .inr ⟨_, by rw [List.mem_singleton.mp z]; exact hb⟩
theorem n_cell {x : Str} {pos : Pos} {v : Value} {c : Addr} (S : St w e b L m mu { s with toks := t0 }) (hb : CellAt b c v) (hk : env.scope.kind = .function) (hl : env.kindOf x = some .cell) (hc : env.cells.lookup x = some c) (hd : (x == ("__debug__" : Str)) = false) (h : Q v s) :
    wpAny (model pw w) A (eval (.Name x pos) env) Q E s := by
  refine nay fun hG => ?_
  obtain ⟨o, g, e⟩ := hb
  refine hG ?_; clear hG
  exact wpAny_Name (wpAny_loadName_cell hk hl hc ⟨o, S.get g, e⟩ h) hd
theorem enterCell {f : Addr} {fd : FuncData} {body : List Stmt} {args : List Value} {binds lb : List (Str × Value)} {n : Nat} {x : Str} {v : Value}
    (R : Room A (n + 1)) (B : Base w b) (hs : ∀ a o, b a = some o → s.heap.get? a = some o) (mu : List (Addr × Obj)) (hm : ∀ p ∈ mu, s.heap.get? p.1 = some p.2 ∧ b p.1 = none) (nd : (mu.map (·.1)).Nodup)
    (hf : (K w.params).lookup f = some ⟨.type "function", none, .func fd, #[]⟩) (hc : codeIn (K w.params) fd.code fd.qualname = true) (hbody : fd.body = .stmts body) (hbind : bindArgs fd ⟨args, []⟩ = pure binds) (hclo : fd.closure = [])
    (hcs : ∀ L, cellsFrom (L + 1) fd.scope.names [] = [(x, L + 1)])
    (hkind : (binds.all fun y => decide (fd.scope.names.lookup y.1 = some .local) || (y.1 == x && decide (fd.scope.names.lookup x = some .cell))) = true)
    (hl : ∀ L, bindL (callEnvC fd L f).kindOf binds (fun _ => none) = extL lb fun _ => none) (hv : ∀ L, bindC (callEnvC fd L f).kindOf binds (fun _ => none) x = some v)
    (hco : fd.scope.isCoroutine = false) (hgen : fd.scope.isGenerator = false) (hk : fd.scope.kind = .function)
    (h : ∀ L h₁ t₁ b₁, L = s.heap.objs.size → (∀ a o, b a = some o → b₁ a = some o) → CellAt b₁ (L + 1) v → St w ⟨s.heap, b, mu.map (·.1)⟩ b₁ L (extL lb fun _ => none) mu { s with heap := h₁, toks := t₁ } → Room (A.deeper (callEnvC fd L f)) n →
      wpAny (model pw w) (A.deeper (callEnvC fd L f)) (execs body (callEnvC fd L f)) (fun fl s' => Q (match fl with | .ret v => v | _ => .none) s') (fun _ _ => False) { s with heap := h₁, toks := t₁ }) :
    wpAny (model pw w) A (call (.ref f) args) Q E s := by
  have X : (K w.params).In s.heap := B.kin hs
  refine wpAny_call (codeAny_call_cells R.limit (X _ _ hf) rfl (noLimit_of X) (codeRec_of X hc) hbody hbind hclo (fun y hy => ?_) (fun s₁ x₁ => ?_) hco hgen hk)
  · have := List.all_eq_true.mp hkind y hy
    rcases Bool.or_eq_true_iff.mp this with z | z
    · exact .inl (of_decide_eq_true z)
    · obtain ⟨z1, z2⟩ := Bool.and_eq_true_iff.mp z
      have z1 := beq_iff_eq.mp z1
      refine .inr ⟨by rw [z1]; exact of_decide_eq_true z2, ?_⟩
      rw [hcs, z1]; simp
  · have hcells : (callEnvC fd s.heap.objs.size f).cells = [(x, s.heap.objs.size + 1)] := hcs _
    have hloc : (callEnvC fd s.heap.objs.size f).locals = s.heap.objs.size := rfl
    rw [hl, hcells, hloc] at x₁
    refine nay fun hG => ?_
    obtain ⟨h₁, t₁, rfl⟩ := x₁.toInCall.same
    refine hG ?_; clear hG
    have cc := x₁.cell x (s.heap.objs.size + 1) (by simp)
    rw [hv] at cc
    refine nay fun hG => ?_
    obtain ⟨oc, gc, dc⟩ := cc
    refine hG ?_; clear hG
    have bn : ∀ a, s.heap.objs.size ≤ a → b a = none := fun a ha => by
      cases q : b a with
      | none => rfl
      | some o => exact absurd (Heap.lt_size (hs _ _ q)) (Nat.not_lt.mpr ha)
    have S : St w ⟨s.heap, b, mu.map (·.1)⟩ b s.heap.objs.size (extL lb fun _ => none) mu { s with heap := h₁, toks := t₁ } :=
      ⟨B, fun a o q => x₁.toInCall.keep a o (hs a o q), fun a o q => q, fun a o q => .inl q, fun a o q _ => x₁.toInCall.keep a o q, x₁.toInCall.ns, Nat.le_refl _, bn _ (Nat.le_refl _), fun p hp => ⟨x₁.toInCall.keep _ _ (hm p hp).1, Nat.ne_of_lt (Heap.lt_size (hm p hp).1), (hm p hp).2, .inl (List.mem_map_of_mem hp)⟩, nd⟩
    have S2 := S.put gc (Nat.ne_of_gt (Nat.lt_succ_self _)) (fun p hp => Nat.ne_of_lt (Nat.lt_succ_of_lt (Heap.lt_size (hm p hp).1))) (bn _ (Nat.le_succ _)) (Nat.le_succ _)
    exact wpAny_mono (h _ _ _ _ rfl (fun a o q => PM.put_le (bn _ (Nat.le_succ _)) _ q) ⟨oc, PM.put_self .., dc⟩ S2 R.deeper) (fun fl s' z => z) fun _ _ z => z.elim
end
section
variable {w : World} {A : Around} {E : Value → Shared → Prop} {s : Shared} {e : En} {b : PM} {L : Addr} {m : Str → Option Value} {mu : List (Addr × Obj)} {env : Env}
theorem for_src {R : Result → Shared → Prop} {x : Str} {px : Pos} {body : List Stmt} {I : Addr} {n : Nat} {P : Nat → Value → Prop} {oI : Obj}
    (W : Src w A b I n P s.heap) (S : St w e b L m (mu ++ [(I, oI)]) s)
    (hL : env.locals = L) (hl : env.kindOf x = some .local) (hp : (env.scope.kind == .class || (env.scope.kind == .module && env.locals != env.globals)) = false)
    (J : Nat → PM → (Str → Option Value) → List (Addr × Obj) → Prop) (hJ : J 0 b m mu)
    (turn : ∀ i v b' m' mu' oI' h' t', i < n → P i v → J i b' m' mu' → (∀ a o, b a = some o → b' a = some o) → St w e b' L (ext m' x v) (mu' ++ [(I, oI')]) { s with heap := h', toks := t' } →
      wpAny (model pw w) A (execs body env) (fun f s' => match f with
        | .next | .cont => ∃ b'' m'' mu'' h'' t'', s' = { s with heap := h'', toks := t'' } ∧ J (i + 1) b'' m'' mu'' ∧ (∀ a o, b a = some o → b'' a = some o) ∧ St w e b'' L m'' (mu'' ++ [(I, oI')]) { s with heap := h'', toks := t'' }
        | .brk => R (.ok .next) s'
        | .ret v => R (.ok (.ret v)) s') (fun _ _ => False) { s with heap := h', toks := t' })
    (done : ∀ b' m' mu' h' t', J n b' m' mu' → (∀ a o, b a = some o → b' a = some o) → St w e b' L m' mu' { s with heap := h', toks := t' } → R (.ok .next) { s with heap := h', toks := t' }) :
    codeAny (model pw w) A (.forLoop (.Name x px) (.ref I) body [] env) R s := by
  refine nay fun hG => ?_
  obtain ⟨fp, Z, W, hZ, hfp, h0⟩ := W
  refine hG ?_; clear hG
  exact for_walk W hZ hfp S h0 hL hl hp J hJ turn done
theorem comp_src {Q : Value → Shared → Prop} {elt iter : Expr} {x : Str} {px : Pos} {scope : Scope} {cl : List (Str × Addr)} {pos : Pos} {I : Addr} {n : Nat} {P : Nat → Value → Prop} {oI : Obj}
    (W : Src w A b I n P s.heap) (S : St w e b L m (mu ++ [(I, oI)]) s) (hsz : n ≤ 1000)
    (hcell : ∀ y ∈ scope.names, y.2 ≠ .cell) (hkind : scope.kind = .function) (hx : scope.names.lookup x = some .local)
    (J : Nat → PM → List (Addr × Obj) → Array Value → Prop) (hJ : J 0 b mu #[])
    (turn : ∀ i v b' mC mu' ys tl h' t' C, i < n → P i v → J i b' mu' ys → (∀ a o, b a = some o → b' a = some o) → St w e b' C (ext mC x v) (mu' ++ tl) { s with heap := h', toks := t' } →
      wpAny (model pw w) A (eval elt (compEnvC scope cl C env)) (fun y s' => ∃ b'' mC'' mu'' h'' t'', s' = { s with heap := h'', toks := t'' } ∧ J (i + 1) b'' mu'' (ys.push y) ∧ (∀ a o, b a = some o → b'' a = some o) ∧ St w e b'' C mC'' (mu'' ++ tl) { s with heap := h'', toks := t'' })
        (fun _ _ => False) { s with heap := h', toks := t' })
    (done : ∀ b' mu' ys k D h' t', ys.size = n → J n b' mu' ys → (∀ a o, b a = some o → b' a = some o) → St w e b' L m ((D, listOf ys k) :: mu') { s with heap := h', toks := t' } → e.h.objs.size ≤ D → Q (.ref D) { s with heap := h', toks := t' }) :
    wpAny (model pw w) A (newList []) (fun acc s₃ => wpAny (model pw w) A (newFunctionEnv scope env.globals cl [] env.qual none .none (some env)) (fun cenv s₄ =>
      codeAny (model pw w) A (.compStart (.ListComp elt [⟨.Name x px, iter, [], 0⟩] scope pos) 0 (.ref I) acc { cenv with scope := relabel scope env }) (compPost (model pw w) A E none Q acc cenv.locals) s₄) E s₃) E s := by
  refine nay fun hG => ?_
  obtain ⟨fp, Z, W, hZ, hfp, h0⟩ := W
  refine hG ?_; clear hG
  exact comp_block W hZ hfp S h0 hsz hcell hkind hx J hJ turn done
theorem lcomp {elt iter : Expr} {tgt : Expr} {scope : Scope} {pos : Pos} {cl : List (Str × Addr)} {Q : Value → Shared → Prop} (hs : ∀ x, foldedSetIterable iter env x = pure x) (hclos : closureFor scope env = pure cl)
    (hkind : scope.kind = .function) (hnames : ∀ x ∈ scope.names, x.2 = .local → scope.names.lookup x.1 = some .local)
    (h : wpAny (model pw w) A (eval iter env) (fun x s₁ => wpAny (model pw w) A (pyIter x) (fun it s₂ => wpAny (model pw w) A (newList []) (fun acc s₃ =>
      wpAny (model pw w) A (newFunctionEnv scope env.globals cl [] env.qual none .none (some env)) (fun cenv s₄ =>
        codeAny (model pw w) A (.compStart (.ListComp elt [⟨tgt, iter, [], 0⟩] scope pos) 0 it acc { cenv with scope := relabel scope env }) (compPost (model pw w) A E none Q acc cenv.locals) s₄) E s₃) E s₂) E s₁) E s) :
    wpAny (model pw w) A (eval (.ListComp elt [⟨tgt, iter, [], 0⟩] scope pos) env) Q E s := by
  rw [eval_ListComp]
  exact wpAny_comprehension_free rfl hs hclos hkind hnames h
end
theorem mulok {a b : Int} (ha : a.natAbs < 2 ^ 64) (hb : b.natAbs < 2 ^ 64) : IntMulOk a b := IntMulOk.of_le (intBits_le_iff.mpr ha) (intBits_le_iff.mpr hb) (by decide)
-- WE
section
variable {w : World} {A : Around} {E : Value → Shared → Prop} {s : Shared} {b : PM} {n : Nat} {d : Array UInt8} {p : Nat} {Q : Value → Shared → Prop}
theorem in_OctetsIn_rows {k : Nat} {body : List Stmt} {x0 x1 : Value} (hbody : f_OctetsIn_rows.body = .stmts body)
    (R : Room A (k + 1)) (B : Base w b) (hs : ∀ a o, b a = some o → s.heap.get? a = some o) (mu : List (Addr × Obj)) (hm : ∀ p ∈ mu, s.heap.get? p.1 = some p.2 ∧ b p.1 = none) (nd : (mu.map (·.1)).Nodup)
    (h : ∀ L h₁ t₁ b₁, L = s.heap.objs.size → (∀ a o, b a = some o → b₁ a = some o) → CellAt b₁ (L + 1) x0 → St w ⟨s.heap, b, mu.map (·.1)⟩ b₁ L (extL [("count", x1)] fun _ => none) mu { s with heap := h₁, toks := t₁ } → Room (A.deeper (callEnvC f_OctetsIn_rows L 153)) k →
      wpAny (model pw w) (A.deeper (callEnvC f_OctetsIn_rows L 153)) (execs body (callEnvC f_OctetsIn_rows L 153)) (fun fl s' => Q (match fl with | .ret v => v | _ => .none) s') (fun _ _ => False) { s with heap := h₁, toks := t₁ }) :
    wpAny (model pw w) A (call (.ref 153) [x0, x1]) Q E s :=
  enterCell R B hs mu hm nd (lk_OctetsIn_rows _) (cd_OctetsIn_rows _) hbody (binds := [("self", x0), ("count", x1)]) (by kernel_rfl!) (by kernel_rfl!) (x := "self") (by intro L; kernel_rfl!) (by kernel_rfl!) (by intro L; kernel_rfl!) (by intro L; kernel_rfl!) (by kernel_rfl!) (by kernel_rfl!) (by kernel_rfl!) h
theorem c_In_rows {x dx : Addr} {od : Obj} {t5 : Tok} {xs : List Int} (R : Room A (n + 6)) (B : Base w b) (hs : ∀ a o, b a = some o → s.heap.get? a = some o)
    (hx : b x = some (instObj 163 dx)) (hb : b dx = none) (hd : s.heap.get? dx = some od) (ho : InO w.params d p od) (hN : ∀ i v, xs[i]? = some v → Num d (p + 2 * i) v) (hc : p + 2 * xs.length ≤ d.size) (hz : d.size ≤ 100000) (hl : xs.length ≤ 1000)
    (k : ∀ v od' b' h' t', Grow b b' s.heap h' [dx] → h'.get? dx = some od' → InO w.params d (p + 2 * xs.length) od' → ListOf b' IsI v xs → Q v { s with heap := h', toks := t' }) :
    wpAny (model pw w) A (call (.ref 153) [.ref x, .int (xs.length : Nat) t5]) Q E s := by
  have ho' := ho
  refine nay fun hG => ?_
  obtain ⟨t1, t2, t3, t4, nn, rfl⟩ := ho
  refine hG ?_; clear hG
  refine in_OctetsIn_rows (body := _) rfl R B hs _ (one_mu hd hb) one_nd ?_
  intro L h₁ t₁ b₁ hL hup hC S R'
  dsimp only [extL] at S
  replace hx := hup _ _ hx
  walk_at "x"
  refine wpAny_Expr_any ?_ (by kernel_rfl!) (by kernel_rfl!)
  refine mcall ?_ (by kernel_rfl!)
  refine n_cell (by assumption) (by assumption) (by kernel_rfl!) (by kernel_rfl!) (by kernel_rfl!) (by kernel_rfl!) ?_
  refine me_mu (ga_OctetsIn _) (gt_OctetsIn _) (fm_OctetsIn_need _) (tm_OctetsIn_need _) gl_need (by assumption) (by assumption) (by repeat (first | constructor | apply List.mem_append_left)) ?_
  refine callWith_K (kinH (by assumption)) (by with_reducible exact kp_f_OctetsIn_need _) ?_ (by kernel_rfl!) (by kernel_rfl!)
  walk_at "c"
  with_reducible refine wpAny_BinOp ?_
  walk_at "i"; walk_at "n"
  with_reducible refine mul_int ?_ (mulok (by lia) (by lia))
  refine args_nil ?_
  refine And.intro (kinH (by assumption)) ?_
  refine c_In_need R' S.base S.sub hx (S.tu _ (.head _)).2.2.1 (S.muGet (.head _)) ho' (by lia) hz fun b₂ h₂ t₂ G g => ?_
  replace S := S.call1 (t := t₂) G g
  dsimp only at S
  replace hx := G.up _ _ hx
  replace hC := hC.up G.up
  walk_at "x"
  refine wpAny_Return_some ?_
  refine lcomp (cl := [("self", L + 1)]) (by intro _; kernel_rfl!) (by kernel_rfl!) (by kernel_rfl!) (by decide +kernel) ?_
  walk_at "f"
  refine n_range (by assumption) (by kernel_rfl!) (by kernel_rfl!) (by kernel_rfl!) (by kernel_rfl!) ?_
  refine PyProof.Rows.callWith_type1 ?_ (by kernel_rfl!) (by kernel_rfl!)
  walk_at "c"; walk_at "n"
  refine args_nil ?_
  rename St _ _ _ _ _ _ _ => S
  refine it_range1 R'.hd S (by rfl) (by lia) (by lia) fun I oI h₃ t₃ W S => ?_
  rw [Int.toNat_natCast] at W
  refine comp_src W S hl (by decide) rfl (by kernel_rfl!) (fun i b₄ mu ys => ∃ od, mu = [(dx, od)] ∧ InO w.params d (p + 2 * i) od ∧ All2 IsI ys.toList (xs.take i)) ⟨_, rfl, ho', .nil⟩ ?_ ?_
  · intro i v b₄ mC mu ys tl h₄ t₄ C hi hx1 hx2 hb₄ S
    refine nay fun hG => ?_
    obtain ⟨tt, rfl⟩ := hx1
    obtain ⟨od, rfl, o₄, hy⟩ := hx2
    refine hG ?_; clear hG
    replace hx := hb₄ _ _ hx
    replace hC := hC.up hb₄
    have o₄' := o₄
    refine nay fun hG => ?_
    obtain ⟨_, _, _, _, _, rfl⟩ := o₄
    refine hG ?_; clear hG
    refine mcall ?_ (by kernel_rfl!)
    refine n_cell (by assumption) (by assumption) (by kernel_rfl!) (by kernel_rfl!) (by kernel_rfl!) (by kernel_rfl!) ?_
    refine me_mu (ga_OctetsIn _) (gt_OctetsIn _) (fm_OctetsIn_u16 _) (tm_OctetsIn_u16 _) gl_u16 (by assumption) (by assumption) (by repeat (first | constructor | apply List.mem_append_left)) ?_
    refine callWith_K0 (kinH (by assumption)) (by with_reducible exact kp_f_OctetsIn_u16 _) ?_
    refine nay fun hG => ?_
    obtain ⟨vx, hvx⟩ : ∃ v, xs[i]? = some v := ⟨_, List.getElem?_eq_getElem hi⟩
    refine hG ?_; clear hG
    refine c_In_u16 (n := n) R' S.base S.sub hx (S.tu _ (.head _)).2.2.1 (S.muGet (.head _)) o₄' (hN i vx hvx) hz fun t od' b₅ h₅ t₅ G g o' => ?_
    replace S := S.call1 (t := t₅) G g
    refine turnI (b2 := b₅) (mu2 := [(dx, od')]) rfl ⟨od', rfl, o', ?_⟩ (fun a o q => G.up _ _ (hb₄ _ _ q)) S
    rw [Array.toList_push]
    exact hy.push_take hvx (IsI.mk t)
  · intro b₄ mu ys kk D h₄ t₄ hys hx1 hb₄ S hD
    refine nay fun hG => ?_
    obtain ⟨od, rfl, o₄, hy⟩ := hx1
    refine hG ?_; clear hG
    rw [List.take_of_length_le (Nat.le_refl _)] at hy
    have S2 := S.freeze hD
    exact k _ _ _ _ _ S2.grow (S2.muGet (.head _)) o₄ ⟨D, ys, kk, rfl, PM.put_self .., hy⟩
end
-- WF
theorem ints_of : ∀ {vs : List Value} {xs : List Int}, All2 IsI vs xs → IntsAre vs xs
  | _, _, .nil => .nil
  | _, _, .cons ⟨t, e⟩ h => by subst e; exact .cons _ t (ints_of h)
theorem small_dn {a c : Int} (h1 : -1000000 ≤ a) (h2 : a ≤ 1000000) (h3 : -1000000 ≤ c) (h4 : c ≤ 1000000) : Builtin.Range.rangeSize a c (-1) = ((a - c).toNat : Int) ∧ Builtin.Range.small a c (-1) = true := ⟨rangeSize_downNat a c, small_down (by lia) (by lia) (by lia) (by lia)⟩
noncomputable def w16 (x : Int) : List UInt8 := [(x / 256).toNat.toUInt8, (x % 256).toNat.toUInt8]
section
variable {w : World} {A : Around} {E : Value → Shared → Prop} {s s0 : Shared} {e : En} {b : PM} {L : Addr} {m : Str → Option Value} {mu : List (Addr × Obj)} {env : Env} {t0 : Nat} {Q : Value → Shared → Prop} {n : Nat}
theorem it_range3 {a c : Int} {t u v : Tok} (hh : A.handled = none) (S : St w e b L m mu { s0 with heap := s.heap, toks := t0 }) (hq : s = { s0 with heap := s.heap, toks := s.toks }) (h1 : -1000000 ≤ a) (h2 : a ≤ 1000000) (h3 : -1000000 ≤ c) (h4 : c ≤ 1000000)
    (h : ∀ I oI h' t', Src w A b I (a - c).toNat (fun i v => ∃ t, v = .int (a - i) t) h' → St w e b L m (mu ++ [(I, oI)]) { s0 with heap := h', toks := t' } → Q (.ref I) { s0 with heap := h', toks := t' }) :
    wpAny (model pw w) A (call (.type "range") [.int a t, .int c u, .int (-1) v]) (fun x s₁ => wpAny (model pw w) A (pyIter x) Q E s₁) E s := by
  refine call_range_3 (by decide) ?_ (.inl (PyProof.noPylong_small (by lia)))
  obtain ⟨e1, e2⟩ := small_dn h1 h2 h3 h4
  have S1 : St w e b L m mu { s0 with heap := s.heap.push { cls := .type "range", data := .fields #[.int a t, .int c u, .int (-1) v] }, toks := t0 } := S.ext fun a o g => Heap.get?_push_of_some _ g
  refine wpAny_pyIter_range (IsRange.new ..) e2 ?_
  rw [hq]
  refine h _ _ _ _ ⟨[(s.heap.push { cls := .type "range", data := .fields #[.int a t, .int c u, .int (-1) v] }).objs.size], fun i h => IsRangeIter h _ (a + (i : Nat) * (-1)) ((((a - c).toNat : Nat) : Int) - (i : Nat)) (-1), ?_, fun i h z => ⟨_, z⟩, fun x hx => .inl (List.mem_singleton.mp hx), ?_⟩ ((S1.pushM _ rfl).toBack)
  · have W := Walks.range (prog := pw) (w := w) hh (s.heap.push { cls := .type "range", data := .fields #[.int a t, .int c u, .int (-1) v] }).objs.size a (-1) (a - c).toNat
    exact ⟨W.sub, W.frame, fun i s Q E hi st hQ => W.item i s Q E hi st fun v h' tk ⟨t, ht⟩ => hQ v h' tk ⟨t, by rw [ht, show a + (i : Int) * (-1) = a - i by lia]⟩, W.done, W.self⟩
  · show ((s.heap.push _).push _).get? _ = _
    rw [Heap.get?_push_size _ rfl, e1]
    simp
theorem in_number_octets {k : Nat} {body : List Stmt} {x0 x1 : Value} (hbody : f_number_octets.body = .stmts body)
    (R : Room A (k + 1)) (B : Base w b) (hs : ∀ a o, b a = some o → s.heap.get? a = some o) (mu : List (Addr × Obj)) (hm : ∀ p ∈ mu, s.heap.get? p.1 = some p.2 ∧ b p.1 = none) (nd : (mu.map (·.1)).Nodup)
    (h : ∀ L h₁ t₁ b₁, L = s.heap.objs.size → (∀ a o, b a = some o → b₁ a = some o) → CellAt b₁ (L + 1) x0 → St w ⟨s.heap, b, mu.map (·.1)⟩ b₁ L (extL [("count", x1)] fun _ => none) mu { s with heap := h₁, toks := t₁ } → Room (A.deeper (callEnvC f_number_octets L 172)) k →
      wpAny (model pw w) (A.deeper (callEnvC f_number_octets L 172)) (execs body (callEnvC f_number_octets L 172)) (fun fl s' => Q (match fl with | .ret v => v | _ => .none) s') (fun _ _ => False) { s with heap := h₁, toks := t₁ }) :
    wpAny (model pw w) A (call (.ref 172) [x0, x1]) Q E s :=
  enterCell R B hs mu hm nd (lk_number_octets _) (cd_number_octets _) hbody (binds := [("number", x0), ("count", x1)]) (by kernel_rfl!) (by kernel_rfl!) (x := "number") (by intro L; kernel_rfl!) (by kernel_rfl!) (by intro L; kernel_rfl!) (by intro L; kernel_rfl!) (by kernel_rfl!) (by kernel_rfl!) (by kernel_rfl!) h
theorem fdiv_16 {x : Int} (h0 : 0 ≤ x) (h1 : x < 65536) : x.fdiv (2 ^ Int.toNat (8 * 2)) = 0 := by
  show x.fdiv 65536 = 0
  rw [Int.fdiv_eq_ediv_of_nonneg _ (by decide)]
  lia
theorem c_number_octets {x : Int} {t1 t2 : Tok} (R : Room A (n + 3)) (B : Base w b) (hs : ∀ a o, b a = some o → s.heap.get? a = some o) (h0 : 0 ≤ x) (h1 : x < 65536)
    (k : ∀ t b' h' t', Grow b b' s.heap h' [] → Q (.bytes (w16 x).toArray t) { s with heap := h', toks := t' }) :
    wpAny (model pw w) A (call (.ref 172) [.int x t1, .int 2 t2]) Q E s := by
  refine in_number_octets (body := _) rfl R B hs [] (fun _ h => bbot h) List.nodup_nil ?_
  intro L h₁ t₁ b₁ hL hup hC S R'
  dsimp only [extL] at S
  walk_at "x"
  refine wpAny_If ?_
  with_reducible refine isTrue_or ?_
  walk_at "q"
  refine n_cell (by assumption) (by assumption) (by kernel_rfl!) (by kernel_rfl!) (by kernel_rfl!) (by kernel_rfl!) ?_
  walk_at "i"
  with_reducible refine lt_int ?_
  walk_at "t"
  refine ite_no (decide_eq_false (by lia)) ?_
  with_reducible refine isTrue_or ?_
  walk_at "q"
  with_reducible refine wpAny_BinOp ?_
  refine n_cell (by assumption) (by assumption) (by kernel_rfl!) (by kernel_rfl!) (by kernel_rfl!) (by kernel_rfl!) ?_
  with_reducible refine wpAny_BinOp ?_
  walk_at "i"; walk_at "n"
  with_reducible refine mul_int ?_ (mulok (by lia) (by lia))
  with_reducible refine rshift_int (by lia) ?_
  walk_at "i"
  with_reducible refine gt_int ?_
  walk_at "t"
  rw [fdiv_16 h0 h1]
  refine ite_no rfl ?_
  with_reducible refine isTrue_or_nil ?_
  with_reducible refine ite_no (by with_reducible rfl) ?_
  walk_at "z"; walk_at "x"
  refine wpAny_Return_some ?_
  walk_at "f"
  refine n_bytes (by assumption) (by kernel_rfl!) (by kernel_rfl!) (by kernel_rfl!) (by kernel_rfl!) ?_
  refine PyProof.Rows.callWith_type1 ?_ (by kernel_rfl!) (by kernel_rfl!)
  walk_at "c"
  refine lcomp (cl := [("number", L + 1)]) (by intro _; kernel_rfl!) (by kernel_rfl!) (by kernel_rfl!) (by decide +kernel) ?_
  walk_at "f"
  refine n_range (by assumption) (by kernel_rfl!) (by kernel_rfl!) (by kernel_rfl!) (by kernel_rfl!) ?_
  refine PyProof.Rows.callWith_type1 ?_ (by kernel_rfl!) (by kernel_rfl!)
  walk_at "c"
  with_reducible refine wpAny_BinOp ?_
  walk_at "n"; walk_at "i"
  with_reducible refine sub_int ?_
  walk_at "c"
  refine PyProof.Rows.UnaryOp_ ?_
  walk_at "i"
  with_reducible refine PyProof.Rows.neg_int ?_
  walk_at "c"
  refine PyProof.Rows.UnaryOp_ ?_
  walk_at "i"
  with_reducible refine PyProof.Rows.neg_int ?_
  refine args_nil ?_
  rename St _ _ _ _ _ _ _ => S
  refine it_range3 R'.hd S (by rfl) (by decide) (by decide) (by decide) (by decide) fun I oI h₃ t₃ W S => ?_
  refine comp_src W S (by decide) (by decide) rfl (by kernel_rfl!) (fun i b₄ mu ys => mu = [] ∧ All2 IsI ys.toList ([x / 256, x % 256].take i)) ⟨rfl, .nil⟩ ?_ ?_
  · intro i v b₄ mC mu ys tl h₄ t₄ C hi hx1 hx2 hb₄ S
    refine nay fun hG => ?_
    obtain ⟨tt, rfl⟩ := hx1
    obtain ⟨rfl, hy⟩ := hx2
    refine hG ?_; clear hG
    replace hC := hC.up hb₄
    have hi2 : i < 2 := hi
    with_reducible refine wpAny_BinOp ?_
    with_reducible refine wpAny_BinOp ?_
    refine n_cell (by assumption) (by assumption) (by kernel_rfl!) (by kernel_rfl!) (by kernel_rfl!) (by kernel_rfl!) ?_
    with_reducible refine wpAny_BinOp ?_
    walk_at "i"; walk_at "n"
    with_reducible refine mul_int ?_ (mulok (by lia) (by lia))
    with_reducible refine rshift_int (by lia) ?_
    walk_at "i"
    with_reducible refine and_int ?_
    refine turnI (b2 := b₄) (mu2 := []) rfl ⟨rfl, ?_⟩ hb₄ (S.toks _)
    rw [Array.toList_push]
    have : i = 0 ∨ i = 1 := by lia
    rcases this with rfl | rfl
    · refine hy.push_take (x := x / 256) rfl ?_
      refine ⟨_, congrArg (Value.int · _) ?_⟩
      show Builtin.bitAnd (x.fdiv 256) 255 = x / 256
      rw [Int.fdiv_eq_ediv_of_nonneg _ (by decide), bitAnd_m8]
      lia
    · refine hy.push_take (x := x % 256) rfl ?_
      refine ⟨_, congrArg (Value.int · _) ?_⟩
      show Builtin.bitAnd (x.fdiv 1) 255 = x % 256
      rw [Int.fdiv_eq_ediv_of_nonneg _ (by decide), bitAnd_m8, Int.ediv_one]
  · rintro b₄ mu ys kk D h₄ t₄ hys ⟨rfl, hy⟩ hb₄ S hD
    have S2 := S.freeze hD
    have hI : IntsAre ys.toList [x / 256, x % 256] := ints_of hy
    refine args_nil ?_
    refine call_bytes_ints (vs := ys.toList) (ns := [x / 256, x % 256]) ⟨_, S2.get (PM.put_self ..), rfl, kk, rfl⟩ hI ?_ ?_ R'.hd fun h₅ t₅ k₅ hk₅ => ?_
    · intro y hy; simp at hy; rcases hy with rfl | rfl <;> lia
    · rw [Array.length_toList, hys, sizeLine_eq]; decide
    · have S3 := S2.ext (t := k₅) hk₅
      exact k _ _ _ _ S3.grow
end
-- RA
noncomputable def decs : List String := Builtin.Bytes.decodersThatHold ++ ["bytearray.__contains__", "bytearray.__mod__", "bytearray.__rmod__", "_struct.pack_into.held", "bytearray.find.held"]
noncomputable def dec : Code → Bool
  | .builtin id _ => decs.contains id
  | _ => false
noncomputable def GoodBelow (l : List (Code × Pos)) : Prop := ∀ x ∈ l, dec x.1 = false
noncomputable def Good (Γ : Ctx) : Prop := dec Γ.code = false ∧ GoodBelow Γ.below
noncomputable def wpR {α : Type} (w : World) (A : Around) (t : Sem α) (Q : α → Shared → Prop) (E : Value → Shared → Prop) (s : Shared) : Prop :=
  ∀ Γ p, Γ.In A → Good Γ → Sem.wp (model pw w) Γ t (fun a _ s' => Q a s') (fun e _ s' => E e s') p s
noncomputable def codeR (w : World) (A : Around) (c : Code) (R : Result → Shared → Prop) (s : Shared) : Prop := ∀ Γ p, Γ.code = c → Γ.Below A → Good Γ → wpCode (model pw w) Γ R p s
section
variable {α β : Type} {w : World} {A : Around} {E : Value → Shared → Prop} {s : Shared} {env : Env}
theorem wpR.any {t : Sem α} {Q : α → Shared → Prop} (h : wpAny (model pw w) A t Q E s) : wpR w A t Q E s := fun Γ p hΓ _ => h Γ p hΓ
theorem wpR.bind {m : Sem α} {f : α → Sem β} {Q : β → Shared → Prop} (h : wpR w A m (fun a s' => wpR w A (f a) Q E s') E s) : wpR w A (m >>= f) Q E s := fun Γ p hΓ g => by
  rw [Sem.wp_bind']
  exact Sem.wp_mono _ Γ m (fun a p' s' h' => h' Γ p' hΓ g) (fun _ _ _ h' => h') p s (h Γ p hΓ g)
theorem wpR.bindA {m : Sem α} {f : α → Sem β} {Q : β → Shared → Prop} (h : wpAny (model pw w) A m (fun a s' => wpR w A (f a) Q E s') E s) : wpR w A (m >>= f) Q E s := .bind (.any h)
theorem wpR.mono {t : Sem α} {Q Q' : α → Shared → Prop} {E' : Value → Shared → Prop} (h : wpR w A t Q E s) (hQ : ∀ a s, Q a s → Q' a s) (hE : ∀ e s, E e s → E' e s) : wpR w A t Q' E' s :=
  fun Γ p hΓ g => Sem.wp_mono _ Γ t (fun a _ s => hQ a s) (fun e _ s => hE e s) p s (h Γ p hΓ g)
theorem wpR.monoQ {t : Sem α} {Q Q' : α → Shared → Prop} (h : wpR w A t Q E s) (hQ : ∀ a s, Q a s → Q' a s) : wpR w A t Q' E s := h.mono hQ fun _ _ z => z
theorem wpR.pure {a : α} {Q : α → Shared → Prop} (h : Q a s) : wpR w A (Pure.pure a) Q E s := .any (wpAny_pure h)
theorem wpR.holding {vs : List Value} {m : Sem α} {Q : α → Shared → Prop} (h : wpR w A m Q E s) : wpR w A (PySem.holding vs m) Q E s := fun Γ p hΓ g => by rw [Sem.wp_holding]; exact h Γ p hΓ g
theorem wpR.keep {vs : List Value} {m : Sem α} {Q : α → Shared → Prop} (h : wpR w A m Q E s) : wpR w A (m.keep vs) Q E s := fun Γ p hΓ g => by rw [Sem.wp_keep]; exact h Γ p hΓ g
theorem wpR.onRaise {m : Sem α} {k : Value → Sem Unit} {Q : α → Shared → Prop} (h : wpR w A m Q (fun _ _ => False) s) : wpR w A (m.onRaise k) Q E s := fun Γ p hΓ g => by
  rw [Sem.wp_onRaise]
  exact Sem.wp_mono _ Γ m (fun _ _ _ h' => h') (fun e p' s' h' => h'.elim) p s (h Γ p hΓ g)
theorem wpR.stand {p : Pos} {f : Unit → Sem β} {Q : β → Shared → Prop} (h : wpR w A (f ()) Q E s) : wpR w A (standAt p >>= f) Q E s := .bindA (wpAny_standAt h)
theorem wpR.eq {m : Sem α} {a : α} {f : α → Sem β} {Q : β → Shared → Prop} (e : m = Pure.pure a) (h : wpR w A (f a) Q E s) : wpR w A (m >>= f) Q E s := .bindA (wpAny_of_eq e h)
theorem codeR.any {c : Code} {R : Result → Shared → Prop} (h : codeAny (model pw w) A c R s) : codeR w A c R s := fun Γ p hc hΓ _ => h Γ p hc hΓ
theorem codeR.mono {c : Code} {R R' : Result → Shared → Prop} (h : codeR w A c R s) (hR : ∀ r s, R r s → R' r s) : codeR w A c R' s := fun Γ p hc hΓ g => wpCode_mono hR (h Γ p hc hΓ g)
theorem codeR.tree {c : Code} {R : Result → Shared → Prop}
    (h : wpR w (A.under c) ((model pw w).den c) (fun fin s' => match fin with | .done f => R (.ok f) s' | .again c' => c'.quiet = true ∧ dec c' = false ∧ codeR w A c' R s') (fun e s' => R (.error e) s') s) : codeR w A c R s := fun Γ p hc hΓ g => by
  rw [wpCode_iff_wp, hc]
  refine Sem.wp_mono _ Γ _ (fun fin p' s' h' => ?_) (fun _ _ _ h' => h') p s (h Γ p (hc ▸ hΓ.in) g)
  cases fin with
  | done f => exact h'
  | again c' => exact ⟨h'.1, h'.2.2 (Γ.goto c') p' rfl (hΓ.goto c') ⟨h'.2.1, g.2⟩⟩
theorem codeR.loop {c : Code} {R : Result → Shared → Prop} (hq : c.quiet = true) (hdec : dec c = false) (I : Nat → Shared → Prop)
    (turn : ∀ n s, I n s → wpR w (A.under c) ((model pw w).den c)
      (fun fin s' => match fin with | .done f => R (.ok f) s' | .again c' => (c' = c ∧ ∃ m, m < n ∧ I m s') ∨ (c'.quiet = true ∧ dec c' = false ∧ codeR w A c' R s')) (fun e s' => R (.error e) s') s)
    (n : Nat) (h : I n s) : codeR w A c R s := by
  induction n using Nat.strongRecOn generalizing s with
  | ind n ih =>
    refine codeR.tree ((turn n s h).mono (fun fin s' hf => ?_) fun _ _ h' => h')
    cases fin with
    | done f => exact hf
    | again c' =>
      rcases hf with ⟨rfl, m, hm, hI⟩ | hf
      · exact ⟨hq, hdec, ih m hm hI⟩
      · exact hf
theorem goodEnter {Γ : Ctx} {c : Code} {h : Option Value} {p : Pos} (g : Good Γ) (hc : dec c = false) : Good (Γ.enter c h p) := ⟨hc, fun x hx => by
  rcases List.mem_cons.mp hx with rfl | hx
  · exact g.1
  · exact g.2 x hx⟩
theorem wpR.run {c : Code} {h : Option Value} {Q : Flow → Shared → Prop} (hd : dec c = false) (hc : codeR w (A.mark h) c (fun r s' => match r with | .ok f => Q f s' | .error e => E e s') s) (hnb : h ≠ some byPass) :
    wpR w A (run c h) Q E s := fun Γ p hΓ g => by rw [Sem.wp_run]; exact hc _ p rfl (hΓ.enter c h p hnb) (goodEnter g hd)
theorem wpR.call {f : Value} {pos : List Value} {Q : Value → Shared → Prop} (hc : codeR w A (.call f ⟨pos, []⟩) (fun r s' => match r with | .ok (.ret v) => Q v s' | .ok _ => False | .error e => E e s') s) :
    wpR w A (PySem.call f pos) Q E s := fun Γ p hΓ g => by
  show Sem.wp _ Γ (runValue _) _ _ p s
  rw [Sem.wp_runValue]
  exact hc _ p rfl (hΓ.enter _ none p (by intro x; cases x)) (goodEnter g rfl)
theorem r_nil {Q : Flow → Shared → Prop} (h : Q .next s) : wpR w A (execs [] env) Q E s := .any (wpAny_execs_nil h)
theorem r_cons {st : Stmt} {rest : List Stmt} {Q : Flow → Shared → Prop} (h : wpR w A (exec st env) (fun f s' => match f with | .next => wpR w A (execs rest env) Q E s' | f => Q f s') E s) : wpR w A (execs (st :: rest) env) Q E s := by
  rw [execs_cons]
  refine .bind (h.monoQ fun f s' h' => ?_)
  cases f <;> first | exact h' | exact .pure h'
theorem r_consA {st : Stmt} {rest : List Stmt} {Q : Flow → Shared → Prop} (h : wpAny (model pw w) A (exec st env) (fun f s' => match f with | .next => wpR w A (execs rest env) Q E s' | f => Q f s') E s) : wpR w A (execs (st :: rest) env) Q E s := r_cons (.any h)
theorem r_Expr {e : Expr} {pos : Pos} {Q : Flow → Shared → Prop} (h : wpR w A (eval e env) (fun _ => Q .next) E s) (hi : interactive env = false) (hs : swapsWith e none pos.line env = Pure.pure false) : wpR w A (exec (.Expr e pos) env) Q E s := by
  rw [exec_Expr env e pos hi hs]
  exact .stand (.bind (h.monoQ fun v s' h' => .any (wpAny_dropValue h')))
theorem r_AssignName {x : Str} {px : Pos} {value : Expr} {pos : Pos} {Q : Flow → Shared → Prop} (h : wpR w A (eval value env) (fun v s₁ => wpAny (model pw w) A (storeName env x v) (fun _ => Q .next) E s₁) E s)
    (hs : swapsWith value (some (.Name x px)) pos.line env = Pure.pure false) : wpR w A (exec (.Assign [.Name x px] value pos) env) Q E s := fun Γ p hΓ g => by
  simp only [exec_Assign_Name env x px value pos hs, Sem.wp_bind', Sem.wp_cmd_standAt, Sem.wp_bindName, Sem.wp_pure']
  exact Sem.wp_mono _ Γ _ (fun v _ s₁ h₁ => h₁ Γ _ hΓ) (fun _ _ _ h' => h') _ _ (h Γ _ hΓ g)
theorem r_AssignAttr {o : Expr} {attr : Str} {p' : Pos} {value : Expr} {pos : Pos} {Q : Flow → Shared → Prop}
    (h : wpR w A (eval value env) (fun v s₁ => wpAny (model pw w) A (eval o env) (fun ov s₂ => wpAny (model pw w) A (setAttr ov attr v) (fun _ => Q .next) E s₂) E s₁) E s)
    (hs : swapsWith value (some (.Attribute o attr p')) pos.line env = Pure.pure false) : wpR w A (exec (.Assign [.Attribute o attr p'] value pos) env) Q E s := fun Γ p hΓ g => by
  simp only [plainObj_exec_Assign_Attribute o attr p' value pos hs, assign_Attribute, Sem.wp_bind', Sem.wp_holding, Sem.wp_cmd_standAt, Sem.wp_release, Sem.wp_pure']
  exact Sem.wp_mono _ Γ _ (fun v p₁ s₁ h₁ => Sem.wp_mono _ Γ _ (fun ov _ s₂ h₂ => h₂ Γ _ hΓ) (fun _ _ _ h' => h') _ _ (h₁ Γ p₁ hΓ)) (fun _ _ _ h' => h') _ _ (h Γ _ hΓ g)
theorem r_If {test : Expr} {body orelse : List Stmt} {pos : Pos} {Q : Flow → Shared → Prop}
    (h : wpAny (model pw w) A (isTrue test env (eval test env)) (fun b s₂ => if b then wpR w A (execs body env) Q E s₂ else wpR w A (execs orelse env) Q E s₂) E s) : wpR w A (exec (.If test body orelse pos) env) Q E s := by
  rw [exec_If]
  refine .stand (.bindA (wpAny_mono h (fun b s₂ h₂ => ?_) fun _ _ z => z))
  cases b <;> exact h₂
theorem r_Return {e : Expr} {pos : Pos} {Q : Flow → Shared → Prop} (h : wpR w A (eval e env) (fun v => Q (.ret v)) E s) : wpR w A (exec (.Return (some e) pos) env) Q E s := by
  rw [exec_Return_some]
  exact .stand (.bind (h.monoQ fun v s' h' => .pure h'))
theorem r_AssignTuple {elts : List Expr} {k : Nat} {tpos : Pos} {value : Expr} {pos : Pos} {Q : Flow → Shared → Prop}
    (h : wpR w A (eval value env) (fun v s₁ => wpAny (model pw w) A (assign (.Tuple elts k tpos) env v) (fun _ => Q .next) E s₁) E s)
    (he : exec (.Assign [.Tuple elts k tpos] value pos) env = (do standAt pos; let v ← eval value env; assign (.Tuple elts k tpos) env v; Pure.pure .next)) : wpR w A (exec (.Assign [.Tuple elts k tpos] value pos) env) Q E s := by
  rw [he]
  exact .stand (.bind (h.monoQ fun v s₁ h₁ => .bindA (wpAny_mono h₁ (fun _ s₂ h₂ => .pure h₂) fun _ _ z => z)))
theorem r_Call {func : Expr} {args : List Expr} {pos : Pos} {Q : Value → Shared → Prop} (h : wpAny (model pw w) A (eval func env) (fun f s₁ => wpR w A (callWith pos f [] (backTo pos (starEach args env)) []) Q E s₁) E s)
    (he : eval (.Call func args [] pos) env = (do callWith pos (← eval func env) [] (backTo pos (starEach args env)) (backToKw pos (keywordEach [] env)))) : wpR w A (eval (.Call func args [] pos) env) Q E s := by
  rw [he]; exact .bindA h
theorem r_mcall {o : Expr} {name : Str} {apos pos : Pos} {args : List Expr} {Q : Value → Shared → Prop}
    (h : wpAny (model pw w) A (eval o env) (fun ov s₁ => wpAny (model pw w) A (getMethod ov name (do return (← importBound o env).getD true)) (fun fx s₂ => wpR w A (callWith pos fx.1 fx.2 (backTo pos (starEach args env)) []) Q E s₂) E s₁) E s)
    (he : eval (.Call (.Attribute o name apos) args [] pos) env = (do
      let ov ← eval o env
      standAt apos.atName
      let (f, first) ← holding [ov] (getMethod ov name (do return (← importBound o env).getD true))
      callWith pos f first (backTo pos (starEach args env)) [])) : wpR w A (eval (.Call (.Attribute o name apos) args [] pos) env) Q E s := by
  rw [he]
  exact .bindA (wpAny_mono h (fun ov s₁ h₁ => .stand (.bindA (wpAny_holding (wpAny_mono h₁ (fun fx s₂ h₂ => h₂) fun _ _ z => z)))) fun _ _ z => z)
theorem r_args_nil {pos : Pos} {Q : List Value → Shared → Prop} (h : Q [] s) : wpR w A (spliced (backTo pos (starEach [] env))) Q E s := .any (PyProof.Rows.args_nil h)
theorem r_args_cons {e : Expr} {rest : List Expr} {pos : Pos} {Q : List Value → Shared → Prop} (h : wpR w A (eval e env) (fun v s₁ => wpR w A (spliced (backTo pos (starEach rest env))) (fun vs s₂ => Q (v :: vs) s₂) E s₁) E s)
    (he : starEach (e :: rest) env = (false, eval e env) :: starEach rest env) : wpR w A (spliced (backTo pos (starEach (e :: rest) env))) Q E s := by
  rw [he]
  show wpR w A (spliced ((false, eval e env) :: backTo pos (starEach rest env))) Q E s
  rw [spliced]
  refine .bind (h.monoQ fun v s₁ h₁ => ?_)
  simp only [Bool.false_eq_true, if_false]
  exact .bindA (wpAny_pure (.bind (.holding (h₁.monoQ fun vs s₂ h₂ => .pure h₂))))
theorem r_evalArgs {f : Value} {args : List (Bool × Sem Value)} {Q : Args → Shared → Prop} (hp : args.any (·.1) = false) (h : wpR w A (spliced args) (fun vs s' => Q ⟨vs, []⟩ s') E s) : wpR w A (evalArgs f true args []) Q E s := by
  unfold evalArgs
  match args, hp with
  | [], _ =>
    show wpR w A (spliced [] >>= _) Q E s
    refine .bind (h.monoQ fun vs s' h' => ?_)
    refine .bindA (wpAny_pure ?_)
    refine .holding ?_
    exact .bindA (wpAny_pure (.bindA (wpAny_pure (.pure h'))))
  | (false, x) :: rest, _ =>
    show wpR w A (spliced ((false, x) :: rest) >>= _) Q E s
    refine .bind (h.monoQ fun vs s' h' => ?_)
    refine .holding ?_
    exact .bindA (wpAny_pure (.bindA (wpAny_pure (.pure h'))))
theorem r_callWith {pos : Pos} {f : Value} {first : List Value} {P : Heap → Prop} {args : List (Bool × Sem Value)} {Q : Value → Shared → Prop} (hplain : args.any (·.1) = false)
    (hk : ∀ h, P h → ∃ k, (k = Keeper.frame ∨ k = Keeper.machine ∨ k = Keeper.boundFrame) ∧ Looks (model pw w) h (keeperOf f) k)
    (h : wpR w A (spliced args) (fun vs s₁ => P s₁.heap ∧ wpR w A (PySem.call f (first ++ vs)) Q E s₁) E s) : wpR w A (callWith pos f first args []) Q E s := by
  unfold callWith
  refine .bind (.holding ((r_evalArgs (Q := fun a s₁ => P s₁.heap ∧ wpR w A (PySem.call f (first ++ a.pos) a.kw) Q E s₁) hplain h).monoQ fun a s₁ h₁ => .stand ?_))
  refine nay fun hG => ?_
  obtain ⟨k, hk', L⟩ := hk _ h₁.1
  refine hG ?_; clear hG
  simp only [hplain, List.any_nil, Bool.or_false]
  refine .bindA (L.here ?_)
  have tail : ∀ {t : Sem Value}, wpR w A t Q E s₁ → wpR w A (t >>= fun r => holding [r] point >>= fun _ => Pure.pure r) Q E s₁ :=
    fun ht => .bind (ht.monoQ fun r s₂ hr => .bindA (wpAny_holding (wpAny_point (.pure hr))))
  have marked (mk : Value) : wpR w A (callMarked mk f (first ++ a.pos) a.kw) Q E s₁ := by unfold callMarked; exact .keep h₁.2
  rcases hk' with rfl | rfl | rfl <;> dsimp only <;> first | exact tail h₁.2 | (split <;> first | exact tail h₁.2 | exact tail (marked _))
end
-- CutR
-- RB
section
variable {w : World} {A : Around} {E : Value → Shared → Prop} {s : Shared} {b : PM}
theorem codeR.func {body : List Stmt} {env : Env} {R : Result → Shared → Prop} (h : wpR w (A.deeper env) (execs body env) (fun f s' => R (.ok (.ret (match f with | .ret v => v | _ => .none))) s') (fun _ _ => False) s) :
    codeR w A (.func body env) R s := by
  refine codeR.tree ?_
  show wpR w (A.deeper env) (do point; match ← (execs body env).onRaise (leaving env) with | .ret v => ret v | _ => ret .none) _ _ s
  refine .bindA (wpAny_point (.bind (.onRaise (h.monoQ fun f s' h' => ?_))))
  cases f <;> exact .pure h'
theorem codeR.call_function {a : Addr} {args : Args} {o : Obj} {fd : FuncData} {body : List Stmt} {R : Result → Shared → Prop} (hroom : A.depth < recursionLimit)
    (ho : s.heap.get? a = some o) (hd' : o.data = .func fd) (hco : fd.scope.isCoroutine = false) (hgen : fd.scope.isGenerator = false) (hbody : fd.body = .stmts body) (hcd : s.heap.CodeRec fd.code fd.qualname)
    (h : wpAny (model pw w) A.in1 (bindArgs fd args) (fun binds s₁ =>
      wpAny (model pw w) A.in1 (newFunctionEnv fd.scope fd.globals fd.closure binds (fd.qualname ++ ".<locals>.") (some a) fd.code none fd.builtins)
        (fun env s₂ => s₂.heap.NoLimit ∧ codeR w A (.func body env) R s₂) (fun e s' => R (.error e) s') s₁) (fun e s' => R (.error e) s') s) :
    codeR w A (.call (.ref a) args) R s := by
  refine codeR.tree (.any ?_)
  show wpAny _ A.in1 (callAny (.ref a) args) _ _ s
  simp only [callAny]
  refine wpAny_bind (wpAny_load ho ?_)
  refine nay fun hG => ?_
  obtain ⟨c, oc, vs, tq, hc, hoc, hdc, hq⟩ := hcd
  refine hG ?_; clear hG
  simp only [hd', callFunction, hco, hgen, hbody, hc]
  rw [hc] at h
  refine wpAny_bind (m := field (.ref c) 1) (wpAny_field hoc hdc hq (wpAny_bind (wpAny_pure ?_)))
  exact wpAny_bind (wpAny_mono h (fun binds s₁ h₁ => wpAny_bind (wpAny_mono h₁ (fun env s₂ h₂ => wpAny_bind (wpAny_enterFrame h₂.1 hroom
    (wpAny_pure (And.intro rfl ⟨rfl, h₂.2⟩)))) fun _ _ h' => h')) fun _ _ h' => h')
theorem enterCR {f : Addr} {fd : FuncData} {body : List Stmt} {args : List Value} {binds : List (Str × Value)} {n : Nat} {R' : Result → Shared → Prop}
    (R : Room A (n + 1)) (B : Base w b) (hs : ∀ a o, b a = some o → s.heap.get? a = some o) (mu : List (Addr × Obj)) (hm : ∀ p ∈ mu, s.heap.get? p.1 = some p.2 ∧ b p.1 = none) (nd : (mu.map (·.1)).Nodup)
    (hf : (K w.params).lookup f = some ⟨.type "function", none, .func fd, #[]⟩) (hc : codeIn (K w.params) fd.code fd.qualname = true) (hbody : fd.body = .stmts body) (hbind : BindsTo s fd ⟨args, []⟩ binds)
    (hcell : ∀ x ∈ fd.scope.names, x.2 ≠ .cell) (hloc : (binds.all fun x => decide (fd.scope.names.lookup x.1 = some .local)) = true) (hco : fd.scope.isCoroutine = false) (hgen : fd.scope.isGenerator = false) (hk : fd.scope.kind = .function)
    (h : ∀ L h₁ t₁, L = s.heap.objs.size → St w ⟨s.heap, b, mu.map (·.1)⟩ b L (extL binds fun _ => none) mu { s with heap := h₁, toks := t₁ } → Room (A.deeper (callEnv fd L f)) n →
      wpR w (A.deeper (callEnv fd L f)) (execs body (callEnv fd L f)) (fun fl s' => R' (.ok (.ret (match fl with | .ret v => v | _ => .none))) s') (fun _ _ => False) { s with heap := h₁, toks := t₁ }) :
    codeR w A (.call (.ref f) ⟨args, []⟩) R' s := by
  have X : (K w.params).In s.heap := B.kin hs
  refine codeR.call_function R.limit (X _ _ hf) rfl hco hgen hbody (codeRec_of X hc) (hbind _ _ _ _ ?_)
  refine wpAny_newFunctionEnv hcell (locs hloc) (fun h₁ hns₁ hsb₁ => ⟨(noLimit_of X).fresh _ hsb₁, codeR.func ?_⟩) hk
  have hk₁ : ∀ c o, s.heap.get? c = some o → h₁.get? c = some o := fun c o e => hsb₁.extBut c o (Nat.ne_of_lt (Heap.lt_size e)) (Heap.get?_push_of_some _ e)
  have S : St w ⟨s.heap, b, mu.map (·.1)⟩ b s.heap.objs.size (extL binds fun _ => none) mu { s with heap := h₁, toks := s.toks + binds.length } := by
    refine ⟨B, fun a o q => hk₁ a o (hs a o q), fun a o q => q, fun a o q => .inl q, fun a o q _ => hk₁ a o q, (by rw [← extL_lookup]; exact hns₁), Nat.le_refl _, ?_, fun p hp => ⟨hk₁ _ _ (hm p hp).1, Nat.ne_of_lt (Heap.lt_size (hm p hp).1), (hm p hp).2, .inl (List.mem_map_of_mem hp)⟩, nd⟩
    cases q : b s.heap.objs.size with
    | none => rfl
    | some o => exact absurd (Heap.lt_size (hs _ _ q)) (Nat.lt_irrefl _)
  exact h _ _ _ rfl S R.deeper
theorem enterR {f : Addr} {fd : FuncData} {body : List Stmt} {args : List Value} {binds : List (Str × Value)} {n : Nat} {Q : Value → Shared → Prop}
    (R : Room A (n + 1)) (B : Base w b) (hs : ∀ a o, b a = some o → s.heap.get? a = some o) (mu : List (Addr × Obj)) (hm : ∀ p ∈ mu, s.heap.get? p.1 = some p.2 ∧ b p.1 = none) (nd : (mu.map (·.1)).Nodup)
    (hf : (K w.params).lookup f = some ⟨.type "function", none, .func fd, #[]⟩) (hc : codeIn (K w.params) fd.code fd.qualname = true) (hbody : fd.body = .stmts body) (hbind : BindsTo s fd ⟨args, []⟩ binds)
    (hcell : ∀ x ∈ fd.scope.names, x.2 ≠ .cell) (hloc : (binds.all fun x => decide (fd.scope.names.lookup x.1 = some .local)) = true) (hco : fd.scope.isCoroutine = false) (hgen : fd.scope.isGenerator = false) (hk : fd.scope.kind = .function)
    (h : ∀ L h₁ t₁, L = s.heap.objs.size → St w ⟨s.heap, b, mu.map (·.1)⟩ b L (extL binds fun _ => none) mu { s with heap := h₁, toks := t₁ } → Room (A.deeper (callEnv fd L f)) n →
      wpR w (A.deeper (callEnv fd L f)) (execs body (callEnv fd L f)) (fun fl s' => Q (match fl with | .ret v => v | _ => .none) s') (fun _ _ => False) { s with heap := h₁, toks := t₁ }) :
    wpR w A (call (.ref f) args) Q E s :=
  wpR.call (enterCR R B hs mu hm nd hf hc hbody hbind hcell hloc hco hgen hk fun L h₁ t₁ e S R' => h L h₁ t₁ e S R')
end
-- RC
namespace FA
theorem mro_ba : mroOf (.type "bytearray") = pure [.type "bytearray", .type "object"] := by rw [mroOf_type]; kernel_rfl
theorem lookup_ba_new : typeLookup (.type "bytearray") "__new__" = pure (some (.builtin "bytearray.__new__")) := by rw [typeLookup_type, builtinLookup_eq_fast]; kernel_rfl
theorem slot_ba_init : Slot "bytearray" "__init__" "bytearray.__init__" :=
  .of (owner := "bytearray") (n := "__init__") (by rw [typeLookup_type, builtinLookup_eq_fast]; kernel_rfl) (by decide +kernel) (by decide +kernel) (by decide +kernel)
    (by first | exact .inl (by decide +kernel) | exact .inr (by decide +kernel)) (by rw [isSubtype_type]; kernel_rfl)
theorem called_ba : TypeCalled "bytearray" "bytearray.__new__" "bytearray.__init__" :=
  ⟨by decide +kernel, by decide +kernel, ⟨_, _, mro_ba⟩, madeBy_type mro_ba lookup_ba_new (by decide +kernel), by decide +kernel, by rw [isSubtype_type]; kernel_rfl, slot_ba_init⟩
theorem typeCall_ba : checkTypeCall "bytearray" ⟨[], []⟩ = pure () := by kernel_rfl
theorem newCall_ba : checkBuiltinCall "bytearray.__new__" ⟨[.type "bytearray"], []⟩ = pure () := by kernel_rfl
theorem entry_ba_new : entryFor table "bytearray.__new__" = some Builtin.«list.__new__» := entryFor_alias (id' := "list.__new__") (by kernel_rfl) (by first | rfl | decide +kernel) (by decide +kernel) (by kernel_rfl)
theorem entry_ba_init : entryFor table "bytearray.__init__" = some Builtin.«bytearray.__init__» := entryFor_of_tree (by kernel_rfl)
theorem plain_ba_new : plainId "bytearray.__new__" = true := by decide +kernel
theorem args_ba_init (a : Value) : argsOk "bytearray.__init__" ⟨[a], []⟩ := by unfold argsOk; kernel_rfl
theorem bind_ba : Builtin.Bytes.bindOptional "bytearray.__init__" "bytearray" ["source", "encoding", "errors"] [] [] = pure [none, none, none] := by kernel_rfl
theorem sub_ba : isSubtype (.type "bytearray") (.type "bytearray") = pure true := by rw [isSubtype_type]; kernel_rfl
set_option maxRecDepth 1000000 in
set_option maxHeartbeats 4000000 in
theorem owner_ba_new : ("bytearray.__new__".splitOn ".__new__").headD "" = "bytearray" := by simp +decide [String.splitOn, String.splitOnAux]
end FA
noncomputable abbrev baO (d : Array UInt8) : Obj := { cls := .type "bytearray", data := .bytearray d }
section
variable {w : World} {A : Around} {E : Value → Shared → Prop} {s : Shared}
theorem code_ba_new {Q₁ : Value → Shared → Prop} (h : Q₁ (.ref s.heap.objs.size) { s with heap := s.heap.push (baO #[]) }) :
    codeAny (model pw w) A (.call (.builtin "bytearray.__new__") ⟨[.type "bytearray"], []⟩) (wants Q₁ E) s := by
  refine codeAny_of_tree ?_
  show wpAny _ A.in1 (do checkBuiltinCall "bytearray.__new__" ⟨[.type "bytearray"], []⟩; again (.builtin "bytearray.__new__" ⟨[.type "bytearray"], []⟩)) _ _ s
  refine wpAny_bind (wpAny_of_eq FA.newCall_ba (wpAny_pure ⟨plainId_quiet FA.plain_ba_new _, codeAny_builtin_stack FA.entry_ba_new rfl fun p st => ?_⟩))
  rw [Around.under_plainId FA.plain_ba_new _]
  have hsub := FA.sub_ba
  have hown := FA.owner_ba_new
  obtain ⟨hp, g, d, tk, os⟩ := s
  simp only [hown]
  wp_walk
  exact h
theorem good_any {f : Code × Pos → Bool} {Q : Bool → Shared → Prop} (hf : ∀ c p, dec c = false → f (c, p) = false) (h : Q false s) : wpR w A (do return (← stack).any f) Q E s := fun Γ p hΓ g => by
  show Q (((Γ.code, p) :: Γ.below).any f) s
  have : ((Γ.code, p) :: Γ.below).any f = false := by
    rw [List.any_eq_false]
    intro x hx
    rcases List.mem_cons.mp hx with rfl | hx
    · rw [hf _ _ g.1]; simp
    · obtain ⟨c, q⟩ := x
      rw [hf _ _ (g.2 _ hx)]; simp
  rw [this]; exact h
theorem dec_hold {id : String} (h : decs.contains id = false) : Builtin.Bytes.decodersThatHold.contains id = false := by
  cases q : Builtin.Bytes.decodersThatHold.contains id with
  | false => rfl
  | true =>
    have := List.contains_iff_mem.mpr (List.mem_append_left (bs := ["bytearray.__contains__", "bytearray.__mod__", "bytearray.__rmod__", "_struct.pack_into.held", "bytearray.find.held"]) (List.contains_iff_mem.mp q))
    exact absurd (this.symm.trans h) (by decide)
theorem exp_good {self : Value} {c : Code} {p : Pos} (hc : dec c = false) : (match (c, p) with
    | (.builtin "bytearray.__contains__" ⟨v :: _, _⟩, _) | (.builtin "bytearray.__mod__" ⟨v :: _, _⟩, _)
    | (.builtin "bytearray.__rmod__" ⟨_ :: v :: _, _⟩, _) | (.builtin "_struct.pack_into.held" ⟨v :: _, _⟩, _) => Builtin.Bytes.sameRef v self
    | (.builtin "bytearray.find.held" ⟨_ :: _ :: held, _⟩, _) => held.any (Builtin.Bytes.sameRef self)
    | (.builtin id ⟨v :: _, _⟩, _) => Builtin.Bytes.sameRef v self && Builtin.Bytes.decodersThatHold.contains id
    | _ => false) = false := by
  cases c with
  | builtin id a =>
    have key : decs.contains id = false := hc
    have n1 : id ≠ "bytearray.__contains__" := fun e => by subst e; exact absurd key (by decide +kernel)
    have n2 : id ≠ "bytearray.__mod__" := fun e => by subst e; exact absurd key (by decide +kernel)
    have n3 : id ≠ "bytearray.__rmod__" := fun e => by subst e; exact absurd key (by decide +kernel)
    have n4 : id ≠ "_struct.pack_into.held" := fun e => by subst e; exact absurd key (by decide +kernel)
    have n5 : id ≠ "bytearray.find.held" := fun e => by subst e; exact absurd key (by decide +kernel)
    have d := dec_hold key
    obtain ⟨pos, kw⟩ := a
    unfold exp_good.match_1
    dsimp only
    simp only [dif_neg n1, dif_neg n2, dif_neg n3, dif_neg n4, dif_neg n5]
    cases pos with
    | nil => rfl
    | cons v vs =>
      show (Builtin.Bytes.sameRef v self && Builtin.Bytes.decodersThatHold.contains id) = false
      rw [d, Bool.and_false]
  | _ => rfl
theorem r_exported {self : Value} {Q : Bool → Shared → Prop} (h : Q false s) : wpR w A (Builtin.Bytes.exported self) Q E s := by
  unfold Builtin.Bytes.exported
  exact good_any (fun c p hc => exp_good hc) h
end
-- RD
section
variable {w : World} {A : Around} {E : Value → Shared → Prop} {s : Shared}
theorem no_release : typeLookup (.type "bytearray") "__release_buffer__" = pure (some (.builtin "bytearray.__release_buffer__")) := by rw [typeLookup_type, builtinLookup_eq_fast]; kernel_rfl
theorem r_unshared {a : Addr} {d : Array UInt8} {Q : Bool → Shared → Prop} (g : s.heap.get? a = some (baO d)) (h : Q false s) : wpR w A (Builtin.Bytes.exported (.ref a) <||> do return (← Builtin.Bytes.exportsOf (.ref a)) > 0) Q E s := by
  show wpR w A (Builtin.Bytes.exported (.ref a) >>= fun b => _) Q E s
  refine .bind (r_exported ?_)
  show wpR w A (Builtin.Bytes.exportsOf (.ref a) >>= _) Q E s
  refine .bindA ?_
  unfold Builtin.Bytes.exportsOf
  exact wpAny_bind (wpAny_load g (wpAny_pure (.pure h)))
theorem w_write {a : Addr} {d : Array UInt8} {f : Array UInt8 → Array UInt8} {Q : Unit → Shared → Prop} (g : s.heap.get? a = some (baO d)) (hz : (f d).size ≤ 100000)
    (h : Q () { s with heap := s.heap.update a (Obj.mapBytearray f) }) : wpAny (model pw w) A (Builtin.Bytes.write (.ref a) f) Q E s := by
  show wpAny _ _ (updateBytearray a f) _ _ _
  unfold updateBytearray
  have e : Obj.mapBytearray f (baO d) = baO (f d) := rfl
  refine wpAny_bind (wpAny_load g ?_)
  refine wpAny_bind (wpAny_update g ?_)
  have g' : (s.heap.update a (Obj.mapBytearray f)).get? a = some (baO (f d)) := by rw [← e]; exact Heap.get?_update_self _ g rfl
  refine wpAny_lookBehind g' ?_ h
  show (if (f d).size > sizeLine then _ else _) = none
  rw [if_neg (by rw [sizeLine_eq]; lia)]
theorem ba_init {a : Addr} {R : PySem.Fin → Shared → Prop} (g : s.heap.get? a = some (baO #[])) (h : R (.done (.ret .none)) { s with heap := s.heap.update a (Obj.mapBytearray fun _ => #[]) }) : wpR w A (Builtin.«bytearray.__init__» ⟨[.ref a], []⟩) R E s := by
  unfold Builtin.«bytearray.__init__»
  have hT : s.TypeIs (.ref a) "bytearray" := ⟨_, g, rfl⟩
  show wpR w A (Builtin.Bytes.ownRelease (.ref a) >>= _) _ _ _
  refine .bindA ?_
  unfold Builtin.Bytes.ownRelease Builtin.Bytes.slotIsOwn
  refine wpAny_bind (wpAny_bind (wpAny_specialOf hT no_release ?_))
  refine bm_if_false (by decide +kernel) ?_
  rw [show "bytearray.__release_buffer__".dropRight ("__release_buffer__".length + 1) = "bytearray" by decide +kernel]
  refine wpAny_isInstance hT FA.sub_ba ?_
  refine wpAny_pure ?_
  show wpR w A (Builtin.Bytes.bindOptional "bytearray.__init__" "bytearray" ["source", "encoding", "errors"] [] [] >>= _) _ _ _
  rw [FA.bind_ba]
  refine .bindA (wpAny_pure ?_)
  refine .bindA (wpAny_pure (.bindA (wpAny_pure ?_)))
  refine .bind (r_unshared g ?_)
  show wpR w A (Builtin.Bytes.write (.ref a) (fun _ => #[]) >>= _) _ _ _
  refine .bindA (w_write g (Nat.zero_le _) ?_)
  exact .bindA (wpAny_pure (.pure h))
theorem take_bytes {id : String} {m : Array UInt8} {t : Tok} : Builtin.Bytes.takeBufferQuiet? id (.bytes m t) 0 = pure (some (m, none)) := by
  unfold Builtin.Bytes.takeBufferQuiet? Builtin.Bytes.takeBuffer?
  rw [KBy.special_eq KBy.look_buffer, KBy.own_buffer, show ((0 : Int) == Builtin.Bytes.fullReadOnly) = false by decide +kernel, KBy.buffer_eq]
  rfl
theorem entry_ba_extend : entryFor table "bytearray.extend" = some Builtin.«bytearray.extend» := entryFor_of_tree (by kernel_rfl)
theorem ba_extend {a : Addr} {d m : Array UInt8} {t : Tok} {R : PySem.Fin → Shared → Prop} (g : s.heap.get? a = some (baO d)) (hz : d.size + m.size ≤ 100000) (h : R (.done (.ret .none)) { s with heap := s.heap.update a (Obj.mapBytearray fun x => x ++ m) }) : wpR w A (Builtin.«bytearray.extend» ⟨[.ref a, .bytes m t], []⟩) R E s := by
  unfold Builtin.«bytearray.extend»
  show wpR w A (selfAndOne "bytearray.extend" ⟨[.ref a, .bytes m t], []⟩ >>= _) _ _ _
  refine .bindA (wpAny_of_eq (a := (.ref a, .bytes m t)) rfl ?_)
  show wpR w A (specialOf (.bytes m t) "__buffer__" >>= _) _ _ _
  rw [KBy.special_eq KBy.look_buffer]
  refine .bindA (wpAny_pure ?_)
  show wpR w A (rule _ >>= _) _ _ _
  refine .bindA (wpAny_rule ?_)
  show wpR w A (Builtin.Bytes.payload (.ref a) >>= _) _ _ _
  have pay : ∀ {Q : Array UInt8 → Shared → Prop}, Q d s → wpAny (model pw w) A (Builtin.Bytes.payload (.ref a)) Q E s := fun q => by
    unfold Builtin.Bytes.payload Builtin.Bytes.payload?
    exact wpAny_bind (wpAny_bind (wpAny_load g (wpAny_pure (wpAny_pure q))))
  refine .bindA (pay ?_)
  show wpR w A (Builtin.Bytes.takeBufferQuiet? _ _ _ >>= _) _ _ _
  rw [take_bytes]
  refine .bindA (wpAny_pure ?_)
  have tailw : wpR w A (Builtin.Bytes.write (.ref a) (fun x => x ++ m) >>= fun _ => ret .none) R E s := .bindA (w_write g (by rw [Array.size_append]; exact hz) (.pure h))
  show wpR w A (if (!m.isEmpty) = true then Builtin.Bytes.checkResize (.ref a) >>= fun _ => (Builtin.Bytes.write (.ref a) (fun x => x ++ m) >>= fun _ => ret .none) else Builtin.Bytes.write (.ref a) (fun x => x ++ m) >>= fun _ => ret .none) R E s
  split
  · refine .bind ?_
    unfold Builtin.Bytes.checkResize
    refine .bind (r_unshared g ?_)
    exact .pure tailw
  · exact tailw
end
-- RE
section
variable {w : World} {A : Around} {E : Value → Shared → Prop} {s : Shared}
theorem r_if_false {α : Type} {c : Bool} {x y : Sem α} {Q : α → Shared → Prop} (hc : c = false) (h : wpR w A y Q E s) : wpR w A (if c = true then x else y) Q E s := by
  subst hc
  exact h
theorem codeR.builtin {id : String} {args : Args} {b : Builtin} {R : Result → Shared → Prop} (hb : entryFor table id = some b)
    (h : wpR w (A.under (.builtin id args)) (b args) (fun fin s' => match fin with | .done f => R (.ok f) s' | .again c' => c'.quiet = true ∧ dec c' = false ∧ codeR w A c' R s') (fun e s' => R (.error e) s') s) : codeR w A (.builtin id args) R s := by
  refine codeR.tree ?_
  show wpR w _ (match entryFor table id with | some b => b args | none => unsupported ((withoutEnding? id "#data").getD id)) _ _ s
  rw [hb]; exact h
theorem codeR.call_bi {id : String} {args : Args} {b : Builtin} {R : Result → Shared → Prop} (hp : plainId id = true) (hd : decs.contains id = false) (hb : entryFor table id = some b)
    (h : wpAny (model pw w) A.in1 (checkBuiltinCall id args) (fun _ s₁ => wpR w A.in1 (b args) (fun fin s' => match fin with | .done f => R (.ok f) s' | .again c' => c'.quiet = true ∧ dec c' = false ∧ codeR w A c' R s') (fun e s' => R (.error e) s') s₁) (fun e s' => R (.error e) s') s) :
    codeR w A (.call (.builtin id) args) R s := by
  refine codeR.tree (.any ?_)
  show wpAny _ A.in1 (do checkBuiltinCall id args; again (.builtin id args)) _ _ s
  refine wpAny_bind (wpAny_mono h (fun _ s₁ h₁ => wpAny_pure (And.intro (plainId_quiet hp _) ⟨hd, codeR.tree ?_⟩)) fun _ _ h' => h')
  show wpR w _ (match entryFor table id with | some b => b args | none => unsupported ((withoutEnding? id "#data").getD id)) _ _ s₁
  rw [hb, Around.under_plainId hp]
  exact h₁
theorem r_call_slot {T : String} {name : Str} {id : String} {b : Builtin} {self : Value} {rest : List Value} {Q : Value → Shared → Prop} (h : Slot T name id) (hd : decs.contains id = false) (hT : s.TypeIs self T) (hb : entryFor table id = some b)
    (ha : argsOk id ⟨self :: rest, []⟩) (hc : wpR w A.in1 (b ⟨self :: rest, []⟩) (fun fin s' => fin = .done (.ret .none) ∧ Q .none s') E s) : wpR w A (call (.builtin id) (self :: rest)) Q E s := by
  refine wpR.call (codeR.call_bi h.plain hd hb (h.check _ _ _ _ _ _ _ _ hT ha (hc.monoQ fun fin s' h' => ?_)))
  obtain ⟨rfl, hv⟩ := h'
  exact hv
theorem slot_ba_extend : Slot "bytearray" "extend" "bytearray.extend" :=
  .of (owner := "bytearray") (n := "extend") (by rw [typeLookup_type, builtinLookup_eq_fast]; kernel_rfl) (by decide +kernel) (by decide +kernel) (by decide +kernel)
    (by first | exact .inl (by decide +kernel) | exact .inr (by decide +kernel)) (by rw [isSubtype_type]; kernel_rfl)
theorem args_ba_extend (a c : Value) : argsOk "bytearray.extend" ⟨[a, c], []⟩ := by unfold argsOk; kernel_rfl
theorem r_extend {a : Addr} {d m : Array UInt8} {t : Tok} {Q : Value → Shared → Prop} (g : s.heap.get? a = some (baO d)) (hz : d.size + m.size ≤ 100000) (h : Q .none { s with heap := s.heap.update a (Obj.mapBytearray fun x => x ++ m) }) :
    wpR w A (call (.builtin "bytearray.extend") [.ref a, .bytes m t]) Q E s :=
  r_call_slot slot_ba_extend (by decide +kernel) ⟨_, g, rfl⟩ entry_ba_extend (args_ba_extend _ _) (ba_extend g hz ⟨rfl, h⟩)
theorem r_new_ba {Q : Value → Shared → Prop} (h : ∀ h', h'.get? s.heap.objs.size = some (baO #[]) → (∀ c o, c ≠ s.heap.objs.size → (s.heap.push (baO #[])).get? c = some o → h'.get? c = some o) → Q (.ref s.heap.objs.size) { s with heap := h' }) :
    wpR w A (call (.type "bytearray") []) Q E s := by
  have ft := FA.called_ba
  obtain ⟨c, tl, hmro⟩ := ft.mro
  have hmade := ft.made
  have hsub := ft.sub
  have h1 := ft.notType
  have h2 := ft.canCreate
  have hct := FA.typeCall_ba
  refine wpR.call (codeR.tree (.any ?_))
  show wpAny _ _ (callAny (.type "bytearray") _) _ _ _
  refine wpAny_pure ⟨Code.quiet_builtin _ (by decide +kernel), (by decide +kernel), codeR.builtin F.entry_type_call ?_⟩
  rw [Around.under_plain (weight_type_call_type "bytearray" [] []) rfl]
  unfold Builtin.«type.__call__»
  refine r_if_false h1 ?_
  refine r_if_false h2 ?_
  refine .eq hct ?_
  refine .eq hmro ?_
  refine r_if_false rfl ?_
  refine .eq hmade ?_
  refine .bindA (wpAny_pure ?_)
  refine .bindA (wpAny_holding (wpAny_call (codeAny_mono (code_ba_new (E := fun _ _ => False) (Q₁ := fun v s' => v = .ref s.heap.objs.size ∧ s' = { s with heap := s.heap.push (baO #[]) }) ⟨rfl, rfl⟩) fun r s₁ hr => ?_)))
  rcases r with e | (_ | _ | _ | v)
  case ok.ret =>
    obtain ⟨rfl, rfl⟩ := hr
    have g : (s.heap.push (baO #[])).get? s.heap.objs.size = some (baO #[]) := Heap.get?_push_size _ rfl
    have hT : ({ s with heap := s.heap.push (baO #[]) } : Shared).TypeIs (.ref s.heap.objs.size) "bytearray" := ⟨_, g, rfl⟩
    show wpR w A.in1 (isInstance (.ref s.heap.objs.size) (.type "bytearray") >>= _) _ _ _
    refine .bindA (wpAny_isInstance hT hsub ?_)
    refine r_if_false rfl ?_
    refine .bind (.holding ?_)
    unfold callSpecial?
    refine .bindA (wpAny_specialOf hT FA.slot_ba_init.lookup ?_)
    refine .holding (.eq (FA.slot_ba_init.bind _) (.bind ?_))
    refine r_call_slot FA.slot_ba_init (by decide +kernel) hT FA.entry_ba_init (FA.args_ba_init _) (ba_init g ⟨rfl, ?_⟩)
    refine .pure ?_
    refine r_if_false rfl ?_
    refine .pure ?_
    refine h _ ?_ fun c o hc q => ?_
    · exact Heap.get?_update_self (Obj.mapBytearray fun _ => #[]) g rfl
    · exact (Heap.get?_update_ne _ _ _ _ hc).trans q
  all_goals exact hr.elim
end
-- RF
section
variable {w : World} {A : Around} {E : Value → Shared → Prop} {s : Shared} {b : PM}
theorem codeR.call_bi_at {id : String} {args : Args} {bi : Builtin} {R : Result → Shared → Prop} (hq : (Code.builtin id args).quiet = true) (hd : decs.contains id = false) (hb : entryFor table id = some bi)
    (h : wpAny (model pw w) A.in1 (checkBuiltinCall id args) (fun _ s₁ => wpR w (A.under (.builtin id args)) (bi args) (fun fin s' => match fin with | .done f => R (.ok f) s' | .again c' => c'.quiet = true ∧ dec c' = false ∧ codeR w A c' R s') (fun e s' => R (.error e) s') s₁) (fun e s' => R (.error e) s') s) :
    codeR w A (.call (.builtin id) args) R s := by
  refine codeR.tree (.any ?_)
  show wpAny _ A.in1 (do checkBuiltinCall id args; again (.builtin id args)) _ _ s
  exact wpAny_bind (wpAny_mono h (fun _ s₁ h₁ => wpAny_pure (And.intro hq ⟨hd, codeR.builtin hb h₁⟩)) fun _ _ h' => h')
theorem make_R {C : Addr} {rest : List Value} {init : Value} {R : Result → Shared → Prop} {h : Heap} {g : Array GenState} {d : Drawn} {t : Nat} {os : OsState} (Y : Makes (model pw w) h C) (hi : Looks (model pw w) h (typeLookup (.ref C) "__init__") (some init))
    (hb : ∀ self, Looks (model pw w) h (bindSpecial init self) (init, [self])) (hne : (some init != some (Value.builtin "object.__init__")) = true)
    (hq : codeR w (A.under (.builtin "type.__call__" ⟨.ref C :: rest, []⟩)) (.call init ⟨.ref (h.objs.size + 1) :: rest, []⟩) (fun r s' => r = .ok (.ret .none) ∧ R (.ok (.ret (.ref (h.objs.size + 1)))) s') ⟨(h.push emptyDict).push (instObj C h.objs.size), g, d, t, os⟩) :
    codeR w A (.call (.ref C) ⟨rest, []⟩) R ⟨h, g, d, t, os⟩ := by
  have Y' := Y
  refine nay fun hG => ?_
  obtain ⟨⟨oc, od, cd, sl, hC, e1, e2, e4⟩, made, base, self, top, call, typ⟩ := Y
  refine hG ?_; clear hG
  refine codeR.tree (.any ?_)
  show wpAny _ _ (callAny (.ref C) _) _ _ _
  refine nd_load hC ?_
  show wpAny _ _ (callAny.viaDunder (.ref C) _) _ _ _
  unfold callAny.viaDunder
  refine wpAny_bind (call.at ?_)
  dsimp only
  rw [tc_bind]
  refine wpAny_bind (wpAny_pure (wpAny_bind (wpAny_pure ?_)))
  refine wpAny_pure (a := Fin.again (.call (.builtin "type.__call__") ⟨.ref C :: rest, []⟩)) (And.intro rfl ⟨rfl, ?_⟩)
  refine codeR.call_bi_at (Code.quiet_builtin _ (by decide +kernel)) (by decide +kernel) entry_typeCall (check_slot tc_kind tc_split typ (tc_args _ _ _) ?_)
  unfold Builtin.«type.__call__»
  have hm : Looks (model pw w) h (mroOf (.ref C)) cd.mro := ((Looks.ld (part := none) hC).andThen .now).andThen .now
  refine r_if_false rfl ?_
  refine .bindA (hm.at ?_)
  refine r_if_false e4 ?_
  refine .bindA (made.at ?_)
  refine .bindA (wpAny_pure ?_)
  refine .bindA (wpAny_holding (wpAny_call (new_K Y' hi (.inl hne) ?_)))
  have k : ∀ b o, h.get? b = some o → ((h.push emptyDict).push (instObj C h.objs.size)).get? b = some o := fun b o e => Heap.get?_push_of_some _ (Heap.get?_push_of_some _ e)
  have hx : ((h.push emptyDict).push (instObj C h.objs.size)).get? (h.objs.size + 1) = some (instObj C h.objs.size) := by heap_get
  have t1 : Looks (model pw w) ((h.push emptyDict).push (instObj C h.objs.size)) (typeOf (.ref (h.objs.size + 1))) (.ref C) := (Looks.ld hx).andThen .now
  have s1 := self.keeps k
  have i1 := hi.keeps k
  have b1 := (hb (.ref (h.objs.size + 1))).keeps k
  refine .bindA ((t1.andThen s1 : Looks (model pw w) _ (isInstance (.ref (h.objs.size + 1)) (.ref C)) true).at ?_)
  refine r_if_false rfl ?_
  refine .bind (.holding ?_)
  unfold callSpecial?
  refine .bindA ((t1.andThen i1 : Looks (model pw w) _ (specialOf (.ref (h.objs.size + 1)) "__init__") (some init)).at ?_)
  refine .holding (.bindA (b1.at (.bind ?_)))
  refine wpR.call (hq.mono fun r s' z => ?_)
  obtain ⟨rfl, z⟩ := z
  refine .pure ?_
  refine r_if_false rfl ?_
  exact .pure z
theorem new_instR {C fI : Addr} {rest : List Value} {Q : Value → Shared → Prop} (X : (K w.params).In s.heap) (hm : makesIn (K w.params) C = true) (hi : findIn (K w.params) (.ref C) "__init__" = some (some (.ref fI))) (hf : typeIn (K w.params) (.ref fI) = some (.type "function"))
    (h : codeR w (A.under (.builtin "type.__call__" ⟨.ref C :: rest, []⟩)) (.call (.ref fI) ⟨.ref (s.heap.objs.size + 1) :: rest, []⟩) (fun r s' => r = .ok (.ret .none) ∧ Q (.ref (s.heap.objs.size + 1)) s') { s with heap := (s.heap.push emptyDict).push (instObj C s.heap.objs.size) }) :
    wpR w A (call (.ref C) rest) Q E s := by
  refine nay fun hG => ?_
  obtain ⟨hh, g, d, t, os⟩ := s
  refine hG ?_; clear hG
  exact wpR.call (make_R (makes_of X hm) (looks_findIn X hi) (fun self => bind_fn X self hf) rfl h)
end
-- RG
section
variable {w : World} {A : Around} {E : Value → Shared → Prop} {s : Shared} {e : En} {b : PM} {L : Addr} {m : Str → Option Value} {mu : List (Addr × Obj)} {env : Env}
theorem codeR.forLoopG {R : Result → Shared → Prop} {target : Expr} {it : Value} {body : List Stmt} (I : Nat → Shared → Prop)
    (turn : ∀ n s, I n s → wpAny (model pw w) A (pyNext it) (fun r s₁ => match r with
      | none => R (.ok .next) s₁
      | some v => wpAny (model pw w) A (letOwnedTupleGo target it v) (fun _ s₀ => wpAny (model pw w) A (assign target env v) (fun _ s₂ => wpR w A (execs body env) (fun f s₃ => match f with
          | .next | .cont => ∃ m, m < n ∧ I m s₃
          | .brk => R (.ok .next) s₃
          | .ret v => R (.ok (.ret v)) s₃) (fun _ _ => False) s₂) (fun _ _ => False) s₀) (fun _ _ => False) s₁) (fun _ _ => False) s)
    (n : Nat) (h : I n s) : codeR w A (.forLoop target it body [] env) R s := by
  refine codeR.loop rfl rfl I (fun n s hI => ?_) n h
  show wpR w _ ((forTurn target it body [] env).onRaise (fun x => do noteFrame x env; theTreesLotGoes x)) _ _ s
  refine .onRaise ?_
  simp only [forTurn]
  refine .stand (.bindA (wpAny_onRaise (wpAny_mono (turn n s hI) (fun r s₁ h₁ => ?_) fun _ _ h' => h'.elim)))
  cases r with
  | none => exact .pure (.inr ⟨rfl, rfl, codeR.any (codeAny_block (wpAny_execs_nil h₁))⟩)
  | some v =>
    refine .bindA (wpAny_mono h₁ (fun _ s₀ h₀ => ?_) fun _ _ z => z)
    refine .bindA (wpAny_mono h₀ (fun _ s₂ h₂ => .bind (h₂.monoQ fun f s₃ h₃ => ?_)) fun _ _ h' => h')
    cases f with
    | next => exact .pure (.inl ⟨rfl, h₃⟩)
    | cont => exact .pure (.inl ⟨rfl, h₃⟩)
    | brk => exact .pure h₃
    | ret v => exact .pure h₃
theorem codeR.compLoop {R : Result → Shared → Prop} {elt target iter : Expr} {scope : Scope} {pos : Pos} {it acc : Value} (I : Nat → Shared → Prop)
    (turn : ∀ n s, I n s → wpAny (model pw w) A (pyNext it) (fun r s₁ => match r with
      | none => R (.ok .next) s₁
      | some v => wpAny (model pw w) A (assign target env v) (fun _ s₂ => wpR w A (eval elt env) (fun x s₄ =>
              wpAny (model pw w) A (call (.builtin "list.append") [acc, x]) (fun _ s₅ => ∃ m, m < n ∧ I m s₅) (fun _ _ => False) s₄) (fun _ _ => False) s₂) (fun _ _ => False) s₁) (fun _ _ => False) s)
    (n : Nat) (h : I n s) (ht : ∀ v, letOwnedTupleGo target it v = pure ()) :
    codeR w A (.compLoop (.ListComp elt [⟨target, iter, [], 0⟩] scope pos) 0 it acc env) R s := by
  refine codeR.loop rfl rfl I (fun n s hI => ?_) n h
  show wpR w A ((compTurn (.ListComp elt [⟨target, iter, [], 0⟩] scope pos) 0 it acc env).onRaise (fun x => do noteFrame x env; theTreesLotGoes x)) _ _ s
  refine .onRaise ?_
  rw [compTurn_list]
  refine .stand (.bindA (wpAny_mono (turn n s hI) (fun r s₁ h₁ => ?_) fun _ _ h' => h'))
  cases r with
  | none => exact .pure h₁
  | some v =>
    refine .eq (ht v) ?_
    refine .bindA (wpAny_mono h₁ (fun _ s₂ h₂ => .bindA (wpAny_tests_nil ?_)) fun _ _ h' => h')
    exact .bind (.bind (h₂.monoQ fun x s₄ h₄ => .bindA (wpAny_mono h₄ (fun _ s₅ h₅ => wpR.pure (wpR.pure (.inl ⟨rfl, h₅⟩))) fun _ _ h' => h')))
theorem codeR.compStart {R : Result → Shared → Prop} {elt target iter : Expr} {scope : Scope} {pos : Pos} {it acc : Value}
    (h0 : codeR w A (.compLoop (.ListComp elt [⟨target, iter, [], 0⟩] scope pos) 0 it acc env) R s)
    (h : wpAny (model pw w) A (pyIter it) (fun it' s' => codeR w A (.compLoop (.ListComp elt [⟨target, iter, [], 0⟩] scope pos) 0 it' acc env) R s') (fun _ _ => False) s) :
    codeR w A (.compStart (.ListComp elt [⟨target, iter, [], 0⟩] scope pos) 0 it acc env) R s := by
  refine codeR.tree (.any ?_)
  show wpAny _ _ ((PySem.compStart (.ListComp elt [⟨target, iter, [], 0⟩] scope pos) 0 it acc env).onRaise (fun x => do noteFrame x env; standAt theWindowsPlace)) _ _ s
  refine wpAny_onRaise (wpAny_mono (Q := fun fin s' => match fin with | .done f => R (.ok f) s' | .again c' => c'.quiet = true ∧ dec c' = false ∧ codeR w A c' R s') (E := fun _ _ => False) ?_ (fun _ _ z => z) fun _ _ z => z.elim)
  unfold PySem.compStart
  show wpAny _ _ (ask >>= _) _ _ s
  refine wpAny_bind (wpAny_askSetting (wpAny_ite ?_))
  split
  · first
      | exact wpAny_bind (wpAny_pure (wpAny_pure (And.intro rfl ⟨rfl, h0⟩)))
      | exact wpAny_pure (And.intro rfl ⟨rfl, h0⟩)
  · first
      | exact wpAny_bind (wpAny_rule (wpAny_bind (wpAny_standAt (wpAny_bind (wpAny_mono h (fun it' s' h' => wpAny_pure (And.intro rfl ⟨rfl, h'⟩)) fun _ _ x => x)))))
      | (refine wpAny_bind (wpAny_rule ?_); show wpAny _ _ (standAt iter.pos >>= _) _ _ s; exact wpAny_bind (wpAny_standAt (wpAny_bind (wpAny_mono h (fun it' s' h' => wpAny_pure (And.intro rfl ⟨rfl, h'⟩)) fun _ _ x => x))))
theorem r_For {target iter : Expr} {body : List Stmt} {pos : Pos} {Q : Flow → Shared → Prop}
    (h : wpAny (model pw w) A (eval iter env) (fun x s₁ => wpAny (model pw w) A (pyIter x) (fun it s₂ => codeR w A (.forLoop target it body [] env) (fun r s' => match r with | .ok f => Q f s' | .error _ => False) s₂) E s₁) E s)
    (hs : ∀ x, foldedSetIterable iter env x = pure x) : wpR w A (exec (.For target iter body [] pos) env) Q E s := by
  rw [exec_For]
  refine .stand (.bindA (wpAny_mono h (fun x s₁ h₁ => .eq (hs x) (.stand (.bindA (wpAny_holding (wpAny_mono h₁ (fun it s₂ h₂ => ?_) fun _ _ z => z))))) fun _ _ z => z))
  unfold runOwn
  exact .onRaise (.run rfl (h₂.mono fun r s' z => by cases r <;> exact z) (by intro x; cases x))
theorem for_walkG {R : Result → Shared → Prop} {target : Expr} {body : List Stmt} {I : Addr} {fp : List Addr} {n : Nat} {P : Nat → Value → Prop} {Z : Nat → Heap → Prop} {oI : Obj}
    (W : Walks pw w A I fp [I] n P Z) (hZ : ∀ i h, Z i h → ∃ o, h.get? I = some o) (hfp : ∀ a ∈ fp, a = I ∨ ∃ o, b a = some o) (S : St w e b L m (mu ++ [(I, oI)]) s) (h0 : Z 0 s.heap)
    (hL : env.locals = L) (ht : ∀ i v (s' : Shared) (Q : Unit → Shared → Prop), P i v → Z (i + 1) s'.heap → Q () s' → wpAny (model pw w) A (letOwnedTupleGo target (.ref I) v) Q (fun _ _ => False) s')
    (J : Nat → PM → (Str → Option Value) → List (Addr × Obj) → Prop) (hJ : J 0 b m mu)
    (turn : ∀ i v b' m' mu' oI' h' t', i < n → P i v → J i b' m' mu' → (∀ a o, b a = some o → b' a = some o) → St w e b' L m' (mu' ++ [(I, oI')]) { s with heap := h', toks := t' } →
      wpAny (model pw w) A (assign target env v) (fun _ s₂ => wpR w A (execs body env) (fun f s' => match f with
        | .next | .cont => ∃ b'' m'' mu'' h'' t'', s' = { s with heap := h'', toks := t'' } ∧ J (i + 1) b'' m'' mu'' ∧ (∀ a o, b a = some o → b'' a = some o) ∧ St w e b'' L m'' (mu'' ++ [(I, oI')]) { s with heap := h'', toks := t'' }
        | .brk => R (.ok .next) s'
        | .ret v => R (.ok (.ret v)) s') (fun _ _ => False) s₂) (fun _ _ => False) { s with heap := h', toks := t' })
    (done : ∀ b' m' mu' h' t', J n b' m' mu' → (∀ a o, b a = some o → b' a = some o) → St w e b' L m' mu' { s with heap := h', toks := t' } → R (.ok .next) { s with heap := h', toks := t' }) :
    codeR w A (.forLoop target (.ref I) body [] env) R s := by
  subst hL
  refine codeR.forLoopG (fun k s' => ∃ i b' m' mu' oI' h' t', s' = { s with heap := h', toks := t' } ∧ i ≤ n ∧ k = n + 1 - i ∧ J i b' m' mu' ∧ (∀ a o, b a = some o → b' a = some o) ∧ Z i h' ∧ St w e b' env.locals m' (mu' ++ [(I, oI')]) { s with heap := h', toks := t' }) ?_ (n + 1)
    ⟨0, b, m, mu, oI, s.heap, s.toks, rfl, Nat.zero_le _, rfl, hJ, fun _ _ q => q, h0, S⟩
  intro k s' hx1
  refine nay fun hG => ?_
  obtain ⟨i, b', m', mu', oI', h', t', rfl, hi, rfl, hJi, hb, hz, S'⟩ := hx1
  refine hG ?_; clear hG
  by_cases hlt : i < n
  · refine W.item i _ _ _ hlt hz fun v h₁ t₁ hP hz₁ hk₁ => ?_
    obtain ⟨o₁, g₁⟩ := hZ _ _ hz₁
    have S₁ : St w e b' env.locals m' (mu' ++ [(I, o₁)]) { s with heap := h₁, toks := t₁ } := (S'.toFront.turn g₁ fun c oc q q' => hk₁ c oc (by simpa using q) q').toBack
    refine ht i v _ _ hP hz₁ ?_
    refine wpAny_mono (turn i v b' m' mu' o₁ h₁ t₁ hlt hP hJi hb S₁) (fun _ s₂ h₂ => h₂.monoQ fun f s₃ h₃ => ?_) fun _ _ z => z
    have fin : (∃ b'' m'' mu'' h'' t'', s₃ = { s with heap := h'', toks := t'' } ∧ J (i + 1) b'' m'' mu'' ∧ (∀ a o, b a = some o → b'' a = some o) ∧ St w e b'' env.locals m'' (mu'' ++ [(I, o₁)]) { s with heap := h'', toks := t'' }) →
        ∃ k', k' < n + 1 - i ∧ ∃ i b' m' mu' oI' h' t', s₃ = { s with heap := h', toks := t' } ∧ i ≤ n ∧ k' = n + 1 - i ∧ J i b' m' mu' ∧ (∀ a o, b a = some o → b' a = some o) ∧ Z i h' ∧ St w e b' env.locals m' (mu' ++ [(I, oI')]) { s with heap := h', toks := t' } := by
      intro hx1
      refine nay fun hG => ?_
      obtain ⟨b'', m'', mu'', h'', t'', rfl, hJ', hb'', S₄⟩ := hx1
      refine hG ?_; clear hG
      refine ⟨n + 1 - (i + 1), by lia, i + 1, b'', m'', mu'', o₁, h'', t'', rfl, hlt, rfl, hJ', hb'', ?_, S₄⟩
      have S₄I := S₄.toFront.tu _ (.head _)
      refine W.frame _ _ _ hz₁ fun a ha o q => ?_
      rcases hfp a ha with rfl | ⟨oa, hoa⟩
      · rw [g₁] at q; cases q; exact S₄I.1
      · have q1 : h₁.get? a = some oa := S₁.sub a oa (hb a oa hoa)
        rw [q1] at q; cases q
        exact S₄.sub a _ (hb'' a _ hoa)
    cases f with
    | next => exact fin h₃
    | cont => exact fin h₃
    | brk => exact h₃
    | ret v => exact h₃
  · have hin : i = n := by lia
    subst hin
    refine W.done _ _ _ hz fun h₁ t₁ hk₁ => ?_
    have S₀ := S'.toFront.drop
    have hI := S'.toFront.tu _ (.head _)
    have ndI := List.nodup_cons.mp (by simpa only [List.map_cons] using S'.toFront.nd)
    refine done b' m' mu' h₁ t₁ hJi hb ?_
    have kk : ∀ c oc, c ≠ I → h'.get? c = some oc → h₁.get? c = some oc := fun c oc q q' => hk₁ c oc (by simpa using q) q'
    refine nay fun hG => ?_
    obtain ⟨oL, es, ep, hLL, r⟩ := S₀.ns
    refine hG ?_; clear hG
    refine ⟨S₀.base, fun c oc q => kk c oc (fun z => by subst z; rw [hI.2.2.1] at q; cases q) (S₀.sub c oc q), S₀.up, S₀.new, fun c oc q q' => kk c oc (fun z => ?_) (S₀.keep c oc q q'), ⟨oL, es, ep, kk _ _ hI.2.1.symm hLL, r⟩, S₀.Lnew, S₀.Lb, fun p hp => ?_, S₀.nd⟩
    · subst z
      rcases hI.2.2.2 with z | z
      · exact q' z
      · exact absurd (Heap.lt_size q) (Nat.not_lt.mpr z)
    · have z := S₀.tu p hp
      exact ⟨kk _ _ (fun q => ndI.1 (List.mem_map.mpr ⟨p, hp, q⟩)) z.1, z.2⟩
theorem for_walkR {R : Result → Shared → Prop} {x : Str} {px : Pos} {body : List Stmt} {I : Addr} {fp : List Addr} {n : Nat} {P : Nat → Value → Prop} {Z : Nat → Heap → Prop} {oI : Obj}
    (W : Walks pw w A I fp [I] n P Z) (hZ : ∀ i h, Z i h → ∃ o, h.get? I = some o) (hfp : ∀ a ∈ fp, a = I ∨ ∃ o, b a = some o) (S : St w e b L m (mu ++ [(I, oI)]) s) (h0 : Z 0 s.heap)
    (hL : env.locals = L) (hl : env.kindOf x = some .local) (hp : (env.scope.kind == .class || (env.scope.kind == .module && env.locals != env.globals)) = false)
    (J : Nat → PM → (Str → Option Value) → List (Addr × Obj) → Prop) (hJ : J 0 b m mu)
    (turn : ∀ i v b' m' mu' oI' h' t', i < n → P i v → J i b' m' mu' → (∀ a o, b a = some o → b' a = some o) → St w e b' L (ext m' x v) (mu' ++ [(I, oI')]) { s with heap := h', toks := t' } →
      wpR w A (execs body env) (fun f s' => match f with
        | .next | .cont => ∃ b'' m'' mu'' h'' t'', s' = { s with heap := h'', toks := t'' } ∧ J (i + 1) b'' m'' mu'' ∧ (∀ a o, b a = some o → b'' a = some o) ∧ St w e b'' L m'' (mu'' ++ [(I, oI')]) { s with heap := h'', toks := t'' }
        | .brk => R (.ok .next) s'
        | .ret v => R (.ok (.ret v)) s') (fun _ _ => False) { s with heap := h', toks := t' })
    (done : ∀ b' m' mu' h' t', J n b' m' mu' → (∀ a o, b a = some o → b' a = some o) → St w e b' L m' mu' { s with heap := h', toks := t' } → R (.ok .next) { s with heap := h', toks := t' }) :
    codeR w A (.forLoop (.Name x px) (.ref I) body [] env) R s := by
  refine for_walkG W hZ hfp S h0 hL (fun _ _ _ _ _ _ q => ?_) J hJ (fun i v b' m' mu' oI' h' t' hi hP hJi hb S' => ?_) done
  · exact wpAny_pure (a := ()) q
  · exact wpAny_assign_Name (st_loc' S' rfl hL hl hp fun h'' t'' S => turn i v b' m' mu' oI' h'' t'' hi hP hJi hb S)
theorem for_srcR {R : Result → Shared → Prop} {x : Str} {px : Pos} {body : List Stmt} {I : Addr} {n : Nat} {P : Nat → Value → Prop} {oI : Obj}
    (W : Src w A b I n P s.heap) (S : St w e b L m (mu ++ [(I, oI)]) s)
    (hL : env.locals = L) (hl : env.kindOf x = some .local) (hp : (env.scope.kind == .class || (env.scope.kind == .module && env.locals != env.globals)) = false)
    (J : Nat → PM → (Str → Option Value) → List (Addr × Obj) → Prop) (hJ : J 0 b m mu)
    (turn : ∀ i v b' m' mu' oI' h' t', i < n → P i v → J i b' m' mu' → (∀ a o, b a = some o → b' a = some o) → St w e b' L (ext m' x v) (mu' ++ [(I, oI')]) { s with heap := h', toks := t' } →
      wpR w A (execs body env) (fun f s' => match f with
        | .next | .cont => ∃ b'' m'' mu'' h'' t'', s' = { s with heap := h'', toks := t'' } ∧ J (i + 1) b'' m'' mu'' ∧ (∀ a o, b a = some o → b'' a = some o) ∧ St w e b'' L m'' (mu'' ++ [(I, oI')]) { s with heap := h'', toks := t'' }
        | .brk => R (.ok .next) s'
        | .ret v => R (.ok (.ret v)) s') (fun _ _ => False) { s with heap := h', toks := t' })
    (done : ∀ b' m' mu' h' t', J n b' m' mu' → (∀ a o, b a = some o → b' a = some o) → St w e b' L m' mu' { s with heap := h', toks := t' } → R (.ok .next) { s with heap := h', toks := t' }) :
    codeR w A (.forLoop (.Name x px) (.ref I) body [] env) R s := by
  refine nay fun hG => ?_
  obtain ⟨fp, Z, W, hZ, hfp, h0⟩ := W
  refine hG ?_; clear hG
  exact for_walkR W hZ hfp S h0 hL hl hp J hJ turn done
theorem comp_blockR {Q : Value → Shared → Prop} {elt iter : Expr} {x : Str} {px : Pos} {scope : Scope} {cl : List (Str × Addr)} {pos : Pos} {I : Addr} {fp : List Addr} {n : Nat} {P : Nat → Value → Prop} {Z : Nat → Heap → Prop} {oI : Obj}
    (W : Walks pw w A I fp [I] n P Z) (hZ : ∀ i h, Z i h → ∃ o, h.get? I = some o) (hfp : ∀ a ∈ fp, a = I ∨ ∃ o, b a = some o) (S : St w e b L m (mu ++ [(I, oI)]) s) (h0 : Z 0 s.heap) (hsz : n ≤ 1000)
    (hcell : ∀ y ∈ scope.names, y.2 ≠ .cell) (hkind : scope.kind = .function) (hx : scope.names.lookup x = some .local)
    (J : Nat → PM → List (Addr × Obj) → Array Value → Prop) (hJ : J 0 b mu #[])
    (turn : ∀ i v b' mC mu' ys tl h' t' C, i < n → P i v → J i b' mu' ys → (∀ a o, b a = some o → b' a = some o) → St w e b' C (ext mC x v) (mu' ++ tl) { s with heap := h', toks := t' } →
      wpR w A (eval elt (compEnvC scope cl C env)) (fun y s' => ∃ b'' mC'' mu'' h'' t'', s' = { s with heap := h'', toks := t'' } ∧ J (i + 1) b'' mu'' (ys.push y) ∧ (∀ a o, b a = some o → b'' a = some o) ∧ St w e b'' C mC'' (mu'' ++ tl) { s with heap := h'', toks := t'' })
        (fun _ _ => False) { s with heap := h', toks := t' })
    (done : ∀ b' mu' ys k D h' t', ys.size = n → J n b' mu' ys → (∀ a o, b a = some o → b' a = some o) → St w e b' L m ((D, listOf ys k) :: mu') { s with heap := h', toks := t' } → e.h.objs.size ≤ D → Q (.ref D) { s with heap := h', toks := t' }) :
    wpAny (model pw w) A (newList []) (fun acc s₃ => wpAny (model pw w) A (newFunctionEnv scope env.globals cl [] env.qual none .none (some env)) (fun cenv s₄ =>
      codeR w A (.compStart (.ListComp elt [⟨.Name x px, iter, [], 0⟩] scope pos) 0 (.ref I) acc { cenv with scope := relabel scope env }) (compPost (model pw w) A E none Q acc cenv.locals) s₄) E s₃) E s := by
  refine wpAny_newObj_type (wpAny_newFunctionEnv hcell (by intro y hy; simp at hy) (fun h₁ hns₁ hsb₁ => ?_) hkind)
  have hH2 : (s.heap.push (listOf #[] 0)).objs.size = s.heap.objs.size + 1 := Heap.size_push ..
  have S1 := S.pushM (listOf #[] 0) (t := s.toks)
  refine nay fun hG => ?_
  obtain ⟨oL, hoL⟩ : ∃ o, (s.heap.push (listOf #[] 0)).get? L = some o := let ⟨o, _, _, h, _⟩ := S1.ns; ⟨o, h⟩
  refine hG ?_; clear hG
  have hC0 : (s.heap.push (listOf #[] 0)).get? (s.heap.push (listOf #[] 0)).objs.size = none := by
    cases q : (s.heap.push (listOf #[] 0)).get? (s.heap.push (listOf #[] 0)).objs.size with
    | none => rfl
    | some o => exact absurd (Heap.lt_size q) (Nat.lt_irrefl _)
  have old : ∀ a o, (s.heap.push (listOf #[] 0)).get? a = some o → h₁.get? a = some o := fun a o q => hsb₁.extBut a o (Nat.ne_of_lt (Heap.lt_size q)) (Heap.get?_push_of_some _ q)
  have hDn : e.h.objs.size ≤ s.heap.objs.size := S.size
  generalize hDD : s.heap.objs.size = D at *
  generalize hCC : (s.heap.push (listOf #[] 0)).objs.size = C at *
  have S2 : St w e b C (fun x => [].reverse.lookup x) (mu ++ [(D, listOf #[] 0), (I, oI), (L, oL)]) { s with heap := h₁, toks := s.toks + ([] : List (Str × Value)).length } := by
    have z := S1.leave hoL (C := C) (h' := h₁) (t := s.toks + ([] : List (Str × Value)).length) old hns₁ hC0 (by lia)
    refine z.perm ?_
    have := List.perm_middle (a := (D, listOf #[] 0)) (l₁ := mu) (l₂ := [(I, oI), (L, oL)])
    simpa using this.symm
  have hz₁ : Z 0 h₁ := W.frame _ _ _ h0 fun a _ o q => old a o (Heap.get?_push_of_some _ q)
  have loop : ∀ s₃ : Shared, s₃ = { s with heap := h₁, toks := s.toks + ([] : List (Str × Value)).length } →
      codeR w A (.compLoop (.ListComp elt [⟨.Name x px, iter, [], 0⟩] scope pos) 0 (.ref I) (.ref D) (compEnvC scope cl C env)) (compPost (model pw w) A E none Q (.ref D) C) s₃ := by
    rintro s₃ rfl
    refine codeR.compLoop (fun k s' => ∃ i b' mC mu' ys kk oI' h' t', s' = { s with heap := h', toks := t' } ∧ i ≤ n ∧ k = n + 1 - i ∧ ys.size = i ∧ J i b' mu' ys ∧ (∀ a o, b a = some o → b' a = some o) ∧ Z i h' ∧
      St w e b' C mC (mu' ++ [(D, listOf ys kk), (I, oI'), (L, oL)]) { s with heap := h', toks := t' }) ?_ (n + 1)
      ⟨0, b, _, mu, #[], 0, oI, h₁, _, rfl, Nat.zero_le _, rfl, rfl, hJ, fun _ _ q => q, hz₁, S2⟩ (by intro _; rfl)
    intro k s' hx1
    refine nay fun hG => ?_
    obtain ⟨i, b', mC, mu', ys, kk, oI', h', t', rfl, hi, rfl, hys, hJi, hb, hz, S'⟩ := hx1
    refine hG ?_; clear hG
    have pI : ∀ (o : Obj), (mu' ++ [(D, listOf ys kk), (I, o), (L, oL)]).Perm ((I, o) :: (mu' ++ [(D, listOf ys kk), (L, oL)])) := fun o => by
      have := List.perm_middle (a := (I, o)) (l₁ := mu' ++ [(D, listOf ys kk)]) (l₂ := [(L, oL)])
      simpa using this
    by_cases hlt : i < n
    · refine W.item i _ _ _ hlt hz fun v h₂ t₂ hP hz₂ hk₂ => ?_
      obtain ⟨o₂, g₂⟩ := hZ _ _ hz₂
      have S₃ : St w e b' C mC (mu' ++ [(D, listOf ys kk), (I, o₂), (L, oL)]) { s with heap := h₂, toks := t₂ } := ((S'.perm (pI oI')).turn g₂ fun c oc q q' => hk₂ c oc (by simpa using q) q').perm (pI o₂).symm
      refine wpAny_assign_Name (wpAny_storeName_local (env := compEnvC scope cl C env) (lookup_relabel_local hx) S₃.ns (fun h₃ hn₃ hs₃ => ?_) (by simp [compEnvC, relabel, hkind]))
      have S₄ : St w e b' C (ext mC x v) (mu' ++ [(D, listOf ys kk), (I, o₂), (L, oL)]) { s with heap := h₃, toks := t₂ + 1 } := S₃.set hn₃ hs₃
      refine (turn i v b' mC mu' ys [(D, listOf ys kk), (I, o₂), (L, oL)] h₃ (t₂ + 1) C hlt hP hJi hb S₄).monoQ fun y s₅ h₅ => ?_
      refine nay fun hG => ?_
      obtain ⟨b'', mC'', mu'', h'', t'', rfl, hJ', hb'', S₅⟩ := h₅
      refine hG ?_; clear hG
      have pD : ∀ (o : Obj), (mu'' ++ [(D, o), (I, o₂), (L, oL)]).Perm ((D, o) :: (mu'' ++ [(I, o₂), (L, oL)])) := fun o => List.perm_middle
      have S₅D := S₅.perm (pD _)
      refine append_at (hsz := by rw [hys, sizeLine_eq]; lia) (S₅D.tu _ (.head _)).1 fun h₆ hs₆ g₆ => ?_
      have S₆ : St w e b'' C mC'' (mu'' ++ [(D, listOf (ys.push y) (kk + 1)), (I, o₂), (L, oL)]) { s with heap := h₆, toks := t'' } := (S₅D.turn g₆ fun c oc q q' => hs₆.extBut c oc q q').perm (pD _).symm
      refine ⟨n + 1 - (i + 1), by lia, i + 1, b'', mC'', mu'', ys.push y, kk + 1, o₂, h₆, t'', rfl, hlt, rfl, by rw [Array.size_push, hys], hJ', hb'', ?_, S₆⟩
      refine W.frame _ _ _ hz₂ fun a ha o q => ?_
      have hI3 : h₃.get? I = some o₂ := (S₄.perm (pI o₂) |>.tu _ (.head _)).1
      rcases hfp a ha with rfl | ⟨oa, hoa⟩
      · rw [g₂] at q; cases q
        have := S₆.tu (a, o₂) (by simp)
        exact this.1
      · have q1 : h₂.get? a = some oa := S₃.sub a oa (hb a oa hoa)
        rw [q1] at q; cases q
        exact S₆.sub a _ (hb'' a _ hoa)
    · have hin : i = n := by lia
      subst hin
      refine W.done _ _ _ hz fun h₂ t₂ hk₂ => ?_
      refine ⟨mC, ?_, fun h₃ hs₃ => ?_⟩
      · have hI := (S'.perm (pI oI')).tu _ (.head _)
        exact S'.ns.at' fun o q => hk₂ C o (by simpa using hI.2.1.symm) q
      · have T := (S'.perm (pI oI'))
        have hI := T.tu _ (.head _)
        have T0 := T.drop
        have ndI := List.nodup_cons.mp (by simpa only [List.map_cons] using T.nd)
        have kk2 : ∀ c oc, c ≠ I → h'.get? c = some oc → h₂.get? c = some oc := fun c oc q q' => hk₂ c oc (by simpa using q) q'
        refine nay fun hG => ?_
        obtain ⟨oC, esC, epC, hCC', rC⟩ := T0.ns
        refine hG ?_; clear hG
        have T1 : St w e b' C mC (mu' ++ [(D, listOf ys kk), (L, oL)]) { s with heap := h₂, toks := t₂ } := by
          refine ⟨T0.base, fun c oc q => kk2 c oc (fun z => by subst z; rw [hI.2.2.1] at q; cases q) (T0.sub c oc q), T0.up, T0.new, fun c oc q q' => kk2 c oc (fun z => ?_) (T0.keep c oc q q'), ⟨oC, esC, epC, kk2 _ _ hI.2.1.symm hCC', rC⟩, T0.Lnew, T0.Lb, fun p hp => ?_, T0.nd⟩
          · subst z
            rcases hI.2.2.2 with z | z
            · exact q' z
            · exact absurd (Heap.lt_size q) (Nat.not_lt.mpr z)
          · have z := T0.tu p hp
            exact ⟨kk2 _ _ (fun q => ndI.1 (List.mem_map.mpr ⟨p, hp, q⟩)) z.1, z.2⟩
        have T2 : St w e b' C mC (((D, listOf ys kk) :: mu') ++ [(L, oL)]) { s with heap := h₂, toks := t₂ } := T1.perm (by
          have := List.perm_middle (a := (D, listOf ys kk)) (l₁ := mu') (l₂ := [(L, oL)])
          simpa using this)
        exact done b' mu' ys kk D h₃ t₂ hys hJi hb (T2.back S.Lnew hoL S1.ns hs₃) hDn
  exact codeR.compStart (loop _ rfl) (W.self 0 _ _ _ hz₁ (loop _ rfl))
theorem comp_srcR {Q : Value → Shared → Prop} {elt iter : Expr} {x : Str} {px : Pos} {scope : Scope} {cl : List (Str × Addr)} {pos : Pos} {I : Addr} {n : Nat} {P : Nat → Value → Prop} {oI : Obj}
    (W : Src w A b I n P s.heap) (S : St w e b L m (mu ++ [(I, oI)]) s) (hsz : n ≤ 1000)
    (hcell : ∀ y ∈ scope.names, y.2 ≠ .cell) (hkind : scope.kind = .function) (hx : scope.names.lookup x = some .local)
    (J : Nat → PM → List (Addr × Obj) → Array Value → Prop) (hJ : J 0 b mu #[])
    (turn : ∀ i v b' mC mu' ys tl h' t' C, i < n → P i v → J i b' mu' ys → (∀ a o, b a = some o → b' a = some o) → St w e b' C (ext mC x v) (mu' ++ tl) { s with heap := h', toks := t' } →
      wpR w A (eval elt (compEnvC scope cl C env)) (fun y s' => ∃ b'' mC'' mu'' h'' t'', s' = { s with heap := h'', toks := t'' } ∧ J (i + 1) b'' mu'' (ys.push y) ∧ (∀ a o, b a = some o → b'' a = some o) ∧ St w e b'' C mC'' (mu'' ++ tl) { s with heap := h'', toks := t'' })
        (fun _ _ => False) { s with heap := h', toks := t' })
    (done : ∀ b' mu' ys k D h' t', ys.size = n → J n b' mu' ys → (∀ a o, b a = some o → b' a = some o) → St w e b' L m ((D, listOf ys k) :: mu') { s with heap := h', toks := t' } → e.h.objs.size ≤ D → Q (.ref D) { s with heap := h', toks := t' }) :
    wpAny (model pw w) A (newList []) (fun acc s₃ => wpAny (model pw w) A (newFunctionEnv scope env.globals cl [] env.qual none .none (some env)) (fun cenv s₄ =>
      codeR w A (.compStart (.ListComp elt [⟨.Name x px, iter, [], 0⟩] scope pos) 0 (.ref I) acc { cenv with scope := relabel scope env }) (compPost (model pw w) A E none Q acc cenv.locals) s₄) E s₃) E s := by
  refine nay fun hG => ?_
  obtain ⟨fp, Z, W, hZ, hfp, h0⟩ := W
  refine hG ?_; clear hG
  exact comp_blockR W hZ hfp S h0 hsz hcell hkind hx J hJ turn done
end
-- RH
section
variable {α : Type} {w : World} {A : Around} {E : Value → Shared → Prop} {s : Shared} {env : Env}
theorem wpR.attempt {m : Sem α} {Q : Except Value α → Shared → Prop} (h : wpR w A m (fun a => Q (.ok a)) (fun e => Q (.error e)) s) : wpR w A m.attempt Q E s := fun Γ p hΓ g => by rw [Sem.wp_attempt]; exact h Γ p hΓ g
theorem r_standIf {c : Prop} [Decidable c] {pos : Pos} {k : PUnit → Sem α} {Q : α → Shared → Prop} (h : wpR w A (k ()) Q E s) : wpR w A (if c then (standAt pos >>= k) else k ()) Q E s := by
  split
  · exact .stand h
  · exact h
theorem lcompR {elt iter : Expr} {tgt : Expr} {scope : Scope} {pos : Pos} {cl : List (Str × Addr)} {Q : Value → Shared → Prop} (hs : ∀ x, foldedSetIterable iter env x = pure x) (hclos : closureFor scope env = pure cl)
    (hkind : scope.kind = .function) (hnames : ∀ x ∈ scope.names, x.2 = .local → scope.names.lookup x.1 = some .local)
    (h : wpAny (model pw w) A (eval iter env) (fun x s₁ => wpAny (model pw w) A (pyIter x) (fun it s₂ => wpAny (model pw w) A (newList []) (fun acc s₃ =>
      wpAny (model pw w) A (newFunctionEnv scope env.globals cl [] env.qual none .none (some env)) (fun cenv s₄ =>
        codeR w A (.compStart (.ListComp elt [⟨tgt, iter, [], 0⟩] scope pos) 0 it acc { cenv with scope := relabel scope env }) (compPost (model pw w) A E none Q acc cenv.locals) s₄) E s₃) E s₂) E s₁) E s) :
    wpR w A (eval (.ListComp elt [⟨tgt, iter, [], 0⟩] scope pos) env) Q E s := by
  rw [eval_ListComp]
  unfold comprehension
  rw [hclos]
  show wpR w A (eval iter env >>= _) Q E s
  refine .bindA (wpAny_mono h (fun x s₁ h₁ => ?_) fun _ _ z => z)
  refine .stand (.eq (hs x) (.bindA (wpAny_holding (wpAny_mono h₁ (fun it s₂ h₂ => ?_) fun _ _ z => z))))
  refine r_standIf (.bindA (wpAny_mono h₂ (fun acc s₃ h₃ => .bindA (wpAny_pure (.bindA (wpAny_mono h₃ (fun cenv s₄ h₄ => ?_) fun _ _ z => z)))) fun _ _ z => z))
  dsimp only
  have hv : ∀ x ∈ (scope.names.filter fun x => (x.2 == .local || x.2 == .cell) && x.1 != (".0" : Str)).reverse, x.2 = .local →
      Env.kindOf { cenv with scope := relabel scope env } x.1 = some .local := fun x hx hl => lookup_relabel_local (hnames x (List.mem_filter.mp (List.mem_reverse.mp hx)).1 hl)
  refine .holding (.bind (.attempt (.holding (.run rfl (h₄.mono fun r s' hr => ?_) (by intro x; cases x)))))
  cases r with
  | ok f =>
    obtain ⟨m, hn, hr⟩ := hr
    exact .bindA (wpAny_holding (wpAny_comp_letGo (cenv := { cenv with scope := relabel scope env }) hkind _ s' m hv hn fun h' m' _ hs' => .pure (hr h' hs')))
  | error x =>
    obtain ⟨m, hn, hr⟩ := hr
    exact .bindA (wpAny_holding (wpAny_comp_letGo (cenv := { cenv with scope := relabel scope env }) hkind _ s' m hv hn fun h' m' _ hs' => .any (wpAny_mono (hr h' hs' _ rfl) (fun _ _ f => f.elim) fun _ _ y => y)))
end
-- RI
theorem keeps_bi {w : World} {id : String} : ∀ h, (fun _ => True) h → ∃ k, (k = Keeper.frame ∨ k = Keeper.machine ∨ k = Keeper.boundFrame) ∧ Looks (model pw w) h (keeperOf (.builtin id)) k := fun _ _ => ⟨.machine, .inr (.inl rfl), Looks.of_pure rfl⟩
theorem keeps_ty {w : World} {id : String} : ∀ h, (fun _ => True) h → ∃ k, (k = Keeper.frame ∨ k = Keeper.machine ∨ k = Keeper.boundFrame) ∧ Looks (model pw w) h (keeperOf (.type id)) k := fun _ _ => ⟨.machine, .inr (.inl rfl), Looks.of_pure rfl⟩
section
variable {w : World} {A : Around} {E : Value → Shared → Prop} {s : Shared} {Q : Value → Shared → Prop}
theorem r_callTy {pos : Pos} {T : String} {first : List Value} {args : List (Bool × Sem Value)} (hplain : args.any (·.1) = false) (h : wpR w A (spliced args) (fun vs s₁ => wpR w A (PySem.call (.type T) (first ++ vs)) Q E s₁) E s) : wpR w A (callWith pos (.type T) first args []) Q E s :=
  r_callWith (P := fun _ => True) hplain keeps_ty (h.monoQ fun _ _ z => ⟨trivial, z⟩)
theorem r_callBi {pos : Pos} {T : String} {first : List Value} {args : List (Bool × Sem Value)} (hplain : args.any (·.1) = false) (h : wpR w A (spliced args) (fun vs s₁ => wpR w A (PySem.call (.builtin T) (first ++ vs)) Q E s₁) E s) : wpR w A (callWith pos (.builtin T) first args []) Q E s :=
  r_callWith (P := fun _ => True) hplain keeps_bi (h.monoQ fun _ _ z => ⟨trivial, z⟩)
theorem r_callK {pos : Pos} {f : Value} {first : List Value} {args : List (Bool × Sem Value)} (hplain : args.any (·.1) = false) (hk : keepIn (K w.params) f = true) (h : wpR w A (spliced args) (fun vs s₁ => (K w.params).In s₁.heap ∧ wpR w A (PySem.call f (first ++ vs)) Q E s₁) E s) : wpR w A (callWith pos f first args []) Q E s :=
  r_callWith (P := (K w.params).In) hplain (keeps_K hk) h
end
-- XA
section
variable {w : World} {A : Around} {E : Value → Shared → Prop} {s : Shared} {b : PM} {n : Nat} {Q : Value → Shared → Prop}
theorem new_objR2 {n C fI : Addr} {rest : List Value} {Q : Value → Shared → Prop} (Post : Obj → Addr → Obj → Prop) (B : Base w b) (hs : ∀ a o, b a = some o → s.heap.get? a = some o)
    (hm : makesIn (K w.params) C = true) (hi : findIn (K w.params) (.ref C) "__init__" = some (some (.ref fI))) (hf : typeIn (K w.params) (.ref fI) = some (.type "function")) (R : Room A (n + 1))
    (h : ∀ (A' : Around) (x dx : Addr) (b₁ : PM) (s₁ : Shared) (R' : Result → Shared → Prop), Room A' n → Base w b₁ → (∀ a o, b₁ a = some o → s₁.heap.get? a = some o) → b₁ x = some (instObj C dx) → (∀ p ∈ [(dx, dictOf [] 0)], s₁.heap.get? p.1 = some p.2 ∧ b₁ p.1 = none) →
      (∀ a o, b a = some o → b₁ a = some o) → (∀ (b' : PM) (L : Addr) (m' : Str → Option Value) (od : Obj) (c : Addr) (oc : Obj) (h' : Heap) (t' : Nat), St w ⟨s₁.heap, b₁, [dx]⟩ b' L m' [(dx, od), (c, oc)] { s₁ with heap := h', toks := t' } → Post od c oc → R' (.ok (.ret .none)) { s₁ with heap := h', toks := t' }) →
      codeR w A' (.call (.ref fI) ⟨.ref x :: rest, []⟩) R' s₁)
    (k : ∀ x dx od c oc b' h' t', Grow b b' s.heap h' [] → b' x = some (instObj C dx) → b' dx = none → h'.get? dx = some od → s.heap.objs.size ≤ dx → b' c = none → h'.get? c = some oc → s.heap.objs.size ≤ c → c ≠ dx → Post od c oc → Q (.ref x) { s with heap := h', toks := t' }) :
    wpR w A (call (.ref C) rest) Q E s := by
  refine new_instR (B.kin hs) hm hi hf ?_
  have g0 : (s.heap.push emptyDict).objs.size = s.heap.objs.size + 1 := Heap.size_push ..
  have bn : ∀ a, s.heap.objs.size ≤ a → b a = none := fun a ha => by
    cases q : b a with
    | none => rfl
    | some o => exact absurd (Heap.lt_size (hs _ _ q)) (Nat.not_lt.mpr ha)
  have k2 : ∀ a o, s.heap.get? a = some o → ((s.heap.push emptyDict).push (instObj C s.heap.objs.size)).get? a = some o := fun a o q => Heap.get?_push_of_some _ (Heap.get?_push_of_some _ q)
  have gx : ((s.heap.push emptyDict).push (instObj C s.heap.objs.size)).get? (s.heap.objs.size + 1) = some (instObj C s.heap.objs.size) := by rw [← g0]; exact Heap.get?_push_size _ rfl
  have gd : ((s.heap.push emptyDict).push (instObj C s.heap.objs.size)).get? s.heap.objs.size = some emptyDict := Heap.get?_push_of_some _ (Heap.get?_push_size _ rfl)
  have bx := bn (s.heap.objs.size + 1) (Nat.le_succ _)
  refine h _ (s.heap.objs.size + 1) s.heap.objs.size (b.put (s.heap.objs.size + 1) (instObj C s.heap.objs.size)) _ _ R.make (B.mono fun a o q => PM.put_le bx _ q) (fun a o q => ?_) (PM.put_self ..) (fun p hp => ?_) (fun a o q => PM.put_le bx _ q) fun b' L' m' od c oc h' t' S hp => ⟨rfl, ?_⟩
  · unfold PM.put at q; split at q
    · rename_i z; subst z; cases q; exact gx
    · exact k2 a o (hs a o q)
  · rw [List.mem_singleton.mp hp]
    refine ⟨gd, ?_⟩
    unfold PM.put; rw [if_neg (Nat.ne_of_lt (Nat.lt_succ_self _))]; exact bn _ (Nat.le_refl _)
  · have hd := S.tu _ (.head _)
    have hc := S.tu _ (.tail _ (.head _))
    have hcd : c ≠ s.heap.objs.size := fun q => by
      have nd := S.nd
      simp only [List.map_cons, List.map_nil, List.nodup_cons, List.mem_singleton] at nd
      exact nd.1 q.symm
    have hcn : s.heap.objs.size ≤ c := by
      rcases hc.2.2.2 with z | z
      · exact absurd (by simpa using z) hcd
      · have : (s.heap.push emptyDict |>.push (instObj C s.heap.objs.size)).objs.size = s.heap.objs.size + 1 + 1 := by rw [Heap.size_push, g0]
        change (s.heap.push emptyDict |>.push (instObj C s.heap.objs.size)).objs.size ≤ c at z
        lia
    refine k (s.heap.objs.size + 1) s.heap.objs.size od c oc b' h' t' ⟨fun a o q => S.up a o (PM.put_le bx _ q), S.sub, fun a o q => ?_, fun a o q _ => ?_, ?_⟩ (S.up _ _ (PM.put_self ..)) hd.2.2.1 hd.1 (Nat.le_refl _) hc.2.2.1 hc.1 hcn hcd hp
    · rcases S.new a o q with z | z
      · show b a = some o ∨ _
        change b.put _ _ a = some o at z
        unfold PM.put at z; split at z
        · rename_i y; subst y; exact .inr (Nat.le_succ _)
        · exact .inl z
      · right
        have : (s.heap.push emptyDict |>.push (instObj C s.heap.objs.size)).objs.size = s.heap.objs.size + 1 + 1 := by rw [Heap.size_push, g0]
        change (s.heap.push emptyDict |>.push (instObj C s.heap.objs.size)).objs.size ≤ a at z
        lia
    · refine S.keep a o (k2 a o q) fun z => ?_
      have : a = s.heap.objs.size := by simpa using z
      subst this
      exact absurd (Heap.lt_size q) (Nat.lt_irrefl _)
    · have := S.size
      have e2 : (s.heap.push emptyDict |>.push (instObj C s.heap.objs.size)).objs.size = s.heap.objs.size + 1 + 1 := by rw [Heap.size_push, g0]
      change (s.heap.push emptyDict |>.push (instObj C s.heap.objs.size)).objs.size ≤ _ at this
      show s.heap.objs.size ≤ h'.objs.size
      have h2 : _ ≤ h'.objs.size := this
      lia
theorem new_ba {s0 : Shared} {e : En} {L : Addr} {m : Str → Option Value} {mu : List (Addr × Obj)} {t0 : Nat} (S : St w e b L m mu { s0 with heap := s.heap, toks := t0 }) (hq : s = { s0 with heap := s.heap, toks := s.toks })
    (h : ∀ a h' t', e.h.objs.size ≤ a → St w e b L m (mu ++ [(a, baO #[])]) { s0 with heap := h', toks := t' } → Q (.ref a) { s0 with heap := h', toks := t' }) : wpR w A (call (.type "bytearray") []) Q E s := by
  refine r_new_ba fun h' g k => ?_
  have S1 := S.pushM (baO #[]) (t := s.toks)
  have S2 := S1.turn (h' := h') (t := s.toks) g k
  rw [hq]
  exact h _ _ _ S.size S2.toBack
noncomputable def OutAt (P : Params) (b : PM) (x ba : Addr) : Prop := ∃ dx t n, b x = some (instObj 257 dx) ∧ b dx = some (dictOf (dOut P t (.ref ba)) n)
theorem OutAt.up {P : Params} {b b' : PM} {x ba : Addr} (h : OutAt P b x ba) (hb : ∀ a o, b a = some o → b' a = some o) : OutAt P b' x ba := by
  refine nay fun hG => ?_
  obtain ⟨dx, t, n, h1, h2⟩ := h
  refine hG ?_; clear hG
  exact ⟨dx, t, n, hb _ _ h1, hb _ _ h2⟩
theorem inCR_OctetsOut__init {k : Nat} {R' : Result → Shared → Prop} {body : List Stmt} {x0 : Value} (hbody : f_OctetsOut__init.body = .stmts body)
    (R : Room A (k + 1)) (B : Base w b) (hs : ∀ a o, b a = some o → s.heap.get? a = some o) (mu : List (Addr × Obj)) (hm : ∀ p ∈ mu, s.heap.get? p.1 = some p.2 ∧ b p.1 = none) (nd : (mu.map (·.1)).Nodup)
    (h : ∀ L h₁ t₁, L = s.heap.objs.size → St w ⟨s.heap, b, mu.map (·.1)⟩ b L (extL [("self", x0)] fun _ => none) mu { s with heap := h₁, toks := t₁ } → Room (A.deeper (callEnv f_OctetsOut__init L 186)) k →
      wpR w (A.deeper (callEnv f_OctetsOut__init L 186)) (execs body (callEnv f_OctetsOut__init L 186)) (fun fl s' => R' (.ok (.ret (match fl with | .ret v => v | _ => .none))) s') (fun _ _ => False) { s with heap := h₁, toks := t₁ }) :
    codeR w A (.call (.ref 186) ⟨[x0], []⟩) R' s :=
  enterCR R B hs mu hm nd (lk_OctetsOut__init _) (cd_OctetsOut__init _) hbody (BindsTo.of_eq rfl) (by decide +kernel) (by kernel_rfl!) (by kernel_rfl!) (by kernel_rfl!) (by kernel_rfl!) h
theorem c_new_out (R : Room A (n + 3)) (B : Base w b) (hs : ∀ a o, b a = some o → s.heap.get? a = some o)
    (k : ∀ x ba b' h' t', Grow b b' s.heap h' [] → OutAt w.params b' x ba → b' ba = none → h'.get? ba = some (baO #[]) → s.heap.objs.size ≤ ba → Q (.ref x) { s with heap := h', toks := t' }) :
    wpR w A (call (.ref 257) []) Q E s := by
  refine new_objR2 (fun od c oc => oc = baO #[] ∧ ∃ t n, od = dictOf (dOut w.params t (.ref c)) n) B hs (mk_OctetsOut _) (ii_OctetsOut _) (ty_OctetsOut_init _) R ?_ ?_
  · intro A' x dx b₁ s₁ Q' R1 B1 hs1 hx hm hup k1
    refine inCR_OctetsOut__init (body := _) rfl R1 B1 hs1 [(dx, dictOf [] 0)] hm one_nd ?_
    intro L h₁ t₁ hL S R'
    dsimp only [extL] at S
    with_reducible refine r_cons ?_
    refine r_AssignAttr ?_ (by kernel_rfl!)
    refine r_Call ?_ (by kernel_rfl!)
    refine n_bytearray (by assumption) (by kernel_rfl!) (by kernel_rfl!) (by kernel_rfl!) (by kernel_rfl!) ?_
    refine r_callTy (by kernel_rfl!) ?_
    refine r_args_nil ?_
    refine new_ba S (by rfl) fun a h' t' ha S => ?_
    replace S : St w _ _ _ _ [(dx, dictOf [] 0), (a, baO #[])] _ := S
    walk_at "n"
    (with_reducible rename St _ _ _ _ _ _ _ => sOld); refine as_mu (sa_OctetsOut _) (po_OctetsOut _) (ta_OctetsOut_made _) (hd_OctetsOut _) pl_made sOld (by rfl) (by assumption) (by kernel_rfl!) (Nat.le_of_ble_eq_true (by kernel_rfl!)) (Nat.le_of_ble_eq_true (by kernel_rfl!)) ?_; clear sOld; intro _ _ _ _
    with_reducible refine r_nil ?_
    exact k1 _ _ _ _ _ _ _ _ (by assumption) ⟨rfl, _, _, rfl⟩
  · intro x dx od c oc b' h' t' G hx hdx hd hdn hc hco hcn hcd hx1
    refine nay fun hG => ?_
    obtain ⟨rfl, t, nn, rfl⟩ := hx1
    refine hG ?_; clear hG
    have G' := G.put hd hdx hdn
    refine k x c _ h' t' G' ⟨dx, t, nn, PM.put_le hdx _ hx, PM.put_self ..⟩ ?_ hco hcn
    unfold PM.put; rw [if_neg hcd]; exact hc
end
-- RJ
namespace FA
theorem plainAttrs_ba : PlainAttrs "bytearray" := ⟨⟨"bytearray.__getattribute__", by rw [typeLookup_type, builtinLookup_eq_fast]; kernel_rfl, by decide +kernel⟩, by rw [typeLookup_type, builtinLookup_eq_fast]; kernel_rfl⟩
theorem type_ba_extend : typeOf (.builtin "bytearray.extend") = pure (.type "method_descriptor") := by kernel_rfl
theorem look_ba_buffer : typeLookup (.type "bytearray") "__buffer__" = pure (some (.builtin "bytearray.__buffer__")) := by rw [typeLookup_type, builtinLookup_eq_fast]; kernel_rfl
theorem look_ba_bytes : typeLookup (.type "bytearray") "__bytes__" = pure none := by rw [typeLookup_type, builtinLookup_eq_fast]; kernel_rfl
theorem look_ba_index : typeLookup (.type "bytearray") "__index__" = pure none := by rw [typeLookup_type, builtinLookup_eq_fast]; kernel_rfl
theorem drop_buffer : "bytearray.__buffer__".dropRight ("__buffer__".length + 1) = "bytearray" := by decide +kernel
theorem drop_release : "bytearray.__release_buffer__".dropRight ("__release_buffer__".length + 1) = "bytearray" := by decide +kernel
end FA
section
variable {w : World} {A : Around} {E : Value → Shared → Prop} {s s0 : Shared} {e : En} {b : PM} {L : Addr} {m : Str → Option Value} {mu : List (Addr × Obj)} {t0 : Nat}
theorem me_ext {a : Addr} {d : Array UInt8} {pl : Sem Bool} {Q : Value × List Value → Shared → Prop} (S : St w e b L m mu { s with toks := t0 }) (hm : (a, baO d) ∈ mu) (h : Q (.builtin "bytearray.extend", [.ref a]) s) : wpAny (model pw w) A (getMethod (.ref a) "extend" pl) Q E s :=
  getMethod_builtin ⟨_, S.muGet hm, rfl⟩ FA.plainAttrs_ba slot_ba_extend FA.type_ba_extend (fun c e => by cases e; exact ⟨_, S.muGet hm, rfl⟩) h
theorem ba_ext {a : Addr} {d x : Array UInt8} {t : Tok} {Q : Value → Shared → Prop} (S : St w e b L m ((a, baO d) :: mu) { s0 with heap := s.heap, toks := t0 }) (hq : s = { s0 with heap := s.heap, toks := s.toks }) (hz : d.size + x.size ≤ 100000)
    (h : ∀ h' t', St w e b L m ((a, baO (d ++ x)) :: mu) { s0 with heap := h', toks := t' } → Q .none { s0 with heap := h', toks := t' }) : wpR w A (call (.builtin "bytearray.extend") [.ref a, .bytes x t]) Q E s := by
  have g : s.heap.get? a = some (baO d) := S.muGet (.head _)
  refine r_extend g hz ?_
  have S' := S.upd (t := s.toks) (f := Obj.mapBytearray fun z => z ++ x) (o' := baO (d ++ x)) rfl rfl
  have z := h _ _ S'
  have eqs : ({ s with heap := s.heap.update a (Obj.mapBytearray fun z => z ++ x) } : Shared) = { s0 with heap := s.heap.update a (Obj.mapBytearray fun z => z ++ x), toks := s.toks } := by
    generalize s.heap.update a (Obj.mapBytearray fun z => z ++ x) = hh
    rw [hq]
  rw [eqs]
  exact z
theorem buffer_ba {id : String} {full : Bool} {a : Addr} {d : Array UInt8} {Q : Option (Array UInt8) → Shared → Prop} (g : s.heap.get? a = some (baO d)) (h : Q (some d) s) : wpAny (model pw w) A (Builtin.Bytes.buffer? id (.ref a) full) Q E s := by
  have hT : s.TypeIs (.ref a) "bytearray" := ⟨_, g, rfl⟩
  unfold Builtin.Bytes.buffer?
  refine wpAny_bind (wpAny_specialOf hT FA.look_ba_buffer ?_)
  show wpAny _ _ (Builtin.Bytes.slotIsOwn (.ref a) "__buffer__" >>= _) _ _ _
  refine wpAny_bind ?_
  unfold Builtin.Bytes.slotIsOwn
  refine wpAny_bind (wpAny_specialOf hT FA.look_ba_buffer ?_)
  refine bm_if_false (by decide +kernel) ?_
  rw [FA.drop_buffer]
  refine wpAny_isInstance hT FA.sub_ba ?_
  refine bm_if_false rfl ?_
  refine wpAny_bind (wpAny_specialOf hT FA.look_ba_buffer ?_)
  show wpAny _ _ (Builtin.Bytes.ownRelease (.ref a) >>= _) _ _ _
  refine wpAny_bind ?_
  unfold Builtin.Bytes.ownRelease Builtin.Bytes.slotIsOwn
  refine wpAny_bind (wpAny_bind (wpAny_specialOf hT no_release ?_))
  refine bm_if_false (by decide +kernel) ?_
  rw [FA.drop_release]
  refine wpAny_isInstance hT FA.sub_ba (wpAny_pure ?_)
  refine bm_if_false rfl ?_
  refine wpAny_bind ?_
  unfold Builtin.Bytes.payload Builtin.Bytes.payload?
  exact wpAny_bind (wpAny_bind (wpAny_load g (wpAny_pure (wpAny_pure (wpAny_pure h)))))
theorem new_bytes_ba {a : Addr} {d : Array UInt8} {Q : Value → Shared → Prop} (hz : d.size ≤ 100000) (g : s.heap.get? a = some (baO d)) (hQ : ∀ t k, Q (.bytes d t) { s with toks := k }) :
    codeAny (model pw w) A (.call (.builtin "bytes.__new__") ⟨[.type "bytes", .ref a], []⟩) (wants Q E) s := by
  refine codeAny_of_tree ?_
  show wpAny _ A.in1 (do checkBuiltinCall "bytes.__new__" ⟨[.type "bytes", .ref a], []⟩; again (.builtin "bytes.__new__" ⟨[.type "bytes", .ref a], []⟩)) _ _ s
  refine wpAny_bind (wpAny_of_eq (F.bm_newCall _) (wpAny_pure ⟨plainId_quiet F.bm_plain _, codeAny_builtin F.bm_entry ?_⟩))
  rw [Around.under_plainId F.bm_plain _]
  have hT : s.TypeIs (.ref a) "bytearray" := ⟨_, g, rfl⟩
  unfold Builtin.«bytes.__new__»
  refine wpAny_bind (wpAny_of_eq (a := true) rfl ?_)
  refine bm_if_false rfl ?_
  refine wpAny_bind (wpAny_of_eq F.bm_sub ?_)
  refine bm_if_false rfl ?_
  refine wpAny_bind (wpAny_of_eq (F.bm_bind _) ?_)
  refine wpAny_bind (wpAny_of_eq (a := ()) rfl ?_)
  refine wpAny_bind (wpAny_of_eq (a := ()) rfl ?_)
  refine bm_if_false rfl ?_
  refine wpAny_bind (wpAny_specialOf hT FA.look_ba_bytes ?_)
  refine wpAny_bind (wpAny_bind ?_)
  show wpAny _ _ (load a >>= _) _ _ _
  refine wpAny_bind (wpAny_load g ?_)
  refine wpAny_pure (wpAny_pure ?_)
  refine bm_if_false rfl ?_
  refine wpAny_bind (wpAny_specialOf hT FA.look_ba_index ?_)
  refine bm_if_true rfl ?_
  show wpAny _ _ (Builtin.Bytes.buffer? "bytes.__new__" (.ref a) true >>= _) _ _ _
  refine wpAny_bind (buffer_ba g ?_)
  refine wpAny_bind (wpAny_rule ?_)
  refine wpAny_bind ?_
  refine wpAny_mkBytes ?_ (by rw [sizeLine_eq]; lia)
  refine bm_if_true rfl ?_
  exact wpAny_pure (hQ _ _)
theorem call_bytes_ba {a : Addr} {d : Array UInt8} {Q : Value → Shared → Prop} (hz : d.size ≤ 100000) (g : s.heap.get? a = some (baO d)) (hQ : ∀ t k, Q (.bytes d t) { s with toks := k }) : wpAny (model pw w) A (call (.type "bytes") [.ref a]) Q E s := by
  refine callType_codes (Q₁ := fun obj s₁ => s₁.TypeIs obj "bytes" ∧ Q obj s₁) F.bm_called (F.bm_typeCall _) F.entry_object_init
    (new_bytes_ba hz g fun t k => ⟨PySem.W.typeIs_bytes _ _ _, hQ t k⟩) fun obj s₁ h₁ => ?_
  exact ⟨h₁.1, F.args_object_init_2 obj _, object_init_meets F.bm_called.init.lookup F.bm_called.made (by decide) pw w A.in1 _ s₁ ⟨h₁.1, rfl, h₁.2⟩⟩
end
-- XB
section
variable {w : World} {A : Around} {E : Value → Shared → Prop} {s : Shared} {b : PM} {n : Nat} {d : Array UInt8} {Q : Value → Shared → Prop}
theorem inR_OctetsOut_u16 {k : Nat} {body : List Stmt} {x0 x1 : Value} (hbody : f_OctetsOut_u16.body = .stmts body)
    (R : Room A (k + 1)) (B : Base w b) (hs : ∀ a o, b a = some o → s.heap.get? a = some o) (mu : List (Addr × Obj)) (hm : ∀ p ∈ mu, s.heap.get? p.1 = some p.2 ∧ b p.1 = none) (nd : (mu.map (·.1)).Nodup)
    (h : ∀ L h₁ t₁, L = s.heap.objs.size → St w ⟨s.heap, b, mu.map (·.1)⟩ b L (extL [("self", x0), ("number", x1)] fun _ => none) mu { s with heap := h₁, toks := t₁ } → Room (A.deeper (callEnv f_OctetsOut_u16 L 200)) k →
      wpR w (A.deeper (callEnv f_OctetsOut_u16 L 200)) (execs body (callEnv f_OctetsOut_u16 L 200)) (fun fl s' => Q (match fl with | .ret v => v | _ => .none) s') (fun _ _ => False) { s with heap := h₁, toks := t₁ }) :
    wpR w A (call (.ref 200) [x0, x1]) Q E s :=
  enterR R B hs mu hm nd (lk_OctetsOut_u16 _) (cd_OctetsOut_u16 _) hbody (BindsTo.of_eq rfl) (by decide +kernel) (by kernel_rfl!) (by kernel_rfl!) (by kernel_rfl!) (by kernel_rfl!) h
theorem inR_OctetsOut_add {k : Nat} {body : List Stmt} {x0 x1 : Value} (hbody : f_OctetsOut_add.body = .stmts body)
    (R : Room A (k + 1)) (B : Base w b) (hs : ∀ a o, b a = some o → s.heap.get? a = some o) (mu : List (Addr × Obj)) (hm : ∀ p ∈ mu, s.heap.get? p.1 = some p.2 ∧ b p.1 = none) (nd : (mu.map (·.1)).Nodup)
    (h : ∀ L h₁ t₁, L = s.heap.objs.size → St w ⟨s.heap, b, mu.map (·.1)⟩ b L (extL [("self", x0), ("octets", x1)] fun _ => none) mu { s with heap := h₁, toks := t₁ } → Room (A.deeper (callEnv f_OctetsOut_add L 240)) k →
      wpR w (A.deeper (callEnv f_OctetsOut_add L 240)) (execs body (callEnv f_OctetsOut_add L 240)) (fun fl s' => Q (match fl with | .ret v => v | _ => .none) s') (fun _ _ => False) { s with heap := h₁, toks := t₁ }) :
    wpR w A (call (.ref 240) [x0, x1]) Q E s :=
  enterR R B hs mu hm nd (lk_OctetsOut_add _) (cd_OctetsOut_add _) hbody (BindsTo.of_eq rfl) (by decide +kernel) (by kernel_rfl!) (by kernel_rfl!) (by kernel_rfl!) (by kernel_rfl!) h
theorem c_out_u16 {x ba : Addr} {v : Int} {t5 : Tok} (R : Room A (n + 4)) (B : Base w b) (hs : ∀ a o, b a = some o → s.heap.get? a = some o)
    (hx : OutAt w.params b x ba) (hb : b ba = none) (hd : s.heap.get? ba = some (baO d)) (h0 : 0 ≤ v) (h1 : v < 65536) (hz : d.size ≤ 50000)
    (k : ∀ b' h' t', Grow b b' s.heap h' [ba] → h'.get? ba = some (baO (d ++ (w16 v).toArray)) → Q .none { s with heap := h', toks := t' }) :
    wpR w A (call (.ref 200) [.ref x, .int v t5]) Q E s := by
  refine nay fun hG => ?_
  obtain ⟨dx, t, nn, hx, hdx⟩ := hx
  refine hG ?_; clear hG
  refine inR_OctetsOut_u16 (body := _) rfl R B hs _ (one_mu hd hb) one_nd ?_
  intro L h₁ t₁ hL S R'
  dsimp only [extL] at S
  with_reducible refine r_cons ?_
  refine r_Expr ?_ (by kernel_rfl!) (by kernel_rfl!)
  refine r_mcall ?_ (by kernel_rfl!)
  refine Attribute_any_ ?_ (by kernel_rfl!)
  walk_at "n"
  refine at_b (ga_OctetsOut _) (hd_OctetsOut _) (fa_OctetsOut_made _) gl_made (by assumption) (by rfl) (by assumption) (by assumption) (by first | rfl | assumption) ?_; intro _
  rename St _ _ _ _ _ _ _ => S
  refine me_ext S (.head _) ?_
  refine r_callBi (by kernel_rfl!) ?_
  refine r_args_cons ?_ (by kernel_rfl!)
  refine r_Call ?_ (by kernel_rfl!)
  refine n_number_octets (by assumption) (by kernel_rfl!) (by kernel_rfl!) (by kernel_rfl!) ?_
  refine r_callK (by kernel_rfl!) (by with_reducible exact kp_f_number_octets _) ?_
  refine r_args_cons ?_ (by kernel_rfl!)
  refine wpR.any ?_
  walk_at "n"
  refine r_args_cons ?_ (by kernel_rfl!)
  refine wpR.any ?_
  walk_at "i"
  refine r_args_nil ?_
  refine And.intro (kinH (by assumption)) ?_
  refine .any (c_number_octets (n := n) R' S.base S.sub h0 h1 fun t b' h' t' G => ?_)
  replace S := S.call0 (t := t') G
  dsimp only at S
  refine r_args_nil ?_
  refine ba_ext S (by rfl) (by show _ + 2 ≤ _; lia) fun h' t' S => ?_
  with_reducible refine r_nil ?_
  exact k _ _ _ S.grow (S.muGet (.head _))
theorem c_out_add {x ba : Addr} {m : Array UInt8} {t5 : Tok} (R : Room A (n + 4)) (B : Base w b) (hs : ∀ a o, b a = some o → s.heap.get? a = some o)
    (hx : OutAt w.params b x ba) (hb : b ba = none) (hd : s.heap.get? ba = some (baO d)) (hz : d.size + m.size ≤ 100000)
    (k : ∀ b' h' t', Grow b b' s.heap h' [ba] → h'.get? ba = some (baO (d ++ m)) → Q .none { s with heap := h', toks := t' }) :
    wpR w A (call (.ref 240) [.ref x, .bytes m t5]) Q E s := by
  refine nay fun hG => ?_
  obtain ⟨dx, t, nn, hx, hdx⟩ := hx
  refine hG ?_; clear hG
  refine inR_OctetsOut_add (body := _) rfl R B hs _ (one_mu hd hb) one_nd ?_
  intro L h₁ t₁ hL S R'
  dsimp only [extL] at S
  with_reducible refine r_cons ?_
  refine r_Expr ?_ (by kernel_rfl!) (by kernel_rfl!)
  refine r_mcall ?_ (by kernel_rfl!)
  refine Attribute_any_ ?_ (by kernel_rfl!)
  walk_at "n"
  refine at_b (ga_OctetsOut _) (hd_OctetsOut _) (fa_OctetsOut_made _) gl_made (by assumption) (by rfl) (by assumption) (by assumption) (by first | rfl | assumption) ?_; intro _
  rename St _ _ _ _ _ _ _ => S
  refine me_ext S (.head _) ?_
  refine r_callBi (by kernel_rfl!) ?_
  refine r_args_cons ?_ (by kernel_rfl!)
  refine wpR.any ?_
  walk_at "n"
  refine r_args_nil ?_
  refine ba_ext S (by rfl) hz fun h' t' S => ?_
  with_reducible refine r_nil ?_
  exact k _ _ _ S.grow (S.muGet (.head _))
theorem c_out_octets {x ba : Addr} (R : Room A (n + 4)) (B : Base w b) (hs : ∀ a o, b a = some o → s.heap.get? a = some o)
    (hx : OutAt w.params b x ba) (hb : b ba = none) (hd : s.heap.get? ba = some (baO d)) (hz : d.size ≤ 100000)
    (k : ∀ t b' h' t', Grow b b' s.heap h' [] → Q (.bytes d t) { s with heap := h', toks := t' }) :
    wpAny (model pw w) A (call (.ref 254) [.ref x]) Q E s := by
  refine nay fun hG => ?_
  obtain ⟨dx, t, nn, hx, hdx⟩ := hx
  refine hG ?_; clear hG
  refine in_OctetsOut_octets (body := _) rfl R B hs [] (fun _ h => bbot h) List.nodup_nil ?_
  intro L h₁ t₁ hL S R'
  dsimp only [extL] at S
  have hd1 := S.keep _ _ hd (by simp)
  walk_at "x"
  refine wpAny_Return_some ?_
  walk_at "f"
  refine n_bytes (by assumption) (by kernel_rfl!) (by kernel_rfl!) (by kernel_rfl!) (by kernel_rfl!) ?_
  refine PyProof.Rows.callWith_type1 ?_ (by kernel_rfl!) (by kernel_rfl!)
  walk_at "c"
  refine Attribute_any_ ?_ (by kernel_rfl!)
  walk_at "n"
  refine at_b (ga_OctetsOut _) (hd_OctetsOut _) (fa_OctetsOut_made _) gl_made (by assumption) (by rfl) (by assumption) (by assumption) (by first | rfl | assumption) ?_; intro _
  refine args_nil ?_
  refine call_bytes_ba hz hd1 fun t k' => ?_
  rename St _ _ _ _ _ _ _ => S
  exact k _ _ _ _ S.grow
end
-- RK
namespace FA
theorem slot_bytes_join : Slot "bytes" "join" "bytes.join" :=
  .of (owner := "bytes") (n := "join") (by rw [typeLookup_type, builtinLookup_eq_fast]; kernel_rfl) (by decide +kernel) (by decide +kernel) (by decide +kernel)
    (by first | exact .inl (by decide +kernel) | exact .inr (by decide +kernel)) (by rw [isSubtype_type]; kernel_rfl)
theorem entry_bytes_join : entryFor table "bytes.join" = some Builtin.«bytes.join» := entryFor_of_tree (by kernel_rfl)
theorem args_bytes_join (a c : Value) : argsOk "bytes.join" ⟨[a, c], []⟩ := by unfold argsOk; kernel_rfl
theorem type_bytes_join : typeOf (.builtin "bytes.join") = pure (.type "method_descriptor") := by kernel_rfl
theorem plainAttrs_bytes : PlainAttrs "bytes" := ⟨⟨"bytes.__getattribute__", by rw [typeLookup_type, builtinLookup_eq_fast]; kernel_rfl, by decide +kernel⟩, by rw [typeLookup_type, builtinLookup_eq_fast]; kernel_rfl⟩
end FA
noncomputable def IsB (v : Value) (d : Array UInt8) : Prop := ∃ t, v = .bytes d t
theorem IsB.mk {d : Array UInt8} (t : Tok) : IsB (.bytes d t) d := ⟨t, rfl⟩
noncomputable def flatB (ps : List (Array UInt8)) : Array UInt8 := (ps.flatMap (·.toList)).toArray
theorem flatB_size (ps : List (Array UInt8)) : (flatB ps).size = (ps.map (·.size)).sum := by
  simp [flatB, List.length_flatMap]
theorem joined_flat (ps : List (Array UInt8)) : Builtin.Bytes.joined #[] ps = flatB ps := by
  unfold Builtin.Bytes.joined
  have key : ∀ (l : List (Array UInt8 × Nat)) (acc : Array UInt8), l.foldl (fun out (p, i) => (if i > 0 then out ++ #[] else out) ++ p) acc = acc ++ flatB (l.map (·.1)) := by
    intro l
    induction l with
    | nil => intro acc; simp [flatB]
    | cons x l ih =>
      intro acc
      obtain ⟨p, i⟩ := x
      rw [List.foldl_cons, ih]
      refine Array.toList_inj.mp ?_
      simp [flatB]
  rw [key]
  simp [List.zipIdx_map_fst]
section
variable {w : World} {A : Around} {E : Value → Shared → Prop} {s : Shared}
theorem wp_range0 {β : Type} {n : Nat} {f : Nat → β → Sem (ForInStep β)} (I : Nat → β → Shared → Prop) {Q : β → Shared → Prop}
    (hstep : ∀ i c s, i < n → I i c s → wpAny (model pw w) A (f i c) (fun r s' => match r with | .done c' => Q c' s' | .yield c' => I (i + 1) c' s') E s)
    (hend : ∀ c s, I n c s → Q c s) {c : β} (h : I 0 c s) : wpAny (model pw w) A (forIn [0:n] c f) Q E s := by
  rw [Std.Legacy.Range.forIn_eq_forIn_range']
  have hsz : ([0:n] : Std.Legacy.Range).size = n := by simp [Std.Legacy.Range.size]
  show wpAny _ A (forIn (List.range' 0 ([0:n] : Std.Legacy.Range).size 1) c f) Q E s
  rw [hsz]
  refine wpAny_forIn_list f (fun l c s => ∃ i, i ≤ n ∧ l = List.range' i (n - i) 1 ∧ I i c s) Q ?_ ?_ _ c ⟨0, Nat.zero_le _, rfl, h⟩
  · rintro x rest c s ⟨i, hin, hl, hI⟩
    have hlt : i < n := by
      rcases Nat.lt_or_ge i n with h' | h'
      · exact h'
      · rw [show n - i = 0 by lia] at hl; simp at hl
    obtain ⟨k, hk⟩ : ∃ k, n - i = k + 1 := ⟨n - i - 1, by lia⟩
    rw [hk, List.range'_succ] at hl
    obtain ⟨rfl, rfl⟩ := List.cons.inj hl
    refine wpAny_mono (hstep x c s hlt hI) (fun r s' h' => ?_) fun _ _ z => z
    cases r with
    | done c' => exact h'
    | yield c' => exact ⟨x + 1, by lia, by congr 1; lia, h'⟩
  · rintro c s ⟨i, hin, hl, hI⟩
    have : i = n := by
      rcases Nat.lt_or_ge i n with h' | h'
      · obtain ⟨k, hk⟩ : ∃ k, n - i = k + 1 := ⟨n - i - 1, by lia⟩
        rw [hk, List.range'_succ] at hl; cases hl
      · lia
    subst this
    exact hend _ _ hI
theorem joinLetGo_quiet {taken : List (Value × Option Value)} {keep : List Value} {Q : Unit → Shared → Prop} (h : ∀ x ∈ taken, ∃ d t, x = (Value.bytes d t, none)) (q : Q () s) : wpAny (model pw w) A (Builtin.Bytes.joinLetGo taken keep) Q E s := by
  induction taken with
  | nil => exact wpAny_pure q
  | cons x r ih =>
    obtain ⟨d, t, rfl⟩ := h x (.head _)
    rw [Builtin.Bytes.joinLetGo]
    · exact wpAny_bind (wpAny_letGo (ih fun y hy => h y (.tail _ hy)))
    · intro _ e; cases e
theorem foldl_size (l : List (Array UInt8)) : ∀ a, l.foldl (fun x1 x2 => x1 + x2.size) a = a + (l.map (·.size)).sum := by
  induction l with
  | nil => intro a; simp
  | cons x l ih => intro a; rw [List.foldl_cons, ih]; simp [Nat.add_assoc]
theorem join_tree {l : Addr} {vs : Array Value} {k : Nat} {ps : List (Array UInt8)} {t : Tok} {R : PySem.Fin → Shared → Prop} (hl : s.heap.get? l = some (listOf vs k)) (hp : All2 IsB vs.toList ps) (hz : (flatB ps).size ≤ 100000)
    (hQ : ∀ t k, R (.done (.ret (.bytes (flatB ps) t))) { s with toks := k }) : wpAny (model pw w) A (Builtin.«bytes.join» ⟨[.bytes #[] t, .ref l], []⟩) R E s := by
  have hT : s.TypeIs (.ref l) "list" := ⟨_, hl, rfl⟩
  unfold Builtin.«bytes.join» Builtin.Bytes.joinM
  refine wpAny_bind (wpAny_of_eq (a := (.bytes #[] t, .ref l)) rfl ?_)
  refine bm_if_true rfl ?_
  refine wpAny_bind ?_
  unfold Builtin.Bytes.joinItems
  refine wpAny_bind (wpAny_typeOf hT ?_)
  refine bm_if_true (by decide +kernel) ?_
  refine wpAny_pure ?_
  refine wpAny_bind ?_
  have items : ∀ {Q : Option (Array Value) → Shared → Prop} {s' : Shared}, s'.heap = s.heap → Q (some vs) s' → wpAny (model pw w) A (seqItems? (.ref l)) Q E s' := fun e q => by
    unfold seqItems?
    exact wpAny_bind (wpAny_load (by rw [e]; exact hl) (wpAny_pure q))
  refine items rfl ?_
  refine bm_if_true rfl ?_
  rcases vs with ⟨_ | ⟨v, _ | ⟨v2, rest⟩⟩⟩
  case cons.nil =>
    obtain ⟨p, rfl⟩ : ∃ p, ps = [p] := by
      have := hp.length
      match ps, this with
      | [p], _ => exact ⟨p, rfl⟩
    cases hp with
    | cons a _ =>
      obtain ⟨u, rfl⟩ := a
      refine wpAny_bind (wpAny_typeOf (typeIs_bytes _ _ _) ?_)
      refine bm_if_true (by decide +kernel) ?_
      refine wpAny_bind (wpAny_rule (wpAny_pure ?_))
      have e : flatB [p] = p := by simp [flatB]
      have := hQ u s.toks
      rw [e] at this
      exact this
  all_goals
    refine wpAny_bind ?_
    generalize hvs : Array.mk _ = vs at *
    refine (wp_range0 (c := (#[], [])) (β := Array (Array UInt8) × List (Value × Option Value)) (fun i c s' => (∃ tk, s' = { s with toks := tk }) ∧ c.1.toList = ps.take i ∧ ∀ x ∈ c.2, ∃ d t, x = (Value.bytes d t, none)) ?_ ?_ ⟨⟨_, rfl⟩, rfl, fun x hx => nomatch hx⟩)
    · rintro i ⟨parts, taken⟩ s' hi ⟨⟨tk, rfl⟩, hparts, htaken⟩
      refine wpAny_bind (items rfl ?_)
      have hi' : i < vs.toList.length := by simpa using hi
      obtain ⟨d, hd, u, hv⟩ := hp.get (List.getElem?_eq_getElem hi')
      have hx : vs.getD i .none = .bytes d u := by
        rw [← hv]
        simp [Array.getD, hi]
      have ht : taken.any (·.1.onHeap) = false := by
        rw [List.any_eq_false]
        intro x hx
        obtain ⟨d, t, rfl⟩ := htaken x hx
        simp [Value.onHeap]
      dsimp only
      rw [hx]
      refine bm_if_false (by rw [ht]; rfl) ?_
      refine wpAny_bind (wpAny_holding ?_)
      rw [take_bytes]
      refine wpAny_pure ?_
      refine wpAny_bind (items rfl ?_)
      refine bm_if_false (by simp) ?_
      refine wpAny_pure ⟨⟨_, rfl⟩, ?_, fun x hx => ?_⟩
      · show (parts.push d).toList = _
        rw [Array.toList_push, show parts.toList = ps.take i from hparts, List.take_add_one, hd]
        rfl
      · rcases List.mem_append.mp hx with hx | hx
        · exact htaken x hx
        · exact ⟨d, u, List.mem_singleton.mp hx⟩
    · rintro ⟨parts, taken⟩ s' ⟨⟨tk, rfl⟩, hparts, htaken⟩
      have hlen := hp.length
      rw [List.take_of_length_le (by rw [← hlen]; simp)] at hparts
      have hparts : parts = ps.toArray := by rw [← hparts]
      subst hparts
      refine wpAny_bind (wpAny_of_eq (a := #[]) rfl ?_)
      refine bm_if_false ?_ ?_
      · unfold Builtin.Bytes.tooLong
        have : Array.foldl (fun x1 x2 => x1 + x2.size) ((#[] : Array UInt8).size * (ps.toArray.size - 1)) ps.toArray = (ps.map (·.size)).sum := by
          rw [List.foldl_toArray, foldl_size]
          simp
        rw [this, ← flatB_size, sizeLine_eq]
        exact decide_eq_false (by lia)
      refine wpAny_bind ?_
      rw [joined_flat]
      dsimp only
      refine wpAny_mkBytes ?_ (by rw [sizeLine_eq]; lia)
      refine wpAny_bind (wpAny_holding (wpAny_point ?_))
      refine wpAny_bind (joinLetGo_quiet htaken ?_)
      exact wpAny_pure (hQ _ _)
end
-- XC
theorem flat_w16 (xs : List Int) : flatB (xs.map fun x => (w16 x).toArray) = (xs.flatMap w16).toArray := by
  unfold flatB
  rw [List.flatMap_map]
theorem flat_w16_len (xs : List Int) : (xs.flatMap w16).length = 2 * xs.length := by
  induction xs with
  | nil => rfl
  | cons x xs ih => rw [List.flatMap_cons, List.length_append, ih, List.length_cons]; show 2 + _ = _; lia
section
variable {w : World} {A : Around} {E : Value → Shared → Prop} {s s0 : Shared} {b : PM} {n : Nat} {d : Array UInt8} {Q : Value → Shared → Prop}
theorem const_b0 {env : Env} {k : Nat} {pos : Pos} {Q : Value → Shared → Prop} (h : Q (.bytes #[] s.toks) { s with toks := s.toks + 1 }) : wpAny (model pw w) A (eval (.Constant (.bytes []) k pos) env) Q E s := by
  rw [eval_Constant]
  exact wpAny_mkBytes (b := #[]) h (Nat.zero_le _)
theorem join_list {l : Addr} {vs : Array Value} {k : Nat} {ps : List (Array UInt8)} {t : Tok} {Q : Value → Shared → Prop} (hl : s.heap.get? l = some (listOf vs k)) (hp : All2 IsB vs.toList ps) (hz : (flatB ps).size ≤ 100000)
    (hQ : ∀ t k, Q (.bytes (flatB ps) t) { s with toks := k }) : wpAny (model pw w) A (call (.builtin "bytes.join") [.bytes #[] t, .ref l]) Q E s :=
  wpAny_call_entry FA.slot_bytes_join (typeIs_bytes _ _ _) FA.entry_bytes_join (join_tree hl hp hz fun t k => ⟨_, rfl, hQ t k⟩) (FA.args_bytes_join _ _)
theorem me_join {x : Array UInt8} {t : Tok} {pl : Sem Bool} {Q : Value × List Value → Shared → Prop} (h : Q (.builtin "bytes.join", [.bytes x t]) s) : wpAny (model pw w) A (getMethod (.bytes x t) "join" pl) Q E s :=
  getMethod_builtin (typeIs_bytes _ _ _) FA.plainAttrs_bytes FA.slot_bytes_join FA.type_bytes_join (fun c e => nomatch e) h
theorem inR_OctetsOut_rows {k : Nat} {body : List Stmt} {x0 x1 : Value} (hbody : f_OctetsOut_rows.body = .stmts body)
    (R : Room A (k + 1)) (B : Base w b) (hs : ∀ a o, b a = some o → s.heap.get? a = some o) (mu : List (Addr × Obj)) (hm : ∀ p ∈ mu, s.heap.get? p.1 = some p.2 ∧ b p.1 = none) (nd : (mu.map (·.1)).Nodup)
    (h : ∀ L h₁ t₁, L = s.heap.objs.size → St w ⟨s.heap, b, mu.map (·.1)⟩ b L (extL [("self", x0), ("numbers", x1)] fun _ => none) mu { s with heap := h₁, toks := t₁ } → Room (A.deeper (callEnv f_OctetsOut_rows L 233)) k →
      wpR w (A.deeper (callEnv f_OctetsOut_rows L 233)) (execs body (callEnv f_OctetsOut_rows L 233)) (fun fl s' => Q (match fl with | .ret v => v | _ => .none) s') (fun _ _ => False) { s with heap := h₁, toks := t₁ }) :
    wpR w A (call (.ref 233) [x0, x1]) Q E s :=
  enterR R B hs mu hm nd (lk_OctetsOut_rows _) (cd_OctetsOut_rows _) hbody (BindsTo.of_eq rfl) (by decide +kernel) (by kernel_rfl!) (by kernel_rfl!) (by kernel_rfl!) (by kernel_rfl!) h
theorem c_out_rows {x ba : Addr} {v : Value} {xs : List Int} (R : Room A (n + 4)) (B : Base w b) (hs : ∀ a o, b a = some o → s.heap.get? a = some o)
    (hx : OutAt w.params b x ba) (hb : b ba = none) (hd : s.heap.get? ba = some (baO d)) (hv : ListOf b IsI v xs) (h0 : ∀ x ∈ xs, 0 ≤ x ∧ x < 65536) (hz : d.size ≤ 50000) (hl : xs.length ≤ 1000)
    (k : ∀ b' h' t', Grow b b' s.heap h' [ba] → h'.get? ba = some (baO (d ++ (xs.flatMap w16).toArray)) → Q .none { s with heap := h', toks := t' }) :
    wpR w A (call (.ref 233) [.ref x, v]) Q E s := by
  refine nay fun hG => ?_
  obtain ⟨dx, t, nn, hx, hdx⟩ := hx
  obtain ⟨D, vs, kk, rfl, hD, hvs⟩ := hv
  refine hG ?_; clear hG
  refine inR_OctetsOut_rows (body := _) rfl R B hs _ (one_mu hd hb) one_nd ?_
  intro L h₁ t₁ hL S R'
  dsimp only [extL] at S
  with_reducible refine r_cons ?_
  refine r_Expr ?_ (by kernel_rfl!) (by kernel_rfl!)
  refine r_mcall ?_ (by kernel_rfl!)
  refine Attribute_any_ ?_ (by kernel_rfl!)
  walk_at "n"
  refine at_b (ga_OctetsOut _) (hd_OctetsOut _) (fa_OctetsOut_made _) gl_made (by assumption) (by rfl) (by assumption) (by assumption) (by first | rfl | assumption) ?_; intro _
  rename St _ _ _ _ _ _ _ => S
  refine me_ext S (.head _) ?_
  refine r_callBi (by kernel_rfl!) ?_
  refine r_args_cons ?_ (by kernel_rfl!)
  refine r_mcall ?_ (by kernel_rfl!)
  refine const_b0 ?_
  refine me_join ?_
  refine r_callBi (by kernel_rfl!) ?_
  refine r_args_cons ?_ (by kernel_rfl!)
  refine wpR.any (lcomp (cl := []) (by intro _; kernel_rfl!) (by kernel_rfl!) (by kernel_rfl!) (by decide +kernel) ?_)
  walk_at "n"
  rename St _ _ _ _ _ _ _ => S
  refine it_list R'.hd S (by rfl) hD fun I oI h₃ t₃ W S => ?_
  have hvl : vs.size = xs.length := by rw [← hvs.length]; simp
  refine comp_src W S (by lia) (by decide) rfl (by kernel_rfl!) (fun i b₄ mu ys => mu = [(ba, baO d)] ∧ All2 IsB ys.toList ((xs.map fun x => (w16 x).toArray).take i)) ⟨rfl, .nil⟩ ?_ ?_
  · rintro i v b₄ mC mu ys tl h₄ t₄ C hi hv ⟨rfl, hy⟩ hb₄ S
    refine nay fun hG => ?_
    obtain ⟨x', hx', t', rfl⟩ := hvs.get (by rw [Array.getElem?_toList]; exact hv)
    refine hG ?_; clear hG
    walk_at "f"
    refine n_number_octets (by assumption) (by kernel_rfl!) (by kernel_rfl!) (by kernel_rfl!) ?_
    refine callWith_K (kinH (by assumption)) (by with_reducible exact kp_f_number_octets _) ?_ (by kernel_rfl!) (by kernel_rfl!)
    walk_at "c"; walk_at "n"; walk_at "c"; walk_at "i"
    refine args_nil ?_
    refine And.intro (kinH (by assumption)) ?_
    rename St _ _ _ _ _ _ _ => S
    have h01 := h0 x' (List.mem_of_getElem? hx')
    refine c_number_octets (n := n) R' S.base S.sub h01.1 h01.2 fun t b' h' t' G => ?_
    replace S := S.call0 (t := t') G
    refine turnI (b2 := b') (mu2 := [(ba, baO d)]) rfl ⟨rfl, ?_⟩ (fun a o q => G.up _ _ (hb₄ _ _ q)) S
    rw [Array.toList_push]
    exact hy.push_take (by rw [List.getElem?_map, hx']; rfl) (IsB.mk t)
  · rintro b₄ mu ys kk' D' h₄ t₄ hys ⟨rfl, hy⟩ hb₄ S hD'
    rw [List.take_of_length_le (by simp [hvl])] at hy
    have S2 := S.freeze hD'
    clear S
    refine r_args_nil ?_
    have hfl := flat_w16_len xs
    refine wpR.any (join_list (S2.get (PM.put_self ..)) hy (by rw [flat_w16, List.size_toArray, hfl]; lia) fun t k' => ?_)
    rw [flat_w16]
    refine r_args_nil ?_
    have hsz : (xs.flatMap w16).toArray.size = 2 * xs.length := by rw [List.size_toArray, hfl]
    refine ba_ext S2 (by rfl) (by show d.size + (xs.flatMap w16).toArray.size ≤ _; lia) fun h' t' S => ?_
    with_reducible refine r_nil ?_
    exact k _ _ _ S.grow (S.muGet (.head _))
end
-- RL
theorem inR_laid {w : World} {A : Around} {E : Value → Shared → Prop} {s : Shared} {b : PM} {k : Nat} {Q : Value → Shared → Prop} {body : List Stmt} {x0 x1 : Value} (hbody : f_laid.body = .stmts body)
    (R : Room A (k + 1)) (B : Base w b) (hs : ∀ a o, b a = some o → s.heap.get? a = some o) (mu : List (Addr × Obj)) (hm : ∀ p ∈ mu, s.heap.get? p.1 = some p.2 ∧ b p.1 = none) (nd : (mu.map (·.1)).Nodup)
    (h : ∀ L h₁ t₁, L = s.heap.objs.size → St w ⟨s.heap, b, mu.map (·.1)⟩ b L (extL [("begin", x0), ("parts", x1), ("is_shared", .bool true), ("most", .int 65535 256)] fun _ => none) mu { s with heap := h₁, toks := t₁ } → Room (A.deeper (callEnv f_laid L 269)) k →
      wpR w (A.deeper (callEnv f_laid L 269)) (execs body (callEnv f_laid L 269)) (fun fl s' => Q (match fl with | .ret v => v | _ => .none) s') (fun _ _ => False) { s with heap := h₁, toks := t₁ }) :
    wpR w A (call (.ref 269) [x0, x1]) Q E s :=
  enterR R B hs mu hm nd (lk_laid _) (cd_laid _) hbody (binds_K (B.kin hs) (T := 262) rfl (by rfl) rfl rfl rfl) (by decide +kernel) (by kernel_rfl!) (by kernel_rfl!) (by kernel_rfl!) (by kernel_rfl!) h
theorem inR_write_coverage {w : World} {A : Around} {E : Value → Shared → Prop} {s : Shared} {b : PM} {k : Nat} {Q : Value → Shared → Prop} {body : List Stmt} {x0 : Value} (hbody : f_write_coverage.body = .stmts body)
    (R : Room A (k + 1)) (B : Base w b) (hs : ∀ a o, b a = some o → s.heap.get? a = some o) (mu : List (Addr × Obj)) (hm : ∀ p ∈ mu, s.heap.get? p.1 = some p.2 ∧ b p.1 = none) (nd : (mu.map (·.1)).Nodup)
    (h : ∀ L h₁ t₁, L = s.heap.objs.size → St w ⟨s.heap, b, mu.map (·.1)⟩ b L (extL [("coverage", x0), ("form", .int 0 628)] fun _ => none) mu { s with heap := h₁, toks := t₁ } → Room (A.deeper (callEnv f_write_coverage L 361)) k →
      wpR w (A.deeper (callEnv f_write_coverage L 361)) (execs body (callEnv f_write_coverage L 361)) (fun fl s' => Q (match fl with | .ret v => v | _ => .none) s') (fun _ _ => False) { s with heap := h₁, toks := t₁ }) :
    wpR w A (call (.ref 361) [x0]) Q E s :=
  enterR R B hs mu hm nd (lk_write_coverage _) (cd_write_coverage _) hbody (binds_K (B.kin hs) (T := 354) rfl (by rfl) rfl rfl rfl) (by decide +kernel) (by kernel_rfl!) (by kernel_rfl!) (by kernel_rfl!) (by kernel_rfl!) h
theorem inR_put_counted {w : World} {A : Around} {E : Value → Shared → Prop} {s : Shared} {b : PM} {k : Nat} {Q : Value → Shared → Prop} {body : List Stmt} {x0 x1 : Value} (hbody : f_put_counted.body = .stmts body)
    (R : Room A (k + 1)) (B : Base w b) (hs : ∀ a o, b a = some o → s.heap.get? a = some o) (mu : List (Addr × Obj)) (hm : ∀ p ∈ mu, s.heap.get? p.1 = some p.2 ∧ b p.1 = none) (nd : (mu.map (·.1)).Nodup)
    (h : ∀ L h₁ t₁, L = s.heap.objs.size → St w ⟨s.heap, b, mu.map (·.1)⟩ b L (extL [("out", x0), ("row", x1)] fun _ => none) mu { s with heap := h₁, toks := t₁ } → Room (A.deeper (callEnv f_put_counted L 390)) k →
      wpR w (A.deeper (callEnv f_put_counted L 390)) (execs body (callEnv f_put_counted L 390)) (fun fl s' => Q (match fl with | .ret v => v | _ => .none) s') (fun _ _ => False) { s with heap := h₁, toks := t₁ }) :
    wpR w A (call (.ref 390) [x0, x1]) Q E s :=
  enterR R B hs mu hm nd (lk_put_counted _) (cd_put_counted _) hbody (BindsTo.of_eq rfl) (by decide +kernel) (by kernel_rfl!) (by kernel_rfl!) (by kernel_rfl!) (by kernel_rfl!) h
theorem inR_law {w : World} {A : Around} {E : Value → Shared → Prop} {s : Shared} {b : PM} {k : Nat} {Q : Value → Shared → Prop} {body : List Stmt} {x0 : Value} (hbody : f_law.body = .stmts body)
    (R : Room A (k + 1)) (B : Base w b) (hs : ∀ a o, b a = some o → s.heap.get? a = some o) (mu : List (Addr × Obj)) (hm : ∀ p ∈ mu, s.heap.get? p.1 = some p.2 ∧ b p.1 = none) (nd : (mu.map (·.1)).Nodup)
    (h : ∀ L h₁ t₁, L = s.heap.objs.size → St w ⟨s.heap, b, mu.map (·.1)⟩ b L (extL [("script", x0)] fun _ => none) mu { s with heap := h₁, toks := t₁ } → Room (A.deeper (callEnv f_law L 465)) k →
      wpR w (A.deeper (callEnv f_law L 465)) (execs body (callEnv f_law L 465)) (fun fl s' => Q (match fl with | .ret v => v | _ => .none) s') (fun _ _ => False) { s with heap := h₁, toks := t₁ }) :
    wpR w A (call (.ref 465) [x0]) Q E s :=
  enterR R B hs mu hm nd (lk_law _) (cd_law _) hbody (BindsTo.of_eq rfl) (by decide +kernel) (by kernel_rfl!) (by kernel_rfl!) (by kernel_rfl!) (by kernel_rfl!) h
namespace FA
theorem slot_ba_len : Slot "bytearray" "__len__" "bytearray.__len__" :=
  .of (owner := "bytearray") (n := "__len__") (by rw [typeLookup_type, builtinLookup_eq_fast]; kernel_rfl) (by decide +kernel) (by decide +kernel) (by decide +kernel)
    (by first | exact .inl (by decide +kernel) | exact .inr (by decide +kernel)) (by rw [isSubtype_type]; kernel_rfl)
theorem entry_ba_len : entryFor table "bytearray.__len__" = some Builtin.«bytearray.__len__» := entryFor_of_tree (by kernel_rfl)
theorem args_ba_len (a : Value) : argsOk "bytearray.__len__" ⟨[a], []⟩ := by unfold argsOk; kernel_rfl
end FA
noncomputable def DictO {w : World} {κ : Type} [DecidableEq κ] (knd : KeyKind pw w κ) (kvs : List (κ × Value)) (o : Obj) : Prop :=
  o.ExactDict ∧ ∃ es ep, o.data = .dict es ep ∧ KeysOf knd es ∧ Pairs knd es.toList kvs ∧ (kvs.map (·.1)).Nodup
theorem DictO.of {w : World} {κ : Type} [DecidableEq κ] {knd : KeyKind pw w κ} {kvs : List (κ × Value)} {o : Obj} {h : Heap} {a : Addr} (d : DictO knd kvs o) (g : h.get? a = some o) : h.DictOf knd a kvs := by
  refine nay fun hG => ?_
  obtain ⟨x, es, ep, r⟩ := d
  refine hG ?_; clear hG
  exact ⟨o, es, ep, g, x, r⟩
theorem DictO.back {w : World} {κ : Type} [DecidableEq κ] {knd : KeyKind pw w κ} {kvs : List (κ × Value)} {h : Heap} {a : Addr} (d : h.DictOf knd a kvs) : ∃ o, h.get? a = some o ∧ DictO knd kvs o := by
  refine nay fun hG => ?_
  obtain ⟨o, es, ep, g, x, r⟩ := d
  refine hG ?_; clear hG
  exact ⟨o, g, x, es, ep, r⟩
noncomputable abbrev dict0 : Obj := { cls := .type "dict", data := .dict #[] }
theorem DictO.empty {w : World} {κ : Type} [DecidableEq κ] (knd : KeyKind pw w κ) : DictO knd [] dict0 := ⟨⟨rfl, rfl, rfl⟩, #[], 0, rfl, fun _ h => by simp at h, by exact .nil, .nil⟩
section
variable {w : World} {A : Around} {E : Value → Shared → Prop} {s s0 : Shared} {e : En} {b : PM} {L : Addr} {m : Str → Option Value} {mu : List (Addr × Obj)} {env : Env} {t0 : Nat} {Q : Value → Shared → Prop}
theorem len_ba {a : Addr} {d : Array UInt8} (g : s.heap.get? a = some (baO d)) (hfit : d.size ≤ 100000) (h : Q (.int d.size (s.toks + 1)) { s with toks := s.toks + 1 + 1 }) : wpAny (model pw w) A (call (.builtin "len") [.ref a]) Q E s := by
  have hT : s.TypeIs (.ref a) "bytearray" := ⟨_, g, rfl⟩
  refine Calls.call_function_entry kind_len plain_len entry_len (args_len1 _) ?_
  unfold Builtin.«len»
  refine wpAny_bind (m := oneArg "len" _) (wpAny_pure ?_)
  refine wpAny_bind (m := callSpecial? (.ref a) (Str.ofString "__len__")) (wpAny_callSpecial?_slot (name := Str.ofString "__len__") hT FA.slot_ba_len (wpAny_call_entry FA.slot_ba_len hT FA.entry_ba_len ?_ (FA.args_ba_len _)))
  unfold Builtin.«bytearray.__len__»
  refine wpAny_bind (wpAny_of_eq (a := (.ref a, [])) rfl ?_)
  refine wpAny_bind ?_
  unfold Builtin.Bytes.payload Builtin.Bytes.payload?
  refine wpAny_bind (wpAny_bind (wpAny_load g (wpAny_pure (wpAny_pure ?_))))
  refine wpAny_bind (wpAny_mkInt (wpAny_pure ⟨_, rfl, ?_⟩))
  refine wpAny_bind (wpAny_holding (wpAny_pure ?_))
  refine wpAny_bind (wpAny_letGo ?_)
  show wpAny _ _ (if ((d.size : Nat) : Int) < 0 then _ else _) _ _ _
  rw [if_neg (by lia)]
  show wpAny _ _ (if ((d.size : Nat) : Int) ≥ 2 ^ 63 then _ else _) _ _ _
  rw [if_neg (by lia)]
  exact wpAny_bind (wpAny_mkInt (wpAny_pure ⟨_, rfl, h⟩))
theorem St.lt465 (S : St w e b L m mu s) : 465 < s.heap.objs.size := Heap.lt_size (S.kin 465 _ (lk_law w.params))
theorem new_lst {items : List Value} (S : St w e b L m mu { s0 with heap := s.heap, toks := t0 }) (hq : s = { s0 with heap := s.heap, toks := s.toks }) (hz : items.length ≤ 1000)
    (h : ∀ a h' t', e.h.objs.size ≤ a → 465 < a → St w e b L m ((a, listOf items.toArray 0) :: mu) { s0 with heap := h', toks := t' } → Q (.ref a) { s0 with heap := h', toks := t' }) : wpAny (model pw w) A (newList items) Q E s := by
  refine wpAny_newList ?_ (by rw [sizeLine_eq]; lia)
  have S1 := S.pushM (listOf items.toArray 0) (t := s.toks)
  have l := S.lt465
  rw [hq]
  exact h _ _ _ S.size l S1
theorem new_tup {items : List Value} (S : St w e b L m mu { s0 with heap := s.heap, toks := t0 }) (hq : s = { s0 with heap := s.heap, toks := s.toks }) (hz : items.length ≤ 1000)
    (h : ∀ a b' h' t', (∀ c o, b c = some o → b' c = some o) → b' a = some (tupO items.toArray) → St w e b' L m mu { s0 with heap := h', toks := t' } → Q (.ref a) { s0 with heap := h', toks := t' }) : wpAny (model pw w) A (newTuple items) Q E s := by
  refine wpAny_newTuple ?_ (by rw [sizeLine_eq]; lia)
  have S1 := S.push (tupO items.toArray) (t := s.toks)
  have bn := S.b_new
  rw [hq]
  exact h _ _ _ _ (fun c o q => PM.put_le bn _ q) (PM.put_self ..) S1
theorem new_dict {pos : Pos} (S : St w e b L m mu { s0 with heap := s.heap, toks := t0 }) (hq : s = { s0 with heap := s.heap, toks := s.toks })
    (h : ∀ a h' t', e.h.objs.size ≤ a → 465 < a → St w e b L m ((a, dict0) :: mu) { s0 with heap := h', toks := t' } → Q (.ref a) { s0 with heap := h', toks := t' }) : wpAny (model pw w) A (eval (.Dict [] [] pos) env) Q E s := by
  refine wpAny_Dict_empty ?_
  have S1 := S.pushM dict0 (t := s.toks)
  have l := S.lt465
  rw [hq]
  exact h _ _ _ S.size l S1
theorem me_app {a : Addr} {ys : Array Value} {k : Nat} {pl : Sem Bool} {Q : Value × List Value → Shared → Prop} (S : St w e b L m mu { s with toks := t0 }) (hm : (a, listOf ys k) ∈ mu) (h : Q (.builtin "list.append", [.ref a]) s) : wpAny (model pw w) A (getMethod (.ref a) "append" pl) Q E s :=
  getMethod_list_append (S.muGet hm) rfl rfl h
theorem lst_app {a : Addr} {ys : Array Value} {k : Nat} {v : Value} (S : St w e b L m ((a, listOf ys k) :: mu) { s0 with heap := s.heap, toks := t0 }) (hq : s = { s0 with heap := s.heap, toks := s.toks }) (hz : ys.size ≤ 10000)
    (h : ∀ h' t', St w e b L m ((a, listOf (ys.push v) (k + 1)) :: mu) { s0 with heap := h', toks := t' } → Q .none { s0 with heap := h', toks := t' }) : wpAny (model pw w) A (call (.builtin "list.append") [.ref a, v]) Q E s := by
  refine append_at (S.muGet (.head _)) (fun h' hs g => ?_) (by rw [sizeLine_eq]; lia)
  have S1 := S.turn (h' := h') (t := s.toks) g fun c oc q q' => hs.extBut c oc q q'
  rw [hq]
  exact h _ _ S1
section
variable {κ : Type} [DecidableEq κ] {knd : KeyKind pw w κ} {kvs : List (κ × Value)} {kk : κ} {key : Value}
theorem d_set {a : Addr} {o : Obj} {v : Value} {Q : Unit → Shared → Prop} (S : St w e b L m ((a, o) :: mu) { s0 with heap := s.heap, toks := t0 }) (hq : s = { s0 with heap := s.heap, toks := s.toks }) (D : DictO knd kvs o) (hk : knd.is kk key = true) (hz : kvs.length ≤ 10000)
    (h : ∀ o' h' t', DictO knd (stored kvs kk v) o' → St w e b L m ((a, o') :: mu) { s0 with heap := h', toks := t' } → Q () { s0 with heap := h', toks := t' }) : wpAny (model pw w) A (setItem (.ref a) key v) Q E s := by
  refine wpAny_setItem_pairs hk (D.of (S.muGet (.head _))) (fun h' d hs => ?_) (by rw [sizeLine_eq]; lia)
  refine nay fun hG => ?_
  obtain ⟨o', g, d⟩ := DictO.back d
  refine hG ?_; clear hG
  have S1 := S.turn (h' := h') (t := s.toks + 1) g fun c oc q q' => hs.extBut c oc q q'
  rw [hq]
  exact h _ _ _ d S1
theorem d_get {a : Addr} {o : Obj} {v : Value} (S : St w e b L m mu { s0 with heap := s.heap, toks := t0 }) (hq : s = { s0 with heap := s.heap, toks := s.toks }) (D : DictO knd kvs o) (g : (a, o) ∈ mu ∨ b a = some o) (hk : knd.is kk key = true) (hv : valueAt kvs kk = some v)
    (h : ∀ t', Q v { s0 with heap := s.heap, toks := t' }) : wpAny (model pw w) A (getItem (.ref a) key) Q E s := by
  have g : s.heap.get? a = some o := g.elim (fun g => S.muGet g) fun g => S.get g
  refine wpAny_getItem_of hk (D.of g).mapOf hv ?_
  rw [hq]; exact h _
theorem sub_dict {value slice : Expr} {ops : List Value} {a : Addr} {o : Obj} {v : Value} (S : St w e b L m mu { s0 with heap := s.heap, toks := t0 }) (hq : s = { s0 with heap := s.heap, toks := s.toks }) (D : DictO knd kvs o) (g : (a, o) ∈ mu ∨ b a = some o) (hk : knd.is kk key = true) (hv : valueAt kvs kk = some v)
    (hs : subscripted slice false (.ref a) key = operate ops (getItem (.ref a) key)) (ht : ∀ r, letTemporaryGo value (.ref a) r = pure ())
    (h : ∀ t', Q v { s0 with heap := s.heap, toks := t' }) : wpAny (model pw w) A (subscriptTail value slice (.ref a) key) Q E s := by
  have gg : s.heap.get? a = some o := g.elim (fun g => S.muGet g) fun g => S.get g
  exact tail_of_ItemOn ⟨"dict", _, slot_dict_getitem.lookup, (D.of gg).typeIs, d_get S hq D g hk hv h⟩ hs ht
theorem d_in {a : Addr} {o : Obj} (S : St w e b L m mu { s0 with heap := s.heap, toks := t0 }) (hq : s = { s0 with heap := s.heap, toks := s.toks }) (D : DictO knd kvs o) (g : (a, o) ∈ mu ∨ b a = some o) (hk : knd.is kk key = true) (ha : 465 < a)
    (h : ∀ t', Q (.bool (valueAt kvs kk).isSome) { s0 with heap := s.heap, toks := t' }) : wpAny (model pw w) A (compareOp .In key (.ref a)) Q E s := by
  have g : s.heap.get? a = some o := g.elim (fun g => S.muGet g) fun g => S.get g
  refine wpAny_in_of hk (beq_eq_false_iff_ne.mpr (Nat.ne_of_gt (Nat.lt_of_le_of_lt (by decide) ha))) (D.of g).mapOf ?_
  rw [hq]; exact h _
end
end
-- XD
noncomputable def place? (pl : List (List UInt8 × Int)) (k : List UInt8) : Option Int := (pl.find? fun x => x.1 = k).map (·.2)
noncomputable abbrev LaidSt := List Int × List (List UInt8 × Int) × List UInt8
noncomputable def laidStep (begin : Int) (st : LaidSt) (p : List UInt8) : LaidSt := match place? st.2.1 p with
  | some o => (st.1 ++ [o], st.2.1, st.2.2)
  | none => (st.1 ++ [begin + st.2.2.length], st.2.1 ++ [(p, begin + st.2.2.length)], st.2.2 ++ p)
noncomputable def laidF (begin : Int) (ps : List (List UInt8)) : LaidSt := ps.foldl (laidStep begin) ([], [], [])
theorem laidF_push (begin : Int) (ps : List (List UInt8)) (p : List UInt8) : laidF begin (ps ++ [p]) = laidStep begin (laidF begin ps) p := by unfold laidF; rw [List.foldl_append]; rfl
theorem laid_len (begin : Int) (ps : List (List UInt8)) : (laidF begin ps).2.2.length ≤ (ps.map (·.length)).sum ∧ (laidF begin ps).1.length = ps.length ∧ (laidF begin ps).2.1.length ≤ ps.length := by
  have key : ∀ (ps : List (List UInt8)) (st : LaidSt), (ps.foldl (laidStep begin) st).2.2.length ≤ st.2.2.length + (ps.map (·.length)).sum ∧ (ps.foldl (laidStep begin) st).1.length = st.1.length + ps.length ∧ (ps.foldl (laidStep begin) st).2.1.length ≤ st.2.1.length + ps.length := by
    intro ps
    induction ps with
    | nil => intro st; simp
    | cons p ps ih =>
      intro st
      have := ih (laidStep begin st p)
      rw [List.foldl_cons]
      simp only [List.map_cons, List.sum_cons, List.length_cons]
      have h2 : (laidStep begin st p).2.2.length ≤ st.2.2.length + p.length ∧ (laidStep begin st p).1.length = st.1.length + 1 ∧ (laidStep begin st p).2.1.length ≤ st.2.1.length + 1 := by
        unfold laidStep
        split <;> simp <;> lia
      lia
  have := key ps ([], [], [])
  simpa [laidF] using this
inductive Pl : List (List UInt8 × Value) → List (List UInt8 × Int) → Prop
  | nil : Pl [] []
  | cons {k v o kvs pl} : IsI v o → Pl kvs pl → Pl ((k, v) :: kvs) ((k, o) :: pl)
theorem Pl.at {kvs : List (List UInt8 × Value)} {pl : List (List UInt8 × Int)} (h : Pl kvs pl) (k : List UInt8) : (∃ v o, valueAt kvs k = some v ∧ place? pl k = some o ∧ IsI v o) ∨ (valueAt kvs k = none ∧ place? pl k = none) := by
  induction h with
  | nil => exact .inr ⟨rfl, rfl⟩
  | @cons k' v o kvs pl a _ ih =>
    by_cases e : k' = k
    · exact .inl ⟨v, o, by simp [valueAt, List.find?_cons, e], by simp [place?, List.find?_cons, e], a⟩
    · have e1 : valueAt ((k', v) :: kvs) k = valueAt kvs k := by simp [valueAt, List.find?_cons, e]
      have e2 : place? ((k', o) :: pl) k = place? pl k := by simp [place?, List.find?_cons, e]
      rw [e1, e2]; exact ih
theorem Pl.push {kvs : List (List UInt8 × Value)} {pl : List (List UInt8 × Int)} (h : Pl kvs pl) {k : List UInt8} {v : Value} {o : Int} (a : IsI v o) : Pl (kvs ++ [(k, v)]) (pl ++ [(k, o)]) := by
  induction h with
  | nil => exact .cons a .nil
  | cons b _ ih => exact .cons b ih
theorem Pl.length {kvs : List (List UInt8 × Value)} {pl : List (List UInt8 × Int)} (h : Pl kvs pl) : kvs.length = pl.length := by
  induction h with
  | nil => rfl
  | cons _ _ ih => simp [ih]
theorem stored_new {κ : Type} [DecidableEq κ] {kvs : List (κ × Value)} {k : κ} {v : Value} (h : valueAt kvs k = none) : stored kvs k v = kvs ++ [(k, v)] := by
  unfold stored
  rw [if_neg]
  unfold valueAt at h
  simp only [Option.map_eq_none_iff, List.find?_eq_none, decide_eq_true_eq] at h
  simp only [List.any_eq_true, decide_eq_true_eq, not_exists, not_and]
  exact h
theorem isB_key {w : World} (l : List UInt8) (t : Tok) : (bytesKind pw w).is l (.bytes l.toArray t) = true := by show (l.toArray.toList == l) = true; simp
section
variable {w : World} {A : Around} {E : Value → Shared → Prop} {s : Shared} {b : PM} {n : Nat} {Q : Value → Shared → Prop}
theorem c_laid {begin : Int} {t0 : Tok} {v : Value} {ps : List (List UInt8)} (R : Room A (n + 3)) (B : Base w b) (hs : ∀ a o, b a = some o → s.heap.get? a = some o)
    (hv : ListOf b IsB v (ps.map (·.toArray))) (h0 : 0 ≤ begin) (hz : begin + (ps.map (·.length)).sum ≤ 60000) (hl : ps.length ≤ 1000)
    (k : ∀ T O t b' h' t', Grow b b' s.heap h' [] → b' T = some (tupO #[.ref O, .bytes (laidF begin ps).2.2.toArray t]) → ListOf b' IsI (.ref O) (laidF begin ps).1 → Q (.ref T) { s with heap := h', toks := t' }) :
    wpR w A (call (.ref 269) [.int begin t0, v]) Q E s := by
  refine nay fun hG => ?_
  obtain ⟨D, vs, kk, rfl, hD, hvs⟩ := hv
  refine hG ?_; clear hG
  refine inR_laid (body := _) rfl R B hs [] (fun _ h => bbot h) List.nodup_nil ?_
  intro L h₁ t₁ hL S R'
  dsimp only [extL] at S
  with_reducible refine r_cons ?_
  refine r_AssignName ?_ (by kernel_rfl!)
  refine wpR.any ?_
  refine PyProof.Rows.List_ ?_
  refine args_nil ?_
  refine new_lst S (by rfl) (by decide) fun O h₂ t₂ hO _ S => ?_
  refine st_loc' (by assumption) (by rfl) rfl (by kernel_rfl!) (by kernel_rfl!) fun _ _ S => ?_
  with_reducible refine r_cons ?_
  refine r_AssignName ?_ (by kernel_rfl!)
  refine wpR.any ?_
  refine new_dict S (by rfl) fun P h₃ t₃ hP hP5 S => ?_
  refine st_loc' (by assumption) (by rfl) rfl (by kernel_rfl!) (by kernel_rfl!) fun _ _ S => ?_
  with_reducible refine r_cons ?_
  refine r_AssignName ?_ (by kernel_rfl!)
  refine r_Call ?_ (by kernel_rfl!)
  refine n_bytearray (by assumption) (by kernel_rfl!) (by kernel_rfl!) (by kernel_rfl!) (by kernel_rfl!) ?_
  refine r_callTy (by kernel_rfl!) ?_
  refine r_args_nil ?_
  refine new_ba S (by rfl) fun U h₄ t₄ hU S => ?_
  refine st_loc' (by assumption) (by rfl) rfl (by kernel_rfl!) (by kernel_rfl!) fun _ _ S => ?_
  with_reducible refine r_cons ?_
  refine r_For ?_ (by intro _; kernel_rfl!)
  walk_at "n"
  rename St _ _ _ _ _ _ _ => S
  have hvl : vs.size = ps.length := by have := hvs.length; simpa using this
  refine it_list R'.hd S (by rfl) hD fun I oI h₅ t₅ W S => ?_
  refine for_srcR W S rfl (by kernel_rfl!) (by kernel_rfl!) (fun i b₄ m mu => ∃ ys k oP kvs, mu = [(P, oP), (O, listOf ys k), (U, baO (laidF begin (ps.take i)).2.2.toArray)] ∧ DictO (bytesKind pw w) kvs oP ∧ Pl kvs (laidF begin (ps.take i)).2.1 ∧ All2 IsI ys.toList (laidF begin (ps.take i)).1 ∧
    m "offsets" = some (.ref O) ∧ m "places" = some (.ref P) ∧ m "out" = some (.ref U) ∧ m "begin" = some (.int begin t0) ∧ m "is_shared" = some (.bool true) ∧ m "most" = some (.int 65535 256))
    ⟨#[], 0, dict0, [], rfl, .empty _, .nil, .nil, by walk_at "W look", by walk_at "W look", by walk_at "W look", by walk_at "W look", by walk_at "W look", by walk_at "W look"⟩ ?_ ?_
  · intro i v b₄ m' mu' oI' h₆ t₆ hi hv hx1 hb₄ S
    refine nay fun hG => ?_
    obtain ⟨ys, k', oP, kvs, rfl, hDO, hPl, hys, m1, m2, m3, m4, m5, m6⟩ := hx1
    obtain ⟨p', hp', t', rfl⟩ := hvs.get (by rw [Array.getElem?_toList]; exact hv)
    obtain ⟨q, hq, rfl⟩ : ∃ q, ps[i]? = some q ∧ q.toArray = p' := by simpa using hp'
    refine hG ?_; clear hG
    have hst : laidF begin (ps.take (i + 1)) = laidStep begin (laidF begin (ps.take i)) q := by rw [List.take_add_one, hq]; exact laidF_push ..
    have hll := laid_len begin (ps.take i)
    have hil : i < ps.length := by lia
    have hsum : ((ps.take i).map (·.length)).sum + q.length ≤ (ps.map (·.length)).sum := by
      have h1 : ((ps.take (i + 1)).map (·.length)).sum = ((ps.take i).map (·.length)).sum + q.length := by rw [List.take_add_one, hq]; simp
      have h2 : (ps.map (·.length)).sum = ((ps.take (i + 1)).map (·.length)).sum + ((ps.drop (i + 1)).map (·.length)).sum := by
        rw [← List.sum_append, ← List.map_append, List.take_append_drop]
      lia
    have hkl := hPl.length
    have hysl : ys.size = i := by
      have := hys.length
      rw [hll.2.1, List.length_take, Array.length_toList] at this
      lia
    have htk : (ps.take i).length ≤ 1000 := by rw [List.length_take]; lia
    with_reducible refine r_cons ?_
    refine r_If ?_
    walk_at "q"; walk_at "n"
    refine wpAny_Constant_none ?_
    refine wpAny_is_other rfl (fun h => nomatch h) ?_
    walk_at "t"
    with_reducible refine ite_no (by with_reducible rfl) ?_
    with_reducible refine r_cons ?_
    refine r_If ?_
    with_reducible refine isTrue_and ?_
    refine isTrue_plain ?_ (by kernel_rfl!)
    walk_at "n"; walk_at "t"
    with_reducible refine ite_yes (by with_reducible rfl) ?_
    with_reducible refine isTrue_and ?_
    walk_at "q"; walk_at "n"; walk_at "n"
    refine d_in (kk := q) S (by rfl) hDO (.inl (.head _)) (isB_key q t') hP5 fun t'' => ?_
    walk_at "t"
    rcases hPl.at q with ⟨vo, o, e1, e2, ho⟩ | ⟨e1, e2⟩
    · rw [e1]
      refine ite_yes rfl ?_
      with_reducible refine isTrue_and_nil ?_
      with_reducible refine ite_yes (by with_reducible rfl) ?_
      with_reducible refine r_cons ?_
      refine r_Expr ?_ (by kernel_rfl!) (by kernel_rfl!)
      refine r_mcall ?_ (by kernel_rfl!)
      walk_at "n"
      rename St _ _ _ _ _ _ _ => S
      refine me_app S (.tail _ (.head _)) ?_
      refine r_callBi (by kernel_rfl!) ?_
      refine r_args_cons ?_ (by kernel_rfl!)
      refine wpR.any ?_
      refine Subscript_ ?_
      walk_at "n"; walk_at "n"
      refine sub_dict (kk := q) S (by rfl) hDO (.inl (.head _)) (isB_key q t') e1 (ops := [.ref P, .bytes q.toArray t']) (by with_unfolding_all rfl) (by intro _; with_unfolding_all rfl) fun t₇ => ?_
      refine r_args_nil ?_
      rename St _ _ _ _ _ _ _ => S
      replace S := S.swap
      refine wpR.any (lst_app S (by rfl) (by lia) fun h₈ t₈ S => ?_)
      with_reducible refine r_nil ?_
      with_reducible refine r_nil ?_
      with_reducible refine r_nil ?_
      have e3 : laidStep begin (laidF begin (ps.take i)) q = ((laidF begin (ps.take i)).1 ++ [o], (laidF begin (ps.take i)).2.1, (laidF begin (ps.take i)).2.2) := by unfold laidStep; rw [e2]
      have e4 : (laidF begin (ps.take i)).2.2 = (laidF begin (ps.take (i + 1))).2.2 := by rw [hst, e3]
      rw [e4] at S
      refine turnI (b2 := b₄) (mu2 := [(P, oP), (O, listOf (ys.push vo) (k' + 1)), (U, baO (laidF begin (ps.take (i + 1))).2.2.toArray)]) rfl ?_ hb₄ S.swap
      exact ⟨ys.push vo, k' + 1, oP, kvs, rfl, hDO, by rw [hst, e3]; exact hPl, by rw [hst, e3, Array.toList_push]; exact hys.push ho, by walk_at "W look", by walk_at "W look", by walk_at "W look", by walk_at "W look", by walk_at "W look", by walk_at "W look"⟩
    · rw [e1]
      refine ite_no rfl ?_
      with_reducible refine ite_no (by with_reducible rfl) ?_
      with_reducible refine r_cons ?_
      refine r_AssignName ?_ (by kernel_rfl!)
      refine wpR.any ?_
      with_reducible refine wpAny_BinOp ?_
      walk_at "n"; walk_at "f"
      refine n_len (by assumption) (by kernel_rfl!) (by kernel_rfl!) (by kernel_rfl!) (by kernel_rfl!) ?_
      refine PyProof.Rows.callWith_builtin1 ?_ (by kernel_rfl!) (by kernel_rfl!)
      walk_at "c"; walk_at "n"
      refine args_nil ?_
      rename St _ _ _ _ _ _ _ => S
      have hUm := S.muGet (a := U) (o := baO (laidF begin (ps.take i)).2.2.toArray) (.tail _ (.tail _ (.head _)))
      refine len_ba hUm (by rw [List.size_toArray]; lia) ?_
      rw [List.size_toArray]
      with_reducible refine add_int ?_
      refine st_loc' (by assumption) (by rfl) rfl (by kernel_rfl!) (by kernel_rfl!) fun _ _ S => ?_
      with_reducible refine r_cons ?_
      refine r_If ?_
      walk_at "q"; walk_at "n"; walk_at "n"
      with_reducible refine gt_int ?_
      walk_at "t"
      refine ite_no (decide_eq_false (by lia)) ?_
      with_reducible refine r_nil ?_
      with_reducible refine r_cons ?_
      refine wpR.any ?_
      refine wpAny_Assign_Subscript ?_ (by kernel_rfl!)
      walk_at "n"; walk_at "n"; walk_at "n"
      refine d_set (kk := q) S (by rfl) hDO (isB_key q t') (by lia) fun oP' h₈ t₈ hDO' S => ?_
      rw [stored_new e1] at hDO'
      with_reducible refine r_cons ?_
      refine r_Expr ?_ (by kernel_rfl!) (by kernel_rfl!)
      refine r_mcall ?_ (by kernel_rfl!)
      walk_at "n"
      refine me_app S (.tail _ (.head _)) ?_
      refine r_callBi (by kernel_rfl!) ?_
      refine r_args_cons ?_ (by kernel_rfl!)
      refine wpR.any ?_
      walk_at "n"
      refine r_args_nil ?_
      replace S := S.swap
      refine wpR.any (lst_app S (by rfl) (by lia) fun h₉ t₉ S => ?_)
      with_reducible refine r_cons ?_
      refine r_Expr ?_ (by kernel_rfl!) (by kernel_rfl!)
      refine r_mcall ?_ (by kernel_rfl!)
      walk_at "n"
      refine me_ext S (.tail _ (.tail _ (.head _))) ?_
      refine r_callBi (by kernel_rfl!) ?_
      refine r_args_cons ?_ (by kernel_rfl!)
      refine wpR.any ?_
      walk_at "n"
      refine r_args_nil ?_
      replace S := S.perm (List.perm_middle (a := (U, baO (laidF begin (ps.take i)).2.2.toArray)) (l₁ := [_, _]) (l₂ := [(I, oI')]))
      refine ba_ext S (by rfl) (by rw [List.size_toArray, List.size_toArray]; lia) fun h₁₀ t₁₀ S => ?_
      with_reducible refine r_nil ?_
      with_reducible refine r_nil ?_
      with_reducible refine r_nil ?_
      have e3 : laidStep begin (laidF begin (ps.take i)) q = ((laidF begin (ps.take i)).1 ++ [begin + (laidF begin (ps.take i)).2.2.length], (laidF begin (ps.take i)).2.1 ++ [(q, begin + (laidF begin (ps.take i)).2.2.length)], (laidF begin (ps.take i)).2.2 ++ q) := by unfold laidStep; rw [e2]
      have e4 : (laidF begin (ps.take i)).2.2.toArray ++ q.toArray = (laidF begin (ps.take (i + 1))).2.2.toArray := by rw [hst, e3]; simp
      rw [e4] at S
      have S9 := S.perm (List.perm_middle (a := (U, baO (laidF begin (ps.take (i + 1))).2.2.toArray)) (l₁ := [_, _]) (l₂ := [(I, oI')])).symm
      refine turnI (b2 := b₄) (mu2 := [(P, oP'), (O, listOf (ys.push _) (k' + 1)), (U, baO (laidF begin (ps.take (i + 1))).2.2.toArray)]) rfl ?_ hb₄ S9.swap
      exact ⟨_, k' + 1, oP', _, rfl, hDO', by rw [hst, e3]; exact hPl.push (IsI.mk _), by rw [hst, e3, Array.toList_push]; exact hys.push (IsI.mk _), by walk_at "W look", by walk_at "W look", by walk_at "W look", by walk_at "W look", by walk_at "W look", by walk_at "W look"⟩
  · intro b₄ m' mu' h₆ t₆ hx1 hb₄ S
    refine nay fun hG => ?_
    obtain ⟨ys, k', oP, kvs, rfl, hDO, hPl, hys, m1, m2, m3, m4, m5, m6⟩ := hx1
    refine hG ?_; clear hG
    with_reducible refine r_cons ?_
    refine r_Return ?_
    refine wpR.any ?_
    refine PyProof.Rows.Tuple_ ?_
    walk_at "c"; walk_at "n"; walk_at "c"; walk_at "f"
    refine n_bytes (by assumption) (by kernel_rfl!) (by kernel_rfl!) (by kernel_rfl!) (by kernel_rfl!) ?_
    refine PyProof.Rows.callWith_type1 ?_ (by kernel_rfl!) (by kernel_rfl!)
    walk_at "c"; walk_at "n"
    refine args_nil ?_
    rw [hvl, List.take_length] at S hPl hys
    have hll := laid_len begin ps
    have hUm := S.muGet (a := U) (o := baO (laidF begin ps).2.2.toArray) (.tail _ (.tail _ (.head _)))
    refine call_bytes_ba (by rw [List.size_toArray]; lia) hUm fun t' k' => ?_
    refine args_nil ?_
    replace S := (S.drop).freeze hO
    refine new_tup S (by rfl) (Nat.le_of_ble_eq_true rfl) fun T b' h' t' hb' hT S' => ?_
    have hO' : b₄.put O (listOf ys k') O = some (listOf ys k') := PM.put_self ..
    exact k T O _ b' h' t' S'.grow hT ⟨O, ys, _, rfl, hb' _ _ (PM.put_self ..), hys⟩
end
-- RM
noncomputable def isort (xs : List Int) : List Int := xs.mergeSort (fun a c => decide (a ≤ c))
theorem isort_perm (xs : List Int) : (isort xs).Perm xs := List.mergeSort_perm ..
theorem isort_sorted (xs : List Int) : (isort xs).Pairwise (· ≤ ·) := by
  have := List.pairwise_mergeSort (le := fun a c : Int => decide (a ≤ c)) (by intro a b c; simp; lia) (by intro a b; simp; lia) xs
  exact this.imp (by intro a b h; simpa using h)
theorem isort_eq {ys xs : List Int} (p : ys.Perm xs) (o : ys.Pairwise (· ≤ ·)) : ys = isort xs := ksm_same (p.trans (isort_perm xs).symm) o (isort_sorted xs)
theorem all2_of_ints : ∀ {vs : List Value} {xs : List Int}, IntsAre vs xs → All2 IsI vs xs
  | _, _, .nil => .nil
  | _, _, .cons _ t h => .cons (IsI.mk t) (all2_of_ints h)
section
variable {w : World} {A : Around} {E : Value → Shared → Prop} {s s0 : Shared} {e : En} {b : PM} {L : Addr} {m : Str → Option Value} {mu : List (Addr × Obj)} {env : Env} {t0 : Nat} {Q : Value → Shared → Prop}
theorem St.newAt (S : St w e b L m mu { s0 with heap := s.heap, toks := t0 }) {h' : Heap} {t1 : Nat} (k : ∀ a o, s.heap.get? a = some o → h'.get? a = some o) {a : Addr} {o : Obj} (g : h'.get? a = some o) (ha : ∀ c o, s.heap.get? c = some o → c < a) :
    St w e (b.put a o) L m mu { s0 with heap := h', toks := t1 } ∧ ∀ c oc, b c = some oc → b.put a o c = some oc := by
  have bn : b a = none := by
    cases q : b a with
    | none => rfl
    | some o' => exact absurd (ha _ _ (S.sub _ _ q)) (Nat.lt_irrefl _)
  refine nay fun hG => ?_
  obtain ⟨oL, es, ep, gL, r⟩ := S.ns
  refine hG ?_; clear hG
  have hL : L < a := ha _ _ gL
  have S1 : St w e b L m mu { s0 with heap := h', toks := t1 } := S.ext k
  exact ⟨S1.put g (Nat.ne_of_gt hL) (fun p hp => Nat.ne_of_lt (ha _ _ (S.tu p hp).1)) bn (Nat.le_trans S.Lnew (Nat.le_of_lt hL)), fun c oc q => PM.put_le bn o q⟩
theorem items_ints {w : World} {kvs : List (Int × Value)} {acc : List Value} (hl : acc.length = kvs.length) (h : ∀ (j : Nat) (v : Value), acc[j]? = some v → ∃ k x, kvs[j]? = some (k, x) ∧ (intKind pw w).is k v = true) : All2 IsI acc (kvs.map (·.1)) := by
  induction acc generalizing kvs with
  | nil => cases kvs with
    | nil => exact .nil
    | cons _ _ => simp at hl
  | cons v acc ih => cases kvs with
    | nil => simp at hl
    | cons kv kvs =>
      refine nay fun hG => ?_
      obtain ⟨k, x, e, hk⟩ := h 0 v rfl
      refine hG ?_; clear hG
      simp at e
      subst e
      refine .cons (Value.isInt_shape hk) (ih (by simpa using hl) fun j v' e' => ?_)
      have := h (j + 1) v' (by simpa using e')
      simpa using this
theorem srt_dict {d : Addr} {o : Obj} {kvs : List (Int × Value)} (hh : A.handled = none) (S : St w e b L m mu { s0 with heap := s.heap, toks := t0 }) (hq : s = { s0 with heap := s.heap, toks := s.toks }) (D : DictO (intKind pw w) kvs o) (g : s.heap.get? d = some o) (hd : 465 < d) (h64 : kvs.length < 64)
    (h : ∀ a b' h' t', (∀ c oc, b c = some oc → b' c = some oc) → ListOf b' IsI (.ref a) (isort (kvs.map (·.1))) → St w e b' L m mu { s0 with heap := h', toks := t' } → Q (.ref a) { s0 with heap := h', toks := t' }) : wpAny (model pw w) A (call (.builtin "sorted") [.ref d]) Q E s := by
  obtain ⟨ep, hm⟩ := (D.of g).dictAt
  refine Calls.call_function_entry kind_sorted plain_sorted entry_sorted (args_sorted1 _) ?_
  unfold Builtin.«sorted»
  refine wpAny_bind (m := checkCount "sorted" 1 1 _) (wpAny_pure ?_)
  refine wpAny_bind (kdu_collect (kdl_dict (kvs := kvs) (ep := ep) (knd := intKind pw w) (beq_eq_false_iff_ne.mpr (Nat.ne_of_gt (Nat.lt_of_le_of_lt (by decide) hd)))) hh hm (by rw [sizeLine_eq]; lia) fun h' tk acc hk hacc => ?_)
  have hl : acc.toList.length = kvs.length := by rw [Array.length_toList]; exact hacc.1
  have hI := items_ints hl fun j v q => hacc.2 j v (by rw [← Array.getElem?_toList]; exact q)
  have S0 : St w e b L m mu { s0 with heap := h', toks := tk } := S.ext hk
  refine wpAny_bind (wpAny_newList ?_ (by rw [sizeLine_eq]; lia))
  have hoL : (h'.push (seqObj "list" acc.toList.toArray 0)).get? h'.objs.size = some (seqObj "list" acc.toList.toArray 0) := Heap.get?_push_size _ rfl
  refine wpAny_bind (wpAny_holding (wpAny_call_entry slot_list_sort ⟨_, hoL, rfl⟩ entry_list_sort (list_sort_tree hoL (ints_of hI) (by rw [hl]; exact h64) fun out ns' a1 a2 a3 => ⟨_, rfl, ?_⟩) (args_list_sort _)))
  obtain ⟨ep', g'⟩ := sortedHeap_at (out := out) hoL
  have S0' : St w e b L m mu { s0 with heap := ({ s0 with heap := h', toks := tk } : Shared).heap, toks := tk } := S0
  obtain ⟨S1, up⟩ := S0'.newAt (t1 := tk) (h' := sortedHeap (h'.push (seqObj "list" acc.toList.toArray 0)) h'.objs.size acc.toList out)
    (fun a o q => by
      have lt := Heap.lt_size q
      rw [sortedHeap_old (Nat.ne_of_lt lt) (by rw [size_push']; exact Nat.lt_succ_of_lt lt)]
      exact Heap.get?_push_of_some _ q) g' (fun c oc q => Heap.lt_size q)
  have e1 : ns' = isort (kvs.map (·.1)) := isort_eq a2 a3
  subst e1
  refine wpAny_pure ⟨_, rfl, ?_⟩
  rw [hq]
  exact h _ _ _ _ up ⟨_, out, ep', rfl, PM.put_self .., all2_of_ints a1⟩ S1
theorem tup_list {α : Type} {P : Value → α → Prop} {D : Addr} {vs : Array Value} {k : Nat} {xs : List α} (S : St w e b L m mu { s0 with heap := s.heap, toks := t0 }) (hq : s = { s0 with heap := s.heap, toks := s.toks }) (hl : s.heap.get? D = some (listOf vs k)) (hvs : All2 P vs.toList xs) (hz : vs.size ≤ 10000)
    (h : ∀ a b' h' t', (∀ c oc, b c = some oc → b' c = some oc) → TupOf b' P (.ref a) xs → St w e b' L m mu { s0 with heap := h', toks := t' } → Q (.ref a) { s0 with heap := h', toks := t' }) : wpAny (model pw w) A (call (.type "tuple") [.ref D]) Q E s := by
  refine call_tuple_list ⟨_, hl, rfl, k, rfl⟩ (fun h' hk => ?_) (by rw [sizeLine_eq]; lia)
  obtain ⟨S1, up⟩ := S.newAt (t1 := s.toks) (h' := h'.push { cls := .type "tuple", data := .seq vs }) (fun a o q => Heap.get?_push_of_some _ (hk a o q)) (Heap.get?_push_size _ rfl) fun c oc q => Heap.lt_size (hk c oc q)
  rw [hq]
  exact h _ _ _ _ up ⟨_, vs, rfl, PM.put_self .., hvs⟩ S1
theorem lst_seq {α : Type} {P : Value → α → Prop} {D : Addr} {o : Obj} {T : String} {vs : Array Value} {k : Nat} {xs : List α} (S : St w e b L m mu { s0 with heap := s.heap, toks := t0 }) (hq : s = { s0 with heap := s.heap, toks := s.toks }) (hT : T = "list" ∨ T = "tuple") (hl : s.heap.get? D = some o) (hc : o.cls = .type T) (hd : o.data = .seq vs k) (hz : vs.size ≤ 10000)
    (h : ∀ a k' h' t', e.h.objs.size ≤ a → St w e b L m ((a, listOf vs k') :: mu) { s0 with heap := h', toks := t' } → Q (.ref a) { s0 with heap := h', toks := t' }) : wpAny (model pw w) A (call (.type "list") [.ref D]) Q E s := by
  refine call_list_seq D hT hl hc hd (fun h' c' hk g => ?_) (by rw [sizeLine_eq]; lia)
  have S1 := S.pushM (listOf vs c') (t := s.toks)
  have S2 := S.ext (h' := h') (t := s.toks) hk
  rw [hq]
  refine h _ c' _ _ S.size ?_
  refine ⟨S2.base, S2.sub, S2.up, S2.new, S2.keep, S2.ns, S2.Lnew, S2.Lb, fun p hp => ?_, S1.nd⟩
  rcases List.mem_cons.mp hp with rfl | hp
  · exact ⟨g, Nat.ne_of_gt S.lt, S.b_new, .inr S.size⟩
  · exact S2.tu p hp
end
-- RN
section
variable {w : World} {A : Around} {E : Value → Shared → Prop} {s s0 : Shared} {e : En} {b : PM} {L : Addr} {m : Str → Option Value} {mu : List (Addr × Obj)} {env : Env} {t0 : Nat} {Q : Value → Shared → Prop}
theorem set_neg {l : Addr} {items : Array Value} {k n : Int} {kk : Nat} {t : Tok} {v : Value} {Q : Unit → Shared → Prop} (ho : s.heap.get? l = some (listOf items kk)) (h0 : k < 0) (h1 : -(items.size : Int) ≤ k) (hfit : -(2 ^ 63) ≤ k)
    (hQ : ∀ h' k', h'.get? l = some (listOf (items.setIfInBounds (k + items.size).toNat v) k') → Heap.SameBut l s.heap h' → Q () { s with heap := h' }) :
    wpAny (model pw w) A (setItem (.ref l) (.int k t) v) Q E s := by
  have hl : s.heap.IsList l items := ⟨_, ho, rfl, kk, rfl⟩
  have hd : (listOf items kk).data = .seq items kk := rfl
  unfold setItem
  try with_reducible refine wpAny_holding ?_
  first | refine wpAny_bind (wpAny_pure ?_) | skip
  refine wpAny_bind (wpAny_sequenceKey hl.typeIs (by decide) ?_)
  refine wpAny_bind (wpAny_callSpecial?_slot (name := Str.ofString "__setitem__") hl.typeIs slot_list_setitem
    (wpAny_call_entry slot_list_setitem hl.typeIs entry_list_setitem ?_ (args_list_setitem _ _ _)))
  show wpAny _ _ (Builtin.List.listSubscript? (.int k t) >>= _) _ _ s
  refine wpAny_bind (wpAny_listSubscript_int (fitsIndex_neg h0 hfit) ?_)
  clear hfit
  have hidx := seqIndex_neg h0 h1
  have hj : (k + items.size).toNat < items.size := by lia
  have hx := Array.getElem?_eq_getElem hj
  obtain ⟨j, rfl⟩ : ∃ j : Nat, k = Int.negSucc j := by
    cases k with
    | ofNat n => exact absurd h0 (Int.not_lt.mpr (Int.natCast_nonneg n))
    | negSucc n => exact ⟨n, rfl⟩
  show wpAny _ _ ((Builtin.List.listItems (.ref l) >>= fun xs => pure ((seqIndex? (Int.negSucc j) xs.size).bind fun i => xs[i]?.map (i, ·))) >>= _) _ _ s
  refine wpAny_bind (wpAny_bind ?_)
  show wpAny _ _ (seqItems? (.ref l) >>= _) _ _ s
  refine wpAny_bind (wpAny_seqItems ho hd (wpAny_pure (wpAny_pure ?_)))
  rw [hidx]
  simp only [Option.bind_some, hx, Option.map_some]
  generalize hJ : (Int.negSucc j + (items.size : Int)).toNat = J at *
  show wpAny _ _ (setSeqItemAt l J v >>= _) _ _ s
  refine wpAny_bind (wpAny_setSeqItemAt ho hd ?_)
  have hfin := get?_update_seq ho (·.setIfInBounds J v)
  first
    | exact wpAny_bind (wpAny_pure (wpAny_pure ⟨.none, rfl, wpAny_pure (hQ _ _ hfin (Heap.SameBut.update ..))⟩))
    | exact wpAny_pure ⟨.none, rfl, wpAny_pure (hQ _ _ hfin (Heap.SameBut.update ..))⟩
theorem set_lst_neg {a : Addr} {items : Array Value} {k : Int} {kk : Nat} {t : Tok} {v : Value} {Q : Unit → Shared → Prop} (S : St w e b L m ((a, listOf items kk) :: mu) { s0 with heap := s.heap, toks := t0 }) (hq : s = { s0 with heap := s.heap, toks := s.toks }) (h0 : k < 0) (h1 : -(items.size : Int) ≤ k) (hz : items.size ≤ 10000)
    (h : ∀ k' h' t', St w e b L m ((a, listOf (items.setIfInBounds (k + items.size).toNat v) k') :: mu) { s0 with heap := h', toks := t' } → Q () { s0 with heap := h', toks := t' }) : wpAny (model pw w) A (setItem (.ref a) (.int k t) v) Q E s := by
  refine set_neg (n := 0) (S.muGet (.head _)) h0 h1 (by lia) fun h' k' g hs => ?_
  have S1 := S.turn (h' := h') (t := s.toks) g fun c oc q q' => hs.extBut c oc q q'
  rw [hq]
  exact h _ _ _ S1
theorem sub_of {value slice : Expr} {o i : Value} {T id : String} {ops : List Value} (hT : s.TypeIs o T) (hl : typeLookup (.type T) "__getitem__" = pure (some (.builtin id))) (h : wpAny (model pw w) A (getItem o i) Q E s)
    (hs : subscripted slice false o i = operate ops (getItem o i)) : wpAny (model pw w) A (subscriptTail value slice o i) Q E s := by
  unfold subscriptTail
  refine wpAny_bind ?_
  rw [getitemInPython_of_ne hT.not_modules]
  refine wpAny_bind (wpAny_specialOf hT hl (wpAny_pure ?_))
  rw [hs]
  exact wpAny_bind (wpAny_operating (wpAny_mono h (fun r s₃ h₃ => wpAny_bind (wpAny_letTemporaryGo (wpAny_pure h₃))) fun _ _ x => x))
theorem sub_tup {value slice : Expr} {a : Addr} {vs : Array Value} {k : Int} {u : Tok} {v : Value} (S : St w e b L m mu { s with toks := t0 }) (g : b a = some (tupO vs)) (h0 : 0 ≤ k) (hz : vs.size ≤ 10000) (hx : vs[k.toNat]? = some v) (h : Q v s)
    (hs : subscripted slice false (.ref a) (.int k u) = operate [.ref a, .int k u] (getItem (.ref a) (.int k u))) : wpAny (model pw w) A (subscriptTail value slice (.ref a) (.int k u)) Q E s := by
  have hlt : k.toNat < vs.size := (Array.getElem?_eq_some_iff.mp hx).1
  have ht : IsTup s.heap a vs := ⟨_, S.get g, rfl, 0, rfl⟩
  refine sub_of ht.typeIs slot_tuple_getitem.lookup (getItem_tuple (j := k.toNat) ht (by lia) (by lia) ?_ hx h) hs
  unfold seqIndex?
  have h2 : ¬ k < 0 := by lia
  have h3 : k < (vs.size : Int) := by lia
  simp [h2, h0, h3]
theorem sub_lst {value slice : Expr} {a : Addr} {vs : Array Value} {kk : Nat} {k : Int} {u : Tok} {v : Value} (hl : s.heap.get? a = some (listOf vs kk)) (h0 : 0 ≤ k) (hz : vs.size ≤ 10000) (hx : vs[k.toNat]? = some v) (h : Q v s)
    (hs : subscripted slice false (.ref a) (.int k u) = operate [.ref a, .int k u] (getItem (.ref a) (.int k u))) : wpAny (model pw w) A (subscriptTail value slice (.ref a) (.int k u)) Q E s := by
  have hlt : k.toNat < vs.size := (Array.getElem?_eq_some_iff.mp hx).1
  have hI : s.heap.IsList a vs := ⟨_, hl, rfl, kk, rfl⟩
  exact sub_of hI.typeIs slot_list_getitem.lookup (wpAny_getItem_list hI h0 (by lia) hx h) hs
theorem sub_lst_neg {value slice : Expr} {a : Addr} {vs : Array Value} {kk : Nat} {k : Int} {u : Tok} {v : Value} (hl : s.heap.get? a = some (listOf vs kk)) (h0 : k < 0) (h1 : -(vs.size : Int) ≤ k) (hz : vs.size ≤ 10000) (hx : vs[(k + vs.size).toNat]? = some v) (h : Q v s)
    (hs : subscripted slice false (.ref a) (.int k u) = operate [.ref a, .int k u] (getItem (.ref a) (.int k u))) : wpAny (model pw w) A (subscriptTail value slice (.ref a) (.int k u)) Q E s := by
  have hI : s.heap.IsList a vs := ⟨_, hl, rfl, kk, rfl⟩
  exact sub_of hI.typeIs slot_list_getitem.lookup (wpAny_getItem_list_neg hI h0 h1 (by lia) hx h) hs
theorem tru_lst {a : Addr} {vs : Array Value} {kk : Nat} {Q : Bool → Shared → Prop} (hl : s.heap.get? a = some (listOf vs kk)) (hz : vs.size ≤ 10000) (h : Q (!vs.isEmpty) { s with toks := s.toks + 1 + 1 }) : wpAny (model pw w) A (truthy (.ref a)) Q E s :=
  wpAny_truthy_list ⟨_, hl, rfl, kk, rfl⟩ (by lia) h
theorem len_lst {a : Addr} {vs : Array Value} {kk : Nat} (hl : s.heap.get? a = some (listOf vs kk)) (hz : vs.size ≤ 10000) (h : Q (.int vs.size (s.toks + 1)) { s with toks := s.toks + 1 + 1 }) : wpAny (model pw w) A (call (.builtin "len") [.ref a]) Q E s :=
  Calls.call_len_list ⟨_, hl, rfl, kk, rfl⟩ (by lia) h
theorem len_tup {a : Addr} {vs : Array Value} (hl : s.heap.get? a = some (tupO vs)) (hz : vs.size ≤ 10000) (h : Q (.int vs.size (s.toks + 1)) { s with toks := s.toks + 1 + 1 }) : wpAny (model pw w) A (call (.builtin "len") [.ref a]) Q E s :=
  len_tuple ⟨_, hl, rfl, 0, rfl⟩ (by lia) h
end
noncomputable def Cov (P : Params) (b : PM) (v : Value) (gs : List Int) : Prop := ∃ x dx t tv n, v = .ref x ∧ b x = some (instObj 307 dx) ∧ b dx = some (dictOf (dCov P t tv) n) ∧ TupOf b IsI tv gs
theorem Cov.up {P : Params} {b b' : PM} {v : Value} {gs : List Int} (h : Cov P b v gs) (hb : ∀ a o, b a = some o → b' a = some o) : Cov P b' v gs := by
  refine nay fun hG => ?_
  obtain ⟨x, dx, t, tv, n, e, h1, h2, h3⟩ := h
  refine hG ?_; clear hG
  exact ⟨x, dx, t, tv, n, e, hb _ _ h1, hb _ _ h2, h3.up hb⟩
noncomputable def push1 (acc : List Int) (x : Int) : List Int := if acc.any (· == x) then acc else acc ++ [x]
noncomputable def firsts (xs : List Int) : List Int := xs.foldl push1 []
noncomputable def gset (xs : List Int) : List Int := isort (firsts xs)
theorem stored_keys (kvs : List (Int × Value)) (k : Int) (v : Value) : (stored kvs k v).map (·.1) = push1 (kvs.map (·.1)) k := by
  unfold stored push1
  have e : (kvs.any fun kv => decide (kv.1 = k)) = ((kvs.map (·.1)).any (· == k)) := by
    rw [List.any_map]; congr 1
  rw [← e]
  split
  · exact keys_map_store ..
  · simp
theorem firsts_push (xs : List Int) (x : Int) : firsts (xs ++ [x]) = push1 (firsts xs) x := by unfold firsts; rw [List.foldl_append]; rfl
theorem firsts_len (xs : List Int) : (firsts xs).length ≤ xs.length := by
  have key : ∀ (xs acc : List Int), (xs.foldl push1 acc).length ≤ acc.length + xs.length := by
    intro xs
    induction xs with
    | nil => intro acc; simp
    | cons x xs ih =>
      intro acc
      have h1 := ih (push1 acc x)
      have h2 : (push1 acc x).length ≤ acc.length + 1 := by unfold push1; split <;> simp
      simp only [List.foldl_cons, List.length_cons]
      lia
  have := key xs []
  simpa [firsts] using this
-- XE
section
variable {w : World} {A : Around} {E : Value → Shared → Prop} {s : Shared} {b : PM} {n : Nat} {Q : Value → Shared → Prop}
theorem c_new_cov {tv : Value} {gs : List Int} (R : Room A (n + 3)) (B : Base w b) (hs : ∀ a o, b a = some o → s.heap.get? a = some o) (ht : TupOf b IsI tv gs)
    (k : ∀ v b' h' t', Grow b b' s.heap h' [] → Cov w.params b' v gs → Q v { s with heap := h', toks := t' }) : wpAny (model pw w) A (call (.ref 307) [tv]) Q E s := by
  refine new_obj (fun od => ∃ t n, od = dictOf (dCov w.params t tv) n) B hs (mk_Coverage _) (ii_Coverage _) (ty_Coverage_init _) R ?_ ?_
  · intro A' x dx b₁ s₁ Q' R1 B1 hs1 hx hm hup k1
    refine inC_Coverage__init (body := _) rfl R1 B1 hs1 [(dx, dictOf [] 0)] hm one_nd ?_
    intro L h₁ t₁ hL S R'
    dsimp only [extL] at S
    refine nay fun hG => ?_
    obtain ⟨T, vs, rfl, hT, hvs⟩ := ht
    refine hG ?_; clear hG
    walk_at "x"
    refine plainObj_wpAny_Assign_Attribute ?_ (by kernel_rfl!)
    walk_at "n"; walk_at "n"
    (with_reducible rename St _ _ _ _ _ _ _ => sOld); refine as_mu (sa_Coverage _) (po_Coverage _) (ta_Coverage_glyphs _) (hd_Coverage _) pl_glyphs sOld (by rfl) (by assumption) (by kernel_rfl!) (Nat.le_of_ble_eq_true (by kernel_rfl!)) (Nat.le_of_ble_eq_true (by kernel_rfl!)) ?_; clear sOld; intro _ _ _ _
    walk_at "z"
    rename St _ _ _ _ _ _ _ => S
    exact k1 _ _ _ _ _ _ S ⟨_, _, rfl⟩
  · intro x dx od b' h' t' G hx hdx hd hdn hx1
    refine nay fun hG => ?_
    obtain ⟨t, nn, rfl⟩ := hx1
    refine hG ?_; clear hG
    have G' := G.put hd hdx hdn
    exact k (.ref x) _ h' t' G' ⟨x, dx, t, tv, nn, rfl, PM.put_le hdx _ hx, PM.put_self .., ht.up G'.up⟩
theorem c_cov_told {v : Value} {gs : List Int} (R : Room A (n + 3)) (B : Base w b) (hs : ∀ a o, b a = some o → s.heap.get? a = some o) (hc : Cov w.params b v gs)
    (k : ∀ r b' h' t', Grow b b' s.heap h' [] → TupOf b' IsI r gs → Q r { s with heap := h', toks := t' }) : wpAny (model pw w) A (call (.ref 304) [v]) Q E s := by
  refine nay fun hG => ?_
  obtain ⟨x, dx, t, tv, nn, rfl, hx, hdx, T, vs, rfl, hT, hvs⟩ := hc
  refine hG ?_; clear hG
  refine in_Coverage_told (body := _) rfl R B hs [] (fun _ h => bbot h) List.nodup_nil ?_
  intro L h₁ t₁ hL S R'
  dsimp only [extL] at S
  walk_at "x"
  refine wpAny_Return_some ?_
  walk_at "f"
  refine n_tuple (by assumption) (by kernel_rfl!) (by kernel_rfl!) (by kernel_rfl!) (by kernel_rfl!) ?_
  refine PyProof.Rows.callWith_type1 ?_ (by kernel_rfl!) (by kernel_rfl!)
  walk_at "c"
  refine Attribute_any_ ?_ (by kernel_rfl!)
  walk_at "n"
  refine at_b (ga_Coverage _) (hd_Coverage _) (fa_Coverage_glyphs _) gl_glyphs (by assumption) (by rfl) (by assumption) (by assumption) (by first | rfl | assumption) ?_; intro _
  refine args_nil ?_
  rename St _ _ _ _ _ _ _ => S
  refine call_tuple_same ⟨_, S.get hT, rfl, 0, rfl⟩ ?_
  exact k _ _ _ _ S.grow ⟨T, vs, rfl, hT, hvs⟩
theorem c_coverage_of {v : Value} {xs : List Int} (R : Room A (n + 4)) (B : Base w b) (hs : ∀ a o, b a = some o → s.heap.get? a = some o) (hv : ListOf b IsI v xs) (hl : xs.length < 60)
    (k : ∀ v b' h' t', Grow b b' s.heap h' [] → Cov w.params b' v (gset xs) → Q v { s with heap := h', toks := t' }) : wpAny (model pw w) A (call (.ref 318) [v]) Q E s := by
  refine nay fun hG => ?_
  obtain ⟨D, vs, kk, rfl, hD, hvs⟩ := hv
  refine hG ?_; clear hG
  refine in_coverage_of (body := _) rfl R B hs [] (fun _ h => bbot h) List.nodup_nil ?_
  intro L h₁ t₁ hL S R'
  dsimp only [extL] at S
  walk_at "x"
  refine wpAny_Assign_Name ?_ (by kernel_rfl!)
  refine new_dict S (by rfl) fun F h₂ t₂ hF hF5 S => ?_
  refine st_loc' (by assumption) (by rfl) rfl (by kernel_rfl!) (by kernel_rfl!) fun _ _ S => ?_
  walk_at "x"
  refine wpAny_For ?_ (by intro _; kernel_rfl!)
  walk_at "n"
  rename St _ _ _ _ _ _ _ => S
  have hvl : vs.size = xs.length := by have := hvs.length; simpa using this
  refine it_list R'.hd S (by rfl) hD fun I oI h₅ t₅ W S => ?_
  refine for_src W S rfl (by kernel_rfl!) (by kernel_rfl!) (fun i b₄ m mu => ∃ oF kvs, mu = [(F, oF)] ∧ DictO (intKind pw w) kvs oF ∧ kvs.map (·.1) = firsts (xs.take i) ∧ m "found" = some (.ref F))
    ⟨dict0, [], rfl, .empty _, rfl, by walk_at "W look"⟩ ?_ ?_
  · intro i v b₄ m' mu' oI' h₆ t₆ hi hv hx1 hb₄ S
    refine nay fun hG => ?_
    obtain ⟨oF, kvs, rfl, hDO, hk, m1⟩ := hx1
    obtain ⟨x, hx, t', rfl⟩ := hvs.get (by rw [Array.getElem?_toList]; exact hv)
    refine hG ?_; clear hG
    walk_at "x"
    refine wpAny_Assign_Subscript ?_ (by kernel_rfl!)
    refine wpAny_Constant_bool ?_
    walk_at "n"; walk_at "n"
    have hkl : kvs.length ≤ 60 := by
      have h1 := firsts_len (xs.take i)
      rw [← hk, List.length_map, List.length_take] at h1
      lia
    refine d_set (kk := x) S (by rfl) hDO (by simp [intKind, Value.isInt]) (by lia) fun oF' h₇ t₇ hDO' S => ?_
    walk_at "z"
    refine turnI (b2 := b₄) (mu2 := [(F, oF')]) rfl ⟨oF', _, rfl, hDO', ?_, by walk_at "W look"⟩ hb₄ S
    rw [stored_keys, hk, List.take_add_one, hx]
    exact (firsts_push _ _).symm
  · intro b₄ m' mu' h₆ t₆ hx1 hb₄ S
    refine nay fun hG => ?_
    obtain ⟨oF, kvs, rfl, hDO, hk, m1⟩ := hx1
    refine hG ?_; clear hG
    rw [hvl, List.take_length] at hk
    walk_at "x"
    refine wpAny_Return_some ?_
    walk_at "f"
    refine n_Coverage (by assumption) (by kernel_rfl!) (by kernel_rfl!) (by kernel_rfl!) ?_
    refine callWith_K (kinH (by assumption)) (by with_reducible exact kp_Coverage _) ?_ (by kernel_rfl!) (by kernel_rfl!)
    walk_at "c"; walk_at "f"
    refine n_tuple (by assumption) (by kernel_rfl!) (by kernel_rfl!) (by kernel_rfl!) (by kernel_rfl!) ?_
    refine PyProof.Rows.callWith_type1 ?_ (by kernel_rfl!) (by kernel_rfl!)
    walk_at "c"; walk_at "f"
    refine n_sorted (by assumption) (by kernel_rfl!) (by kernel_rfl!) (by kernel_rfl!) (by kernel_rfl!) ?_
    refine PyProof.Rows.callWith_builtin1 ?_ (by kernel_rfl!) (by kernel_rfl!)
    walk_at "c"; walk_at "n"
    refine args_nil ?_
    have hfl := firsts_len xs
    have hkl : kvs.length = (firsts xs).length := by rw [← hk, List.length_map]
    refine srt_dict (kvs := kvs) R'.hd S (by rfl) hDO (S.muGet (.head _)) hF5 (by lia) fun a b' h' t' up hL S => ?_
    rw [hk] at hL
    refine nay fun hG => ?_
    obtain ⟨D', vs', k', eD, hD', hvs'⟩ := hL
    refine hG ?_; clear hG
    cases eD
    refine args_nil ?_
    rename St _ _ _ _ _ _ _ => S
    have hgl : vs'.size = (firsts xs).length := by have := hvs'.length; rw [(isort_perm _).length_eq] at this; simpa using this
    refine tup_list S (by rfl) (S.get hD') hvs' (by lia) fun T b₇ h₇ t₇ up7 hT S => ?_
    refine args_nil ?_
    refine And.intro (kinH (by assumption)) ?_
    refine c_new_cov R' S.base S.sub hT fun v b₈ h₈ t₈ G hC => ?_
    replace S := S.call0 (t := t₈) G
    exact k _ _ _ _ S.grow hC
end
-- XF
noncomputable def IsPr (b : PM) (v : Value) (x : Int × Int) : Prop := ∃ T t1 t2, v = .ref T ∧ b T = some (tupO #[.int x.1 t1, .int x.2 t2])
theorem IsPr.up {b b' : PM} {v : Value} {x : Int × Int} (h : IsPr b v x) (hb : ∀ a o, b a = some o → b' a = some o) : IsPr b' v x := by
  refine nay fun hG => ?_
  obtain ⟨T, t1, t2, e, g⟩ := h
  refine hG ?_; clear hG
  exact ⟨T, t1, t2, e, hb _ _ g⟩
noncomputable def rstep (rs : List (Int × Int)) (g : Int) : List (Int × Int) := match rs.getLast? with
  | some x => if x.2 + 1 = g then rs.dropLast ++ [(x.1, g)] else rs ++ [(g, g)]
  | none => rs ++ [(g, g)]
noncomputable def rangesOf (gs : List Int) : List (Int × Int) := gs.foldl rstep []
theorem rangesOf_push (gs : List Int) (g : Int) : rangesOf (gs ++ [g]) = rstep (rangesOf gs) g := by unfold rangesOf; rw [List.foldl_append]; rfl
theorem rangesOf_len (gs : List Int) : (rangesOf gs).length ≤ gs.length := by
  have key : ∀ (gs : List Int) (rs : List (Int × Int)), (gs.foldl rstep rs).length ≤ rs.length + gs.length := by
    intro gs
    induction gs with
    | nil => intro rs; simp
    | cons g gs ih =>
      intro rs
      have h1 := ih (rstep rs g)
      have h2 : (rstep rs g).length ≤ rs.length + 1 := by
        unfold rstep
        split
        · split
          · simp only [List.length_append, List.length_dropLast, List.length_singleton]; lia
          · simp
        · simp
      simp only [List.foldl_cons, List.length_cons]
      lia
  have := key gs []
  simpa [rangesOf] using this
theorem set_last (ys : Array Value) (v : Value) (h : ys.size ≠ 0) : (ys.setIfInBounds (ys.size - 1) v).toList = ys.toList.dropLast ++ [v] := by
  rw [Array.toList_setIfInBounds]
  obtain ⟨l⟩ := ys
  simp only [List.size_toArray] at h ⊢
  rcases List.eq_nil_or_concat l with rfl | ⟨l, x, rfl⟩
  · simp at h
  · simp
section
variable {w : World} {A : Around} {E : Value → Shared → Prop} {s : Shared} {b : PM} {n : Nat} {Q : Value → Shared → Prop}
theorem c_ranges_of {v : Value} {gs : List Int} (R : Room A (n + 4)) (B : Base w b) (hs : ∀ a o, b a = some o → s.heap.get? a = some o) (hv : TupOf b IsI v gs) (hl : gs.length < 60)
    (k : ∀ v b' h' t', Grow b b' s.heap h' [] → ListOf b' (IsPr b') v (rangesOf gs) → Q v { s with heap := h', toks := t' }) : wpAny (model pw w) A (call (.ref 325) [v]) Q E s := by
  refine nay fun hG => ?_
  obtain ⟨T, vs, rfl, hT, hvs⟩ := hv
  refine hG ?_; clear hG
  refine in_ranges_of (body := _) rfl R B hs [] (fun _ h => bbot h) List.nodup_nil ?_
  intro L h₁ t₁ hL S R'
  dsimp only [extL] at S
  walk_at "x"
  refine wpAny_Assign_Name ?_ (by kernel_rfl!)
  refine PyProof.Rows.List_ ?_
  refine args_nil ?_
  refine new_lst S (by rfl) (by decide) fun D h₂ t₂ hD _ S => ?_
  refine st_loc' (by assumption) (by rfl) rfl (by kernel_rfl!) (by kernel_rfl!) fun _ _ S => ?_
  walk_at "x"
  refine wpAny_For ?_ (by intro _; kernel_rfl!)
  walk_at "n"
  rename St _ _ _ _ _ _ _ => S
  have hvl : vs.size = gs.length := by have := hvs.length; simpa using this
  refine it_tuple R'.hd S (by rfl) hT fun I oI h₅ t₅ W S => ?_
  refine for_src W S rfl (by kernel_rfl!) (by kernel_rfl!) (fun i b₄ m mu => ∃ ys k, mu = [(D, listOf ys k)] ∧ All2 (IsPr b₄) ys.toList (rangesOf (gs.take i)) ∧ m "ranges" = some (.ref D))
    ⟨#[], 0, rfl, .nil, by walk_at "W look"⟩ ?_ ?_
  · intro i v b₄ m' mu' oI' h₆ t₆ hi hv hx1 hb₄ S
    refine nay fun hG => ?_
    obtain ⟨ys, k', rfl, hys, m1⟩ := hx1
    obtain ⟨g, hg, t', rfl⟩ := hvs.get (by rw [Array.getElem?_toList]; exact hv)
    refine hG ?_; clear hG
    have hst : rangesOf (gs.take (i + 1)) = rstep (rangesOf (gs.take i)) g := by rw [List.take_add_one, hg]; exact rangesOf_push ..
    have hyl : ys.size = (rangesOf (gs.take i)).length := by have := hys.length; simpa using this
    have hrl := rangesOf_len (gs.take i)
    have htl : (gs.take i).length ≤ 60 := by rw [List.length_take]; lia
    walk_at "x"
    refine wpAny_If ?_
    with_reducible refine isTrue_and ?_
    refine isTrue_plain ?_ (by kernel_rfl!)
    walk_at "n"
    refine tru_lst (S.muGet (.head _)) (by lia) ?_
    rcases List.eq_nil_or_concat (rangesOf (gs.take i)) with e | ⟨rs, x, e⟩
    · have hy0 : ys.isEmpty = true := by rw [Array.isEmpty_iff_size_eq_zero, hyl, e]; rfl
      rw [hy0]
      refine ite_no rfl ?_
      with_reducible refine ite_no (by with_reducible rfl) ?_
      walk_at "x"
      refine wpAny_Expr_any ?_ (by kernel_rfl!) (by kernel_rfl!)
      refine mcall ?_ (by kernel_rfl!)
      walk_at "n"
      rename St _ _ _ _ _ _ _ => S
      refine me_app S (.head _) ?_
      refine callWith_method1 ?_ (by kernel_rfl!) (by kernel_rfl!)
      walk_at "c"
      refine PyProof.Rows.Tuple_ ?_
      walk_at "c"; walk_at "n"; walk_at "c"; walk_at "n"
      refine args_nil ?_
      refine new_tup S (by rfl) (Nat.le_of_ble_eq_true rfl) fun T' b' h' t' hb' hT' S => ?_
      refine args_nil ?_
      refine lst_app S (by rfl) (by lia) fun h₈ t₈ S => ?_
      walk_at "z"; walk_at "z"
      refine turnI (b2 := b') (mu2 := [(D, listOf (ys.push (.ref T')) (k' + 1))]) rfl ⟨_, _, rfl, ?_, by walk_at "W look"⟩ (fun a o q => hb' _ _ (hb₄ _ _ q)) S
      rw [hst, Array.toList_push]
      have hys' := hys.mono fun v x z => z.up hb'
      rw [e] at hys' ⊢
      exact hys'.push (x := (g, g)) ⟨T', _, _, rfl, hT'⟩
    · have hy0 : ys.isEmpty = false := by
        cases q : ys.isEmpty with
        | false => rfl
        | true => rw [Array.isEmpty_iff_size_eq_zero, hyl, e] at q; simp at q
      rw [hy0]
      refine ite_yes rfl ?_
      with_reducible refine isTrue_and ?_
      walk_at "q"
      with_reducible refine wpAny_BinOp ?_
      refine Subscript_ ?_
      refine Subscript_ ?_
      walk_at "n"
      refine PyProof.Rows.UnaryOp_ ?_
      walk_at "i"
      with_reducible refine PyProof.Rows.neg_int ?_
      rename St _ _ _ _ _ _ _ => S
      have hsz : ys.size = rs.length + 1 := by rw [hyl, e]; simp
      refine nay fun hG => ?_
      obtain ⟨vl, hvl', T0, u1, u2, rfl, hT0⟩ := hys.get' (i := rs.length) (x := x) (by rw [e]; simp)
      refine hG ?_; clear hG
      have hix : ys[((-1 : Int) + ys.size).toNat]? = some (.ref T0) := by
        rw [show ((-1 : Int) + ys.size).toNat = rs.length by lia, ← Array.getElem?_toList]; exact hvl'
      refine sub_lst_neg (S.muGet (.head _)) (by decide) (by lia) (by lia) hix ?_ (by with_unfolding_all rfl)
      walk_at "i"
      refine sub_tup S hT0 (by decide) (Nat.le_of_ble_eq_true rfl) (v := .int x.2 u2) rfl ?_ (by with_unfolding_all rfl)
      walk_at "i"
      with_reducible refine add_int ?_
      walk_at "n"
      with_reducible refine eq_int ?_
      walk_at "t"
      by_cases hc : x.2 + 1 = g
      · have hb : (x.2 + 1 == g) = true := beq_iff_eq.mpr hc
        rw [hb]
        refine ite_yes rfl ?_
        with_reducible refine isTrue_and_nil ?_
        with_reducible refine ite_yes (by with_reducible rfl) ?_
        walk_at "x"
        refine wpAny_Assign_Subscript ?_ (by kernel_rfl!)
        refine PyProof.Rows.Tuple_ ?_
        walk_at "c"
        refine Subscript_ ?_
        refine Subscript_ ?_
        walk_at "n"
        refine PyProof.Rows.UnaryOp_ ?_
        walk_at "i"
        with_reducible refine PyProof.Rows.neg_int ?_
        rename St _ _ _ _ _ _ _ => S
        refine sub_lst_neg (S.muGet (.head _)) (by decide) (by lia) (by lia) hix ?_ (by with_unfolding_all rfl)
        walk_at "i"
        refine sub_tup S hT0 (by decide) (Nat.le_of_ble_eq_true rfl) (v := .int x.1 u1) rfl ?_ (by with_unfolding_all rfl)
        walk_at "c"; walk_at "n"
        refine args_nil ?_
        refine new_tup S (by rfl) (Nat.le_of_ble_eq_true rfl) fun T' b' h' t' hb' hT' S => ?_
        walk_at "n"
        refine PyProof.Rows.UnaryOp_ ?_
        walk_at "i"
        with_reducible refine PyProof.Rows.neg_int ?_
        refine set_lst_neg S (by rfl) (by decide) (by lia) (by lia) fun k₈ h₈ t₈ S => ?_
        walk_at "z"; walk_at "z"
        refine turnI (b2 := b') (mu2 := [(D, listOf (ys.setIfInBounds ((-1 : Int) + ys.size).toNat (.ref T')) k₈)]) rfl ⟨_, _, rfl, ?_, by walk_at "W look"⟩ (fun a o q => hb' _ _ (hb₄ _ _ q)) S
        rw [hst, show ((-1 : Int) + ys.size).toNat = ys.size - 1 by lia, set_last ys _ (by lia)]
        have hys' := hys.mono fun v x z => z.up hb'
        have e2 : rstep (rangesOf (gs.take i)) g = rs ++ [(x.1, g)] := by unfold rstep; rw [e]; simp [hc]
        rw [e2]
        have h3 := hys'.take rs.length
        rw [e] at h3
        have e3 : ys.toList.take rs.length = ys.toList.dropLast := by
          rw [List.dropLast_eq_take]
          congr 1
          have : ys.toList.length = ys.size := Array.length_toList
          lia
        rw [e3] at h3
        have e4 : (rs ++ [x]).take rs.length = rs := by simp
        rw [List.concat_eq_append, e4] at h3
        exact h3.push (x := (x.1, g)) ⟨T', _, _, rfl, hT'⟩
      · have hb : (x.2 + 1 == g) = false := beq_eq_false_iff_ne.mpr hc
        rw [hb]
        refine ite_no rfl ?_
        with_reducible refine ite_no (by with_reducible rfl) ?_
        walk_at "x"
        refine wpAny_Expr_any ?_ (by kernel_rfl!) (by kernel_rfl!)
        refine mcall ?_ (by kernel_rfl!)
        walk_at "n"
        rename St _ _ _ _ _ _ _ => S
        refine me_app S (.head _) ?_
        refine callWith_method1 ?_ (by kernel_rfl!) (by kernel_rfl!)
        walk_at "c"
        refine PyProof.Rows.Tuple_ ?_
        walk_at "c"; walk_at "n"; walk_at "c"; walk_at "n"
        refine args_nil ?_
        refine new_tup S (by rfl) (Nat.le_of_ble_eq_true rfl) fun T' b' h' t' hb' hT' S => ?_
        refine args_nil ?_
        refine lst_app S (by rfl) (by lia) fun h₈ t₈ S => ?_
        walk_at "z"; walk_at "z"
        refine turnI (b2 := b') (mu2 := [(D, listOf (ys.push (.ref T')) (k' + 1))]) rfl ⟨_, _, rfl, ?_, by walk_at "W look"⟩ (fun a o q => hb' _ _ (hb₄ _ _ q)) S
        rw [hst, Array.toList_push]
        have hys' := hys.mono fun v x z => z.up hb'
        have e2 : rstep (rangesOf (gs.take i)) g = rangesOf (gs.take i) ++ [(g, g)] := by unfold rstep; rw [e]; simp [hc]
        rw [e2]
        exact hys'.push (x := (g, g)) ⟨T', _, _, rfl, hT'⟩
  · intro b₄ m' mu' h₆ t₆ hx1 hb₄ S
    refine nay fun hG => ?_
    obtain ⟨ys, k', rfl, hys, m1⟩ := hx1
    refine hG ?_; clear hG
    rw [hvl, List.take_length] at hys
    walk_at "x"
    refine wpAny_Return_some ?_
    walk_at "n"
    have S2 := S.freeze hD
    exact k _ _ _ _ S2.grow ⟨D, ys, k', rfl, PM.put_self .., hys.mono fun v x z => z.up fun a o q => PM.put_le (S.tu _ (.head _)).2.2.1 _ q⟩
end
-- RO
section
variable {w : World} {A : Around} {E : Value → Shared → Prop} {s : Shared} {e : En} {b : PM} {L : Addr} {m : Str → Option Value} {mu : List (Addr × Obj)} {env : Env}
theorem for_listG {s0 : Shared} {t0 : Nat} {R : Result → Shared → Prop} {elts : List Expr} {x1 : Nat} {tpos : Pos} {body : List Stmt} {D : Addr} {vs : Array Value} {k : Nat} {E : Value → Shared → Prop} (hh : A.handled = none) (S : St w e b L m mu { s0 with heap := s.heap, toks := t0 }) (hq : s = { s0 with heap := s.heap, toks := s.toks }) (hb : b D = some (listOf vs k)) (hL : env.locals = L) (hr : ∀ v ∈ vs.toList, ∃ T, v = .ref T)
    (J : Nat → PM → (Str → Option Value) → List (Addr × Obj) → Prop) (hJ : J 0 b m mu)
    (turn : ∀ I i v b' m' mu' oI' h' t', i < vs.size → vs[i]? = some v → J i b' m' mu' → (∀ a o, b a = some o → b' a = some o) → St w e b' L m' (mu' ++ [(I, oI')]) { s0 with heap := h', toks := t' } →
      wpAny (model pw w) A (assign (.Tuple elts x1 tpos) env v) (fun _ s₂ => wpR w A (execs body env) (fun f s' => match f with
        | .next | .cont => ∃ b'' m'' mu'' h'' t'', s' = { s0 with heap := h'', toks := t'' } ∧ J (i + 1) b'' m'' mu'' ∧ (∀ a o, b a = some o → b'' a = some o) ∧ St w e b'' L m'' (mu'' ++ [(I, oI')]) { s0 with heap := h'', toks := t'' }
        | .brk => R (.ok .next) s'
        | .ret v => R (.ok (.ret v)) s') (fun _ _ => False) s₂) (fun _ _ => False) { s0 with heap := h', toks := t' })
    (done : ∀ b' m' mu' h' t', J vs.size b' m' mu' → (∀ a o, b a = some o → b' a = some o) → St w e b' L m' mu' { s0 with heap := h', toks := t' } → R (.ok .next) { s0 with heap := h', toks := t' }) :
    wpAny (model pw w) A (pyIter (.ref D)) (fun it s₂ => codeR w A (.forLoop (.Tuple elts x1 tpos) it body [] env) R s₂) E s := by
  have g : s.heap.get? D = some (listOf vs k) := S.get hb
  refine wpAny_pyIter_list ⟨_, g, rfl, k, rfl⟩ ?_
  rw [hq]
  refine for_walkG (s := { s0 with heap := s.heap.push { cls := .type "list_iterator", data := .fields #[.ref D, .int 0 0] }, toks := s.toks }) (Walks.list hh s.heap.objs.size D (Nat.ne_of_lt (Heap.lt_size g)) vs) (fun i h z => let ⟨⟨o, ho, _⟩, _⟩ := z; ⟨o, ho⟩) (fun x hx => ?_) (S.src hq) ⟨⟨_, Heap.get?_push_size _ rfl, rfl, rfl⟩, ⟨_, Heap.get?_push_of_some _ g, rfl, k, rfl⟩⟩ hL (fun i v s' Q hv z q => by
    obtain ⟨T, rfl⟩ := hr v (List.mem_of_getElem? (by rw [Array.getElem?_toList]; exact hv))
    exact wpAny_letOwnedTupleGo_listiter z.1 q) J hJ (fun i v b' m' mu' oI' h' t' hi hP hJ' hb' S' => turn _ i v b' m' mu' oI' h' t' hi hP hJ' hb' S') done
  rcases List.mem_cons.mp hx with z | z
  · exact .inl z
  · exact .inr ⟨_, by rw [List.mem_singleton.mp z]; exact hb⟩
end
section
variable {w : World} {A : Around} {E : Value → Shared → Prop} {s s0 : Shared} {e : En} {b : PM} {L : Addr} {m : Str → Option Value} {mu : List (Addr × Obj)} {env : Env} {t0 : Nat}
theorem as_name {x : Str} {p : Pos} {v : Value} {Q : Unit → Shared → Prop} (S : St w e b L m mu { s0 with heap := s.heap, toks := t0 }) (hq : s = { s0 with heap := s.heap, toks := s.toks }) (hL : env.locals = L) (hl : env.kindOf x = some .local) (hp : (env.scope.kind == .class || (env.scope.kind == .module && env.locals != env.globals)) = false)
    (h : ∀ h' t', St w e b L (ext m x v) mu { s0 with heap := h', toks := t' } → Q () { s0 with heap := h', toks := t' }) : wpAny (model pw w) A (assign (.Name x p) env v) Q E s :=
  wpAny_assign_Name (st_loc' S hq hL hl hp h)
theorem as_tup2 {x y : Str} {p q pos : Pos} {k : Nat} {T : Addr} {v1 v2 : Value} {Q : Unit → Shared → Prop} (hh : A.handled = none) (S : St w e b L m mu { s0 with heap := s.heap, toks := t0 }) (hq : s = { s0 with heap := s.heap, toks := s.toks }) (hT : b T = some (tupO #[v1, v2])) (hL : env.locals = L)
    (h1 : env.kindOf x = some .local) (h2 : env.kindOf y = some .local) (hp : (env.scope.kind == .class || (env.scope.kind == .module && env.locals != env.globals)) = false)
    (h : ∀ h' t', St w e b L (ext (ext m x v1) y v2) mu { s0 with heap := h', toks := t' } → Q () { s0 with heap := h', toks := t' }) : wpAny (model pw w) A (assign (.Tuple [.Name x p, .Name y q] k pos) env (.ref T)) Q E s := by
  refine assign_Tuple_tuple (items := #[v1, v2]) hh ⟨_, S.get hT, rfl, 0, rfl⟩ rfl rfl fun h' hx => ?_
  have S1 : St w e b L m mu { s0 with heap := h', toks := t0 } := S.ext fun a o g => hx a o (Nat.ne_of_lt (Heap.lt_size g)) g
  refine assignInOrder_cons ?_
  refine as_name (s0 := s0) (t0 := t0) S1 (by rw [hq]) hL h1 hp fun h2' t2 S2 => ?_
  refine assignInOrder_cons ?_
  exact as_name (s0 := s0) (t0 := t2) S2 rfl hL h2 hp fun h3 t3 S3 => assignInOrder_nil (h _ _ S3)
theorem as_tup3 {x y z : Str} {p q r pos : Pos} {k : Nat} {T : Addr} {v1 v2 v3 : Value} {Q : Unit → Shared → Prop} (hh : A.handled = none) (S : St w e b L m mu { s0 with heap := s.heap, toks := t0 }) (hq : s = { s0 with heap := s.heap, toks := s.toks }) (hT : b T = some (tupO #[v1, v2, v3])) (hL : env.locals = L)
    (h1 : env.kindOf x = some .local) (h2 : env.kindOf y = some .local) (h3 : env.kindOf z = some .local) (hp : (env.scope.kind == .class || (env.scope.kind == .module && env.locals != env.globals)) = false)
    (h : ∀ h' t', St w e b L (ext (ext (ext m x v1) y v2) z v3) mu { s0 with heap := h', toks := t' } → Q () { s0 with heap := h', toks := t' }) : wpAny (model pw w) A (assign (.Tuple [.Name x p, .Name y q, .Name z r] k pos) env (.ref T)) Q E s := by
  refine assign_Tuple_tuple (items := #[v1, v2, v3]) hh ⟨_, S.get hT, rfl, 0, rfl⟩ rfl rfl fun h' hx => ?_
  have S1 : St w e b L m mu { s0 with heap := h', toks := t0 } := S.ext fun a o g => hx a o (Nat.ne_of_lt (Heap.lt_size g)) g
  refine assignInOrder_cons ?_
  refine as_name (s0 := s0) (t0 := t0) S1 (by rw [hq]) hL h1 hp fun h2' t2 S2 => ?_
  refine assignInOrder_cons ?_
  refine as_name (s0 := s0) (t0 := t2) S2 rfl hL h2 hp fun h3' t3 S3 => ?_
  refine assignInOrder_cons ?_
  exact as_name (s0 := s0) (t0 := t3) S3 rfl hL h3 hp fun h4 t4 S4 => assignInOrder_nil (h _ _ S4)
end
-- XG
noncomputable def spanNums : Int → List (Int × Int) → List Int
  | _, [] => []
  | i, x :: r => x.1 :: x.2 :: i :: spanNums (i + x.2 - x.1 + 1) r
noncomputable def spanIdx (l : List (Int × Int)) (i : Int) : Int := l.foldl (fun i x => i + x.2 - x.1 + 1) i
theorem spanNums_push (l : List (Int × Int)) (x : Int × Int) : ∀ i, spanNums i (l ++ [x]) = spanNums i l ++ [x.1, x.2, spanIdx l i] := by
  induction l with
  | nil => intro i; rfl
  | cons y l ih => intro i; show _ :: _ :: _ :: spanNums _ (l ++ [x]) = _; rw [ih]; rfl
theorem spanIdx_push (l : List (Int × Int)) (x : Int × Int) (i : Int) : spanIdx (l ++ [x]) i = spanIdx l i + x.2 - x.1 + 1 := by unfold spanIdx; rw [List.foldl_append]; rfl
theorem spanNums_app (l r : List (Int × Int)) : ∀ i, spanNums i (l ++ r) = spanNums i l ++ spanNums (spanIdx l i) r := by
  induction l with
  | nil => intro i; rfl
  | cons y l ih => intro i; show _ :: _ :: _ :: spanNums _ (l ++ r) = _; rw [ih]; rfl
theorem spanNums_split (l : List (Int × Int)) (n : Nat) (i : Int) : spanNums i l = spanNums i (l.take n) ++ spanNums (spanIdx (l.take n) i) (l.drop n) := by
  rw [← spanNums_app, List.take_append_drop]
theorem spanNums_len (l : List (Int × Int)) : ∀ i, (spanNums i l).length = 3 * l.length := by
  induction l with
  | nil => intro i; rfl
  | cons y l ih => intro i; show (spanNums _ l).length + 3 = _; rw [ih, List.length_cons]; lia
noncomputable def covNums (gs : List Int) : List Int := if 2 * (gs.length : Int) ≤ 6 * ((rangesOf gs).length : Int) then 1 :: (gs.length : Int) :: gs else 2 :: ((rangesOf gs).length : Int) :: spanNums 0 (rangesOf gs)
noncomputable def covBytes (gs : List Int) : List UInt8 := (covNums gs).flatMap w16
theorem w16_len (x : Int) : (w16 x).length = 2 := rfl
section
variable {w : World} {A : Around} {E : Value → Shared → Prop} {s : Shared} {b : PM} {n : Nat} {Q : Value → Shared → Prop}
theorem c_write_cov {v : Value} {gs : List Int} (R : Room A (n + 6)) (B : Base w b) (hs : ∀ a o, b a = some o → s.heap.get? a = some o) (hv : Cov w.params b v gs) (hl : gs.length < 60) (hn : ∀ x ∈ covNums gs, 0 ≤ x ∧ x < 65536)
    (k : ∀ t b' h' t', Grow b b' s.heap h' [] → Q (.bytes (covBytes gs).toArray t) { s with heap := h', toks := t' }) : wpR w A (call (.ref 361) [v]) Q E s := by
  refine nay fun hG => ?_
  obtain ⟨x, dx, t, tv, nn, rfl, hx, hdx, htv⟩ := hv
  obtain ⟨T, vs, rfl, hT, hvs⟩ := htv
  refine hG ?_; clear hG
  have hvl : vs.size = gs.length := by have := hvs.length; simpa using this
  refine inR_write_coverage (body := _) rfl R B hs [] (fun _ h => bbot h) List.nodup_nil ?_
  intro L h₁ t₁ hL S R'
  dsimp only [extL] at S
  with_reducible refine r_cons ?_
  refine r_AssignName ?_ (by kernel_rfl!)
  refine r_Call ?_ (by kernel_rfl!)
  refine n_ranges_of (by assumption) (by kernel_rfl!) (by kernel_rfl!) (by kernel_rfl!) ?_
  refine r_callK (by kernel_rfl!) (by with_reducible exact kp_f_ranges_of _) ?_
  refine r_args_cons ?_ (by kernel_rfl!)
  refine wpR.any ?_
  refine Attribute_any_ ?_ (by kernel_rfl!)
  walk_at "n"
  refine at_b (ga_Coverage _) (hd_Coverage _) (fa_Coverage_glyphs _) gl_glyphs (by assumption) (by rfl) (by assumption) (by assumption) (by first | rfl | assumption) ?_; intro _
  refine r_args_nil ?_
  refine And.intro (kinH (by assumption)) ?_
  rename St _ _ _ _ _ _ _ => S
  refine .any (c_ranges_of (n := n + 1) R' S.base S.sub ⟨T, vs, rfl, hT, hvs⟩ hl fun rv b₂ h₂ t₂ G hrv => ?_)
  replace S := S.call0 (t := t₂) G
  dsimp only at S
  replace hx := G.up _ _ hx
  replace hdx := G.up _ _ hdx
  replace hT := G.up _ _ hT
  refine nay fun hG => ?_
  obtain ⟨D, ys, kk, rfl, hD, hys⟩ := hrv
  refine hG ?_; clear hG
  have hyl : ys.size = (rangesOf gs).length := by have := hys.length; simpa using this
  have hrl := rangesOf_len gs
  refine st_loc' (by assumption) (by rfl) rfl (by kernel_rfl!) (by kernel_rfl!) fun _ _ S => ?_
  with_reducible refine r_cons ?_
  refine r_If ?_
  walk_at "q"; walk_at "n"; walk_at "i"
  with_reducible refine eq_int ?_
  walk_at "t"
  refine ite_yes rfl ?_
  with_reducible refine r_cons ?_
  refine r_AssignName ?_ (by kernel_rfl!)
  refine wpR.any ?_
  refine PyProof.Rows.IfExp_ ?_
  walk_at "q"
  with_reducible refine wpAny_BinOp ?_
  walk_at "i"; walk_at "f"
  refine n_len (by assumption) (by kernel_rfl!) (by kernel_rfl!) (by kernel_rfl!) (by kernel_rfl!) ?_
  refine PyProof.Rows.callWith_builtin1 ?_ (by kernel_rfl!) (by kernel_rfl!)
  walk_at "c"
  refine Attribute_any_ ?_ (by kernel_rfl!)
  walk_at "n"
  refine at_b (ga_Coverage _) (hd_Coverage _) (fa_Coverage_glyphs _) gl_glyphs (by assumption) (by rfl) (by assumption) (by assumption) (by first | rfl | assumption) ?_; intro _
  refine args_nil ?_
  rename St _ _ _ _ _ _ _ => S
  refine len_tup (S.get hT) (by lia) ?_
  with_reducible refine mul_int ?_ (mulok (by lia) (by lia))
  with_reducible refine wpAny_BinOp ?_
  walk_at "i"; walk_at "f"
  refine n_len (by assumption) (by kernel_rfl!) (by kernel_rfl!) (by kernel_rfl!) (by kernel_rfl!) ?_
  refine PyProof.Rows.callWith_builtin1 ?_ (by kernel_rfl!) (by kernel_rfl!)
  walk_at "c"; walk_at "n"
  refine args_nil ?_
  refine len_lst (S.get hD) (by lia) ?_
  with_reducible refine mul_int ?_ (mulok (by lia) (by lia))
  with_reducible refine le_int ?_
  walk_at "t"
  rw [hvl, hyl]
  by_cases hf : 2 * (gs.length : Int) ≤ 6 * ((rangesOf gs).length : Int)
  · have hcn : covNums gs = 1 :: (gs.length : Int) :: gs := if_pos hf
    refine ite_yes (decide_eq_true hf) ?_
    walk_at "i"
    refine st_loc' (by assumption) (by rfl) rfl (by kernel_rfl!) (by kernel_rfl!) fun _ _ S => ?_
    with_reducible refine r_nil ?_
    with_reducible refine r_cons ?_
    refine r_AssignName ?_ (by kernel_rfl!)
    refine r_Call ?_ (by kernel_rfl!)
    refine n_OctetsOut (by assumption) (by kernel_rfl!) (by kernel_rfl!) (by kernel_rfl!) ?_
    refine r_callK (by kernel_rfl!) (by with_reducible exact kp_OctetsOut _) ?_
    refine r_args_nil ?_
    refine And.intro (kinH (by assumption)) ?_
    refine c_new_out (n := n + 2) R' S.base S.sub fun o ba b₃ h₃ t₃ G hO hba hg hbn => ?_
    have gu := G.up
    replace S := S.call0M (t := t₃) G hg hba hbn
    dsimp only at S
    replace hx := gu _ _ hx
    replace hdx := gu _ _ hdx
    replace hT := gu _ _ hT
    replace hD := gu _ _ hD
    replace hys := hys.mono fun _ _ z => z.up gu
    refine st_loc' (by assumption) (by rfl) rfl (by kernel_rfl!) (by kernel_rfl!) fun _ _ S => ?_
    with_reducible refine r_cons ?_
    refine r_Expr ?_ (by kernel_rfl!) (by kernel_rfl!)
    refine r_mcall ?_ (by kernel_rfl!)
    walk_at "n"
    refine nay fun hG => ?_
    obtain ⟨do_, to_, no_, hO1, hO2⟩ := id hO
    refine hG ?_; clear hG
    refine me_b (ga_OctetsOut _) (gt_OctetsOut _) (fm_OctetsOut_u16 _) (tm_OctetsOut_u16 _) gl_out_u16 (by assumption) (by assumption) (by assumption) ?_
    refine r_callK (by kernel_rfl!) (by with_reducible exact kp_f_OctetsOut_u16 _) ?_
    refine r_args_cons ?_ (by kernel_rfl!)
    refine wpR.any ?_
    walk_at "n"
    refine r_args_nil ?_
    refine And.intro (kinH (by assumption)) ?_
    refine c_out_u16 (n := n + 1) R' S.base S.sub hO (S.tu _ (.head _)).2.2.1 (S.muGet (.head _)) (hn 1 (by rw [hcn]; simp)).1 (hn 1 (by rw [hcn]; simp)).2 (by simp) fun b' h' t' G g => ?_
    have gu := G.up
    replace S := S.call1 (t := t') G g
    replace hO := hO.up gu
    replace hO1 := gu _ _ hO1
    replace hO2 := gu _ _ hO2
    replace hx := gu _ _ hx
    replace hdx := gu _ _ hdx
    replace hT := gu _ _ hT
    replace hD := gu _ _ hD
    replace hys := hys.mono fun _ _ z => z.up gu
    dsimp only at S
    with_reducible refine r_cons ?_
    refine r_If ?_
    walk_at "q"; walk_at "n"; walk_at "i"
    with_reducible refine eq_int ?_
    walk_at "t"
    refine ite_yes rfl ?_
    with_reducible refine r_cons ?_
    refine r_Expr ?_ (by kernel_rfl!) (by kernel_rfl!)
    refine r_mcall ?_ (by kernel_rfl!)
    walk_at "n"
    refine me_b (ga_OctetsOut _) (gt_OctetsOut _) (fm_OctetsOut_u16 _) (tm_OctetsOut_u16 _) gl_out_u16 (by assumption) (by assumption) (by assumption) ?_
    refine r_callK (by kernel_rfl!) (by with_reducible exact kp_f_OctetsOut_u16 _) ?_
    refine r_args_cons ?_ (by kernel_rfl!)
    refine r_Call ?_ (by kernel_rfl!)
    refine n_len (by assumption) (by kernel_rfl!) (by kernel_rfl!) (by kernel_rfl!) (by kernel_rfl!) ?_
    refine r_callBi (by kernel_rfl!) ?_
    refine r_args_cons ?_ (by kernel_rfl!)
    refine wpR.any ?_
    refine Attribute_any_ ?_ (by kernel_rfl!)
    walk_at "n"
    refine at_b (ga_Coverage _) (hd_Coverage _) (fa_Coverage_glyphs _) gl_glyphs (by assumption) (by rfl) (by assumption) (by assumption) (by first | rfl | assumption) ?_; intro _
    refine r_args_nil ?_
    rename St _ _ _ _ _ _ _ => S
    refine .any (len_tup (S.get hT) (by lia) ?_)
    rw [hvl]
    refine r_args_nil ?_
    refine And.intro (kinH (by assumption)) ?_
    refine c_out_u16 (n := n + 1) R' S.base S.sub hO (S.tu _ (.head _)).2.2.1 (S.muGet (.head _)) (hn (gs.length : Int) (by rw [hcn]; simp)).1 (hn (gs.length : Int) (by rw [hcn]; simp)).2 (by simp [w16_len]) fun b' h' t' G g => ?_
    have gu := G.up
    replace S := S.call1 (t := t') G g
    replace hO := hO.up gu
    replace hO1 := gu _ _ hO1
    replace hO2 := gu _ _ hO2
    replace hx := gu _ _ hx
    replace hdx := gu _ _ hdx
    replace hT := gu _ _ hT
    replace hD := gu _ _ hD
    replace hys := hys.mono fun _ _ z => z.up gu
    dsimp only at S
    with_reducible refine r_cons ?_
    refine r_For ?_ (by intro _; kernel_rfl!)
    refine Attribute_any_ ?_ (by kernel_rfl!)
    walk_at "n"
    refine at_b (ga_Coverage _) (hd_Coverage _) (fa_Coverage_glyphs _) gl_glyphs (by assumption) (by rfl) (by assumption) (by assumption) (by first | rfl | assumption) ?_; intro _
    rename St _ _ _ _ _ _ _ => S
    refine it_tuple R'.hd S (by rfl) hT fun I oI h₅ t₅ W S => ?_
    refine for_srcR W S rfl (by kernel_rfl!) (by kernel_rfl!) (fun i b₄ m mu => mu = [(ba, baO ((1 :: (gs.length : Int) :: gs.take i).flatMap w16).toArray)] ∧ m "out" = some (.ref o)) ⟨by simp, by walk_at "W look"⟩ ?_ ?_
    · rintro i v b₄ m' mu' oI' h₆ t₆ hi hv ⟨rfl, m1⟩ hb₄ S
      refine nay fun hG => ?_
      obtain ⟨g, hg', t', rfl⟩ := hvs.get (by rw [Array.getElem?_toList]; exact hv)
      refine hG ?_; clear hG
      replace hO := hO.up hb₄
      replace hO1 := hb₄ _ _ hO1
      replace hO2 := hb₄ _ _ hO2
      with_reducible refine r_cons ?_
      refine r_Expr ?_ (by kernel_rfl!) (by kernel_rfl!)
      refine r_mcall ?_ (by kernel_rfl!)
      walk_at "n"
      refine me_b (ga_OctetsOut _) (gt_OctetsOut _) (fm_OctetsOut_u16 _) (tm_OctetsOut_u16 _) gl_out_u16 (by assumption) (by assumption) (by assumption) ?_
      refine r_callK (by kernel_rfl!) (by with_reducible exact kp_f_OctetsOut_u16 _) ?_
      refine r_args_cons ?_ (by kernel_rfl!)
      refine wpR.any ?_
      walk_at "n"
      refine r_args_nil ?_
      refine And.intro (kinH (by assumption)) ?_
      rename St _ _ _ _ _ _ _ => S
      have hll := flat_w16_len (1 :: (gs.length : Int) :: gs.take i)
      have hll2 : (gs.take i).length ≤ 60 := by rw [List.length_take]; lia
      simp only [List.length_cons] at hll
      have hgn := hn g (by rw [hcn]; exact .tail _ (.tail _ (List.mem_of_getElem? hg')))
      refine c_out_u16 (n := n + 1) R' S.base S.sub hO (S.tu _ (.head _)).2.2.1 (S.muGet (.head _)) hgn.1 hgn.2 (by rw [List.size_toArray]; lia) fun b' h' t' G g' => ?_
      replace S := S.call1 (t := t') G g'
      dsimp only at S
      with_reducible refine r_nil ?_
      have e : ((1 :: (gs.length : Int) :: gs.take i).flatMap w16).toArray ++ (w16 g).toArray = ((1 :: (gs.length : Int) :: gs.take (i + 1)).flatMap w16).toArray := by
        rw [List.take_add_one, hg']; simp
      rw [e] at S
      exact turnI (b2 := b') (mu2 := [(ba, baO ((1 :: (gs.length : Int) :: gs.take (i + 1)).flatMap w16).toArray)]) rfl ⟨rfl, by walk_at "W look"⟩ (fun a o q => G.up _ _ (hb₄ _ _ q)) S
    · rintro b₄ m' mu' h₆ t₆ ⟨rfl, m1⟩ hb₄ S
      rw [hvl, List.take_length] at S
      replace hO := hO.up hb₄
      replace hO1 := hb₄ _ _ hO1
      replace hO2 := hb₄ _ _ hO2
      with_reducible refine r_nil ?_
      with_reducible refine r_cons ?_
      refine r_Return ?_
      refine r_mcall ?_ (by kernel_rfl!)
      walk_at "n"
      refine me_b (ga_OctetsOut _) (gt_OctetsOut _) (fm_OctetsOut_octets _) (tm_OctetsOut_octets _) gl_out_octets (by assumption) (by assumption) (by assumption) ?_
      refine r_callK (by kernel_rfl!) (by with_reducible exact kp_f_OctetsOut_octets _) ?_
      refine r_args_nil ?_
      refine And.intro (kinH (by assumption)) ?_
      rename St _ _ _ _ _ _ _ => S
      have hll := flat_w16_len (1 :: (gs.length : Int) :: gs)
      simp only [List.length_cons] at hll
      refine .any (c_out_octets (n := n + 1) R' S.base S.sub hO (S.tu _ (.head _)).2.2.1 (S.muGet (.head _)) (by rw [List.size_toArray]; lia) fun t b' h' t' G => ?_)
      replace S := S.call0 (t := t') G
      have e : ((1 :: (gs.length : Int) :: gs).flatMap w16).toArray = (covBytes gs).toArray := by unfold covBytes; rw [hcn]
      rw [e]
      exact k _ _ _ _ S.grow
  · have hcn : covNums gs = 2 :: ((rangesOf gs).length : Int) :: spanNums 0 (rangesOf gs) := if_neg hf
    refine ite_no (decide_eq_false hf) ?_
    walk_at "i"
    refine st_loc' (by assumption) (by rfl) rfl (by kernel_rfl!) (by kernel_rfl!) fun _ _ S => ?_
    with_reducible refine r_nil ?_
    with_reducible refine r_cons ?_
    refine r_AssignName ?_ (by kernel_rfl!)
    refine r_Call ?_ (by kernel_rfl!)
    refine n_OctetsOut (by assumption) (by kernel_rfl!) (by kernel_rfl!) (by kernel_rfl!) ?_
    refine r_callK (by kernel_rfl!) (by with_reducible exact kp_OctetsOut _) ?_
    refine r_args_nil ?_
    refine And.intro (kinH (by assumption)) ?_
    refine c_new_out (n := n + 2) R' S.base S.sub fun o ba b₃ h₃ t₃ G hO hba hg hbn => ?_
    have gu := G.up
    replace S := S.call0M (t := t₃) G hg hba hbn
    dsimp only at S
    replace hx := gu _ _ hx
    replace hdx := gu _ _ hdx
    replace hT := gu _ _ hT
    replace hD := gu _ _ hD
    replace hys := hys.mono fun _ _ z => z.up gu
    refine st_loc' (by assumption) (by rfl) rfl (by kernel_rfl!) (by kernel_rfl!) fun _ _ S => ?_
    with_reducible refine r_cons ?_
    refine r_Expr ?_ (by kernel_rfl!) (by kernel_rfl!)
    refine r_mcall ?_ (by kernel_rfl!)
    walk_at "n"
    refine nay fun hG => ?_
    obtain ⟨do_, to_, no_, hO1, hO2⟩ := id hO
    refine hG ?_; clear hG
    refine me_b (ga_OctetsOut _) (gt_OctetsOut _) (fm_OctetsOut_u16 _) (tm_OctetsOut_u16 _) gl_out_u16 (by assumption) (by assumption) (by assumption) ?_
    refine r_callK (by kernel_rfl!) (by with_reducible exact kp_f_OctetsOut_u16 _) ?_
    refine r_args_cons ?_ (by kernel_rfl!)
    refine wpR.any ?_
    walk_at "n"
    refine r_args_nil ?_
    refine And.intro (kinH (by assumption)) ?_
    refine c_out_u16 (n := n + 1) R' S.base S.sub hO (S.tu _ (.head _)).2.2.1 (S.muGet (.head _)) (hn 2 (by rw [hcn]; simp)).1 (hn 2 (by rw [hcn]; simp)).2 (by simp) fun b' h' t' G g => ?_
    have gu := G.up
    replace S := S.call1 (t := t') G g
    replace hO := hO.up gu
    replace hO1 := gu _ _ hO1
    replace hO2 := gu _ _ hO2
    replace hx := gu _ _ hx
    replace hdx := gu _ _ hdx
    replace hT := gu _ _ hT
    replace hD := gu _ _ hD
    replace hys := hys.mono fun _ _ z => z.up gu
    dsimp only at S
    with_reducible refine r_cons ?_
    refine r_If ?_
    walk_at "q"; walk_at "n"; walk_at "i"
    with_reducible refine eq_int ?_
    walk_at "t"
    refine ite_no rfl ?_
    with_reducible refine r_cons ?_
    refine r_If ?_
    walk_at "q"; walk_at "n"; walk_at "i"
    with_reducible refine eq_int ?_
    walk_at "t"
    refine ite_yes rfl ?_
    with_reducible refine r_cons ?_
    refine r_Expr ?_ (by kernel_rfl!) (by kernel_rfl!)
    refine r_mcall ?_ (by kernel_rfl!)
    walk_at "n"
    refine me_b (ga_OctetsOut _) (gt_OctetsOut _) (fm_OctetsOut_u16 _) (tm_OctetsOut_u16 _) gl_out_u16 (by assumption) (by assumption) (by assumption) ?_
    refine r_callK (by kernel_rfl!) (by with_reducible exact kp_f_OctetsOut_u16 _) ?_
    refine r_args_cons ?_ (by kernel_rfl!)
    refine r_Call ?_ (by kernel_rfl!)
    refine n_len (by assumption) (by kernel_rfl!) (by kernel_rfl!) (by kernel_rfl!) (by kernel_rfl!) ?_
    refine r_callBi (by kernel_rfl!) ?_
    refine r_args_cons ?_ (by kernel_rfl!)
    refine wpR.any ?_
    walk_at "n"
    refine r_args_nil ?_
    refine .any (len_lst (S.get hD) (by lia) ?_)
    rw [hyl]
    refine r_args_nil ?_
    refine And.intro (kinH (by assumption)) ?_
    refine c_out_u16 (n := n + 1) R' S.base S.sub hO (S.tu _ (.head _)).2.2.1 (S.muGet (.head _)) (hn ((rangesOf gs).length : Int) (by rw [hcn]; simp)).1 (hn ((rangesOf gs).length : Int) (by rw [hcn]; simp)).2 (by simp [w16_len]) fun b' h' t' G g => ?_
    have gu := G.up
    replace S := S.call1 (t := t') G g
    replace hO := hO.up gu
    replace hO1 := gu _ _ hO1
    replace hO2 := gu _ _ hO2
    replace hx := gu _ _ hx
    replace hdx := gu _ _ hdx
    replace hT := gu _ _ hT
    replace hD := gu _ _ hD
    replace hys := hys.mono fun _ _ z => z.up gu
    dsimp only at S
    with_reducible refine r_cons ?_
    refine r_AssignName ?_ (by kernel_rfl!)
    refine wpR.any ?_
    walk_at "i"
    refine st_loc' (by assumption) (by rfl) rfl (by kernel_rfl!) (by kernel_rfl!) fun _ _ S => ?_
    with_reducible refine r_cons ?_
    refine r_For ?_ (by intro _; kernel_rfl!)
    walk_at "n"
    rename St _ _ _ _ _ _ _ => S
    have hrefs : ∀ v ∈ ys.toList, ∃ T, v = .ref T := fun v hv => by
      refine nay fun hG => ?_
      obtain ⟨i, hi⟩ := List.mem_iff_getElem?.mp hv
      obtain ⟨_, _, T, _, _, e, _⟩ := hys.get hi
      refine hG ?_; clear hG
      exact ⟨T, e⟩
    refine for_listG R'.hd S (by rfl) hD rfl hrefs (fun i b₄ m mu => mu = [(ba, baO ((2 :: ((rangesOf gs).length : Int) :: spanNums 0 ((rangesOf gs).take i)).flatMap w16).toArray)] ∧ m "out" = some (.ref o) ∧ ∃ ti, m "index" = some (.int (spanIdx ((rangesOf gs).take i) 0) ti)) ⟨by simp [spanNums], by walk_at "W look", _, by show _ = some (Value.int 0 _); walk_at "W look"⟩ ?_ ?_
    · intro I i v b₄ m' mu' oI' h₆ t₆ hi hv hx1 hb₄ S
      refine nay fun hG => ?_
      obtain ⟨rfl, m1, ti, m2⟩ := hx1
      obtain ⟨g, hg', T0, u1, u2, rfl, hT0⟩ := hys.get (by rw [Array.getElem?_toList]; exact hv)
      refine hG ?_; clear hG
      replace hT0 := hb₄ _ _ hT0
      replace hO := hO.up hb₄
      replace hO1 := hb₄ _ _ hO1
      replace hO2 := hb₄ _ _ hO2
      refine as_tup2 R'.hd S (by rfl) hT0 rfl (by kernel_rfl!) (by kernel_rfl!) (by kernel_rfl!) fun h₇ t₇ S => ?_
      have e1 : spanNums 0 ((rangesOf gs).take (i + 1)) = spanNums 0 ((rangesOf gs).take i) ++ [g.1, g.2, spanIdx ((rangesOf gs).take i) 0] := by
        rw [List.take_add_one, hg']; exact spanNums_push ..
      have e2 : spanIdx ((rangesOf gs).take (i + 1)) 0 = spanIdx ((rangesOf gs).take i) 0 + g.2 - g.1 + 1 := by
        rw [List.take_add_one, hg']; exact spanIdx_push ..
      have hsub : ∀ x ∈ [g.1, g.2, spanIdx ((rangesOf gs).take i) 0], 0 ≤ x ∧ x < 65536 := fun x hx' => hn x (by
        rw [hcn]
        refine .tail _ (.tail _ ?_)
        have e3 := spanNums_split (rangesOf gs) (i + 1) 0
        rw [e3, e1]
        exact List.mem_append_left _ (List.mem_append_right _ hx'))
      have hll := flat_w16_len (2 :: ((rangesOf gs).length : Int) :: spanNums 0 ((rangesOf gs).take i))
      have hll2 : ((rangesOf gs).take i).length ≤ 60 := by rw [List.length_take]; lia
      simp only [List.length_cons, spanNums_len] at hll
      have g1 := hsub g.1 (.head _)
      have g2 := hsub g.2 (.tail _ (.head _))
      have g3 := hsub _ (.tail _ (.tail _ (.head _)))
      with_reducible refine r_cons ?_
      refine r_Expr ?_ (by kernel_rfl!) (by kernel_rfl!)
      refine r_mcall ?_ (by kernel_rfl!)
      walk_at "n"
      refine me_b (ga_OctetsOut _) (gt_OctetsOut _) (fm_OctetsOut_u16 _) (tm_OctetsOut_u16 _) gl_out_u16 (by assumption) (by assumption) (by assumption) ?_
      refine r_callK (by kernel_rfl!) (by with_reducible exact kp_f_OctetsOut_u16 _) ?_
      refine r_args_cons ?_ (by kernel_rfl!)
      refine wpR.any ?_
      walk_at "n"
      refine r_args_nil ?_
      refine And.intro (kinH (by assumption)) ?_
      refine c_out_u16 (n := n + 1) R' S.base S.sub hO (S.tu _ (.head _)).2.2.1 (S.muGet (.head _)) g1.1 g1.2 (by rw [List.size_toArray]; lia) fun b' h' t' G g' => ?_
      have gu := G.up
      replace S := S.call1 (t := t') G g'
      replace hO := hO.up gu
      replace hO1 := gu _ _ hO1
      replace hO2 := gu _ _ hO2
      dsimp only at S
      have up1 := gu
      with_reducible refine r_cons ?_
      refine r_Expr ?_ (by kernel_rfl!) (by kernel_rfl!)
      refine r_mcall ?_ (by kernel_rfl!)
      walk_at "n"
      refine me_b (ga_OctetsOut _) (gt_OctetsOut _) (fm_OctetsOut_u16 _) (tm_OctetsOut_u16 _) gl_out_u16 (by assumption) (by assumption) (by assumption) ?_
      refine r_callK (by kernel_rfl!) (by with_reducible exact kp_f_OctetsOut_u16 _) ?_
      refine r_args_cons ?_ (by kernel_rfl!)
      refine wpR.any ?_
      walk_at "n"
      refine r_args_nil ?_
      refine And.intro (kinH (by assumption)) ?_
      refine c_out_u16 (n := n + 1) R' S.base S.sub hO (S.tu _ (.head _)).2.2.1 (S.muGet (.head _)) g2.1 g2.2 (by rw [Array.size_append, List.size_toArray, List.size_toArray, w16_len]; lia) fun b' h' t' G g' => ?_
      have gu := G.up
      replace S := S.call1 (t := t') G g'
      replace hO := hO.up gu
      replace hO1 := gu _ _ hO1
      replace hO2 := gu _ _ hO2
      dsimp only at S
      have up2 := gu
      with_reducible refine r_cons ?_
      refine r_Expr ?_ (by kernel_rfl!) (by kernel_rfl!)
      refine r_mcall ?_ (by kernel_rfl!)
      walk_at "n"
      refine me_b (ga_OctetsOut _) (gt_OctetsOut _) (fm_OctetsOut_u16 _) (tm_OctetsOut_u16 _) gl_out_u16 (by assumption) (by assumption) (by assumption) ?_
      refine r_callK (by kernel_rfl!) (by with_reducible exact kp_f_OctetsOut_u16 _) ?_
      refine r_args_cons ?_ (by kernel_rfl!)
      refine wpR.any ?_
      walk_at "n"
      refine r_args_nil ?_
      refine And.intro (kinH (by assumption)) ?_
      refine c_out_u16 (n := n + 1) R' S.base S.sub hO (S.tu _ (.head _)).2.2.1 (S.muGet (.head _)) g3.1 g3.2 (by rw [Array.size_append, Array.size_append, List.size_toArray, List.size_toArray, List.size_toArray, w16_len, w16_len]; lia) fun b' h' t' G g' => ?_
      have gu := G.up
      replace S := S.call1 (t := t') G g'
      replace hO := hO.up gu
      replace hO1 := gu _ _ hO1
      replace hO2 := gu _ _ hO2
      dsimp only at S
      have up3 := gu
      with_reducible refine r_cons ?_
      refine r_AssignName ?_ (by kernel_rfl!)
      refine wpR.any ?_
      with_reducible refine wpAny_BinOp ?_
      with_reducible refine wpAny_BinOp ?_
      with_reducible refine wpAny_BinOp ?_
      walk_at "n"; walk_at "n"
      with_reducible refine add_int ?_
      walk_at "n"
      with_reducible refine sub_int ?_
      walk_at "i"
      with_reducible refine add_int ?_
      refine st_loc' (by assumption) (by rfl) rfl (by kernel_rfl!) (by kernel_rfl!) fun _ _ S => ?_
      with_reducible refine r_nil ?_
      have e : ((2 :: ((rangesOf gs).length : Int) :: spanNums 0 ((rangesOf gs).take i)).flatMap w16).toArray ++ (w16 g.1).toArray ++ (w16 g.2).toArray ++ (w16 (spanIdx ((rangesOf gs).take i) 0)).toArray = ((2 :: ((rangesOf gs).length : Int) :: spanNums 0 ((rangesOf gs).take (i + 1))).flatMap w16).toArray := by
        rw [e1]; simp
      rw [e] at S
      exact turnI (mu2 := [(ba, baO ((2 :: ((rangesOf gs).length : Int) :: spanNums 0 ((rangesOf gs).take (i + 1))).flatMap w16).toArray)]) rfl ⟨rfl, by walk_at "W look", _, by rw [e2]; walk_at "W look"⟩ (fun a o q => up3 _ _ (up2 _ _ (up1 _ _ (hb₄ _ _ q)))) S
    · intro b₄ m' mu' h₆ t₆ hx1 hb₄ S
      refine nay fun hG => ?_
      obtain ⟨rfl, m1, ti, m2⟩ := hx1
      refine hG ?_; clear hG
      rw [hyl, List.take_length] at S
      replace hO := hO.up hb₄
      replace hO1 := hb₄ _ _ hO1
      replace hO2 := hb₄ _ _ hO2
      with_reducible refine r_nil ?_
      with_reducible refine r_nil ?_
      with_reducible refine r_cons ?_
      refine r_Return ?_
      refine r_mcall ?_ (by kernel_rfl!)
      walk_at "n"
      refine me_b (ga_OctetsOut _) (gt_OctetsOut _) (fm_OctetsOut_octets _) (tm_OctetsOut_octets _) gl_out_octets (by assumption) (by assumption) (by assumption) ?_
      refine r_callK (by kernel_rfl!) (by with_reducible exact kp_f_OctetsOut_octets _) ?_
      refine r_args_nil ?_
      refine And.intro (kinH (by assumption)) ?_
      have hll := flat_w16_len (2 :: ((rangesOf gs).length : Int) :: spanNums 0 (rangesOf gs))
      simp only [List.length_cons, spanNums_len] at hll
      refine .any (c_out_octets (n := n + 1) R' S.base S.sub hO (S.tu _ (.head _)).2.2.1 (S.muGet (.head _)) (by rw [List.size_toArray]; lia) fun t b' h' t' G => ?_)
      replace S := S.call0 (t := t') G
      have e : ((2 :: ((rangesOf gs).length : Int) :: spanNums 0 (rangesOf gs)).flatMap w16).toArray = (covBytes gs).toArray := by unfold covBytes; rw [hcn]
      rw [e]
      exact k _ _ _ _ S.grow
end
-- RP
section
variable {w : World} {A : Around} {E : Value → Shared → Prop} {s s0 : Shared} {e : En} {b : PM} {L : Addr} {m : Str → Option Value} {mu : List (Addr × Obj)} {env : Env} {t0 : Nat} {Q : Value → Shared → Prop}
theorem codeR.call_cells {R : Result → Shared → Prop} {a : Addr} {o : Obj} {fd : FuncData} {body : List Stmt} {vals : List Value} {binds : List (Str × Value)}
    (hroom : A.depth < recursionLimit) (ho : s.heap.get? a = some o) (hdata : o.data = .func fd) (hlim : s.heap.NoLimit) (hcd : s.heap.CodeRec fd.code fd.qualname)
    (hbody : fd.body = .stmts body) (hbind : bindArgs fd ⟨vals, []⟩ = pure binds) (hclo : fd.closure = [])
    (hkind : ∀ x ∈ binds, fd.scope.names.lookup x.1 = some .local ∨ (fd.scope.names.lookup x.1 = some .cell ∧ ((cellsFrom (s.heap.objs.size + 1) fd.scope.names []).lookup x.1).isSome = true))
    (h : ∀ s₁, InCallC s (callEnvC fd s.heap.objs.size a).locals (bindL (callEnvC fd s.heap.objs.size a).kindOf binds fun _ => none) (callEnvC fd s.heap.objs.size a).cells
        (bindC (callEnvC fd s.heap.objs.size a).kindOf binds fun _ => none) s₁ →
      wpR w (A.deeper (callEnvC fd s.heap.objs.size a)) (execs body (callEnvC fd s.heap.objs.size a)) (fun f s' => R (.ok (.ret (match f with | .ret v => v | _ => .none))) s') (fun _ _ => False) s₁)
    (hco : fd.scope.isCoroutine = false) (hgen : fd.scope.isGenerator = false) (hk : fd.scope.kind = .function) :
    codeR w A (.call (.ref a) ⟨vals, []⟩) R s := by
  refine codeR.call_function hroom ho hdata hco hgen hbody hcd ?_
  rw [hbind, hclo]
  refine wpAny_pure (wpAny_newFunctionEnv_cells hk hkind fun env he s' x => ?_)
  subst he
  exact ⟨hlim.keeps x.toInCall.keep, codeR.func (h s' x)⟩
theorem enterCellR {f : Addr} {fd : FuncData} {body : List Stmt} {args : List Value} {binds lb : List (Str × Value)} {n : Nat} {x : Str} {v : Value}
    (R : Room A (n + 1)) (B : Base w b) (hs : ∀ a o, b a = some o → s.heap.get? a = some o) (mu : List (Addr × Obj)) (hm : ∀ p ∈ mu, s.heap.get? p.1 = some p.2 ∧ b p.1 = none) (nd : (mu.map (·.1)).Nodup)
    (hf : (K w.params).lookup f = some ⟨.type "function", none, .func fd, #[]⟩) (hc : codeIn (K w.params) fd.code fd.qualname = true) (hbody : fd.body = .stmts body) (hbind : bindArgs fd ⟨args, []⟩ = pure binds) (hclo : fd.closure = [])
    (hcs : ∀ L, cellsFrom (L + 1) fd.scope.names [] = [(x, L + 1)])
    (hkind : (binds.all fun y => decide (fd.scope.names.lookup y.1 = some .local) || (y.1 == x && decide (fd.scope.names.lookup x = some .cell))) = true)
    (hl : ∀ L, bindL (callEnvC fd L f).kindOf binds (fun _ => none) = extL lb fun _ => none) (hv : ∀ L, bindC (callEnvC fd L f).kindOf binds (fun _ => none) x = some v)
    (hco : fd.scope.isCoroutine = false) (hgen : fd.scope.isGenerator = false) (hk : fd.scope.kind = .function)
    (h : ∀ L h₁ t₁ b₁, L = s.heap.objs.size → (∀ a o, b a = some o → b₁ a = some o) → CellAt b₁ (L + 1) v → St w ⟨s.heap, b, mu.map (·.1)⟩ b₁ L (extL lb fun _ => none) mu { s with heap := h₁, toks := t₁ } → Room (A.deeper (callEnvC fd L f)) n →
      wpR w (A.deeper (callEnvC fd L f)) (execs body (callEnvC fd L f)) (fun fl s' => Q (match fl with | .ret v => v | _ => .none) s') (fun _ _ => False) { s with heap := h₁, toks := t₁ }) :
    wpR w A (call (.ref f) args) Q E s := by
  have X : (K w.params).In s.heap := B.kin hs
  refine wpR.call (codeR.call_cells R.limit (X _ _ hf) rfl (noLimit_of X) (codeRec_of X hc) hbody hbind hclo (fun y hy => ?_) (fun s₁ x₁ => ?_) hco hgen hk)
  · have := List.all_eq_true.mp hkind y hy
    rcases Bool.or_eq_true_iff.mp this with z | z
    · exact .inl (of_decide_eq_true z)
    · obtain ⟨z1, z2⟩ := Bool.and_eq_true_iff.mp z
      have z1 := beq_iff_eq.mp z1
      refine .inr ⟨by rw [z1]; exact of_decide_eq_true z2, ?_⟩
      rw [hcs, z1]; simp
  · have hcells : (callEnvC fd s.heap.objs.size f).cells = [(x, s.heap.objs.size + 1)] := hcs _
    have hloc : (callEnvC fd s.heap.objs.size f).locals = s.heap.objs.size := rfl
    rw [hl, hcells, hloc] at x₁
    refine nay fun hG => ?_
    obtain ⟨h₁, t₁, rfl⟩ := x₁.toInCall.same
    refine hG ?_; clear hG
    have cc := x₁.cell x (s.heap.objs.size + 1) (by simp)
    rw [hv] at cc
    refine nay fun hG => ?_
    obtain ⟨oc, gc, dc⟩ := cc
    refine hG ?_; clear hG
    have bn : ∀ a, s.heap.objs.size ≤ a → b a = none := fun a ha => by
      cases q : b a with
      | none => rfl
      | some o => exact absurd (Heap.lt_size (hs _ _ q)) (Nat.not_lt.mpr ha)
    have S : St w ⟨s.heap, b, mu.map (·.1)⟩ b s.heap.objs.size (extL lb fun _ => none) mu { s with heap := h₁, toks := t₁ } :=
      ⟨B, fun a o q => x₁.toInCall.keep a o (hs a o q), fun a o q => q, fun a o q => .inl q, fun a o q _ => x₁.toInCall.keep a o q, x₁.toInCall.ns, Nat.le_refl _, bn _ (Nat.le_refl _), fun p hp => ⟨x₁.toInCall.keep _ _ (hm p hp).1, Nat.ne_of_lt (Heap.lt_size (hm p hp).1), (hm p hp).2, .inl (List.mem_map_of_mem hp)⟩, nd⟩
    have S2 := S.put gc (Nat.ne_of_gt (Nat.lt_succ_self _)) (fun p hp => Nat.ne_of_lt (Nat.lt_succ_of_lt (Heap.lt_size (hm p hp).1))) (bn _ (Nat.le_succ _)) (Nat.le_succ _)
    exact h _ _ _ _ rfl (fun a o q => PM.put_le (bn _ (Nat.le_succ _)) _ q) ⟨oc, PM.put_self .., dc⟩ S2 R.deeper
theorem add_lst {l r : Addr} {xs ys : Array Value} {k k' : Nat} (S : St w e b L m mu { s0 with heap := s.heap, toks := t0 }) (hq : s = { s0 with heap := s.heap, toks := s.toks }) (hl : s.heap.get? l = some (listOf xs k)) (hr : s.heap.get? r = some (listOf ys k')) (hz : xs.size + ys.size ≤ 10000)
    (h : ∀ a h' t', e.h.objs.size ≤ a → St w e b L m ((a, listOf (xs ++ ys) 0) :: mu) { s0 with heap := h', toks := t' } → Q (.ref a) { s0 with heap := h', toks := t' }) : wpAny (model pw w) A (binaryOp .Add (.ref l) (.ref r)) Q E s := by
  refine P.add_list (n := k) (n2 := k') hl hr ?_ (by rw [sizeLine_eq]; lia)
  have S1 := S.pushM (listOf (xs ++ ys) 0) (t := s.toks)
  rw [hq]
  exact h _ _ _ S.size S1
theorem slc_lst {value slice : Expr} {l : Addr} {xs : Array Value} {k : Nat} {vl vu : Value} {lo hi : Option Int} (S : St w e b L m mu { s0 with heap := s.heap, toks := t0 }) (hq : s = { s0 with heap := s.heap, toks := s.toks }) (hl : s.heap.get? l = some (listOf xs k)) (pl : IsPart vl lo) (pu : IsPart vu hi) (hz : xs.size ≤ 10000)
    (hs : subscripted slice false (.ref l) (.ref s.heap.objs.size) = operate [.ref s.heap.objs.size, .ref l] (getItem (.ref l) (.ref s.heap.objs.size)))
    (h : ∀ a h' t', e.h.objs.size ≤ a → St w e b L m ((a, listOf (slicePick xs lo hi none) 0) :: mu) { s0 with heap := h', toks := t' } → Q (.ref a) { s0 with heap := h', toks := t' }) :
    wpAny (model pw w) A (subscriptTail value slice (.ref l) (.ref s.heap.objs.size)) Q E { s with heap := s.heap.push { cls := .type "slice", data := .fields #[vl, vu, .none] } } := by
  have g : (s.heap.push { cls := .type "slice", data := .fields #[vl, vu, .none] }).get? l = some (listOf xs k) := Heap.get?_push_of_some _ hl
  have hI : (s.heap.push { cls := .type "slice", data := .fields #[vl, vu, .none] }).IsList l xs := ⟨_, g, rfl, k, rfl⟩
  refine sub_of (T := "list") (s := { s with heap := s.heap.push { cls := .type "slice", data := .fields #[vl, vu, .none] } }) hI.typeIs slot_list_getitem.lookup (wpAny_getItem_list_slice hI (Heap.IsSliceOf.new _ _ _ _) pl pu .none (fun z => nomatch z) ?_ (by rw [sizeLine_eq]; lia)) hs
  have S0 : St w e b L m mu { s0 with heap := s.heap.push { cls := .type "slice", data := .fields #[vl, vu, .none] }, toks := t0 } := S.ext fun a o q => Heap.get?_push_of_some _ q
  have S1 := S0.pushM (listOf (slicePick xs lo hi none) 0) (t := s.toks)
  have z := h _ _ _ S0.size S1
  rw [hq]
  exact z
end
noncomputable def KV (kvs : List (Int × Value)) (mp : List (Int × Int)) : Prop := kvs.map (·.1) = mp.map (·.1) ∧ All2 IsI (kvs.map (·.2)) (mp.map (·.2))
noncomputable def MapO (w : World) (b : PM) (v : Value) (mp : List (Int × Int)) : Prop := ∃ d o kvs, v = .ref d ∧ 465 < d ∧ b d = some o ∧ DictO (intKind pw w) kvs o ∧ KV kvs mp
theorem MapO.up {w : World} {b b' : PM} {v : Value} {mp : List (Int × Int)} (h : MapO w b v mp) (hb : ∀ a o, b a = some o → b' a = some o) : MapO w b' v mp := by
  refine nay fun hG => ?_
  obtain ⟨d, o, kvs, e, h1, h2, h3⟩ := h
  refine hG ?_; clear hG
  exact ⟨d, o, kvs, e, h1, hb _ _ h2, h3⟩
noncomputable def Rev (w : World) (b : PM) (v : Value) (mp : List (Int × Int)) (back ahead : List (List Int)) : Prop :=
  ∃ x dx t1 mv t2 bv t3 av n, v = .ref x ∧ b x = some (instObj 412 dx) ∧ b dx = some (dictOf (dRev w.params t1 mv t2 bv t3 av) n) ∧ MapO w b mv mp ∧ TupOf b (Cov w.params b) bv back ∧ TupOf b (Cov w.params b) av ahead
theorem Rev.up {w : World} {b b' : PM} {v : Value} {mp : List (Int × Int)} {back ahead : List (List Int)} (h : Rev w b v mp back ahead) (hb : ∀ a o, b a = some o → b' a = some o) : Rev w b' v mp back ahead := by
  refine nay fun hG => ?_
  obtain ⟨x, dx, t1, mv, t2, bv, t3, av, n, e, h1, h2, h3, h4, h5⟩ := h
  refine hG ?_; clear hG
  exact ⟨x, dx, t1, mv, t2, bv, t3, av, n, e, hb _ _ h1, hb _ _ h2, h3.up hb, h4.mono hb fun _ _ z => z.up hb, h5.mono hb fun _ _ z => z.up hb⟩
theorem KV.at {kvs : List (Int × Value)} {mp : List (Int × Int)} (h : KV kvs mp) (hn : (mp.map (·.1)).Nodup) {x : Int × Int} (hx : x ∈ mp) : ∃ v, valueAt kvs x.1 = some v ∧ IsI v x.2 := by
  refine nay fun hG => ?_
  obtain ⟨i, hi⟩ := List.mem_iff_getElem?.mp hx
  obtain ⟨v, hv, hI⟩ := h.2.get' (i := i) (x := x.2) (by rw [List.getElem?_map, hi]; rfl)
  refine hG ?_; clear hG
  rw [List.getElem?_map, Option.map_eq_some_iff] at hv
  refine nay fun hG => ?_
  obtain ⟨kv, hkv, rfl⟩ := hv
  refine hG ?_; clear hG
  have hk : kv.1 = x.1 := by
    have h1 := congrArg (·[i]?) h.1
    simp only [List.getElem?_map, hkv, hi, Option.map_some] at h1
    exact Option.some.inj h1
  refine ⟨kv.2, ?_, hI⟩
  have := valueAt_of_get (kvs := kvs) (by rw [h.1]; exact hn) (k := kv.1) (v := kv.2) hkv
  rw [hk] at this
  exact this
-- XH
section
variable {w : World} {A : Around} {E : Value → Shared → Prop} {s : Shared} {b : PM} {n : Nat} {d : Array UInt8} {Q : Value → Shared → Prop}
theorem c_put_counted {x ba : Addr} {v : Value} {xs : List Int} (R : Room A (n + 5)) (B : Base w b) (hs : ∀ a o, b a = some o → s.heap.get? a = some o)
    (hO : OutAt w.params b x ba) (hb : b ba = none) (hd : s.heap.get? ba = some (baO d)) (hv : ListOf b IsI v xs) (h0 : ∀ x ∈ xs, 0 ≤ x ∧ x < 65536) (hz : d.size ≤ 40000) (hl : xs.length ≤ 1000)
    (k : ∀ b' h' t', Grow b b' s.heap h' [ba] → h'.get? ba = some (baO (d ++ (((xs.length : Int) :: xs).flatMap w16).toArray)) → Q .none { s with heap := h', toks := t' }) :
    wpR w A (call (.ref 390) [.ref x, v]) Q E s := by
  refine nay fun hG => ?_
  obtain ⟨D, vs, kk, rfl, hD, hvs⟩ := hv
  refine hG ?_; clear hG
  have hvl : vs.size = xs.length := by have := hvs.length; simpa using this
  refine inR_put_counted (body := _) rfl R B hs _ (one_mu hd hb) one_nd ?_
  intro L h₁ t₁ hL S R'
  dsimp only [extL] at S
  refine nay fun hG => ?_
  obtain ⟨dx, t, nn, hx, hdx⟩ := id hO
  refine hG ?_; clear hG
  with_reducible refine r_cons ?_
  refine r_Expr ?_ (by kernel_rfl!) (by kernel_rfl!)
  refine r_mcall ?_ (by kernel_rfl!)
  walk_at "n"
  refine me_b (ga_OctetsOut _) (gt_OctetsOut _) (fm_OctetsOut_u16 _) (tm_OctetsOut_u16 _) gl_out_u16 (by assumption) (by assumption) (by assumption) ?_
  refine r_callK (by kernel_rfl!) (by with_reducible exact kp_f_OctetsOut_u16 _) ?_
  refine r_args_cons ?_ (by kernel_rfl!)
  refine r_Call ?_ (by kernel_rfl!)
  refine n_len (by assumption) (by kernel_rfl!) (by kernel_rfl!) (by kernel_rfl!) (by kernel_rfl!) ?_
  refine r_callBi (by kernel_rfl!) ?_
  refine r_args_cons ?_ (by kernel_rfl!)
  refine wpR.any ?_
  walk_at "n"
  refine r_args_nil ?_
  refine .any (len_lst (S.get hD) (by lia) ?_)
  rw [hvl]
  refine r_args_nil ?_
  refine And.intro (kinH (by assumption)) ?_
  refine c_out_u16 (n := n) R' S.base S.sub hO (S.tu _ (.head _)).2.2.1 (S.muGet (.head _)) (by lia) (by lia) (by lia) fun b' h' t' G g => ?_
  have gu := G.up
  replace S := S.call1 (t := t') G g
  dsimp only at S
  replace hO := hO.up gu
  replace hx := gu _ _ hx
  replace hdx := gu _ _ hdx
  replace hD := gu _ _ hD
  with_reducible refine r_cons ?_
  refine r_Expr ?_ (by kernel_rfl!) (by kernel_rfl!)
  refine r_mcall ?_ (by kernel_rfl!)
  walk_at "n"
  refine me_b (ga_OctetsOut _) (gt_OctetsOut _) (fm_OctetsOut_rows _) (tm_OctetsOut_rows _) gl_out_rows (by assumption) (by assumption) (by assumption) ?_
  refine r_callK (by kernel_rfl!) (by with_reducible exact kp_f_OctetsOut_rows _) ?_
  refine r_args_cons ?_ (by kernel_rfl!)
  refine wpR.any ?_
  walk_at "n"
  refine r_args_nil ?_
  refine And.intro (kinH (by assumption)) ?_
  refine c_out_rows (n := n) R' S.base S.sub hO (S.tu _ (.head _)).2.2.1 (S.muGet (.head _)) ⟨D, vs, kk, rfl, hD, hvs⟩ h0 (by rw [Array.size_append]; show d.size + 2 ≤ _; lia) hl fun b' h' t' G g => ?_
  replace S := S.call1 (t := t') G g
  with_reducible refine r_nil ?_
  have e : d ++ (w16 (xs.length : Int)).toArray ++ (xs.flatMap w16).toArray = d ++ (((xs.length : Int) :: xs).flatMap w16).toArray := by simp
  rw [e] at S
  exact k _ _ _ S.grow (S.muGet (.head _))
end
-- XI
theorem laid_bound (begin : Int) (ps : List (List UInt8)) : ∀ o ∈ (laidF begin ps).1, begin ≤ o ∧ o ≤ begin + (laidF begin ps).2.2.length := by
  have key : ∀ (ps : List (List UInt8)) (st : LaidSt), (∀ o ∈ st.1, begin ≤ o ∧ o ≤ begin + st.2.2.length) → (∀ x ∈ st.2.1, begin ≤ x.2 ∧ x.2 ≤ begin + st.2.2.length) →
      ∀ o ∈ (ps.foldl (laidStep begin) st).1, begin ≤ o ∧ o ≤ begin + (ps.foldl (laidStep begin) st).2.2.length := by
    intro ps
    induction ps with
    | nil => intro st h _; exact h
    | cons p ps ih =>
      intro st h1 h2
      rw [List.foldl_cons]
      refine ih _ ?_ ?_
      · unfold laidStep
        split
        · rename_i o ho
          intro o' ho'
          rcases List.mem_append.mp ho' with z | z
          · exact h1 o' z
          · rw [List.mem_singleton.mp z]
            unfold place? at ho
            rw [Option.map_eq_some_iff] at ho
            refine nay fun hG => ?_
            obtain ⟨x, hx, rfl⟩ := ho
            refine hG ?_; clear hG
            exact h2 x (List.mem_of_find?_eq_some hx)
        · intro o' ho'
          simp only [List.length_append] at *
          rcases List.mem_append.mp ho' with z | z
          · have := h1 o' z; lia
          · rw [List.mem_singleton.mp z]; lia
      · unfold laidStep
        split
        · exact h2
        · intro x hx
          simp only [List.length_append] at *
          rcases List.mem_append.mp hx with z | z
          · have := h2 x z; lia
          · rw [List.mem_singleton.mp z]; dsimp only; lia
  exact key ps ([], [], []) (fun _ h => nomatch h) (fun _ h => nomatch h)
theorem sum_le (ps : List (List UInt8)) (c : Nat) (h : ∀ p ∈ ps, p.length ≤ c) : (ps.map (·.length)).sum ≤ c * ps.length := by
  induction ps with
  | nil => simp
  | cons p ps ih =>
    have h1 := h p (.head _)
    have h2 := ih fun q hq => h q (.tail _ hq)
    simp only [List.map_cons, List.sum_cons, List.length_cons, Nat.mul_add, Nat.mul_one]
    lia
theorem covBytes_len (gs : List Int) (h : gs.length < 20) : (covBytes gs).length ≤ 124 := by
  unfold covBytes
  rw [flat_w16_len]
  unfold covNums
  have := rangesOf_len gs
  split
  · simp only [List.length_cons]; lia
  · simp only [List.length_cons, spanNums_len]; lia
theorem sub_dict2 {w : World} {A : Around} {E : Value → Shared → Prop} {s s0 : Shared} {e : En} {b : PM} {L : Addr} {m : Str → Option Value} {mu : List (Addr × Obj)} {t0 : Nat} {Q : Value → Shared → Prop} {κ : Type} [DecidableEq κ] {knd : KeyKind pw w κ} {kvs : List (κ × Value)} {kk : κ} {key : Value} {value slice : Expr} {ops : List Value} {a : Addr} {o : Obj} {v : Value}
    (S : St w e b L m mu { s0 with heap := s.heap, toks := t0 }) (hq : s = { s0 with heap := s.heap, toks := s.toks }) (D : DictO knd kvs o) (g : (a, o) ∈ mu ∨ b a = some o) (hk : knd.is kk key = true) (hv : valueAt kvs kk = some v)
    (hs : subscripted slice false (.ref a) key = operate ops (getItem (.ref a) key)) (h : ∀ t', Q v { s0 with heap := s.heap, toks := t' }) : wpAny (model pw w) A (subscriptTail value slice (.ref a) key) Q E s := by
  have gg : s.heap.get? a = some o := g.elim (fun g => S.muGet g) fun g => S.get g
  exact sub_of (D.of gg).typeIs slot_dict_getitem.lookup (d_get S hq D g hk hv h) hs
noncomputable def val (mp : List (Int × Int)) (k : Int) : Int := ((mp.find? fun x => x.1 = k).map (·.2)).getD 0
noncomputable def revKeys (mp : List (Int × Int)) : List Int := isort (mp.map (·.1))
noncomputable def revCovs (mp : List (Int × Int)) (back ahead : List (List Int)) : List (List Int) := [gset (revKeys mp)] ++ back ++ ahead
noncomputable def revBegin (mp : List (Int × Int)) (back ahead : List (List Int)) : Int := 10 + 2 * ((back.length : Int) + ahead.length + (revKeys mp).length)
noncomputable def revLaid (mp : List (Int × Int)) (back ahead : List (List Int)) : LaidSt := laidF (revBegin mp back ahead) ((revCovs mp back ahead).map covBytes)
noncomputable def revNums (mp : List (Int × Int)) (back ahead : List (List Int)) : List Int :=
  [1, (revLaid mp back ahead).1.headD 0] ++ ((back.length : Int) :: ((revLaid mp back ahead).1.drop 1).take back.length) ++ ((ahead.length : Int) :: (revLaid mp back ahead).1.drop (1 + back.length)) ++ (((revKeys mp).length : Int) :: (revKeys mp).map (val mp))
noncomputable def revBytes (mp : List (Int × Int)) (back ahead : List (List Int)) : List UInt8 := (revNums mp back ahead).flatMap w16 ++ (revLaid mp back ahead).2.2
theorem KV.val {kvs : List (Int × Value)} {mp : List (Int × Int)} (h : KV kvs mp) (hn : (mp.map (·.1)).Nodup) {k : Int} (hk : k ∈ mp.map (·.1)) : ∃ v, valueAt kvs k = some v ∧ IsI v (val mp k) := by
  refine nay fun hG => ?_
  obtain ⟨x, hx, rfl⟩ := List.mem_map.mp hk
  refine hG ?_; clear hG
  obtain ⟨y, hy⟩ : ∃ y, mp.find? (fun z => z.1 = x.1) = some y := by
    cases q : mp.find? (fun z => z.1 = x.1) with
    | some y => exact ⟨y, rfl⟩
    | none => exact absurd (by simp) (List.find?_eq_none.mp q x hx)
  have hy1 : y.1 = x.1 := by simpa using List.find?_some hy
  refine nay fun hG => ?_
  obtain ⟨v, hv, hI⟩ := h.at hn (List.mem_of_find?_eq_some hy)
  refine hG ?_; clear hG
  refine ⟨v, by rw [← hy1]; exact hv, ?_⟩
  unfold Mine.val
  rw [hy]
  exact hI
section
variable {w : World} {A : Around} {E : Value → Shared → Prop} {s : Shared} {b : PM} {n : Nat} {Q : Value → Shared → Prop}
theorem inR_write_reverse {k : Nat} {body : List Stmt} {x0 : Value} (hbody : f_write_reverse.body = .stmts body)
    (R : Room A (k + 1)) (B : Base w b) (hs : ∀ a o, b a = some o → s.heap.get? a = some o) (mu : List (Addr × Obj)) (hm : ∀ p ∈ mu, s.heap.get? p.1 = some p.2 ∧ b p.1 = none) (nd : (mu.map (·.1)).Nodup)
    (h : ∀ L h₁ t₁ b₁, L = s.heap.objs.size → (∀ a o, b a = some o → b₁ a = some o) → CellAt b₁ (L + 1) x0 → St w ⟨s.heap, b, mu.map (·.1)⟩ b₁ L (extL [] fun _ => none) mu { s with heap := h₁, toks := t₁ } → Room (A.deeper (callEnvC f_write_reverse L 428)) k →
      wpR w (A.deeper (callEnvC f_write_reverse L 428)) (execs body (callEnvC f_write_reverse L 428)) (fun fl s' => Q (match fl with | .ret v => v | _ => .none) s') (fun _ _ => False) { s with heap := h₁, toks := t₁ }) :
    wpR w A (call (.ref 428) [x0]) Q E s :=
  enterCellR R B hs mu hm nd (lk_write_reverse _) (cd_write_reverse _) hbody (binds := [("table", x0)]) (by kernel_rfl!) (by kernel_rfl!) (x := "table") (by intro L; kernel_rfl!) (by kernel_rfl!) (by intro L; kernel_rfl!) (by intro L; kernel_rfl!) (by kernel_rfl!) (by kernel_rfl!) (by kernel_rfl!) h
theorem c_write_reverse {v : Value} {mp : List (Int × Int)} {back ahead : List (List Int)} (R : Room A (n + 8)) (B : Base w b) (hs : ∀ a o, b a = some o → s.heap.get? a = some o) (hv : Rev w b v mp back ahead)
    (hnd : (mp.map (·.1)).Nodup) (hml : mp.length ≤ 20) (hbl : back.length ≤ 10) (hal : ahead.length ≤ 10) (hcov : ∀ gs ∈ revCovs mp back ahead, gs.length < 20 ∧ ∀ x ∈ covNums gs, 0 ≤ x ∧ x < 65536) (hval : ∀ k ∈ revKeys mp, 0 ≤ val mp k ∧ val mp k < 65536)
    (k : ∀ t b' h' t', Grow b b' s.heap h' [] → Q (.bytes (revBytes mp back ahead).toArray t) { s with heap := h', toks := t' }) : wpR w A (call (.ref 428) [v]) Q E s := by
  refine nay fun hG => ?_
  obtain ⟨x, dx, t1, mv, t2, bv, t3, av, nn, rfl, hx, hdx, hmp, hbk, hah⟩ := hv
  obtain ⟨d, od, kvs, rfl, hd5, hd, hDO, hKV⟩ := hmp
  obtain ⟨TB, vb, rfl, hTB, hvb⟩ := hbk
  obtain ⟨TA, va, rfl, hTA, hva⟩ := hah
  refine hG ?_; clear hG
  have hkl : kvs.length = mp.length := by have := congrArg List.length hKV.1; simpa using this
  refine inR_write_reverse (body := _) rfl R B hs [] (fun _ h => bbot h) List.nodup_nil ?_
  intro L h₁ t₁ b₁ hL hup hC S R'
  dsimp only [extL] at S
  replace hx := hup _ _ hx
  replace hdx := hup _ _ hdx
  replace hd := hup _ _ hd
  replace hTB := hup _ _ hTB
  replace hTA := hup _ _ hTA
  replace hvb := hvb.mono fun _ _ z => z.up hup
  replace hva := hva.mono fun _ _ z => z.up hup
  -- GEN
  with_reducible refine r_cons ?_
  refine r_AssignName ?_ (by kernel_rfl!)
  refine r_Call ?_ (by kernel_rfl!)
  refine n_sorted (by assumption) (by kernel_rfl!) (by kernel_rfl!) (by kernel_rfl!) (by kernel_rfl!) ?_
  refine r_callBi (by kernel_rfl!) ?_
  refine r_args_cons ?_ (by kernel_rfl!)
  refine wpR.any ?_
  refine Attribute_any_ ?_ (by kernel_rfl!)
  refine n_cell (by assumption) (by assumption) (by kernel_rfl!) (by kernel_rfl!) (by kernel_rfl!) (by kernel_rfl!) ?_
  refine at_b (ga_Reverse _) (hd_Reverse _) (fa_Reverse_mapping _) gl_mapping (by assumption) (by rfl) (by assumption) (by assumption) (by first | rfl | assumption) ?_; intro _
  refine r_args_nil ?_
  rename St _ _ _ _ _ _ _ => S
  refine .any (srt_dict (kvs := kvs) R'.hd S (by rfl) hDO (S.get hd) hd5 (by lia) fun Dg b₂ h₂ t₂ up hgl S => ?_)
  rw [hKV.1] at hgl
  change ListOf b₂ IsI (.ref Dg) (revKeys mp) at hgl
  replace hx := up _ _ hx
  replace hdx := up _ _ hdx
  replace hd := up _ _ hd
  replace hTB := up _ _ hTB
  replace hTA := up _ _ hTA
  replace hvb := hvb.mono fun _ _ z => z.up up
  replace hva := hva.mono fun _ _ z => z.up up
  replace hC := hC.up up
  have hkeys : (revKeys mp).length = mp.length := by unfold revKeys; rw [(isort_perm _).length_eq, List.length_map]
  refine st_loc' (by assumption) (by rfl) rfl (by kernel_rfl!) (by kernel_rfl!) fun _ _ S => ?_
  with_reducible refine r_cons ?_
  refine r_AssignName ?_ (by kernel_rfl!)
  refine wpR.any ?_
  with_reducible refine wpAny_BinOp ?_
  with_reducible refine wpAny_BinOp ?_
  refine PyProof.Rows.List_ ?_
  walk_at "c"; walk_at "f"
  refine n_coverage_of (by assumption) (by kernel_rfl!) (by kernel_rfl!) (by kernel_rfl!) ?_
  refine callWith_K (kinH (by assumption)) (by with_reducible exact kp_f_coverage_of _) ?_ (by kernel_rfl!) (by kernel_rfl!)
  walk_at "c"; walk_at "n"
  refine args_nil ?_
  refine And.intro (kinH (by assumption)) ?_
  refine c_coverage_of (n := n + 3) R' S.base S.sub hgl (by lia) fun cv b₃ h₃ t₃ G hcv => ?_
  have gu := G.up
  replace S := S.call0 (t := t₃) G
  dsimp only at S
  replace hx := gu _ _ hx
  replace hdx := gu _ _ hdx
  replace hd := gu _ _ hd
  replace hTB := gu _ _ hTB
  replace hTA := gu _ _ hTA
  replace hvb := hvb.mono fun _ _ z => z.up gu
  replace hva := hva.mono fun _ _ z => z.up gu
  replace hC := hC.up gu
  replace hgl := hgl.up gu
  refine args_nil ?_
  refine new_lst S (by rfl) (Nat.le_of_ble_eq_true rfl) fun l0 h₄ t₄ hl0 _ S => ?_
  refine S.frzK hl0 fun b₄ up4 gl0 S => ?_
  replace hx := up4 _ _ hx
  replace hdx := up4 _ _ hdx
  replace hd := up4 _ _ hd
  replace hTB := up4 _ _ hTB
  replace hTA := up4 _ _ hTA
  replace hvb := hvb.mono fun _ _ z => z.up up4
  replace hva := hva.mono fun _ _ z => z.up up4
  replace hC := hC.up up4
  replace hgl := hgl.up up4
  replace hcv := hcv.up up4
  walk_at "f"
  refine n_list (by assumption) (by kernel_rfl!) (by kernel_rfl!) (by kernel_rfl!) (by kernel_rfl!) ?_
  refine PyProof.Rows.callWith_type1 ?_ (by kernel_rfl!) (by kernel_rfl!)
  walk_at "c"
  refine Attribute_any_ ?_ (by kernel_rfl!)
  refine n_cell (by assumption) (by assumption) (by kernel_rfl!) (by kernel_rfl!) (by kernel_rfl!) (by kernel_rfl!) ?_
  refine at_b (ga_Reverse _) (hd_Reverse _) (fa_Reverse_back _) gl_back (by assumption) (by rfl) (by assumption) (by assumption) (by first | rfl | assumption) ?_; intro _
  refine args_nil ?_
  rename St _ _ _ _ _ _ _ => S
  refine lst_seq (P := Cov w.params b₄) (xs := back) S (by rfl) (.inr rfl) (S.get hTB) rfl rfl (by have := hvb.length; simp at this; lia) fun l1 k1 h₅ t₅ hl1 S => ?_
  refine S.frzK hl1 fun b₅ up5 gl1 S => ?_
  replace hx := up5 _ _ hx
  replace hdx := up5 _ _ hdx
  replace hd := up5 _ _ hd
  replace hTB := up5 _ _ hTB
  replace hTA := up5 _ _ hTA
  replace gl0 := up5 _ _ gl0
  replace hvb := hvb.mono fun _ _ z => z.up up5
  replace hva := hva.mono fun _ _ z => z.up up5
  replace hC := hC.up up5
  replace hgl := hgl.up up5
  replace hcv := hcv.up up5
  refine add_lst S (by rfl) (S.get gl0) (S.get gl1) (by have := hvb.length; simp at this; simp; lia) fun l2 h₆ t₆ hl2 S => ?_
  refine S.frzK hl2 fun b₆ up6 gl2 S => ?_
  replace hx := up6 _ _ hx
  replace hdx := up6 _ _ hdx
  replace hd := up6 _ _ hd
  replace hTB := up6 _ _ hTB
  replace hTA := up6 _ _ hTA
  replace hvb := hvb.mono fun _ _ z => z.up up6
  replace hva := hva.mono fun _ _ z => z.up up6
  replace hC := hC.up up6
  replace hgl := hgl.up up6
  replace hcv := hcv.up up6
  walk_at "f"
  refine n_list (by assumption) (by kernel_rfl!) (by kernel_rfl!) (by kernel_rfl!) (by kernel_rfl!) ?_
  refine PyProof.Rows.callWith_type1 ?_ (by kernel_rfl!) (by kernel_rfl!)
  walk_at "c"
  refine Attribute_any_ ?_ (by kernel_rfl!)
  refine n_cell (by assumption) (by assumption) (by kernel_rfl!) (by kernel_rfl!) (by kernel_rfl!) (by kernel_rfl!) ?_
  refine at_b (ga_Reverse _) (hd_Reverse _) (fa_Reverse_ahead _) gl_ahead (by assumption) (by rfl) (by assumption) (by assumption) (by first | rfl | assumption) ?_; intro _
  refine args_nil ?_
  rename St _ _ _ _ _ _ _ => S
  refine lst_seq (P := Cov w.params b₆) (xs := ahead) S (by rfl) (.inr rfl) (S.get hTA) rfl rfl (by have := hva.length; simp at this; lia) fun l3 k3 h₇ t₇ hl3 S => ?_
  refine S.frzK hl3 fun b₇ up7 gl3 S => ?_
  replace hx := up7 _ _ hx
  replace hdx := up7 _ _ hdx
  replace hd := up7 _ _ hd
  replace hTB := up7 _ _ hTB
  replace hTA := up7 _ _ hTA
  replace gl2 := up7 _ _ gl2
  replace hvb := hvb.mono fun _ _ z => z.up up7
  replace hva := hva.mono fun _ _ z => z.up up7
  replace hC := hC.up up7
  replace hgl := hgl.up up7
  replace hcv := hcv.up up7
  refine add_lst S (by rfl) (S.get gl2) (S.get gl3) (by have h1 := hvb.length; have h2 := hva.length; simp at h1 h2; simp; lia) fun l4 h₈ t₈ hl4 S => ?_
  refine S.frzK hl4 fun b₈ up8 gl4 S => ?_
  replace hx := up8 _ _ hx
  replace hdx := up8 _ _ hdx
  replace hd := up8 _ _ hd
  replace hTB := up8 _ _ hTB
  replace hTA := up8 _ _ hTA
  replace hvb := hvb.mono fun _ _ z => z.up up8
  replace hva := hva.mono fun _ _ z => z.up up8
  replace hC := hC.up up8
  replace hgl := hgl.up up8
  replace hcv := hcv.up up8
  refine st_loc' (by assumption) (by rfl) rfl (by kernel_rfl!) (by kernel_rfl!) fun _ _ S => ?_
  with_reducible refine r_cons ?_
  refine r_AssignName ?_ (by kernel_rfl!)
  refine wpR.any ?_
  with_reducible refine wpAny_BinOp ?_
  walk_at "i"
  with_reducible refine wpAny_BinOp ?_
  walk_at "i"
  with_reducible refine wpAny_BinOp ?_
  with_reducible refine wpAny_BinOp ?_
  walk_at "f"
  refine n_len (by assumption) (by kernel_rfl!) (by kernel_rfl!) (by kernel_rfl!) (by kernel_rfl!) ?_
  refine PyProof.Rows.callWith_builtin1 ?_ (by kernel_rfl!) (by kernel_rfl!)
  walk_at "c"
  refine Attribute_any_ ?_ (by kernel_rfl!)
  refine n_cell (by assumption) (by assumption) (by kernel_rfl!) (by kernel_rfl!) (by kernel_rfl!) (by kernel_rfl!) ?_
  refine at_b (ga_Reverse _) (hd_Reverse _) (fa_Reverse_back _) gl_back (by assumption) (by rfl) (by assumption) (by assumption) (by first | rfl | assumption) ?_; intro _
  refine args_nil ?_
  rename St _ _ _ _ _ _ _ => S
  have hvbl : vb.size = back.length := by have := hvb.length; simpa using this
  have hval' : va.size = ahead.length := by have := hva.length; simpa using this
  refine nay fun hG => ?_
  obtain ⟨Dg', vg, kg, eg, hDg, hvg⟩ := hgl
  refine hG ?_; clear hG
  cases eg
  have hvgl : vg.size = (revKeys mp).length := by have := hvg.length; simpa using this
  refine len_tup (S.get hTB) (by lia) ?_
  walk_at "f"
  refine n_len (by assumption) (by kernel_rfl!) (by kernel_rfl!) (by kernel_rfl!) (by kernel_rfl!) ?_
  refine PyProof.Rows.callWith_builtin1 ?_ (by kernel_rfl!) (by kernel_rfl!)
  walk_at "c"
  refine Attribute_any_ ?_ (by kernel_rfl!)
  refine n_cell (by assumption) (by assumption) (by kernel_rfl!) (by kernel_rfl!) (by kernel_rfl!) (by kernel_rfl!) ?_
  refine at_b (ga_Reverse _) (hd_Reverse _) (fa_Reverse_ahead _) gl_ahead (by assumption) (by rfl) (by assumption) (by assumption) (by first | rfl | assumption) ?_; intro _
  refine args_nil ?_
  rename St _ _ _ _ _ _ _ => S
  refine len_tup (S.get hTA) (by lia) ?_
  with_reducible refine add_int ?_
  walk_at "f"
  refine n_len (by assumption) (by kernel_rfl!) (by kernel_rfl!) (by kernel_rfl!) (by kernel_rfl!) ?_
  refine PyProof.Rows.callWith_builtin1 ?_ (by kernel_rfl!) (by kernel_rfl!)
  walk_at "c"; walk_at "n"
  refine args_nil ?_
  refine len_lst (S.get hDg) (by lia) ?_
  rw [hvbl, hval', hvgl]
  with_reducible refine add_int ?_
  with_reducible refine mul_int ?_ (mulok (by lia) (by lia))
  with_reducible refine add_int ?_
  refine st_loc' (by assumption) (by rfl) rfl (by kernel_rfl!) (by kernel_rfl!) fun _ _ S => ?_
  with_reducible refine r_cons ?_
  have hbeg : (10 : Int) + 2 * (↑back.length + ↑ahead.length + ↑(revKeys mp).length) = revBegin mp back ahead := rfl
  rw [hbeg] at S
  have hcs : All2 (Cov w.params b₈) (([cv].toArray ++ vb) ++ va).toList (revCovs mp back ahead) := by
    simp only [Array.toList_append]
    exact ((All2.cons hcv .nil).append hvb).append hva
  have hcl : (revCovs mp back ahead).length = 1 + back.length + ahead.length := by unfold revCovs; simp; lia
  refine nay fun hG => ?_
  obtain ⟨cvs, gl4, hcs⟩ : ∃ cvs, b₈ l4 = some (listOf cvs 0) ∧ All2 (Cov w.params b₈) cvs.toList (revCovs mp back ahead) := ⟨_, gl4, hcs⟩
  refine hG ?_; clear hG
  have hcvl : cvs.size = (revCovs mp back ahead).length := by have := hcs.length; simpa using this
  refine r_AssignTuple ?_ (by kernel_rfl!)
  refine r_Call ?_ (by kernel_rfl!)
  refine n_laid (by assumption) (by kernel_rfl!) (by kernel_rfl!) (by kernel_rfl!) ?_
  refine r_callK (by kernel_rfl!) (by with_reducible exact kp_f_laid _) ?_
  refine r_args_cons ?_ (by kernel_rfl!)
  refine wpR.any ?_
  walk_at "n"
  refine r_args_cons ?_ (by kernel_rfl!)
  refine lcompR (cl := []) (by intro _; kernel_rfl!) (by kernel_rfl!) (by kernel_rfl!) (by decide +kernel) ?_
  walk_at "n"
  rename St _ _ _ _ _ _ _ => S
  refine it_list R'.hd S (by rfl) gl4 fun I oI h₉ t₉ W S => ?_
  refine comp_srcR W S (by lia) (by decide) rfl (by kernel_rfl!) (fun i b₉ mu ys => mu = [] ∧ All2 IsB ys.toList ((((revCovs mp back ahead).map covBytes).map (·.toArray)).take i)) ⟨rfl, .nil⟩ ?_ ?_
  · rintro i v b₉ mC mu ys tl h₉ t₉ C hi hv ⟨rfl, hy⟩ hb₉ S
    refine nay fun hG => ?_
    obtain ⟨gs, hgs, hcg⟩ := hcs.get (by rw [Array.getElem?_toList]; exact hv)
    refine hG ?_; clear hG
    have hcc := hcov gs (List.mem_of_getElem? hgs)
    replace hcg := hcg.up hb₉
    refine r_Call ?_ (by kernel_rfl!)
    refine n_write_coverage (by assumption) (by kernel_rfl!) (by kernel_rfl!) (by kernel_rfl!) ?_
    refine r_callK (by kernel_rfl!) (by with_reducible exact kp_f_write_coverage _) ?_
    refine r_args_cons ?_ (by kernel_rfl!)
    refine wpR.any ?_
    walk_at "n"
    refine r_args_nil ?_
    refine And.intro (kinH (by assumption)) ?_
    rename St _ _ _ _ _ _ _ => S
    refine c_write_cov (n := n + 1) R' S.base S.sub hcg (by lia) hcc.2 fun t b' h' t' G => ?_
    replace S := S.call0 (t := t') G
    refine turnI (b2 := b') (mu2 := []) rfl ⟨rfl, ?_⟩ (fun a o q => G.up _ _ (hb₉ _ _ q)) S
    rw [Array.toList_push]
    exact hy.push_take (by rw [List.getElem?_map, List.getElem?_map, hgs]; rfl) (IsB.mk t)
  rintro b₉ mu ys kk D h₉ t₉ hys ⟨rfl, hy⟩ hb₉ S hD
  rw [List.take_of_length_le (by simp [hcvl])] at hy
  refine S.frzK hD fun b₁₀ up10 gD S => ?_
  have up9 : ∀ a o, b₈ a = some o → b₁₀ a = some o := fun a o q => up10 _ _ (hb₉ _ _ q)
  replace hx := up9 _ _ hx
  replace hdx := up9 _ _ hdx
  replace hd := up9 _ _ hd
  replace hTB := up9 _ _ hTB
  replace hTA := up9 _ _ hTA
  replace hDg := up9 _ _ hDg
  replace hvb := hvb.mono fun _ _ z => z.up up9
  replace hva := hva.mono fun _ _ z => z.up up9
  replace hC := hC.up up9
  refine r_args_nil ?_
  refine And.intro (kinH (by assumption)) ?_
  have hsum := sum_le ((revCovs mp back ahead).map covBytes) 124 (fun p hp => by
    refine nay fun hG => ?_
    obtain ⟨gs, hgs, rfl⟩ := List.mem_map.mp hp
    refine hG ?_; clear hG
    exact covBytes_len gs (hcov gs hgs).1)
  rw [List.length_map, hcl] at hsum
  have hbg : revBegin mp back ahead ≤ 90 ∧ 0 ≤ revBegin mp back ahead := by unfold revBegin; lia
  refine c_laid (n := n + 4) R' S.base S.sub ⟨D, ys, kk, rfl, gD, hy⟩ hbg.2 (by lia) (by rw [List.length_map, hcl]; lia) fun T O to b₁₁ h₁₁ t₁₁ G hT hOl => ?_
  have gu := G.up
  replace S := S.call0 (t := t₁₁) G
  dsimp only at S
  replace hx := gu _ _ hx
  replace hdx := gu _ _ hdx
  replace hd := gu _ _ hd
  replace hTB := gu _ _ hTB
  replace hTA := gu _ _ hTA
  replace hDg := gu _ _ hDg
  replace hvb := hvb.mono fun _ _ z => z.up gu
  replace hva := hva.mono fun _ _ z => z.up gu
  replace hC := hC.up gu
  change b₁₁ T = some (tupO #[.ref O, .bytes (revLaid mp back ahead).2.2.toArray to]) at hT
  change ListOf b₁₁ IsI (.ref O) (revLaid mp back ahead).1 at hOl
  have hll := laid_len (revBegin mp back ahead) ((revCovs mp back ahead).map covBytes)
  have hlb := laid_bound (revBegin mp back ahead) ((revCovs mp back ahead).map covBytes)
  change (revLaid mp back ahead).2.2.length ≤ _ ∧ (revLaid mp back ahead).1.length = _ ∧ _ at hll
  change ∀ o ∈ (revLaid mp back ahead).1, _ ∧ o ≤ _ + ((revLaid mp back ahead).2.2.length : Int) at hlb
  rw [List.length_map, hcl] at hll
  have hob : ∀ o ∈ (revLaid mp back ahead).1, 0 ≤ o ∧ o < 65536 := fun o ho => by have := hlb o ho; lia
  refine nay fun hG => ?_
  obtain ⟨O', vo, ko, eO, hOO, hvo⟩ := hOl
  refine hG ?_; clear hG
  cases eO
  have hvol : vo.size = 1 + back.length + ahead.length := by have := hvo.length; rw [hll.2.1] at this; simpa using this
  refine as_tup2 R'.hd S (by rfl) hT rfl (by kernel_rfl!) (by kernel_rfl!) (by kernel_rfl!) fun h₁₂ t₁₂ S => ?_
  with_reducible refine r_cons ?_
  refine r_AssignName ?_ (by kernel_rfl!)
  refine wpR.any ?_
  with_reducible refine wpAny_BinOp ?_
  walk_at "i"; walk_at "f"
  refine n_len (by assumption) (by kernel_rfl!) (by kernel_rfl!) (by kernel_rfl!) (by kernel_rfl!) ?_
  refine PyProof.Rows.callWith_builtin1 ?_ (by kernel_rfl!) (by kernel_rfl!)
  walk_at "c"
  refine Attribute_any_ ?_ (by kernel_rfl!)
  refine n_cell (by assumption) (by assumption) (by kernel_rfl!) (by kernel_rfl!) (by kernel_rfl!) (by kernel_rfl!) ?_
  refine at_b (ga_Reverse _) (hd_Reverse _) (fa_Reverse_back _) gl_back (by assumption) (by rfl) (by assumption) (by assumption) (by first | rfl | assumption) ?_; intro _
  refine args_nil ?_
  rename St _ _ _ _ _ _ _ => S
  refine len_tup (S.get hTB) (by lia) ?_
  rw [hvbl]
  with_reducible refine add_int ?_
  refine st_loc' (by assumption) (by rfl) rfl (by kernel_rfl!) (by kernel_rfl!) fun _ _ S => ?_
  with_reducible refine r_cons ?_
  refine r_AssignName ?_ (by kernel_rfl!)
  refine r_Call ?_ (by kernel_rfl!)
  refine n_OctetsOut (by assumption) (by kernel_rfl!) (by kernel_rfl!) (by kernel_rfl!) ?_
  refine r_callK (by kernel_rfl!) (by with_reducible exact kp_OctetsOut _) ?_
  refine r_args_nil ?_
  refine And.intro (kinH (by assumption)) ?_
  refine c_new_out (n := n + 4) R' S.base S.sub fun o ba b₁₃ h₁₃ t₁₃ G hO hba hg hbn => ?_
  have gu := G.up
  replace S := S.call0M (t := t₁₃) G hg hba hbn
  dsimp only at S
  replace hx := gu _ _ hx
  replace hdx := gu _ _ hdx
  replace hd := gu _ _ hd
  replace hTB := gu _ _ hTB
  replace hTA := gu _ _ hTA
  replace hDg := gu _ _ hDg
  replace hOO := gu _ _ hOO
  replace hvb := hvb.mono fun _ _ z => z.up gu
  replace hva := hva.mono fun _ _ z => z.up gu
  replace hC := hC.up gu
  refine nay fun hG => ?_
  obtain ⟨do_, to_, no_, hO1, hO2⟩ := id hO
  refine hG ?_; clear hG
  refine st_loc' (by assumption) (by rfl) rfl (by kernel_rfl!) (by kernel_rfl!) fun _ _ S => ?_
  with_reducible refine r_cons ?_
  refine r_Expr ?_ (by kernel_rfl!) (by kernel_rfl!)
  refine r_mcall ?_ (by kernel_rfl!)
  walk_at "n"
  refine me_b (ga_OctetsOut _) (gt_OctetsOut _) (fm_OctetsOut_rows _) (tm_OctetsOut_rows _) gl_out_rows (by assumption) (by assumption) (by assumption) ?_
  refine r_callK (by kernel_rfl!) (by with_reducible exact kp_f_OctetsOut_rows _) ?_
  refine r_args_cons ?_ (by kernel_rfl!)
  refine wpR.any ?_
  refine PyProof.Rows.List_ ?_
  walk_at "c"; walk_at "i"; walk_at "c"
  refine Subscript_ ?_
  walk_at "n"; walk_at "i"
  have hne : ∃ o0 r, (revLaid mp back ahead).1 = o0 :: r := by
    cases q : (revLaid mp back ahead).1 with
    | nil => rw [q] at hll; simp at hll; lia
    | cons o0 r => exact ⟨o0, r, rfl⟩
  refine nay fun hG => ?_
  obtain ⟨o0, orest, hoe⟩ := hne
  refine hG ?_; clear hG
  have ho0 := hob o0 (by rw [hoe]; exact .head _)
  refine nay fun hG => ?_
  obtain ⟨v0, hv0, u0, rfl⟩ := hvo.get' (i := 0) (x := o0) (by rw [hoe]; rfl)
  refine hG ?_; clear hG
  refine sub_lst (S.get hOO) (by decide) (by lia) (v := .int o0 u0) (by rw [← Array.getElem?_toList]; exact hv0) ?_ (by with_unfolding_all rfl)
  refine args_nil ?_
  rename St _ _ _ _ _ _ _ => S
  refine new_lst S (by rfl) (Nat.le_of_ble_eq_true rfl) fun l6 h₁₄ t₁₄ hl6 _ S => ?_
  refine S.frzK hl6 fun b₁₄ up14 gl6 S => ?_
  replace hO := hO.up up14
  replace hx := up14 _ _ hx
  replace hdx := up14 _ _ hdx
  replace hd := up14 _ _ hd
  replace hTB := up14 _ _ hTB
  replace hTA := up14 _ _ hTA
  replace hDg := up14 _ _ hDg
  replace hOO := up14 _ _ hOO
  replace hO1 := up14 _ _ hO1
  replace hO2 := up14 _ _ hO2
  replace hvb := hvb.mono fun _ _ z => z.up up14
  replace hva := hva.mono fun _ _ z => z.up up14
  replace hC := hC.up up14
  refine r_args_nil ?_
  refine And.intro (kinH (by assumption)) ?_
  refine c_out_rows (n := n + 3) (xs := [1, o0]) R' S.base S.sub hO (S.tu _ (.head _)).2.2.1 (S.muGet (.head _)) ⟨l6, _, _, rfl, gl6, .cons (IsI.mk _) (.cons (IsI.mk _) .nil)⟩ (fun x hx => by simp at hx; rcases hx with rfl | rfl <;> lia) (Nat.zero_le _) (Nat.le_of_ble_eq_true rfl) fun b' h' t' G g' => ?_
  have gu := G.up
  replace S := S.call1 (t := t') G g'
  dsimp only at S
  replace hO := hO.up gu
  replace hx := gu _ _ hx
  replace hdx := gu _ _ hdx
  replace hd := gu _ _ hd
  replace hTB := gu _ _ hTB
  replace hTA := gu _ _ hTA
  replace hDg := gu _ _ hDg
  replace hOO := gu _ _ hOO
  replace hO1 := gu _ _ hO1
  replace hO2 := gu _ _ hO2
  replace hvb := hvb.mono fun _ _ z => z.up gu
  replace hva := hva.mono fun _ _ z => z.up gu
  replace hC := hC.up gu
  have e1 : (#[] : Array UInt8) ++ ([1, o0].flatMap w16).toArray = ([1, o0].flatMap w16).toArray := by simp
  rw [e1] at S
  with_reducible refine r_cons ?_
  refine r_Expr ?_ (by kernel_rfl!) (by kernel_rfl!)
  refine r_Call ?_ (by kernel_rfl!)
  refine n_put_counted (by assumption) (by kernel_rfl!) (by kernel_rfl!) (by kernel_rfl!) ?_
  refine r_callK (by kernel_rfl!) (by with_reducible exact kp_f_put_counted _) ?_
  refine r_args_cons ?_ (by kernel_rfl!)
  refine wpR.any ?_
  walk_at "n"
  refine r_args_cons ?_ (by kernel_rfl!)
  refine wpR.any ?_
  refine Subscript_ ?_
  walk_at "n"
  refine wpAny_Slice ?_
  with_reducible refine evalPart_some_step ?_
  walk_at "i"
  with_reducible refine evalPart_some_step ?_
  walk_at "n"
  with_reducible refine evalPart_none_step ?_
  refine slc_lst S (by rfl) (S.get hOO) (.int _ _) (.int _ _) (by lia) (by with_unfolding_all rfl) fun l7 h₁₅ t₁₅ hl7 S => ?_
  have es1 : slicePick vo (some 1) (some (1 + (back.length : Int))) none = ((vo.toList.drop 1).take back.length).toArray := by
    have := slicePick_run vo 1 (1 + back.length) (by lia) (by lia)
    simpa using this
  rw [es1] at S
  refine S.frzK hl7 fun b₁₅ up15 gl7 S => ?_
  replace hO := hO.up up15
  replace hx := up15 _ _ hx
  replace hdx := up15 _ _ hdx
  replace hd := up15 _ _ hd
  replace hTB := up15 _ _ hTB
  replace hTA := up15 _ _ hTA
  replace hDg := up15 _ _ hDg
  replace hOO := up15 _ _ hOO
  replace hO1 := up15 _ _ hO1
  replace hO2 := up15 _ _ hO2
  replace hvb := hvb.mono fun _ _ z => z.up up15
  replace hva := hva.mono fun _ _ z => z.up up15
  replace hC := hC.up up15
  refine r_args_nil ?_
  refine And.intro (kinH (by assumption)) ?_
  have hv1 : ListOf b₁₅ IsI (.ref l7) (((revLaid mp back ahead).1.drop 1).take back.length) := ⟨l7, _, _, rfl, gl7, by simpa using (hvo.drop 1).take back.length⟩
  refine c_put_counted (n := n + 2) (xs := ((revLaid mp back ahead).1.drop 1).take back.length) R' S.base S.sub hO (S.tu _ (.head _)).2.2.1 (S.muGet (.head _)) hv1 (fun x hx => hob x (List.mem_of_mem_drop (List.mem_of_mem_take hx))) (by rw [List.size_toArray, flat_w16_len]; simp <;> lia) (by simp <;> lia) fun b' h' t' G g' => ?_
  have gu := G.up
  replace S := S.call1 (t := t') G g'
  dsimp only at S
  replace hO := hO.up gu
  replace hx := gu _ _ hx
  replace hdx := gu _ _ hdx
  replace hd := gu _ _ hd
  replace hTB := gu _ _ hTB
  replace hTA := gu _ _ hTA
  replace hDg := gu _ _ hDg
  replace hOO := gu _ _ hOO
  replace hO1 := gu _ _ hO1
  replace hO2 := gu _ _ hO2
  replace hvb := hvb.mono fun _ _ z => z.up gu
  replace hva := hva.mono fun _ _ z => z.up gu
  replace hC := hC.up gu
  have en : (([1, o0]).flatMap w16).toArray ++ (((((((revLaid mp back ahead).1.drop 1).take back.length).length : Nat) : Int) :: ((revLaid mp back ahead).1.drop 1).take back.length).flatMap w16).toArray = (([1, o0] ++ (((((revLaid mp back ahead).1.drop 1).take back.length).length : Int) :: ((revLaid mp back ahead).1.drop 1).take back.length)).flatMap w16).toArray := by simp
  rw [en] at S
  clear en
  with_reducible refine r_cons ?_
  refine r_Expr ?_ (by kernel_rfl!) (by kernel_rfl!)
  refine r_Call ?_ (by kernel_rfl!)
  refine n_put_counted (by assumption) (by kernel_rfl!) (by kernel_rfl!) (by kernel_rfl!) ?_
  refine r_callK (by kernel_rfl!) (by with_reducible exact kp_f_put_counted _) ?_
  refine r_args_cons ?_ (by kernel_rfl!)
  refine wpR.any ?_
  walk_at "n"
  refine r_args_cons ?_ (by kernel_rfl!)
  refine wpR.any ?_
  refine Subscript_ ?_
  walk_at "n"
  refine wpAny_Slice ?_
  with_reducible refine evalPart_some_step ?_
  walk_at "n"
  with_reducible refine evalPart_none_step ?_
  with_reducible refine evalPart_none_step ?_
  refine slc_lst S (by rfl) (S.get hOO) (.int _ _) .none (by lia) (by with_unfolding_all rfl) fun l8 h₁₆ t₁₆ hl8 S => ?_
  have es2 : slicePick vo (some (1 + (back.length : Int))) none none = (vo.toList.drop (1 + back.length)).toArray := by
    have := slicePick_from vo (1 + back.length) (by lia)
    simpa using this
  rw [es2] at S
  refine S.frzK hl8 fun b₁₆ up16 gl8 S => ?_
  replace hO := hO.up up16
  replace hx := up16 _ _ hx
  replace hdx := up16 _ _ hdx
  replace hd := up16 _ _ hd
  replace hTB := up16 _ _ hTB
  replace hTA := up16 _ _ hTA
  replace hDg := up16 _ _ hDg
  replace hOO := up16 _ _ hOO
  replace hO1 := up16 _ _ hO1
  replace hO2 := up16 _ _ hO2
  replace hvb := hvb.mono fun _ _ z => z.up up16
  replace hva := hva.mono fun _ _ z => z.up up16
  replace hC := hC.up up16
  refine r_args_nil ?_
  refine And.intro (kinH (by assumption)) ?_
  have hv2 : ListOf b₁₆ IsI (.ref l8) ((revLaid mp back ahead).1.drop (1 + back.length)) := ⟨l8, _, _, rfl, gl8, by simpa using hvo.drop (1 + back.length)⟩
  refine c_put_counted (n := n + 2) (xs := (revLaid mp back ahead).1.drop (1 + back.length)) R' S.base S.sub hO (S.tu _ (.head _)).2.2.1 (S.muGet (.head _)) hv2 (fun x hx => hob x (List.mem_of_mem_drop hx)) (by rw [List.size_toArray, flat_w16_len]; simp <;> lia) (by simp <;> lia) fun b' h' t' G g' => ?_
  have gu := G.up
  replace S := S.call1 (t := t') G g'
  dsimp only at S
  replace hO := hO.up gu
  replace hx := gu _ _ hx
  replace hdx := gu _ _ hdx
  replace hd := gu _ _ hd
  replace hTB := gu _ _ hTB
  replace hTA := gu _ _ hTA
  replace hDg := gu _ _ hDg
  replace hOO := gu _ _ hOO
  replace hO1 := gu _ _ hO1
  replace hO2 := gu _ _ hO2
  replace hvb := hvb.mono fun _ _ z => z.up gu
  replace hva := hva.mono fun _ _ z => z.up gu
  replace hC := hC.up gu
  have en : (([1, o0] ++ (((((revLaid mp back ahead).1.drop 1).take back.length).length : Int) :: ((revLaid mp back ahead).1.drop 1).take back.length)).flatMap w16).toArray ++ ((((((revLaid mp back ahead).1.drop (1 + back.length)).length : Nat) : Int) :: (revLaid mp back ahead).1.drop (1 + back.length)).flatMap w16).toArray = (([1, o0] ++ (((((revLaid mp back ahead).1.drop 1).take back.length).length : Int) :: ((revLaid mp back ahead).1.drop 1).take back.length) ++ ((((revLaid mp back ahead).1.drop (1 + back.length)).length : Int) :: (revLaid mp back ahead).1.drop (1 + back.length))).flatMap w16).toArray := by simp
  rw [en] at S
  clear en
  with_reducible refine r_cons ?_
  refine r_Expr ?_ (by kernel_rfl!) (by kernel_rfl!)
  refine r_Call ?_ (by kernel_rfl!)
  refine n_put_counted (by assumption) (by kernel_rfl!) (by kernel_rfl!) (by kernel_rfl!) ?_
  refine r_callK (by kernel_rfl!) (by with_reducible exact kp_f_put_counted _) ?_
  refine r_args_cons ?_ (by kernel_rfl!)
  refine wpR.any ?_
  walk_at "n"
  refine r_args_cons ?_ (by kernel_rfl!)
  refine wpR.any (lcomp (cl := [("table", L + 1)]) (by intro _; kernel_rfl!) (by kernel_rfl!) (by kernel_rfl!) (by decide +kernel) ?_)
  walk_at "n"
  rename St _ _ _ _ _ _ _ => S
  refine it_list R'.hd S (by rfl) hDg fun I2 oI2 h₁₇ t₁₇ W2 S => ?_
  refine comp_src W2 S (by lia) (by decide) rfl (by kernel_rfl!) (fun i b₁₇ mu ys => mu = [(ba, baO (([1, o0] ++ (((((revLaid mp back ahead).1.drop 1).take back.length).length : Int) :: ((revLaid mp back ahead).1.drop 1).take back.length) ++ ((((revLaid mp back ahead).1.drop (1 + back.length)).length : Int) :: (revLaid mp back ahead).1.drop (1 + back.length))).flatMap w16).toArray)] ∧ All2 IsI ys.toList (((revKeys mp).map (val mp)).take i)) ⟨rfl, .nil⟩ ?_ ?_
  · rintro i v b₁₇ mC mu ys tl h₁₇ t₁₇ C hi hv ⟨rfl, hy⟩ hb₁₇ S
    refine nay fun hG => ?_
    obtain ⟨g, hg, tg, rfl⟩ := hvg.get (by rw [Array.getElem?_toList]; exact hv)
    refine hG ?_; clear hG
    have hgk : g ∈ mp.map (·.1) := (isort_perm _).mem_iff.mp (List.mem_of_getElem? hg)
    refine nay fun hG => ?_
    obtain ⟨vv, hvv, hIv⟩ := hKV.val hnd hgk
    refine hG ?_; clear hG
    replace hx := hb₁₇ _ _ hx
    replace hdx := hb₁₇ _ _ hdx
    replace hd := hb₁₇ _ _ hd
    replace hC := hC.up hb₁₇
    refine Subscript_ ?_
    refine Attribute_any_ ?_ (by kernel_rfl!)
    refine n_cell (by assumption) (by assumption) (by kernel_rfl!) (by kernel_rfl!) (by kernel_rfl!) (by kernel_rfl!) ?_
    refine at_b (ga_Reverse _) (hd_Reverse _) (fa_Reverse_mapping _) gl_mapping (by assumption) (by rfl) (by assumption) (by assumption) (by first | rfl | assumption) ?_; intro _
    walk_at "n"
    rename St _ _ _ _ _ _ _ => S
    refine sub_dict2 (kk := g) S (by rfl) hDO (.inr hd) (by simp [intKind, Value.isInt]) hvv (ops := [.ref d, .int g tg]) (by with_unfolding_all rfl) fun t₁₈ => ?_
    refine turnI (b2 := b₁₇) (mu2 := [(ba, baO (([1, o0] ++ (((((revLaid mp back ahead).1.drop 1).take back.length).length : Int) :: ((revLaid mp back ahead).1.drop 1).take back.length) ++ ((((revLaid mp back ahead).1.drop (1 + back.length)).length : Int) :: (revLaid mp back ahead).1.drop (1 + back.length))).flatMap w16).toArray)]) rfl ⟨rfl, ?_⟩ hb₁₇ (S.toks _)
    rw [Array.toList_push]
    exact hy.push_take (by rw [List.getElem?_map, hg]; rfl) hIv
  rintro b₁₇ mu ys3 k3' D3 h₁₇ t₁₇ hys3 ⟨rfl, hy3⟩ hb₁₇ S hD3
  rw [List.take_of_length_le (by rw [List.length_map]; lia)] at hy3
  refine S.frzK hD3 fun b₁₈ up18' gD3 S => ?_
  have up18 := fun (a : Addr) (o : Obj) q => up18' a o (hb₁₇ a o q)
  replace hO := hO.up up18
  replace hx := up18 _ _ hx
  replace hdx := up18 _ _ hdx
  replace hd := up18 _ _ hd
  replace hTB := up18 _ _ hTB
  replace hTA := up18 _ _ hTA
  replace hDg := up18 _ _ hDg
  replace hOO := up18 _ _ hOO
  replace hO1 := up18 _ _ hO1
  replace hO2 := up18 _ _ hO2
  replace hvb := hvb.mono fun _ _ z => z.up up18
  replace hva := hva.mono fun _ _ z => z.up up18
  replace hC := hC.up up18
  refine r_args_nil ?_
  refine And.intro (kinH (by assumption)) ?_
  refine c_put_counted (n := n + 2) (xs := (revKeys mp).map (val mp)) R' S.base S.sub hO (S.tu _ (.head _)).2.2.1 (S.muGet (.head _)) ⟨D3, _, _, rfl, gD3, hy3⟩ (fun x hx => by obtain ⟨kx, hkx, rfl⟩ := List.mem_map.mp hx; exact hval kx hkx) (by rw [List.size_toArray, flat_w16_len]; simp <;> lia) (by simp <;> lia) fun b' h' t' G g' => ?_
  have gu := G.up
  replace S := S.call1 (t := t') G g'
  dsimp only at S
  replace hO := hO.up gu
  replace hx := gu _ _ hx
  replace hdx := gu _ _ hdx
  replace hd := gu _ _ hd
  replace hTB := gu _ _ hTB
  replace hTA := gu _ _ hTA
  replace hDg := gu _ _ hDg
  replace hOO := gu _ _ hOO
  replace hO1 := gu _ _ hO1
  replace hO2 := gu _ _ hO2
  replace hvb := hvb.mono fun _ _ z => z.up gu
  replace hva := hva.mono fun _ _ z => z.up gu
  replace hC := hC.up gu
  have en : (([1, o0] ++ (((((revLaid mp back ahead).1.drop 1).take back.length).length : Int) :: ((revLaid mp back ahead).1.drop 1).take back.length) ++ ((((revLaid mp back ahead).1.drop (1 + back.length)).length : Int) :: (revLaid mp back ahead).1.drop (1 + back.length))).flatMap w16).toArray ++ ((((((revKeys mp).map (val mp)).length : Nat) : Int) :: (revKeys mp).map (val mp)).flatMap w16).toArray = ((revNums mp back ahead).flatMap w16).toArray := by
    have l1 : (((revLaid mp back ahead).1.drop 1).take back.length).length = back.length := by simp; lia
    have l2 : ((revLaid mp back ahead).1.drop (1 + back.length)).length = ahead.length := by simp; lia
    have l3 : ((revKeys mp).map (val mp)).length = (revKeys mp).length := by simp
    rw [l1, l2, l3]
    unfold revNums
    rw [hoe]
    simp
  rw [en] at S
  with_reducible refine r_cons ?_
  refine r_Expr ?_ (by kernel_rfl!) (by kernel_rfl!)
  refine r_mcall ?_ (by kernel_rfl!)
  walk_at "n"
  refine me_b (ga_OctetsOut _) (gt_OctetsOut _) (fm_OctetsOut_add _) (tm_OctetsOut_add _) gl_out_add (by assumption) (by assumption) (by assumption) ?_
  refine r_callK (by kernel_rfl!) (by with_reducible exact kp_f_OctetsOut_add _) ?_
  refine r_args_cons ?_ (by kernel_rfl!)
  refine wpR.any ?_
  walk_at "n"
  refine r_args_nil ?_
  refine And.intro (kinH (by assumption)) ?_
  have hnl : (revNums mp back ahead).length ≤ 100 := by
    unfold revNums
    simp <;> lia
  refine c_out_add (n := n + 3) R' S.base S.sub hO (S.tu _ (.head _)).2.2.1 (S.muGet (.head _)) (by rw [List.size_toArray, List.size_toArray, flat_w16_len]; lia) fun b' h' t' G g' => ?_
  have gu := G.up
  replace S := S.call1 (t := t') G g'
  dsimp only at S
  replace hO := hO.up gu
  replace hx := gu _ _ hx
  replace hdx := gu _ _ hdx
  replace hd := gu _ _ hd
  replace hTB := gu _ _ hTB
  replace hTA := gu _ _ hTA
  replace hDg := gu _ _ hDg
  replace hOO := gu _ _ hOO
  replace hO1 := gu _ _ hO1
  replace hO2 := gu _ _ hO2
  replace hvb := hvb.mono fun _ _ z => z.up gu
  replace hva := hva.mono fun _ _ z => z.up gu
  replace hC := hC.up gu
  have eb : ((revNums mp back ahead).flatMap w16).toArray ++ (revLaid mp back ahead).2.2.toArray = (revBytes mp back ahead).toArray := by unfold revBytes; simp
  rw [eb] at S
  with_reducible refine r_cons ?_
  refine r_Return ?_
  refine r_mcall ?_ (by kernel_rfl!)
  walk_at "n"
  refine me_b (ga_OctetsOut _) (gt_OctetsOut _) (fm_OctetsOut_octets _) (tm_OctetsOut_octets _) gl_out_octets (by assumption) (by assumption) (by assumption) ?_
  refine r_callK (by kernel_rfl!) (by with_reducible exact kp_f_OctetsOut_octets _) ?_
  refine r_args_nil ?_
  refine And.intro (kinH (by assumption)) ?_
  refine .any (c_out_octets (n := n + 3) R' S.base S.sub hO (S.tu _ (.head _)).2.2.1 (S.muGet (.head _)) (by rw [List.size_toArray]; unfold revBytes; rw [List.length_append, flat_w16_len]; lia) fun t b' h' t' G => ?_)
  replace S := S.call0 (t := t') G
  exact k _ _ _ _ S.grow
end
-- XJ
section
variable {w : World} {A : Around} {E : Value → Shared → Prop} {s : Shared} {b : PM} {n : Nat} {d : Array UInt8} {p : Nat} {Q : Value → Shared → Prop}
theorem c_place_of {x dx : Addr} {od : Obj} {v beg : Int} {t5 : Tok} (R : Room A (n + 6)) (B : Base w b) (hs : ∀ a o, b a = some o → s.heap.get? a = some o)
    (hx : b x = some (instObj 163 dx)) (hb : b dx = none) (hd : s.heap.get? dx = some od) (ho : InO w.params d p od) (hN : Num d p v) (hz : d.size ≤ 100000) (hv : v ≠ 0)
    (k : ∀ t od' b' h' t', Grow b b' s.heap h' [dx] → h'.get? dx = some od' → InO w.params d (p + 2) od' → Q (.int (beg + v) t) { s with heap := h', toks := t' }) :
    wpAny (model pw w) A (call (.ref 376) [.ref x, .int beg t5]) Q E s := by
  have ho' := ho
  refine nay fun hG => ?_
  obtain ⟨t1, t2, t3, t4, nn, rfl⟩ := ho
  refine hG ?_; clear hG
  refine in_place_of (body := _) rfl R B hs _ (one_mu hd hb) one_nd ?_
  intro L h₁ t₁ hL S R'
  dsimp only [extL] at S
  walk_at "x"
  refine wpAny_Assign_Name ?_ (by kernel_rfl!)
  refine Attribute_any_ ?_ (by kernel_rfl!)
  walk_at "n"
  refine at_mu (ga_OctetsIn _) (hd_OctetsIn _) (fa_OctetsIn_at _) gl_at (by assumption) (by rfl) (by assumption) (by repeat (first | constructor | apply List.mem_append_left)) (by first | rfl | assumption) ?_; intro _
  refine st_loc' (by assumption) (by rfl) rfl (by kernel_rfl!) (by kernel_rfl!) fun _ _ S => ?_
  walk_at "x"
  refine wpAny_Assign_Name ?_ (by kernel_rfl!)
  refine mcall ?_ (by kernel_rfl!)
  walk_at "n"
  refine me_mu (ga_OctetsIn _) (gt_OctetsIn _) (fm_OctetsIn_u16 _) (tm_OctetsIn_u16 _) gl_u16 (by assumption) (by assumption) (by repeat (first | constructor | apply List.mem_append_left)) ?_
  refine callWith_K0 (kinH (by assumption)) (by with_reducible exact kp_f_OctetsIn_u16 _) ?_
  refine c_In_u16 (n := n) R' S.base S.sub hx (S.tu _ (.head _)).2.2.1 (S.muGet (.head _)) ho' hN hz fun t od' b' h' t' G g o' => ?_
  replace S := S.call1 (t := t') G g
  dsimp only at S
  refine st_loc' (by assumption) (by rfl) rfl (by kernel_rfl!) (by kernel_rfl!) fun _ _ S => ?_
  walk_at "x"
  refine wpAny_If ?_
  walk_at "q"; walk_at "n"; walk_at "i"
  with_reducible refine eq_int ?_
  walk_at "t"
  refine ite_no (beq_eq_false_iff_ne.mpr hv) ?_
  walk_at "z"; walk_at "x"
  refine wpAny_Return_some ?_
  with_reducible refine wpAny_BinOp ?_
  walk_at "n"; walk_at "n"
  with_reducible refine add_int ?_
  exact k _ _ _ _ _ S.grow (S.muGet (.head _)) o'
theorem c_read_span {x dx : Addr} {od : Obj} {v1 v2 least : Int} {t5 : Tok} (R : Room A (n + 6)) (B : Base w b) (hs : ∀ a o, b a = some o → s.heap.get? a = some o)
    (hx : b x = some (instObj 163 dx)) (hb : b dx = none) (hd : s.heap.get? dx = some od) (ho : InO w.params d p od) (hN : Num d p v1) (hN2 : Num d (p + 2) v2) (hz : d.size ≤ 100000) (h1 : least ≤ v1) (h2 : v1 ≤ v2)
    (k : ∀ v od' b' h' t', Grow b b' s.heap h' [dx] → h'.get? dx = some od' → InO w.params d (p + 4) od' → IsPr b' v (v1, v2) → Q v { s with heap := h', toks := t' }) :
    wpAny (model pw w) A (call (.ref 339) [.ref x, .int least t5]) Q E s := by
  have ho' := ho
  refine nay fun hG => ?_
  obtain ⟨t1, t2, t3, t4, nn, rfl⟩ := ho
  refine hG ?_; clear hG
  refine in_read_span (body := _) rfl R B hs _ (one_mu hd hb) one_nd ?_
  intro L h₁ t₁ hL S R'
  dsimp only [extL] at S
  walk_at "x"
  refine wpAny_Assign_Name ?_ (by kernel_rfl!)
  refine Attribute_any_ ?_ (by kernel_rfl!)
  walk_at "n"
  refine at_mu (ga_OctetsIn _) (hd_OctetsIn _) (fa_OctetsIn_at _) gl_at (by assumption) (by rfl) (by assumption) (by repeat (first | constructor | apply List.mem_append_left)) (by first | rfl | assumption) ?_; intro _
  refine st_loc' (by assumption) (by rfl) rfl (by kernel_rfl!) (by kernel_rfl!) fun _ _ S => ?_
  walk_at "x"
  refine wpAny_Assign_Name ?_ (by kernel_rfl!)
  refine mcall ?_ (by kernel_rfl!)
  walk_at "n"
  refine me_mu (ga_OctetsIn _) (gt_OctetsIn _) (fm_OctetsIn_u16 _) (tm_OctetsIn_u16 _) gl_u16 (by assumption) (by assumption) (by repeat (first | constructor | apply List.mem_append_left)) ?_
  refine callWith_K0 (kinH (by assumption)) (by with_reducible exact kp_f_OctetsIn_u16 _) ?_
  refine c_In_u16 (n := n) R' S.base S.sub hx (S.tu _ (.head _)).2.2.1 (S.muGet (.head _)) ho' hN hz fun t od' b' h' t' G g o' => ?_
  replace S := S.call1 (t := t') G g
  dsimp only at S
  replace hx := G.up _ _ hx
  have o2 := o'
  refine nay fun hG => ?_
  obtain ⟨u1, u2, u3, u4, mm, rfl⟩ := o'
  refine hG ?_; clear hG
  refine st_loc' (by assumption) (by rfl) rfl (by kernel_rfl!) (by kernel_rfl!) fun _ _ S => ?_
  walk_at "x"
  refine wpAny_If ?_
  walk_at "q"; walk_at "n"; walk_at "n"
  with_reducible refine lt_int ?_
  walk_at "t"
  refine ite_no (decide_eq_false (by lia)) ?_
  walk_at "z"; walk_at "x"
  refine wpAny_Assign_Name ?_ (by kernel_rfl!)
  refine Attribute_any_ ?_ (by kernel_rfl!)
  walk_at "n"
  refine at_mu (ga_OctetsIn _) (hd_OctetsIn _) (fa_OctetsIn_at _) gl_at (by assumption) (by rfl) (by assumption) (by repeat (first | constructor | apply List.mem_append_left)) (by first | rfl | assumption) ?_; intro _
  refine st_loc' (by assumption) (by rfl) rfl (by kernel_rfl!) (by kernel_rfl!) fun _ _ S => ?_
  walk_at "x"
  refine wpAny_Assign_Name ?_ (by kernel_rfl!)
  refine mcall ?_ (by kernel_rfl!)
  walk_at "n"
  refine me_mu (ga_OctetsIn _) (gt_OctetsIn _) (fm_OctetsIn_u16 _) (tm_OctetsIn_u16 _) gl_u16 (by assumption) (by assumption) (by repeat (first | constructor | apply List.mem_append_left)) ?_
  refine callWith_K0 (kinH (by assumption)) (by with_reducible exact kp_f_OctetsIn_u16 _) ?_
  refine c_In_u16 (n := n) R' S.base S.sub hx (S.tu _ (.head _)).2.2.1 (S.muGet (.head _)) o2 hN2 hz fun t od' b' h' t' G g o' => ?_
  replace S := S.call1 (t := t') G g
  dsimp only at S
  refine st_loc' (by assumption) (by rfl) rfl (by kernel_rfl!) (by kernel_rfl!) fun _ _ S => ?_
  walk_at "x"
  refine wpAny_If ?_
  walk_at "q"; walk_at "n"; walk_at "n"
  with_reducible refine lt_int ?_
  walk_at "t"
  refine ite_no (decide_eq_false (by lia)) ?_
  walk_at "z"; walk_at "x"
  refine wpAny_Return_some ?_
  refine PyProof.Rows.Tuple_ ?_
  walk_at "c"; walk_at "n"; walk_at "c"; walk_at "n"
  refine args_nil ?_
  refine new_tup S (by rfl) (Nat.le_of_ble_eq_true rfl) fun T b'' h'' t'' hb' hT S => ?_
  exact k _ _ _ _ _ S.grow (S.muGet (.head _)) o' ⟨T, _, _, rfl, hT⟩
end
-- XK
theorem stored_new2 {κ : Type} [DecidableEq κ] {kvs : List (κ × Value)} {k : κ} {v : Value} (h : valueAt kvs k = none) : stored kvs k v = kvs ++ [(k, v)] := by
  unfold stored
  rw [if_neg]
  unfold valueAt at h
  simp only [Option.map_eq_none_iff, List.find?_eq_none, decide_eq_true_eq] at h
  simp only [List.any_eq_true, decide_eq_true_eq, not_exists, not_and]
  exact h
section
variable {w : World} {A : Around} {E : Value → Shared → Prop} {s : Shared} {b : PM} {n : Nat} {d : Array UInt8} {p : Nat} {Q : Value → Shared → Prop}
theorem c_by_glyph {cv rv : Value} {gs xs : List Int} (R : Room A (n + 3)) (B : Base w b) (hs : ∀ a o, b a = some o → s.heap.get? a = some o) (hc : Cov w.params b cv gs) (hr : ListOf b IsI rv xs) (hl : xs.length = gs.length) (hn : gs.Nodup) (hz : gs.length ≤ 60)
    (k : ∀ v b' h' t', Grow b b' s.heap h' [] → MapO w b' v (gs.zip xs) → Q v { s with heap := h', toks := t' }) :
    wpAny (model pw w) A (call (.ref 369) [cv, rv]) Q E s := by
  refine nay fun hG => ?_
  obtain ⟨x, dx, t, tv, nn, rfl, hx, hdx, T, vs, rfl, hT, hvs⟩ := hc
  obtain ⟨D, ys, kk, rfl, hD, hys⟩ := hr
  refine hG ?_; clear hG
  have hvl : vs.size = gs.length := by have := hvs.length; simpa using this
  have hyl : ys.size = xs.length := by have := hys.length; simpa using this
  refine in_by_glyph (body := _) rfl R B hs [] (fun _ h => bbot h) List.nodup_nil ?_
  intro L h₁ t₁ hL S R'
  dsimp only [extL] at S
  walk_at "x"
  refine wpAny_If ?_
  walk_at "q"; walk_at "f"
  refine n_len (by assumption) (by kernel_rfl!) (by kernel_rfl!) (by kernel_rfl!) (by kernel_rfl!) ?_
  refine PyProof.Rows.callWith_builtin1 ?_ (by kernel_rfl!) (by kernel_rfl!)
  walk_at "c"; walk_at "n"
  refine args_nil ?_
  refine len_lst (S.get hD) (by lia) ?_
  walk_at "f"
  refine n_len (by assumption) (by kernel_rfl!) (by kernel_rfl!) (by kernel_rfl!) (by kernel_rfl!) ?_
  refine PyProof.Rows.callWith_builtin1 ?_ (by kernel_rfl!) (by kernel_rfl!)
  walk_at "c"
  refine Attribute_any_ ?_ (by kernel_rfl!)
  walk_at "n"
  refine at_b (ga_Coverage _) (hd_Coverage _) (fa_Coverage_glyphs _) gl_glyphs (by assumption) (by rfl) (by assumption) (by assumption) (by first | rfl | assumption) ?_; intro _
  refine args_nil ?_
  rename St _ _ _ _ _ _ _ => S
  refine len_tup (S.get hT) (by lia) ?_
  with_reducible refine ne_int ?_
  walk_at "t"
  refine ite_no (by rw [hvl, hyl, hl]; simp) ?_
  walk_at "z"; walk_at "x"
  refine wpAny_Assign_Name ?_ (by kernel_rfl!)
  refine new_dict S (by rfl) fun F h₂ t₂ hF hF5 S => ?_
  refine st_loc' (by assumption) (by rfl) rfl (by kernel_rfl!) (by kernel_rfl!) fun _ _ S => ?_
  walk_at "x"
  refine wpAny_For ?_ (by intro _; kernel_rfl!)
  walk_at "f"
  refine n_range (by assumption) (by kernel_rfl!) (by kernel_rfl!) (by kernel_rfl!) (by kernel_rfl!) ?_
  refine PyProof.Rows.callWith_type1 ?_ (by kernel_rfl!) (by kernel_rfl!)
  walk_at "c"; walk_at "f"
  refine n_len (by assumption) (by kernel_rfl!) (by kernel_rfl!) (by kernel_rfl!) (by kernel_rfl!) ?_
  refine PyProof.Rows.callWith_builtin1 ?_ (by kernel_rfl!) (by kernel_rfl!)
  walk_at "c"; walk_at "n"
  refine args_nil ?_
  rename St _ _ _ _ _ _ _ => S
  refine len_lst (S.get hD) (by lia) ?_
  rw [hyl, hl]
  refine args_nil ?_
  refine it_range1 R'.hd S (by rfl) (by lia) (by lia) fun I oI h₃ t₃ W S => ?_
  rw [Int.toNat_natCast] at W
  refine for_src W S rfl (by kernel_rfl!) (by kernel_rfl!) (fun i b₄ m mu => ∃ oF kvs, mu = [(F, oF)] ∧ DictO (intKind pw w) kvs oF ∧ KV kvs ((gs.zip xs).take i) ∧ m "found" = some (.ref F) ∧ m "coverage" = some (.ref x) ∧ m "rows" = some (.ref D))
    ⟨dict0, [], rfl, .empty _, ⟨rfl, .nil⟩, by walk_at "W look", by walk_at "W look", by walk_at "W look"⟩ ?_ ?_
  · intro i v b₄ m' mu' oI' h₆ t₆ hi hx1 hx2 hb₄ S
    refine nay fun hG => ?_
    obtain ⟨ti, rfl⟩ := hx1
    obtain ⟨oF, kvs, rfl, hDO, hKV, m1, m2, m3⟩ := hx2
    refine hG ?_; clear hG
    replace hx := hb₄ _ _ hx
    replace hdx := hb₄ _ _ hdx
    replace hT := hb₄ _ _ hT
    replace hD := hb₄ _ _ hD
    refine nay fun hG => ?_
    obtain ⟨vy, hvy, uy, rfl⟩ := hys.get' (i := i) (x := xs[i]'(by lia)) (List.getElem?_eq_getElem _)
    obtain ⟨vg, hvg, ug, rfl⟩ := hvs.get' (i := i) (x := gs[i]) (List.getElem?_eq_getElem _)
    refine hG ?_; clear hG
    walk_at "x"
    refine wpAny_Assign_Subscript ?_ (by kernel_rfl!)
    refine Subscript_ ?_
    walk_at "n"; walk_at "n"
    refine sub_lst (S.get hD) (by lia) (by lia) (v := .int (xs[i]'(by lia)) uy) (by rw [Int.toNat_natCast, ← Array.getElem?_toList]; exact hvy) ?_ (by with_unfolding_all rfl)
    walk_at "n"
    refine Subscript_ ?_
    refine Attribute_any_ ?_ (by kernel_rfl!)
    walk_at "n"
    refine at_b (ga_Coverage _) (hd_Coverage _) (fa_Coverage_glyphs _) gl_glyphs (by assumption) (by rfl) (by assumption) (by assumption) (by first | rfl | assumption) ?_; intro _
    walk_at "n"
    rename St _ _ _ _ _ _ _ => S
    refine sub_tup S hT (by lia) (by lia) (v := .int gs[i] ug) (by rw [Int.toNat_natCast, ← Array.getElem?_toList]; exact hvg) ?_ (by with_unfolding_all rfl)
    have hfst : ((gs.zip xs).take i).map (·.1) = gs.take i := by
      rw [List.map_take, List.map_fst_zip (by lia)]
    have hnew : valueAt kvs gs[i] = none := by
      have hnm : gs[i] ∉ kvs.map (·.1) := by
        rw [hKV.1, hfst]
        intro hm
        refine nay fun hG => ?_
        obtain ⟨j, hj, e⟩ := List.mem_take_iff_getElem.mp hm
        refine hG ?_; clear hG
        have := (List.getElem_inj hn).mp e
        lia
      unfold valueAt
      rw [Option.map_eq_none_iff, List.find?_eq_none]
      intro kv hkv hd
      exact hnm (List.mem_map.mpr ⟨kv, hkv, by simpa using hd⟩)
    have hkl : kvs.length ≤ 60 := by
      have h1 := congrArg List.length hKV.1
      rw [hfst] at h1
      simp at h1
      lia
    refine d_set (kk := gs[i]) S (by rfl) hDO (by simp [intKind, Value.isInt]) (by lia) fun oF' h₇ t₇ hDO' S => ?_
    rw [stored_new2 hnew] at hDO'
    walk_at "z"
    refine turnI (b2 := b₄) (mu2 := [(F, oF')]) rfl ⟨oF', _, rfl, hDO', ?_, by walk_at "W look", by walk_at "W look", by walk_at "W look"⟩ hb₄ S
    have hz2 : (gs.zip xs)[i]? = some (gs[i], xs[i]'(by lia)) := by
      rw [List.getElem?_eq_getElem (by rw [List.length_zip]; lia), List.getElem_zip]
    rw [List.take_add_one, hz2]
    refine ⟨?_, ?_⟩
    · rw [List.map_append, List.map_append, hKV.1]; rfl
    · rw [List.map_append, List.map_append]; exact hKV.2.push (IsI.mk _)
  · intro b₄ m' mu' h₆ t₆ hx1 hb₄ S
    refine nay fun hG => ?_
    obtain ⟨oF, kvs, rfl, hDO, hKV, m1, m2, m3⟩ := hx1
    refine hG ?_; clear hG
    rw [List.take_of_length_le (by rw [List.length_zip]; lia)] at hKV
    refine S.frzK hF fun b₅ up5 gF S => ?_
    walk_at "x"
    refine wpAny_Return_some ?_
    walk_at "n"
    exact k _ _ _ _ S.grow ⟨F, oF, kvs, rfl, hF5, gF, hDO, hKV⟩
end
-- XL
section
variable {w : World} {A : Around} {E : Value → Shared → Prop} {s : Shared} {b : PM} {n : Nat} {d : Array UInt8} {p : Nat} {Q : Value → Shared → Prop}
theorem c_read_ascending {x dx : Addr} {od : Obj} {gs : List Int} (R : Room A (n + 6)) (B : Base w b) (hs : ∀ a o, b a = some o → s.heap.get? a = some o)
    (hx : b x = some (instObj 163 dx)) (hb : b dx = none) (hd : s.heap.get? dx = some od) (ho : InO w.params d p od) (hN : Num d p (gs.length : Nat)) (hNs : ∀ i v, gs[i]? = some v → Num d (p + 2 + 2 * i) v) (hz : d.size ≤ 100000) (hl : gs.length ≤ 60) (hasc : gs.Pairwise (· < ·))
    (k : ∀ v od' b' h' t', Grow b b' s.heap h' [dx] → h'.get? dx = some od' → InO w.params d (p + 2 + 2 * gs.length) od' → ListOf b' IsI v gs → Q v { s with heap := h', toks := t' }) :
    wpAny (model pw w) A (call (.ref 332) [.ref x]) Q E s := by
  have ho' := ho
  refine nay fun hG => ?_
  obtain ⟨t1, t2, t3, t4, nn, rfl⟩ := ho
  refine hG ?_; clear hG
  refine in_read_ascending (body := _) rfl R B hs _ (one_mu hd hb) one_nd ?_
  intro L h₁ t₁ hL S R'
  dsimp only [extL] at S
  walk_at "x"
  refine wpAny_Assign_Name ?_ (by kernel_rfl!)
  refine PyProof.Rows.List_ ?_
  refine args_nil ?_
  refine new_lst S (by rfl) (by decide) fun D h₂ t₂ hD _ S => ?_
  refine st_loc' (by assumption) (by rfl) rfl (by kernel_rfl!) (by kernel_rfl!) fun _ _ S => ?_
  walk_at "x"
  refine wpAny_For ?_ (by intro _; kernel_rfl!)
  walk_at "f"
  refine n_range (by assumption) (by kernel_rfl!) (by kernel_rfl!) (by kernel_rfl!) (by kernel_rfl!) ?_
  refine PyProof.Rows.callWith_type1 ?_ (by kernel_rfl!) (by kernel_rfl!)
  walk_at "c"
  refine mcall ?_ (by kernel_rfl!)
  walk_at "n"
  refine me_mu (ga_OctetsIn _) (gt_OctetsIn _) (fm_OctetsIn_u16 _) (tm_OctetsIn_u16 _) gl_u16 (by assumption) (by assumption) (by repeat (first | constructor | apply List.mem_append_left)) ?_
  refine callWith_K0 (kinH (by assumption)) (by with_reducible exact kp_f_OctetsIn_u16 _) ?_
  rename St _ _ _ _ _ _ _ => S
  replace S := S.swap
  refine c_In_u16 (n := n) R' S.base S.sub hx (S.tu _ (.head _)).2.2.1 (S.muGet (.head _)) ho' hN hz fun t od' b' h' t' G g o' => ?_
  replace S := (S.call1 (t := t') G g).swap
  dsimp only at S
  replace hx := G.up _ _ hx
  refine args_nil ?_
  refine it_range1 R'.hd S (by rfl) (by lia) (by lia) fun I oI h₃ t₃ W S => ?_
  rw [Int.toNat_natCast] at W
  refine for_src W S rfl (by kernel_rfl!) (by kernel_rfl!) (fun i b₄ m mu => ∃ ys kk od, mu = [(D, listOf ys kk), (dx, od)] ∧ InO w.params d (p + 2 + 2 * i) od ∧ All2 IsI ys.toList (gs.take i) ∧ m "found" = some (.ref D) ∧ m "octets_in" = some (.ref x))
    ⟨#[], 0, od', rfl, o', .nil, by walk_at "W look", by walk_at "W look"⟩ ?_ ?_
  · intro i v b₄ m' mu' oI' h₆ t₆ hi hx1 hx2 hb₄ S
    refine nay fun hG => ?_
    obtain ⟨ti, rfl⟩ := hx1
    obtain ⟨ys, kk, od, rfl, o4, hys, m1, m2⟩ := hx2
    refine hG ?_; clear hG
    replace hx := hb₄ _ _ hx
    have o4' := o4
    refine nay fun hG => ?_
    obtain ⟨u1, u2, u3, u4, mm, rfl⟩ := o4
    refine hG ?_; clear hG
    have hgi : gs[i]? = some gs[i] := List.getElem?_eq_getElem hi
    have hyl : ys.size = i := by have := hys.length; rw [List.length_take] at this; simp at this; lia
    walk_at "x"
    refine wpAny_Assign_Name ?_ (by kernel_rfl!)
    refine Attribute_any_ ?_ (by kernel_rfl!)
    walk_at "n"
    refine at_mu (ga_OctetsIn _) (hd_OctetsIn _) (fa_OctetsIn_at _) gl_at (by assumption) (by rfl) (by assumption) (by repeat (first | constructor | apply List.mem_append_left)) (by first | rfl | assumption) ?_; intro _
    refine st_loc' (by assumption) (by rfl) rfl (by kernel_rfl!) (by kernel_rfl!) fun _ _ S => ?_
    walk_at "x"
    refine wpAny_Assign_Name ?_ (by kernel_rfl!)
    refine mcall ?_ (by kernel_rfl!)
    walk_at "n"
    refine me_mu (ga_OctetsIn _) (gt_OctetsIn _) (fm_OctetsIn_u16 _) (tm_OctetsIn_u16 _) gl_u16 (by assumption) (by assumption) (by repeat (first | constructor | apply List.mem_append_left)) ?_
    refine callWith_K0 (kinH (by assumption)) (by with_reducible exact kp_f_OctetsIn_u16 _) ?_
    replace S := S.swap
    refine c_In_u16 (n := n) R' S.base S.sub hx (S.tu _ (.head _)).2.2.1 (S.muGet (.head _)) o4' (hNs i _ hgi) hz fun t od' b' h' t' G g o5 => ?_
    replace S := (S.call1 (t := t') G g).swap
    dsimp only at S
    refine st_loc' (by assumption) (by rfl) rfl (by kernel_rfl!) (by kernel_rfl!) fun _ _ S => ?_
    walk_at "x"
    refine wpAny_If ?_
    with_reducible refine isTrue_and ?_
    refine isTrue_plain ?_ (by kernel_rfl!)
    walk_at "n"
    refine tru_lst (S.muGet (.head _)) (by lia) ?_
    by_cases h0 : i = 0
    · have hye : ys.isEmpty = true := by rw [Array.isEmpty_iff_size_eq_zero]; lia
      rw [hye]
      refine ite_no rfl ?_
      with_reducible refine ite_no (by with_reducible rfl) ?_
      walk_at "z"; walk_at "x"
      refine wpAny_Expr_any ?_ (by kernel_rfl!) (by kernel_rfl!)
      refine mcall ?_ (by kernel_rfl!)
      walk_at "n"
      rename St _ _ _ _ _ _ _ => S
      refine me_app S (.head _) ?_
      refine callWith_method1 ?_ (by kernel_rfl!) (by kernel_rfl!)
      walk_at "c"; walk_at "n"
      refine args_nil ?_
      refine lst_app S (by rfl) (by lia) fun h₈ t₈ S => ?_
      walk_at "z"
      refine turnI (b2 := b') (mu2 := [(D, listOf (ys.push _) (kk + 1)), (dx, od')]) rfl ⟨_, _, od', rfl, o5, ?_, by walk_at "W look", by walk_at "W look"⟩ (fun a o q => G.up _ _ (hb₄ _ _ q)) S
      rw [Array.toList_push]
      exact hys.push_take hgi (IsI.mk _)
    · have hye : ys.isEmpty = false := by
        cases q : ys.isEmpty with
        | false => rfl
        | true => rw [Array.isEmpty_iff_size_eq_zero] at q; lia
      rw [hye]
      refine ite_yes rfl ?_
      have hpi : (gs.take i)[i - 1]? = some (gs[i - 1]'(by lia)) := by
        rw [List.getElem?_take_of_lt (by lia)]; exact List.getElem?_eq_getElem _
      refine nay fun hG => ?_
      obtain ⟨vl, hvl, ul, rfl⟩ := hys.get' hpi
      refine hG ?_; clear hG
      have hlt : gs[i - 1]'(by lia) < gs[i] := List.pairwise_iff_getElem.mp hasc (i - 1) i (by lia) hi (by lia)
      with_reducible refine isTrue_and ?_
      walk_at "q"; walk_at "n"
      refine Subscript_ ?_
      walk_at "n"
      refine PyProof.Rows.UnaryOp_ ?_
      walk_at "i"
      with_reducible refine PyProof.Rows.neg_int ?_
      rename St _ _ _ _ _ _ _ => S
      refine sub_lst_neg (S.muGet (.head _)) (by decide) (by lia) (by lia) (v := .int (gs[i - 1]'(by lia)) ul) (by rw [show ((-1 : Int) + ys.size).toNat = i - 1 by lia, ← Array.getElem?_toList]; exact hvl) ?_ (by with_unfolding_all rfl)
      with_reducible refine le_int ?_
      walk_at "t"
      refine ite_no (decide_eq_false (by lia)) ?_
      with_reducible refine ite_no (by with_reducible rfl) ?_
      walk_at "z"; walk_at "x"
      refine wpAny_Expr_any ?_ (by kernel_rfl!) (by kernel_rfl!)
      refine mcall ?_ (by kernel_rfl!)
      walk_at "n"
      refine me_app S (.head _) ?_
      refine callWith_method1 ?_ (by kernel_rfl!) (by kernel_rfl!)
      walk_at "c"; walk_at "n"
      refine args_nil ?_
      refine lst_app S (by rfl) (by lia) fun h₈ t₈ S => ?_
      walk_at "z"
      refine turnI (b2 := b') (mu2 := [(D, listOf (ys.push _) (kk + 1)), (dx, od')]) rfl ⟨_, _, od', rfl, o5, ?_, by walk_at "W look", by walk_at "W look"⟩ (fun a o q => G.up _ _ (hb₄ _ _ q)) S
      rw [Array.toList_push]
      exact hys.push_take hgi (IsI.mk _)
  · intro b₄ m' mu' h₆ t₆ hx1 hb₄ S
    refine nay fun hG => ?_
    obtain ⟨ys, kk, od, rfl, o4, hys, m1, m2⟩ := hx1
    refine hG ?_; clear hG
    rw [List.take_of_length_le (Nat.le_refl _)] at hys
    walk_at "x"
    refine wpAny_Return_some ?_
    walk_at "n"
    have S2 := S.freeze hD
    exact k _ _ _ _ _ S2.grow (S2.muGet (.head _)) o4 ⟨D, ys, kk, rfl, PM.put_self .., hys⟩
end
-- XM
noncomputable def spanL (f : Int) (n : Nat) : List Int := (List.range n).map fun i : Nat => f + (i : Int)
theorem spanL_len (f : Int) (n : Nat) : (spanL f n).length = n := by simp [spanL]
theorem all2_span : ∀ (n : Nat) (f : Int) (vs : List Value), vs.length = n → (∀ (i : Nat) (v : Value), vs[i]? = some v → ∃ t, v = Value.int (f + (i : Int) * 1) t) → All2 IsI vs (spanL f n) := by
  intro n
  induction n with
  | zero => intro f vs hl _; obtain rfl := List.length_eq_zero_iff.mp hl; exact .nil
  | succ n ih =>
    intro f vs hl h
    cases vs with
    | nil => cases hl
    | cons v vs =>
      obtain ⟨t, rfl⟩ := h 0 v rfl
      have hs : spanL f (n + 1) = (f + ((0 : Nat) : Int) * 1) :: spanL (f + 1) n := by
        unfold spanL
        rw [List.range_succ_eq_map, List.map_cons, List.map_map]
        congr 1
        apply List.map_congr_left; intro i _; simp only [Function.comp_apply]; lia
      rw [hs]
      refine .cons ⟨t, rfl⟩ (ih _ _ (by simpa using hl) fun i v hv => ?_)
      obtain ⟨t, rfl⟩ := h (i + 1) v (by simpa using hv)
      exact ⟨t, by rw [show f + ((i + 1 : Nat) : Int) * 1 = f + 1 + (i : Int) * 1 by lia]⟩
section
variable {w : World} {A : Around} {E : Value → Shared → Prop} {s s0 : Shared} {e : En} {b : PM} {L : Addr} {m : Str → Option Value} {mu : List (Addr × Obj)} {env : Env} {t0 : Nat} {Q : Value → Shared → Prop}
theorem me_extend {a : Addr} {ys : Array Value} {k : Nat} {pl : Sem Bool} {Q : Value × List Value → Shared → Prop} (S : St w e b L m mu { s with toks := t0 }) (hm : (a, listOf ys k) ∈ mu) (h : Q (.builtin "list.extend", [.ref a]) s) : wpAny (model pw w) A (getMethod (.ref a) "extend" pl) Q E s :=
  getMethod_builtin ⟨_, S.muGet hm, rfl⟩ F.plainAttrs_list F.slot_list_extend F.type_list_extend (fun c e => by cases e; exact ⟨_, S.muGet hm, rfl⟩) h
theorem rng2 {a c : Int} {t u : Tok} (S : St w e b L m mu { s0 with heap := s.heap, toks := t0 }) (hq : s = { s0 with heap := s.heap, toks := s.toks })
    (h : ∀ r v b' h' t', (∀ c oc, b c = some oc → b' c = some oc) → b' r = some { cls := .type "range", data := .fields #[.int a t, .int c u, .int 1 v] } → St w e b' L m mu { s0 with heap := h', toks := t' } → Q (.ref r) { s0 with heap := h', toks := t' }) :
    wpAny (model pw w) A (call (.type "range") [.int a t, .int c u]) Q E s := by
  refine call_range_2 ?_
  have S1 := S.push { cls := .type "range", data := .fields #[.int a t, .int c u, .int 1 s.toks] } (t := s.toks + 1)
  rw [hq]
  exact h _ _ _ _ _ (fun c oc q => PM.put_le S.b_new _ q) (PM.put_self ..) S1
theorem lst_ext {a r : Addr} {k : Nat} {x y : Int} {t u v : Tok} {n : Nat} (hh : A.handled = none) (S : St w e b L m ((a, listOf #[] k) :: mu) { s0 with heap := s.heap, toks := t0 }) (hq : s = { s0 with heap := s.heap, toks := s.toks })
    (hr : b r = some { cls := .type "range", data := .fields #[.int x t, .int y u, .int 1 v] }) (h1 : -1000000 ≤ x) (h2 : x ≤ 1000000) (h3 : -1000000 ≤ y) (h4 : y ≤ 1000000) (hn : y = x + (n : Nat)) (hz : n ≤ 10000)
    (h : ∀ ys k' h' t', All2 IsI (Array.toList ys) (spanL x n) → St w e b L m ((a, listOf ys k') :: mu) { s0 with heap := h', toks := t' } → Q .none { s0 with heap := h', toks := t' }) : wpAny (model pw w) A (call (.builtin "list.extend") [.ref a, .ref r]) Q E s := by
  have g := S.muGet (.head _)
  have gr : IsRange s.heap r x y 1 t u v := S.get hr
  obtain ⟨e1, e2⟩ := small_up h1 h2 h3 h4
  refine wpAny_call (codeAny_call_builtin F.slot_list_extend.plain F.entry_list_extend (F.slot_list_extend.check _ _ _ _ _ _ _ _ ⟨_, g, rfl⟩ (F.args_list_extend_2 _ _) ?_))
  show wpAny _ _ (Builtin.List.listExtendWith (.ref a) (.ref r) .none) _ _ _
  refine wpAny_extend_range (R := wants Q E) (n := n) hh gr e2 (by rw [e1]; lia) (by lia) a .none k g fun h' tk acc' c' hk g' hit => ?_
  have S1 := S.turn (h' := h') (t := tk) g' fun c oc q q' => hk c oc q q'
  have hys := all2_span n x acc'.toList (by simpa using hit.1) fun i v hv => hit.2 i v (by simpa using hv)
  rw [hq]
  exact h _ _ _ _ hys S1
end
section
variable {w : World} {A : Around} {E : Value → Shared → Prop} {s : Shared} {b : PM} {n : Nat} {d : Array UInt8} {p : Nat} {Q : Value → Shared → Prop}
theorem c_read_spans {x dx : Addr} {od : Obj} {f : Int} {g : Nat} (R : Room A (n + 8)) (B : Base w b) (hs : ∀ a o, b a = some o → s.heap.get? a = some o)
    (hx : b x = some (instObj 163 dx)) (hb : b dx = none) (hd : s.heap.get? dx = some od) (ho : InO w.params d p od) (hN : Num d p 1) (hN1 : Num d (p + 2) f) (hN2 : Num d (p + 4) (f + g)) (hN3 : Num d (p + 6) 0) (hz : d.size ≤ 100000) (hf : 0 ≤ f) (hg : g ≤ 60) (hF : f ≤ 65535)
    (k : ∀ v od' b' h' t', Grow b b' s.heap h' [dx] → h'.get? dx = some od' → InO w.params d (p + 8) od' → ListOf b' IsI v (spanL f (g + 1)) → Q v { s with heap := h', toks := t' }) :
    wpAny (model pw w) A (call (.ref 346) [.ref x]) Q E s := by
  have ho' := ho
  refine nay fun hG => ?_
  obtain ⟨t1, t2, t3, t4, nn, rfl⟩ := ho
  refine hG ?_; clear hG
  refine in_read_spans (body := _) rfl R B hs _ (one_mu hd hb) one_nd ?_
  intro L h₁ t₁ hL S R'
  dsimp only [extL] at S
  walk_at "x"
  refine wpAny_Assign_Name ?_ (by kernel_rfl!)
  refine PyProof.Rows.List_ ?_
  refine args_nil ?_
  refine new_lst S (by rfl) (by decide) fun D h₂ t₂ hD _ S => ?_
  refine st_loc' (by assumption) (by rfl) rfl (by kernel_rfl!) (by kernel_rfl!) fun _ _ S => ?_
  walk_at "x"
  refine wpAny_Assign_Name ?_ (by kernel_rfl!)
  walk_at "i"
  refine st_loc' (by assumption) (by rfl) rfl (by kernel_rfl!) (by kernel_rfl!) fun _ _ S => ?_
  walk_at "x"
  refine wpAny_For ?_ (by intro _; kernel_rfl!)
  walk_at "f"
  refine n_range (by assumption) (by kernel_rfl!) (by kernel_rfl!) (by kernel_rfl!) (by kernel_rfl!) ?_
  refine PyProof.Rows.callWith_type1 ?_ (by kernel_rfl!) (by kernel_rfl!)
  walk_at "c"
  refine mcall ?_ (by kernel_rfl!)
  walk_at "n"
  refine me_mu (ga_OctetsIn _) (gt_OctetsIn _) (fm_OctetsIn_u16 _) (tm_OctetsIn_u16 _) gl_u16 (by assumption) (by assumption) (by repeat (first | constructor | apply List.mem_append_left)) ?_
  refine callWith_K0 (kinH (by assumption)) (by with_reducible exact kp_f_OctetsIn_u16 _) ?_
  rename St _ _ _ _ _ _ _ => S
  replace S := S.swap
  refine c_In_u16 (n := n + 2) R' S.base S.sub hx (S.tu _ (.head _)).2.2.1 (S.muGet (.head _)) ho' hN hz fun t od' b' h' t' G gg o' => ?_
  replace S := (S.call1 (t := t') G gg).swap
  dsimp only at S
  replace hx := G.up _ _ hx
  refine args_nil ?_
  refine it_range1 R'.hd S (by rfl) (by lia) (by lia) fun I oI h₃ t₃ W S => ?_
  rw [show (1 : Int).toNat = 1 from rfl] at W
  refine for_src W S rfl (by kernel_rfl!) (by kernel_rfl!) (fun i b₄ m mu => ∃ ys kk od, mu = [(D, listOf ys kk), (dx, od)] ∧ InO w.params d (p + 2 + 6 * i) od ∧ All2 IsI (Array.toList ys) (if i = 0 then [] else spanL f (g + 1)) ∧ m "found" = some (.ref D) ∧ m "octets_in" = some (.ref x) ∧ ∃ t, i = 0 → m "least" = some (.int 0 t))
    ⟨#[], 0, od', rfl, o', .nil, by walk_at "W look", by walk_at "W look", _, fun _ => by walk_at "W look"⟩ ?_ ?_
  · intro i v b₄ m' mu' oI' h₆ t₆ hi hx1 hx2 hb₄ S
    refine nay fun hG => ?_
    obtain ⟨ti, rfl⟩ := hx1
    obtain ⟨ys, kk, od, rfl, o4, hys, m1, m2, tl, m3⟩ := hx2
    obtain rfl : i = 0 := by lia
    refine hG ?_; clear hG
    replace m3 := m3 rfl
    rw [if_pos rfl] at hys
    replace hx := hb₄ _ _ hx
    have hye : ys = #[] := by have := hys.length; simpa using this
    subst hye
    walk_at "x"
    refine PyProof.Rows.Assign_Tuple ?_ (by kernel_rfl!) (by kernel_rfl!)
    walk_at "f"
    refine n_read_span (by assumption) (by kernel_rfl!) (by kernel_rfl!) (by kernel_rfl!) ?_
    refine callWith_K (kinH (by assumption)) (by with_reducible exact kp_f_read_span _) ?_ (by kernel_rfl!) (by kernel_rfl!)
    walk_at "c"; walk_at "n"; walk_at "c"; walk_at "n"
    refine args_nil ?_
    refine And.intro (kinH (by assumption)) ?_
    replace S := S.swap
    refine c_read_span (n := n + 1) R' S.base S.sub hx (S.tu _ (.head _)).2.2.1 (S.muGet (.head _)) o4 hN1 hN2 hz (by lia) (by lia) fun v od' b' h' t' G' gg o5 hv => ?_
    replace S := (S.call1 (t := t') G' gg).swap
    dsimp only at S
    replace hx := G'.up _ _ hx
    refine nay fun hG => ?_
    obtain ⟨T, u1, u2, rfl, hT⟩ := hv
    refine hG ?_; clear hG
    refine as_tup2 R'.hd S (by rfl) hT rfl (by kernel_rfl!) (by kernel_rfl!) (by kernel_rfl!) fun h₇ t₇ S => ?_
    have o5' := o5
    refine nay fun hG => ?_
    obtain ⟨u3, u4, u5, u6, mm, rfl⟩ := o5'
    refine hG ?_; clear hG
    walk_at "x"
    refine wpAny_Assign_Name ?_ (by kernel_rfl!)
    refine Attribute_any_ ?_ (by kernel_rfl!)
    walk_at "n"
    refine at_mu (ga_OctetsIn _) (hd_OctetsIn _) (fa_OctetsIn_at _) gl_at (by assumption) (by rfl) (by assumption) (by repeat (first | constructor | apply List.mem_append_left)) (by first | rfl | assumption) ?_; intro _
    refine st_loc' (by assumption) (by rfl) rfl (by kernel_rfl!) (by kernel_rfl!) fun _ _ S => ?_
    walk_at "x"
    refine wpAny_If ?_
    walk_at "q"
    refine mcall ?_ (by kernel_rfl!)
    walk_at "n"
    refine me_mu (ga_OctetsIn _) (gt_OctetsIn _) (fm_OctetsIn_u16 _) (tm_OctetsIn_u16 _) gl_u16 (by assumption) (by assumption) (by repeat (first | constructor | apply List.mem_append_left)) ?_
    refine callWith_K0 (kinH (by assumption)) (by with_reducible exact kp_f_OctetsIn_u16 _) ?_
    replace S := S.swap
    refine c_In_u16 (n := n + 2) R' S.base S.sub hx (S.tu _ (.head _)).2.2.1 (S.muGet (.head _)) o5 hN3 hz fun t od' b' h' t' G gg o6 => ?_
    replace S := (S.call1 (t := t') G gg).swap
    dsimp only at S
    replace hx := G.up _ _ hx
    walk_at "f"
    refine n_len (by assumption) (by kernel_rfl!) (by kernel_rfl!) (by kernel_rfl!) (by kernel_rfl!) ?_
    refine PyProof.Rows.callWith_builtin1 ?_ (by kernel_rfl!) (by kernel_rfl!)
    walk_at "c"; walk_at "n"
    refine args_nil ?_
    refine len_lst (S.muGet (.head _)) (by decide) ?_
    with_reducible refine ne_int ?_
    walk_at "t"
    refine ite_no (by rfl) ?_
    walk_at "z"; walk_at "x"
    refine wpAny_Expr_any ?_ (by kernel_rfl!) (by kernel_rfl!)
    refine mcall ?_ (by kernel_rfl!)
    walk_at "n"
    refine me_extend S (.head _) ?_
    refine callWith_method1 ?_ (by kernel_rfl!) (by kernel_rfl!)
    walk_at "c"; walk_at "f"
    refine n_range (by assumption) (by kernel_rfl!) (by kernel_rfl!) (by kernel_rfl!) (by kernel_rfl!) ?_
    refine PyProof.Rows.callWith_type1 ?_ (by kernel_rfl!) (by kernel_rfl!)
    walk_at "c"; walk_at "n"; walk_at "c"
    with_reducible refine wpAny_BinOp ?_
    walk_at "n"; walk_at "i"
    with_reducible refine add_int ?_
    refine args_nil ?_
    refine rng2 S (by rfl) fun rr uv b₅ h₈ t₈ up5 hrr S => ?_
    refine args_nil ?_
    refine lst_ext (n := g + 1) R'.hd S (by rfl) hrr (by lia) (by lia) (by lia) (by lia) (by lia) (by lia) fun ys' k' h₉ t₉ hy' S => ?_
    walk_at "x"
    refine wpAny_Assign_Name ?_ (by kernel_rfl!)
    with_reducible refine wpAny_BinOp ?_
    walk_at "n"; walk_at "i"
    with_reducible refine add_int ?_
    refine st_loc' (by assumption) (by rfl) rfl (by kernel_rfl!) (by kernel_rfl!) fun _ _ S => ?_
    walk_at "z"
    refine turnI (b2 := b₅) (mu2 := [(D, listOf ys' k'), (dx, od')]) rfl ⟨ys', k', od', rfl, o6, hy', by walk_at "W look", by walk_at "W look", 0, fun q => absurd q (by decide)⟩ (fun a o q => up5 _ _ (G.up _ _ (G'.up _ _ (hb₄ _ _ q)))) S
  · intro b₄ m' mu' h₆ t₆ hx1 hb₄ S
    refine nay fun hG => ?_
    obtain ⟨ys, kk, od, rfl, o4, hys, m1, m2, _⟩ := hx1
    refine hG ?_; clear hG
    walk_at "x"
    refine wpAny_Return_some ?_
    walk_at "n"
    have S2 := S.freeze hD
    exact k _ _ _ _ _ S2.grow (S2.muGet (.head _)) o4 ⟨D, ys, kk, rfl, PM.put_self .., hys⟩
end
-- XN
noncomputable def CovD (d : Array UInt8) (q : Nat) (gs : List Int) : Prop :=
  gs.length ≤ 60 ∧ ((Num d q 1 ∧ Num d (q + 2) (gs.length : Nat) ∧ (∀ i v, gs[i]? = some v → Num d (q + 2 + 2 + 2 * i) v) ∧ gs.Pairwise (· < ·)) ∨
   ∃ (f : Int) (g : Nat), Num d q 2 ∧ Num d (q + 2) 1 ∧ Num d (q + 2 + 2) f ∧ Num d (q + 2 + 4) (f + g) ∧ Num d (q + 2 + 6) 0 ∧ gs = spanL f (g + 1) ∧ 0 ≤ f ∧ f ≤ 65535)
section
variable {w : World} {A : Around} {E : Value → Shared → Prop} {s : Shared} {b : PM} {n : Nat} {d : Array UInt8} {p : Nat} {Q : Value → Shared → Prop}
theorem c_read_coverage {t1 t2 : Tok} {at' : Int} {gs : List Int} (R : Room A (n + 9)) (B : Base w b) (hs : ∀ a o, b a = some o → s.heap.get? a = some o)
    (ha : at' = (p : Nat)) (hD : CovD d p gs) (hz : d.size ≤ 100000)
    (k : ∀ v b' h' t', Grow b b' s.heap h' [] → Cov w.params b' v gs → Q v { s with heap := h', toks := t' }) :
    wpAny (model pw w) A (call (.ref 353) [.bytes d t1, .int at' t2]) Q E s := by
  subst ha
  obtain ⟨hgl, hD⟩ := hD
  refine in_read_coverage (body := _) rfl R B hs [] (fun _ h => bbot h) List.nodup_nil ?_
  intro L h₁ t₁ hL S R'
  dsimp only [extL] at S
  walk_at "x"
  refine wpAny_Assign_Name ?_ (by kernel_rfl!)
  walk_at "f"
  refine n_OctetsIn (by assumption) (by kernel_rfl!) (by kernel_rfl!) (by kernel_rfl!) ?_
  refine callWith_K (kinH (by assumption)) (by with_reducible exact kp_OctetsIn _) ?_ (by kernel_rfl!) (by kernel_rfl!)
  walk_at "c"; walk_at "n"; walk_at "c"; walk_at "n"
  refine args_nil ?_
  refine And.intro (kinH (by assumption)) ?_
  refine c_new_in (n := n + 5) (d := d) (p := p) R' S.base S.sub fun x dx od b₂ h₂ t₂ G hx hb hd hn ho => ?_
  replace S := S.call0M (t := t₂) G hd hb hn
  dsimp only at S
  have ho' := ho
  refine nay fun hG => ?_
  obtain ⟨u1, u2, u3, u4, nn, rfl⟩ := ho
  refine hG ?_; clear hG
  have hd2 := S.tu _ (.head _)
  have hdn : h₁.objs.size ≤ dx := hn
  refine st_loc' (by assumption) (by rfl) rfl (by kernel_rfl!) (by kernel_rfl!) fun _ _ S => ?_
  walk_at "x"
  refine wpAny_Assign_Name ?_ (by kernel_rfl!)
  refine mcall ?_ (by kernel_rfl!)
  walk_at "n"
  refine me_mu (ga_OctetsIn _) (gt_OctetsIn _) (fm_OctetsIn_u16 _) (tm_OctetsIn_u16 _) gl_u16 (by assumption) (by assumption) (by repeat (first | constructor | apply List.mem_append_left)) ?_
  refine callWith_K0 (kinH (by assumption)) (by with_reducible exact kp_f_OctetsIn_u16 _) ?_
  rcases hD with ⟨hN, hN1, hNs, hasc⟩ | ⟨f, g, hN, hN1, hN2, hN3, hN4, rfl, hf, hF⟩
  · refine c_In_u16 (n := n + 3) R' S.base S.sub hx (S.tu _ (.head _)).2.2.1 (S.muGet (.head _)) ho' hN hz fun t od' b' h' t' G g o' => ?_
    replace S := S.call1 (t := t') G g
    dsimp only at S
    replace hx := G.up _ _ hx
    refine st_loc' (by assumption) (by rfl) rfl (by kernel_rfl!) (by kernel_rfl!) fun _ _ S => ?_
    walk_at "x"
    refine wpAny_If ?_
    walk_at "q"; walk_at "n"; walk_at "i"
    with_reducible refine eq_int ?_
    walk_at "t"
    refine ite_yes (by rfl) ?_
    walk_at "x"
    refine wpAny_Return_some ?_
    walk_at "f"
    refine n_Coverage (by assumption) (by kernel_rfl!) (by kernel_rfl!) (by kernel_rfl!) ?_
    refine callWith_K (kinH (by assumption)) (by with_reducible exact kp_Coverage _) ?_ (by kernel_rfl!) (by kernel_rfl!)
    walk_at "c"; walk_at "f"
    refine n_tuple (by assumption) (by kernel_rfl!) (by kernel_rfl!) (by kernel_rfl!) (by kernel_rfl!) ?_
    refine PyProof.Rows.callWith_type1 ?_ (by kernel_rfl!) (by kernel_rfl!)
    walk_at "c"; walk_at "f"
    refine n_read_ascending (by assumption) (by kernel_rfl!) (by kernel_rfl!) (by kernel_rfl!) ?_
    refine callWith_K (kinH (by assumption)) (by with_reducible exact kp_f_read_ascending _) ?_ (by kernel_rfl!) (by kernel_rfl!)
    walk_at "c"; walk_at "n"
    refine args_nil ?_
    refine And.intro (kinH (by assumption)) ?_
    refine c_read_ascending (n := n + 2) R' S.base S.sub hx (S.tu _ (.head _)).2.2.1 (S.muGet (.head _)) o' hN1 hNs hz hgl hasc fun v od' b' h' t' G g o' hv => ?_
    replace S := S.call1 (t := t') G g
    dsimp only at S
    refine nay fun hG => ?_
    obtain ⟨D, vs, kk, rfl, hD, hvs⟩ := hv
    refine hG ?_; clear hG
    refine args_nil ?_
    refine tup_list S (by rfl) (S.get hD) hvs (by have := hvs.length; simp at this; lia) fun a b₄ h₄ t₄ up ht S => ?_
    refine args_nil ?_
    refine And.intro (kinH (by assumption)) ?_
    refine c_new_cov (n := n + 5) R' S.base S.sub ht fun v b₅ h₅ t₅ G hc => ?_
    replace S := S.call0 (t := t₅) G
    dsimp only at S
    exact k _ _ _ _ S.grow hc
  · refine c_In_u16 (n := n + 3) R' S.base S.sub hx (S.tu _ (.head _)).2.2.1 (S.muGet (.head _)) ho' hN hz fun t od' b' h' t' G gg o' => ?_
    replace S := S.call1 (t := t') G gg
    dsimp only at S
    replace hx := G.up _ _ hx
    refine st_loc' (by assumption) (by rfl) rfl (by kernel_rfl!) (by kernel_rfl!) fun _ _ S => ?_
    walk_at "x"
    refine wpAny_If ?_
    walk_at "q"; walk_at "n"; walk_at "i"
    with_reducible refine eq_int ?_
    walk_at "t"
    refine ite_no (by rfl) ?_
    walk_at "z"; walk_at "x"
    refine wpAny_If ?_
    walk_at "q"; walk_at "n"; walk_at "i"
    with_reducible refine eq_int ?_
    walk_at "t"
    refine ite_yes (by rfl) ?_
    walk_at "x"
    refine wpAny_Return_some ?_
    walk_at "f"
    refine n_Coverage (by assumption) (by kernel_rfl!) (by kernel_rfl!) (by kernel_rfl!) ?_
    refine callWith_K (kinH (by assumption)) (by with_reducible exact kp_Coverage _) ?_ (by kernel_rfl!) (by kernel_rfl!)
    walk_at "c"; walk_at "f"
    refine n_tuple (by assumption) (by kernel_rfl!) (by kernel_rfl!) (by kernel_rfl!) (by kernel_rfl!) ?_
    refine PyProof.Rows.callWith_type1 ?_ (by kernel_rfl!) (by kernel_rfl!)
    walk_at "c"; walk_at "f"
    refine n_read_spans (by assumption) (by kernel_rfl!) (by kernel_rfl!) (by kernel_rfl!) ?_
    refine callWith_K (kinH (by assumption)) (by with_reducible exact kp_f_read_spans _) ?_ (by kernel_rfl!) (by kernel_rfl!)
    walk_at "c"; walk_at "n"
    refine args_nil ?_
    refine And.intro (kinH (by assumption)) ?_
    rw [spanL_len] at hgl
    refine c_read_spans (n := n) R' S.base S.sub hx (S.tu _ (.head _)).2.2.1 (S.muGet (.head _)) o' hN1 hN2 hN3 hN4 hz hf (by lia) hF fun v od' b' h' t' G gg o' hv => ?_
    replace S := S.call1 (t := t') G gg
    dsimp only at S
    refine nay fun hG => ?_
    obtain ⟨D, vs, kk, rfl, hD, hvs⟩ := hv
    refine hG ?_; clear hG
    refine args_nil ?_
    refine tup_list S (by rfl) (S.get hD) hvs (by have := hvs.length; rw [spanL_len] at this; simp at this; lia) fun a b₄ h₄ t₄ up ht S => ?_
    refine args_nil ?_
    refine And.intro (kinH (by assumption)) ?_
    refine c_new_cov (n := n + 5) R' S.base S.sub ht fun v b₅ h₅ t₅ G hc => ?_
    replace S := S.call0 (t := t₅) G
    dsimp only at S
    exact k _ _ _ _ S.grow hc
theorem c_read_coverages {x dx : Addr} {od : Obj} {t1 t2 t3 : Tok} {at' : Int} {offs : List Int} {covs : List (List Int)} (R : Room A (n + 10)) (B : Base w b) (hs : ∀ a o, b a = some o → s.heap.get? a = some o)
    (hx : b x = some (instObj 163 dx)) (hb : b dx = none) (hd : s.heap.get? dx = some od) (ho : InO w.params d p od) (hN : ∀ (i : Nat) (v : Int), offs[i]? = some v → Num d (p + 2 * i) v) (hc : p + 2 * offs.length ≤ d.size) (hz : d.size ≤ 100000) (hl : offs.length ≤ 20)
    (hlc : covs.length = offs.length) (hC : ∀ (i : Nat) (o : Int) (gs : List Int), offs[i]? = some o → covs[i]? = some gs → o ≠ 0 ∧ ∃ q : Nat, at' + o = (q : Nat) ∧ CovD d q gs)
    (k : ∀ v od' b' h' t', Grow b b' s.heap h' [dx] → h'.get? dx = some od' → InO w.params d (p + 2 * offs.length) od' → TupOf b' (Cov w.params b') v covs → Q v { s with heap := h', toks := t' }) :
    wpAny (model pw w) A (call (.ref 383) [.bytes d t1, .int at' t2, .ref x, .int (offs.length : Nat) t3]) Q E s := by
  have ho' := ho
  refine nay fun hG => ?_
  obtain ⟨u1, u2, u3, u4, nn, rfl⟩ := ho
  refine hG ?_; clear hG
  refine in_read_coverages (body := _) rfl R B hs _ (one_mu hd hb) one_nd ?_
  intro L h₁ t₁ hL S R'
  dsimp only [extL] at S
  walk_at "x"
  refine wpAny_Assign_Name ?_ (by kernel_rfl!)
  refine Attribute_any_ ?_ (by kernel_rfl!)
  walk_at "n"
  refine at_mu (ga_OctetsIn _) (hd_OctetsIn _) (fa_OctetsIn_at _) gl_at (by assumption) (by rfl) (by assumption) (by repeat (first | constructor | apply List.mem_append_left)) (by first | rfl | assumption) ?_; intro _
  refine st_loc' (by assumption) (by rfl) rfl (by kernel_rfl!) (by kernel_rfl!) fun _ _ S => ?_
  walk_at "x"
  refine wpAny_Assign_Name ?_ (by kernel_rfl!)
  refine mcall ?_ (by kernel_rfl!)
  walk_at "n"
  refine me_mu (ga_OctetsIn _) (gt_OctetsIn _) (fm_OctetsIn_rows _) (tm_OctetsIn_rows _) gl_rows (by assumption) (by assumption) (by repeat (first | constructor | apply List.mem_append_left)) ?_
  refine callWith_K (kinH (by assumption)) (by with_reducible exact kp_f_OctetsIn_rows _) ?_ (by kernel_rfl!) (by kernel_rfl!)
  walk_at "c"; walk_at "n"
  refine args_nil ?_
  refine And.intro (kinH (by assumption)) ?_
  refine c_In_rows (n := n + 3) R' S.base S.sub hx (S.tu _ (.head _)).2.2.1 (S.muGet (.head _)) ho' hN hc hz (by lia) fun v od' b' h' t' G gg o' hv => ?_
  replace S := S.call1 (t := t') G gg
  dsimp only at S
  replace hx := G.up _ _ hx
  refine nay fun hG => ?_
  obtain ⟨F, fs, kf, rfl, hF, hfs⟩ := hv
  refine hG ?_; clear hG
  refine st_loc' (by assumption) (by rfl) rfl (by kernel_rfl!) (by kernel_rfl!) fun _ _ S => ?_
  walk_at "x"
  refine wpAny_Assign_Name ?_ (by kernel_rfl!)
  refine PyProof.Rows.List_ ?_
  refine args_nil ?_
  refine new_lst S (by rfl) (by decide) fun D h₂ t₂ hD _ S => ?_
  refine st_loc' (by assumption) (by rfl) rfl (by kernel_rfl!) (by kernel_rfl!) fun _ _ S => ?_
  walk_at "x"
  refine wpAny_For ?_ (by intro _; kernel_rfl!)
  walk_at "f"
  refine n_range (by assumption) (by kernel_rfl!) (by kernel_rfl!) (by kernel_rfl!) (by kernel_rfl!) ?_
  refine PyProof.Rows.callWith_type1 ?_ (by kernel_rfl!) (by kernel_rfl!)
  walk_at "c"; walk_at "n"
  refine args_nil ?_
  rename St _ _ _ _ _ _ _ => S
  refine it_range1 R'.hd S (by rfl) (by lia) (by lia) fun I oI h₃ t₃ W S => ?_
  rw [Int.toNat_natCast] at W
  refine for_src W S rfl (by kernel_rfl!) (by kernel_rfl!) (fun i b₄ m mu => ∃ ys kk, mu = [(D, listOf ys kk), (dx, od')] ∧ All2 (Cov w.params b₄) ys.toList (covs.take i) ∧ m "found" = some (.ref D) ∧ m "offsets" = some (.ref F) ∧ m "data" = some (.bytes d t1) ∧ m "at" = some (.int at' t2))
    ⟨#[], 0, rfl, .nil, by walk_at "W look", by walk_at "W look", by walk_at "W look", by walk_at "W look"⟩ ?_ ?_
  · intro i v b₄ m' mu' oI' h₆ t₆ hi hx1 hx2 hb₄ S
    refine nay fun hG => ?_
    obtain ⟨ti, rfl⟩ := hx1
    obtain ⟨ys, kk, rfl, hys, m1, m2, m3, m4⟩ := hx2
    refine hG ?_; clear hG
    replace hF := hb₄ _ _ hF
    have hci : covs[i]? = some covs[i] := List.getElem?_eq_getElem (by lia)
    have hoi : offs[i]? = some offs[i] := List.getElem?_eq_getElem hi
    refine nay fun hG => ?_
    obtain ⟨hne, q, hq, hCD⟩ := hC i _ _ hoi hci
    obtain ⟨vo, hvo, uo, rfl⟩ := hfs.get' hoi
    refine hG ?_; clear hG
    have hyl : ys.size = i := by have := hys.length; rw [List.length_take] at this; simp at this; lia
    have hfl : fs.size = offs.length := by have := hfs.length; simpa using this
    walk_at "x"
    refine wpAny_If ?_
    walk_at "q"
    refine Subscript_ ?_
    walk_at "n"; walk_at "n"
    refine sub_lst (S.get hF) (by lia) (by lia) (v := .int offs[i] uo) (by rw [Int.toNat_natCast, ← Array.getElem?_toList]; exact hvo) ?_ (by with_unfolding_all rfl)
    walk_at "i"
    with_reducible refine eq_int ?_
    walk_at "t"
    refine ite_no (beq_eq_false_iff_ne.mpr hne) ?_
    walk_at "z"; walk_at "x"
    refine wpAny_Expr_any ?_ (by kernel_rfl!) (by kernel_rfl!)
    refine mcall ?_ (by kernel_rfl!)
    walk_at "n"
    refine me_app S (.head _) ?_
    refine callWith_method1 ?_ (by kernel_rfl!) (by kernel_rfl!)
    walk_at "c"; walk_at "f"
    refine n_read_coverage (by assumption) (by kernel_rfl!) (by kernel_rfl!) (by kernel_rfl!) ?_
    refine callWith_K (kinH (by assumption)) (by with_reducible exact kp_f_read_coverage _) ?_ (by kernel_rfl!) (by kernel_rfl!)
    walk_at "c"; walk_at "n"; walk_at "c"
    with_reducible refine wpAny_BinOp ?_
    walk_at "n"
    refine Subscript_ ?_
    walk_at "n"; walk_at "n"
    refine sub_lst (S.get hF) (by lia) (by lia) (v := .int offs[i] uo) (by rw [Int.toNat_natCast, ← Array.getElem?_toList]; exact hvo) ?_ (by with_unfolding_all rfl)
    with_reducible refine add_int ?_
    refine args_nil ?_
    refine And.intro (kinH (by assumption)) ?_
    refine c_read_coverage (n := n) R' S.base S.sub hq hCD hz fun v b₅ h₅ t₅ G hv => ?_
    replace S := S.call0 (t := t₅) G
    dsimp only at S
    refine args_nil ?_
    refine lst_app S (by rfl) (by lia) fun h₈ t₈ S => ?_
    walk_at "z"
    refine turnI (b2 := b₅) (mu2 := [(D, listOf (ys.push v) (kk + 1)), (dx, od')]) rfl ⟨_, _, rfl, ?_, by walk_at "W look", by walk_at "W look", by walk_at "W look", by walk_at "W look"⟩ (fun a o q => G.up _ _ (hb₄ _ _ q)) S
    rw [Array.toList_push]
    exact (hys.mono fun _ _ z => z.up G.up).push_take hci hv
  · intro b₄ m' mu' h₆ t₆ hx1 hb₄ S
    refine nay fun hG => ?_
    obtain ⟨ys, kk, rfl, hys, m1, m2, m3, m4⟩ := hx1
    refine hG ?_; clear hG
    rw [List.take_of_length_le (by lia)] at hys
    refine S.frzK hD fun b₅ up5 gD S => ?_
    have hyl : ys.size = offs.length := by have := hys.length; simp at this; lia
    walk_at "x"
    refine wpAny_Return_some ?_
    walk_at "f"
    refine n_tuple (by assumption) (by kernel_rfl!) (by kernel_rfl!) (by kernel_rfl!) (by kernel_rfl!) ?_
    refine PyProof.Rows.callWith_type1 ?_ (by kernel_rfl!) (by kernel_rfl!)
    walk_at "c"; walk_at "n"
    refine args_nil ?_
    refine tup_list (P := Cov w.params b₅) S (by rfl) (S.get gD) (hys.mono fun _ _ z => z.up up5) (by lia) fun a b₆ h₇ t₇ up ht S => ?_
    exact k _ _ _ _ _ S.grow (S.muGet (.head _)) o' (ht.mono (fun _ _ q => q) fun _ _ z => z.up up)
end
-- XO
section
variable {w : World} {A : Around} {E : Value → Shared → Prop} {s : Shared} {b : PM} {n : Nat} {Q : Value → Shared → Prop}
theorem c_new_rev {mv bv av : Value} {mp : List (Int × Int)} {back ahead : List (List Int)} (R : Room A (n + 3)) (B : Base w b) (hs : ∀ a o, b a = some o → s.heap.get? a = some o) (hm : MapO w b mv mp) (hb : TupOf b (Cov w.params b) bv back) (ha : TupOf b (Cov w.params b) av ahead)
    (k : ∀ v b' h' t', Grow b b' s.heap h' [] → Rev w b' v mp back ahead → Q v { s with heap := h', toks := t' }) : wpAny (model pw w) A (call (.ref 412) [mv, bv, av]) Q E s := by
  refine new_obj (fun od => ∃ t1 t2 t3 n, od = dictOf (dRev w.params t1 mv t2 bv t3 av) n) B hs (mk_Reverse _) (ii_Reverse _) (ty_Reverse_init _) R ?_ ?_
  · intro A' x dx b₁ s₁ Q' R1 B1 hs1 hx hmm hup k1
    refine inC_Reverse__init (body := _) rfl R1 B1 hs1 [(dx, dictOf [] 0)] hmm one_nd ?_
    intro L h₁ t₁ hL S R'
    dsimp only [extL] at S
    refine nay fun hG => ?_
    obtain ⟨D, oD, kvs, rfl, hD5, hD, hDO, hKV⟩ := hm
    obtain ⟨TB, vb, rfl, hTB, hvb⟩ := hb
    obtain ⟨TA, va, rfl, hTA, hva⟩ := ha
    refine hG ?_; clear hG
    walk_at "x"
    refine plainObj_wpAny_Assign_Attribute ?_ (by kernel_rfl!)
    walk_at "n"; walk_at "n"
    (with_reducible rename St _ _ _ _ _ _ _ => sOld); refine as_mu (sa_Reverse _) (po_Reverse _) (ta_Reverse_mapping _) (hd_Reverse _) pl_mapping sOld (by rfl) (by assumption) (by kernel_rfl!) (Nat.le_of_ble_eq_true (by kernel_rfl!)) (Nat.le_of_ble_eq_true (by kernel_rfl!)) ?_; clear sOld; intro _ _ _ _
    walk_at "x"
    refine plainObj_wpAny_Assign_Attribute ?_ (by kernel_rfl!)
    walk_at "n"; walk_at "n"
    (with_reducible rename St _ _ _ _ _ _ _ => sOld); refine as_mu (sa_Reverse _) (po_Reverse _) (ta_Reverse_back _) (hd_Reverse _) pl_back sOld (by rfl) (by assumption) (by kernel_rfl!) (Nat.le_of_ble_eq_true (by kernel_rfl!)) (Nat.le_of_ble_eq_true (by kernel_rfl!)) ?_; clear sOld; intro _ _ _ _
    walk_at "x"
    refine plainObj_wpAny_Assign_Attribute ?_ (by kernel_rfl!)
    walk_at "n"; walk_at "n"
    (with_reducible rename St _ _ _ _ _ _ _ => sOld); refine as_mu (sa_Reverse _) (po_Reverse _) (ta_Reverse_ahead _) (hd_Reverse _) pl_ahead sOld (by rfl) (by assumption) (by kernel_rfl!) (Nat.le_of_ble_eq_true (by kernel_rfl!)) (Nat.le_of_ble_eq_true (by kernel_rfl!)) ?_; clear sOld; intro _ _ _ _
    walk_at "z"
    rename St _ _ _ _ _ _ _ => S
    exact k1 _ _ _ _ _ _ S ⟨_, _, _, _, rfl⟩
  · intro x dx od b' h' t' G hx hdx hd hdn hx1
    refine nay fun hG => ?_
    obtain ⟨t1, t2, t3, nn, rfl⟩ := hx1
    refine hG ?_; clear hG
    have G' := G.put hd hdx hdn
    exact k (.ref x) _ h' t' G' ⟨x, dx, t1, mv, t2, bv, t3, av, nn, rfl, PM.put_le hdx _ hx, PM.put_self .., hm.up G'.up, hb.mono G'.up fun _ _ z => z.up G'.up, ha.mono G'.up fun _ _ z => z.up G'.up⟩
theorem in_Reverse_told {k : Nat} {body : List Stmt} {x0 : Value} (hbody : f_Reverse_told.body = .stmts body)
    (R : Room A (k + 1)) (B : Base w b) (hs : ∀ a o, b a = some o → s.heap.get? a = some o) (mu : List (Addr × Obj)) (hm : ∀ p ∈ mu, s.heap.get? p.1 = some p.2 ∧ b p.1 = none) (nd : (mu.map (·.1)).Nodup)
    (h : ∀ L h₁ t₁ b₁, L = s.heap.objs.size → (∀ a o, b a = some o → b₁ a = some o) → CellAt b₁ (L + 1) x0 → St w ⟨s.heap, b, mu.map (·.1)⟩ b₁ L (extL [] fun _ => none) mu { s with heap := h₁, toks := t₁ } → Room (A.deeper (callEnvC f_Reverse_told L 409)) k →
      wpAny (model pw w) (A.deeper (callEnvC f_Reverse_told L 409)) (execs body (callEnvC f_Reverse_told L 409)) (fun fl s' => Q (match fl with | .ret v => v | _ => .none) s') (fun _ _ => False) { s with heap := h₁, toks := t₁ }) :
    wpAny (model pw w) A (call (.ref 409) [x0]) Q E s :=
  enterCell R B hs mu hm nd (lk_Reverse_told _) (cd_Reverse_told _) hbody (binds := [("self", x0)]) (by kernel_rfl!) (by kernel_rfl!) (x := "self") (by intro L; kernel_rfl!) (by kernel_rfl!) (by intro L; kernel_rfl!) (by intro L; kernel_rfl!) (by kernel_rfl!) (by kernel_rfl!) (by kernel_rfl!) h
noncomputable def ToldIs (b : PM) (v : Value) (ps : List (Int × Int)) (back ahead : List (List Int)) : Prop :=
  ∃ T tp tb ta, v = .ref T ∧ b T = some (tupO #[tp, tb, ta]) ∧ TupOf b (IsPr b) tp ps ∧ TupOf b (TupOf b IsI) tb back ∧ TupOf b (TupOf b IsI) ta ahead
theorem ToldIs.up {b b' : PM} {v : Value} {ps : List (Int × Int)} {back ahead : List (List Int)} (h : ToldIs b v ps back ahead) (hb : ∀ a o, b a = some o → b' a = some o) : ToldIs b' v ps back ahead := by
  refine nay fun hG => ?_
  obtain ⟨T, tp, tb, ta, e, g, h1, h2, h3⟩ := h
  refine hG ?_; clear hG
  exact ⟨T, tp, tb, ta, e, hb _ _ g, h1.mono hb fun _ _ z => z.up hb, h2.mono hb fun _ _ z => z.up hb, h3.mono hb fun _ _ z => z.up hb⟩
noncomputable def toldPairs (mp : List (Int × Int)) : List (Int × Int) := (revKeys mp).map fun k => (k, val mp k)
theorem c_told {v : Value} {mp : List (Int × Int)} {back ahead : List (List Int)} (R : Room A (n + 5)) (B : Base w b) (hs : ∀ a o, b a = some o → s.heap.get? a = some o) (hv : Rev w b v mp back ahead)
    (hnd : (mp.map (·.1)).Nodup) (hml : mp.length ≤ 20) (hbl : back.length ≤ 20) (hal : ahead.length ≤ 20)
    (k : ∀ r b' h' t', Grow b b' s.heap h' [] → ToldIs b' r (toldPairs mp) back ahead → Q r { s with heap := h', toks := t' }) : wpAny (model pw w) A (call (.ref 409) [v]) Q E s := by
  refine nay fun hG => ?_
  obtain ⟨x, dx, t1, mv, t2, bv, t3, av, nn, rfl, hx, hdx, hmp, hbk, hah⟩ := hv
  obtain ⟨d, od, kvs, rfl, hd5, hd, hDO, hKV⟩ := hmp
  obtain ⟨TB, vb, rfl, hTB, hvb⟩ := hbk
  obtain ⟨TA, va, rfl, hTA, hva⟩ := hah
  refine hG ?_; clear hG
  have hkl : kvs.length = mp.length := by have := congrArg List.length hKV.1; simpa using this
  refine in_Reverse_told (body := _) rfl R B hs [] (fun _ h => bbot h) List.nodup_nil ?_
  intro L h₁ t₁ b₁ hL hup hC S R'
  dsimp only [extL] at S
  replace hx := hup _ _ hx
  replace hdx := hup _ _ hdx
  replace hd := hup _ _ hd
  replace hTB := hup _ _ hTB
  replace hTA := hup _ _ hTA
  replace hvb := hvb.mono fun _ _ z => z.up hup
  replace hva := hva.mono fun _ _ z => z.up hup
  walk_at "x"
  refine wpAny_Assign_Name ?_ (by kernel_rfl!)
  walk_at "f"
  refine n_tuple (by assumption) (by kernel_rfl!) (by kernel_rfl!) (by kernel_rfl!) (by kernel_rfl!) ?_
  refine PyProof.Rows.callWith_type1 ?_ (by kernel_rfl!) (by kernel_rfl!)
  walk_at "c"
  refine lcomp (cl := [("self", L + 1)]) (by intro _; kernel_rfl!) (by kernel_rfl!) (by kernel_rfl!) (by decide +kernel) ?_
  walk_at "f"
  refine n_sorted (by assumption) (by kernel_rfl!) (by kernel_rfl!) (by kernel_rfl!) (by kernel_rfl!) ?_
  refine PyProof.Rows.callWith_builtin1 ?_ (by kernel_rfl!) (by kernel_rfl!)
  walk_at "c"
  refine Attribute_any_ ?_ (by kernel_rfl!)
  refine n_cell (by assumption) (by assumption) (by kernel_rfl!) (by kernel_rfl!) (by kernel_rfl!) (by kernel_rfl!) ?_
  refine at_b (ga_Reverse _) (hd_Reverse _) (fa_Reverse_mapping _) gl_mapping (by assumption) (by rfl) (by assumption) (by assumption) (by first | rfl | assumption) ?_; intro _
  refine args_nil ?_
  rename St _ _ _ _ _ _ _ => S
  refine srt_dict (kvs := kvs) R'.hd S (by rfl) hDO (S.get hd) hd5 (by lia) fun Dg b₂ h₂ t₂ up hgl S => ?_
  rw [hKV.1] at hgl
  change ListOf b₂ IsI (.ref Dg) (revKeys mp) at hgl
  replace hx := up _ _ hx
  replace hdx := up _ _ hdx
  replace hd := up _ _ hd
  replace hTB := up _ _ hTB
  replace hTA := up _ _ hTA
  replace hC := hC.up up
  replace hvb := hvb.mono fun _ _ z => z.up up
  replace hva := hva.mono fun _ _ z => z.up up
  have hkeys : (revKeys mp).length = mp.length := by unfold revKeys; rw [(isort_perm _).length_eq, List.length_map]
  refine nay fun hG => ?_
  obtain ⟨Dg', vg, kg, e1, hDg, hvg⟩ := hgl
  refine hG ?_; clear hG
  cases e1
  have hgl : vg.size = mp.length := by have := hvg.length; simp at this; lia
  refine it_list R'.hd S (by rfl) hDg fun I2 oI2 h₃ t₃ W2 S => ?_
  refine comp_src W2 S (by lia) (by decide) rfl (by kernel_rfl!) (fun i b₄ mu ys => mu = [] ∧ All2 (IsPr b₄) ys.toList ((toldPairs mp).take i)) ⟨rfl, .nil⟩ ?_ ?_
  · rintro i v b₄ mC mu ys tl h₄ t₄ C hi hv ⟨rfl, hy⟩ hb₄ S
    refine nay fun hG => ?_
    obtain ⟨g, hg, tg, rfl⟩ := hvg.get (by rw [Array.getElem?_toList]; exact hv)
    refine hG ?_; clear hG
    have hgk : g ∈ mp.map (·.1) := (isort_perm _).mem_iff.mp (List.mem_of_getElem? hg)
    refine nay fun hG => ?_
    obtain ⟨vv, hvv, tv, rfl⟩ := hKV.val hnd hgk
    refine hG ?_; clear hG
    replace hx := hb₄ _ _ hx
    replace hdx := hb₄ _ _ hdx
    replace hd := hb₄ _ _ hd
    replace hC := hC.up hb₄
    refine PyProof.Rows.Tuple_ ?_
    walk_at "c"; walk_at "n"; walk_at "c"
    refine Subscript_ ?_
    refine Attribute_any_ ?_ (by kernel_rfl!)
    refine n_cell (by assumption) (by assumption) (by kernel_rfl!) (by kernel_rfl!) (by kernel_rfl!) (by kernel_rfl!) ?_
    refine at_b (ga_Reverse _) (hd_Reverse _) (fa_Reverse_mapping _) gl_mapping (by assumption) (by rfl) (by assumption) (by assumption) (by first | rfl | assumption) ?_; intro _
    walk_at "n"
    rename St _ _ _ _ _ _ _ => S
    refine sub_dict2 (kk := g) S (by rfl) hDO (.inr hd) (by simp [intKind, Value.isInt]) hvv (ops := [.ref d, .int g tg]) (by with_unfolding_all rfl) fun t₅ => ?_
    replace S := S.toks t₅
    dsimp only at S
    refine args_nil ?_
    refine new_tup S (by rfl) (Nat.le_of_ble_eq_true rfl) fun T b₆ h₆ t₆ up6 hT S => ?_
    refine turnI (b2 := b₆) (mu2 := []) rfl ⟨rfl, ?_⟩ (fun a o q => up6 _ _ (hb₄ _ _ q)) S
    rw [Array.toList_push]
    exact (hy.mono fun _ _ z => z.up up6).push_take (x := (g, val mp g)) (by unfold toldPairs; rw [List.getElem?_map, hg]; rfl) ⟨T, _, _, rfl, hT⟩
  rintro b₄ mu ys k4 D4 h₄ t₄ hys ⟨rfl, hy⟩ hb₄ S hD4
  rw [List.take_of_length_le (by unfold toldPairs; rw [List.length_map]; lia)] at hy
  replace hx := hb₄ _ _ hx
  replace hdx := hb₄ _ _ hdx
  replace hTB := hb₄ _ _ hTB
  replace hTA := hb₄ _ _ hTA
  replace hC := hC.up hb₄
  replace hvb := hvb.mono fun _ _ z => z.up hb₄
  replace hva := hva.mono fun _ _ z => z.up hb₄
  refine S.frzK hD4 fun b₅ up5 gD S => ?_
  replace hx := up5 _ _ hx
  replace hdx := up5 _ _ hdx
  replace hTB := up5 _ _ hTB
  replace hTA := up5 _ _ hTA
  replace hC := hC.up up5
  replace hvb := hvb.mono fun _ _ z => z.up up5
  replace hva := hva.mono fun _ _ z => z.up up5
  refine args_nil ?_
  refine tup_list (P := IsPr b₅) S (by rfl) (S.get gD) (hy.mono fun _ _ z => z.up up5) (by lia) fun a1 b₆ h₆ t₆ up6 ht1 S => ?_
  replace ht1 := ht1.mono (fun _ _ q => q) fun _ _ z => z.up up6
  replace hx := up6 _ _ hx
  replace hdx := up6 _ _ hdx
  replace hTB := up6 _ _ hTB
  replace hTA := up6 _ _ hTA
  replace hC := hC.up up6
  replace hvb := hvb.mono fun _ _ z => z.up up6
  replace hva := hva.mono fun _ _ z => z.up up6
  refine st_loc' (by assumption) (by rfl) rfl (by kernel_rfl!) (by kernel_rfl!) fun _ _ S => ?_
  walk_at "x"
  refine wpAny_Assign_Name ?_ (by kernel_rfl!)
  walk_at "f"
  refine n_tuple (by assumption) (by kernel_rfl!) (by kernel_rfl!) (by kernel_rfl!) (by kernel_rfl!) ?_
  refine PyProof.Rows.callWith_type1 ?_ (by kernel_rfl!) (by kernel_rfl!)
  walk_at "c"
  refine lcomp (cl := []) (by intro _; kernel_rfl!) (by kernel_rfl!) (by kernel_rfl!) (by decide +kernel) ?_
  refine Attribute_any_ ?_ (by kernel_rfl!)
  refine n_cell (by assumption) (by assumption) (by kernel_rfl!) (by kernel_rfl!) (by kernel_rfl!) (by kernel_rfl!) ?_
  refine at_b (ga_Reverse _) (hd_Reverse _) (fa_Reverse_back _) gl_back (by assumption) (by rfl) (by assumption) (by assumption) (by first | rfl | assumption) ?_; intro _
  rename St _ _ _ _ _ _ _ => S
  have hz2 : vb.size = back.length := by have := hvb.length; simpa using this
  refine it_tuple R'.hd S (by rfl) hTB fun I2 oI2 h₃ t₃ W2 S => ?_
  refine comp_src W2 S (by lia) (by decide) rfl (by kernel_rfl!) (fun i b₄ mu ys => mu = [] ∧ All2 (TupOf b₄ IsI) ys.toList (back.take i)) ⟨rfl, .nil⟩ ?_ ?_
  · rintro i v b₄ mC mu ys tl h₄ t₄ C hi hv ⟨rfl, hy⟩ hb₄ S
    refine nay fun hG => ?_
    obtain ⟨gs, hg, hcv⟩ := hvb.get (by rw [Array.getElem?_toList]; exact hv)
    refine hG ?_; clear hG
    replace hcv := hcv.up hb₄
    have hcv' := hcv
    refine nay fun hG => ?_
    obtain ⟨cx, cdx, ct, ctv, cn, rfl, hcx, hcdx, hcT⟩ := hcv'
    refine hG ?_; clear hG
    refine mcall ?_ (by kernel_rfl!)
    walk_at "n"
    refine me_b (ga_Coverage _) (gt_Coverage _) (fm_Coverage_told _) (tm_Coverage_told _) gl_cov_told (by assumption) (by assumption) (by assumption) ?_
    refine callWith_K0 (kinH (by assumption)) (by with_reducible exact kp_f_Coverage_told _) ?_
    rename St _ _ _ _ _ _ _ => S
    refine c_cov_told (n := n + 1) R' S.base S.sub hcv fun r b₅ h₅ t₅ G ht => ?_
    replace S := S.call0 (t := t₅) G
    refine turnI (b2 := b₅) (mu2 := []) rfl ⟨rfl, ?_⟩ (fun a o q => G.up _ _ (hb₄ _ _ q)) S
    rw [Array.toList_push]
    exact (hy.mono fun _ _ z => z.up G.up).push_take hg ht
  rintro b₄ mu ys2 k4 D2 h₄ t₄ hys2 ⟨rfl, hy2⟩ hb₄ S hD2
  rw [List.take_of_length_le (by lia)] at hy2
  replace hx := hb₄ _ _ hx
  replace hdx := hb₄ _ _ hdx
  replace hTA := hb₄ _ _ hTA
  replace hC := hC.up hb₄
  replace hva := hva.mono fun _ _ z => z.up hb₄
  replace ht1 := ht1.mono hb₄ fun _ _ z => z.up hb₄
  refine S.frzK hD2 fun b₅ up5 gD2 S => ?_
  replace hx := up5 _ _ hx
  replace hdx := up5 _ _ hdx
  replace hTA := up5 _ _ hTA
  replace hC := hC.up up5
  replace hva := hva.mono fun _ _ z => z.up up5
  replace ht1 := ht1.mono up5 fun _ _ z => z.up up5
  refine args_nil ?_
  refine tup_list (P := TupOf b₅ IsI) S (by rfl) (S.get gD2) (hy2.mono fun _ _ z => z.up up5) (by lia) fun a2 b₆ h₆ t₆ up6 ht2 S => ?_
  replace ht2 := ht2.mono (fun _ _ q => q) fun _ _ z => z.up up6
  replace hx := up6 _ _ hx
  replace hdx := up6 _ _ hdx
  replace hTA := up6 _ _ hTA
  replace hC := hC.up up6
  replace hva := hva.mono fun _ _ z => z.up up6
  replace ht1 := ht1.mono up6 fun _ _ z => z.up up6
  refine st_loc' (by assumption) (by rfl) rfl (by kernel_rfl!) (by kernel_rfl!) fun _ _ S => ?_
  walk_at "x"
  refine wpAny_Return_some ?_
  refine PyProof.Rows.Tuple_ ?_
  walk_at "c"; walk_at "n"; walk_at "c"; walk_at "n"; walk_at "c"; walk_at "f"
  refine n_tuple (by assumption) (by kernel_rfl!) (by kernel_rfl!) (by kernel_rfl!) (by kernel_rfl!) ?_
  refine PyProof.Rows.callWith_type1 ?_ (by kernel_rfl!) (by kernel_rfl!)
  walk_at "c"
  refine lcomp (cl := []) (by intro _; kernel_rfl!) (by kernel_rfl!) (by kernel_rfl!) (by decide +kernel) ?_
  refine Attribute_any_ ?_ (by kernel_rfl!)
  refine n_cell (by assumption) (by assumption) (by kernel_rfl!) (by kernel_rfl!) (by kernel_rfl!) (by kernel_rfl!) ?_
  refine at_b (ga_Reverse _) (hd_Reverse _) (fa_Reverse_ahead _) gl_ahead (by assumption) (by rfl) (by assumption) (by assumption) (by first | rfl | assumption) ?_; intro _
  rename St _ _ _ _ _ _ _ => S
  have hz3 : va.size = ahead.length := by have := hva.length; simpa using this
  refine it_tuple R'.hd S (by rfl) hTA fun I3 oI3 h₃ t₃ W3 S => ?_
  refine comp_src W3 S (by lia) (by decide) rfl (by kernel_rfl!) (fun i b₄ mu ys => mu = [] ∧ All2 (TupOf b₄ IsI) ys.toList (ahead.take i)) ⟨rfl, .nil⟩ ?_ ?_
  · rintro i v b₄ mC mu ys tl h₄ t₄ C hi hv ⟨rfl, hy⟩ hb₄ S
    refine nay fun hG => ?_
    obtain ⟨gs, hg, hcv⟩ := hva.get (by rw [Array.getElem?_toList]; exact hv)
    refine hG ?_; clear hG
    replace hcv := hcv.up hb₄
    have hcv' := hcv
    refine nay fun hG => ?_
    obtain ⟨cx, cdx, ct, ctv, cn, rfl, hcx, hcdx, hcT⟩ := hcv'
    refine hG ?_; clear hG
    refine mcall ?_ (by kernel_rfl!)
    walk_at "n"
    refine me_b (ga_Coverage _) (gt_Coverage _) (fm_Coverage_told _) (tm_Coverage_told _) gl_cov_told (by assumption) (by assumption) (by assumption) ?_
    refine callWith_K0 (kinH (by assumption)) (by with_reducible exact kp_f_Coverage_told _) ?_
    rename St _ _ _ _ _ _ _ => S
    refine c_cov_told (n := n + 1) R' S.base S.sub hcv fun r b₅ h₅ t₅ G ht => ?_
    replace S := S.call0 (t := t₅) G
    refine turnI (b2 := b₅) (mu2 := []) rfl ⟨rfl, ?_⟩ (fun a o q => G.up _ _ (hb₄ _ _ q)) S
    rw [Array.toList_push]
    exact (hy.mono fun _ _ z => z.up G.up).push_take hg ht
  rintro b₄ mu ys3 k4 D3 h₄ t₄ hys3 ⟨rfl, hy3⟩ hb₄ S hD3
  rw [List.take_of_length_le (by lia)] at hy3
  replace ht1 := ht1.mono hb₄ fun _ _ z => z.up hb₄
  replace ht2 := ht2.mono hb₄ fun _ _ z => z.up hb₄
  refine S.frzK hD3 fun b₅ up5 gD3 S => ?_
  replace ht1 := ht1.mono up5 fun _ _ z => z.up up5
  replace ht2 := ht2.mono up5 fun _ _ z => z.up up5
  refine args_nil ?_
  refine tup_list (P := TupOf b₅ IsI) S (by rfl) (S.get gD3) (hy3.mono fun _ _ z => z.up up5) (by lia) fun a3 b₆ h₆ t₆ up6 ht3 S => ?_
  replace ht3 := ht3.mono (fun _ _ q => q) fun _ _ z => z.up up6
  replace ht1 := ht1.mono up6 fun _ _ z => z.up up6
  replace ht2 := ht2.mono up6 fun _ _ z => z.up up6
  refine args_nil ?_
  refine new_tup S (by rfl) (Nat.le_of_ble_eq_true rfl) fun T b₇ h₇ t₇ up7 hT S => ?_
  exact k _ _ _ _ S.grow ⟨T, _, _, _, rfl, hT, ht1.mono up7 fun _ _ z => z.up up7, ht2.mono up7 fun _ _ z => z.up up7, ht3.mono up7 fun _ _ z => z.up up7⟩
end
-- XP
structure RevD (d : Array UInt8) (gs xs : List Int) (back ahead : List (List Int)) (o0 : Int) (o1 o2 : List Int) : Prop where
  size : d.size ≤ 100000
  h0 : Num d 0 1
  h1 : Num d 2 o0
  ne0 : o0 ≠ 0
  cov : ∃ q : Nat, o0 = (q : Nat) ∧ CovD d q gs
  l1 : back.length = o1.length
  l2 : ahead.length = o2.length
  z1 : o1.length ≤ 20
  z2 : o2.length ≤ 20
  n1 : Num d 4 (o1.length : Nat)
  r1 : ∀ (i : Nat) (v : Int), o1[i]? = some v → Num d (6 + 2 * i) v
  c1 : ∀ (i : Nat) (o : Int) (g : List Int), o1[i]? = some o → back[i]? = some g → o ≠ 0 ∧ ∃ q : Nat, 0 + o = (q : Nat) ∧ CovD d q g
  n2 : Num d (6 + 2 * o1.length) (o2.length : Nat)
  r2 : ∀ (i : Nat) (v : Int), o2[i]? = some v → Num d (8 + 2 * o1.length + 2 * i) v
  c2 : ∀ (i : Nat) (o : Int) (g : List Int), o2[i]? = some o → ahead[i]? = some g → o ≠ 0 ∧ ∃ q : Nat, 0 + o = (q : Nat) ∧ CovD d q g
  l3 : xs.length = gs.length
  z3 : gs.length ≤ 60
  nd : gs.Nodup
  n3 : Num d (8 + 2 * o1.length + 2 * o2.length) (xs.length : Nat)
  r3 : ∀ (i : Nat) (v : Int), xs[i]? = some v → Num d (10 + 2 * o1.length + 2 * o2.length + 2 * i) v
  big : 10 + 2 * o1.length + 2 * o2.length + 2 * xs.length ≤ d.size
section
variable {w : World} {A : Around} {E : Value → Shared → Prop} {s : Shared} {b : PM} {n : Nat} {d : Array UInt8} {Q : Value → Shared → Prop}
theorem c_read_reverse {t1 t2 : Tok} {gs xs : List Int} {back ahead : List (List Int)} {o0 : Int} {o1 o2 : List Int} (R : Room A (n + 11)) (B : Base w b) (hs : ∀ a o, b a = some o → s.heap.get? a = some o)
    (D : RevD d gs xs back ahead o0 o1 o2)
    (k : ∀ v b' h' t', Grow b b' s.heap h' [] → Rev w b' v (gs.zip xs) back ahead → Q v { s with heap := h', toks := t' }) :
    wpAny (model pw w) A (call (.ref 423) [.bytes d t1, .int 0 t2]) Q E s := by
  refine in_read_reverse (body := _) rfl R B hs [] (fun _ h => bbot h) List.nodup_nil ?_
  intro L h₁ t₁ hL S R'
  dsimp only [extL] at S
  have b1 := D.big
  have z1 := D.z1
  have z2 := D.z2
  have z3 := D.z3
  have l3 := D.l3
  walk_at "x"
  refine wpAny_Assign_Name ?_ (by kernel_rfl!)
  walk_at "f"
  refine n_OctetsIn (by assumption) (by kernel_rfl!) (by kernel_rfl!) (by kernel_rfl!) ?_
  refine callWith_K (kinH (by assumption)) (by with_reducible exact kp_OctetsIn _) ?_ (by kernel_rfl!) (by kernel_rfl!)
  walk_at "c"; walk_at "n"; walk_at "c"; walk_at "n"
  refine args_nil ?_
  refine And.intro (kinH (by assumption)) ?_
  refine c_new_in (n := n + 7) (d := d) (p := 0) R' S.base S.sub fun x dx od b₂ h₂ t₂ G hx hb hd hn ho => ?_
  have ho' := ho
  refine nay fun hG => ?_
  obtain ⟨u1, u2, u3, u4, nn, rfl⟩ := ho'
  refine hG ?_; clear hG
  replace S := S.call0M (t := t₂) G hd hb hn
  dsimp only at S
  refine st_loc' (by assumption) (by rfl) rfl (by kernel_rfl!) (by kernel_rfl!) fun _ _ S => ?_
  walk_at "x"
  refine wpAny_If ?_
  walk_at "q"
  refine mcall ?_ (by kernel_rfl!)
  walk_at "n"
  refine me_mu (ga_OctetsIn _) (gt_OctetsIn _) (fm_OctetsIn_u16 _) (tm_OctetsIn_u16 _) gl_u16 (by assumption) (by assumption) (by repeat (first | constructor | apply List.mem_append_left)) ?_
  refine callWith_K0 (kinH (by assumption)) (by with_reducible exact kp_f_OctetsIn_u16 _) ?_
  refine c_In_u16 (n := n + 5) R' S.base S.sub hx (S.tu _ (.head _)).2.2.1 (S.muGet (.head _)) ho D.h0 D.size fun t od' b' h' t' G gg ho => ?_
  have ho' := ho
  refine nay fun hG => ?_
  obtain ⟨u1, u2, u3, u4, nn, rfl⟩ := ho'
  refine hG ?_; clear hG
  replace S := S.call1 (t := t') G gg
  dsimp only at S
  replace hx := G.up _ _ hx
  walk_at "i"
  with_reducible refine ne_int ?_
  walk_at "t"
  refine ite_no (by rfl) ?_
  walk_at "z"; walk_at "x"
  refine wpAny_Assign_Name ?_ (by kernel_rfl!)
  walk_at "f"
  refine n_read_coverage (by assumption) (by kernel_rfl!) (by kernel_rfl!) (by kernel_rfl!) ?_
  refine callWith_K (kinH (by assumption)) (by with_reducible exact kp_f_read_coverage _) ?_ (by kernel_rfl!) (by kernel_rfl!)
  walk_at "c"; walk_at "n"; walk_at "c"; walk_at "f"
  refine n_place_of (by assumption) (by kernel_rfl!) (by kernel_rfl!) (by kernel_rfl!) ?_
  refine callWith_K (kinH (by assumption)) (by with_reducible exact kp_f_place_of _) ?_ (by kernel_rfl!) (by kernel_rfl!)
  walk_at "c"; walk_at "n"; walk_at "c"; walk_at "n"
  refine args_nil ?_
  refine And.intro (kinH (by assumption)) ?_
  refine c_place_of (n := n + 4) R' S.base S.sub hx (S.tu _ (.head _)).2.2.1 (S.muGet (.head _)) ho D.h1 D.size D.ne0 fun t od' b' h' t' G gg ho => ?_
  have ho' := ho
  refine nay fun hG => ?_
  obtain ⟨u1, u2, u3, u4, nn, rfl⟩ := ho'
  refine hG ?_; clear hG
  replace S := S.call1 (t := t') G gg
  dsimp only at S
  replace hx := G.up _ _ hx
  refine args_nil ?_
  refine And.intro (kinH (by assumption)) ?_
  refine nay fun hG => ?_
  obtain ⟨q0, e0, hq0⟩ := D.cov
  refine hG ?_; clear hG
  refine c_read_coverage (n := n + 1) R' S.base S.sub (by rw [e0]; lia) hq0 D.size fun cv b' h' t' G hcv => ?_
  replace S := S.call0 (t := t') G
  dsimp only at S
  replace hx := G.up _ _ hx
  have hcv' := hcv
  refine nay fun hG => ?_
  obtain ⟨cx, cdx, ct, ctv, cn, rfl, hcx, hcdx, cT, cvs, rfl, hcT, hcvs⟩ := hcv'
  refine hG ?_; clear hG
  have hcl : cvs.size = gs.length := by have := hcvs.length; simpa using this
  refine st_loc' (by assumption) (by rfl) rfl (by kernel_rfl!) (by kernel_rfl!) fun _ _ S => ?_
  walk_at "x"
  refine wpAny_Assign_Name ?_ (by kernel_rfl!)
  walk_at "f"
  refine n_read_coverages (by assumption) (by kernel_rfl!) (by kernel_rfl!) (by kernel_rfl!) ?_
  refine callWith_K (kinH (by assumption)) (by with_reducible exact kp_f_read_coverages _) ?_ (by kernel_rfl!) (by kernel_rfl!)
  walk_at "c"; walk_at "n"; walk_at "c"; walk_at "n"; walk_at "c"; walk_at "n"; walk_at "c"
  refine mcall ?_ (by kernel_rfl!)
  walk_at "n"
  refine me_mu (ga_OctetsIn _) (gt_OctetsIn _) (fm_OctetsIn_u16 _) (tm_OctetsIn_u16 _) gl_u16 (by assumption) (by assumption) (by repeat (first | constructor | apply List.mem_append_left)) ?_
  refine callWith_K0 (kinH (by assumption)) (by with_reducible exact kp_f_OctetsIn_u16 _) ?_
  refine c_In_u16 (n := n + 5) R' S.base S.sub hx (S.tu _ (.head _)).2.2.1 (S.muGet (.head _)) ho D.n1 D.size fun t od' b' h' t' G gg ho => ?_
  have gu := G.up
  have ho' := ho
  refine nay fun hG => ?_
  obtain ⟨u1, u2, u3, u4, nn, rfl⟩ := ho'
  refine hG ?_; clear hG
  replace S := S.call1 (t := t') G gg
  dsimp only at S
  replace hx := gu _ _ hx
  replace hcx := gu _ _ hcx
  replace hcdx := gu _ _ hcdx
  replace hcT := gu _ _ hcT
  replace hcv := hcv.up gu
  refine args_nil ?_
  refine And.intro (kinH (by assumption)) ?_
  refine c_read_coverages (n := n) R' S.base S.sub hx (S.tu _ (.head _)).2.2.1 (S.muGet (.head _)) ho D.r1 (by lia) D.size D.z1 D.l1 D.c1 fun bv od' b' h' t' G gg ho hbv => ?_
  have gu := G.up
  have ho' := ho
  refine nay fun hG => ?_
  obtain ⟨u1, u2, u3, u4, nn, rfl⟩ := ho'
  refine hG ?_; clear hG
  replace S := S.call1 (t := t') G gg
  dsimp only at S
  replace hx := gu _ _ hx
  replace hcx := gu _ _ hcx
  replace hcdx := gu _ _ hcdx
  replace hcT := gu _ _ hcT
  replace hcv := hcv.up gu
  have hbv' := hbv
  refine nay fun hG => ?_
  obtain ⟨TB, vb, rfl, hTB, hvb⟩ := hbv'
  refine hG ?_; clear hG
  refine st_loc' (by assumption) (by rfl) rfl (by kernel_rfl!) (by kernel_rfl!) fun _ _ S => ?_
  walk_at "x"
  refine wpAny_Assign_Name ?_ (by kernel_rfl!)
  walk_at "f"
  refine n_read_coverages (by assumption) (by kernel_rfl!) (by kernel_rfl!) (by kernel_rfl!) ?_
  refine callWith_K (kinH (by assumption)) (by with_reducible exact kp_f_read_coverages _) ?_ (by kernel_rfl!) (by kernel_rfl!)
  walk_at "c"; walk_at "n"; walk_at "c"; walk_at "n"; walk_at "c"; walk_at "n"; walk_at "c"
  refine mcall ?_ (by kernel_rfl!)
  walk_at "n"
  refine me_mu (ga_OctetsIn _) (gt_OctetsIn _) (fm_OctetsIn_u16 _) (tm_OctetsIn_u16 _) gl_u16 (by assumption) (by assumption) (by repeat (first | constructor | apply List.mem_append_left)) ?_
  refine callWith_K0 (kinH (by assumption)) (by with_reducible exact kp_f_OctetsIn_u16 _) ?_
  refine c_In_u16 (n := n + 5) R' S.base S.sub hx (S.tu _ (.head _)).2.2.1 (S.muGet (.head _)) ho D.n2 D.size fun t od' b' h' t' G gg ho => ?_
  have gu := G.up
  have ho' := ho
  refine nay fun hG => ?_
  obtain ⟨u1, u2, u3, u4, nn, rfl⟩ := ho'
  refine hG ?_; clear hG
  replace S := S.call1 (t := t') G gg
  dsimp only at S
  replace hx := gu _ _ hx
  replace hcx := gu _ _ hcx
  replace hcdx := gu _ _ hcdx
  replace hcT := gu _ _ hcT
  replace hTB := gu _ _ hTB
  replace hcv := hcv.up gu
  replace hbv := hbv.mono gu fun _ _ z => z.up gu
  refine args_nil ?_
  refine And.intro (kinH (by assumption)) ?_
  refine c_read_coverages (n := n) R' S.base S.sub hx (S.tu _ (.head _)).2.2.1 (S.muGet (.head _)) ho (fun i v hv => by rw [show 0 + 2 + 2 + 2 + 2 * o1.length + 2 + 2 * i = 8 + 2 * o1.length + 2 * i by lia]; exact D.r2 i v hv) (by lia) D.size D.z2 D.l2 D.c2 fun av od' b' h' t' G gg ho hav => ?_
  have gu := G.up
  have ho' := ho
  refine nay fun hG => ?_
  obtain ⟨u1, u2, u3, u4, nn, rfl⟩ := ho'
  refine hG ?_; clear hG
  replace S := S.call1 (t := t') G gg
  dsimp only at S
  replace hx := gu _ _ hx
  replace hcx := gu _ _ hcx
  replace hcdx := gu _ _ hcdx
  replace hcT := gu _ _ hcT
  replace hTB := gu _ _ hTB
  replace hcv := hcv.up gu
  replace hbv := hbv.mono gu fun _ _ z => z.up gu
  have hav' := hav
  refine nay fun hG => ?_
  obtain ⟨TA, va, rfl, hTA, hva⟩ := hav'
  refine hG ?_; clear hG
  refine st_loc' (by assumption) (by rfl) rfl (by kernel_rfl!) (by kernel_rfl!) fun _ _ S => ?_
  walk_at "x"
  refine wpAny_Assign_Name ?_ (by kernel_rfl!)
  refine Attribute_any_ ?_ (by kernel_rfl!)
  walk_at "n"
  refine at_mu (ga_OctetsIn _) (hd_OctetsIn _) (fa_OctetsIn_at _) gl_at (by assumption) (by rfl) (by assumption) (by repeat (first | constructor | apply List.mem_append_left)) (by first | rfl | assumption) ?_; intro _
  refine st_loc' (by assumption) (by rfl) rfl (by kernel_rfl!) (by kernel_rfl!) fun _ _ S => ?_
  walk_at "x"
  refine wpAny_Assign_Name ?_ (by kernel_rfl!)
  refine mcall ?_ (by kernel_rfl!)
  walk_at "n"
  refine me_mu (ga_OctetsIn _) (gt_OctetsIn _) (fm_OctetsIn_u16 _) (tm_OctetsIn_u16 _) gl_u16 (by assumption) (by assumption) (by repeat (first | constructor | apply List.mem_append_left)) ?_
  refine callWith_K0 (kinH (by assumption)) (by with_reducible exact kp_f_OctetsIn_u16 _) ?_
  refine c_In_u16 (n := n + 5) R' S.base S.sub hx (S.tu _ (.head _)).2.2.1 (S.muGet (.head _)) ho (by rw [show 0 + 2 + 2 + 2 + 2 * o1.length + 2 + 2 * o2.length = 8 + 2 * o1.length + 2 * o2.length by lia]; exact D.n3) D.size fun t od' b' h' t' G gg ho => ?_
  have gu := G.up
  have ho' := ho
  refine nay fun hG => ?_
  obtain ⟨u1, u2, u3, u4, nn, rfl⟩ := ho'
  refine hG ?_; clear hG
  replace S := S.call1 (t := t') G gg
  dsimp only at S
  replace hx := gu _ _ hx
  replace hcx := gu _ _ hcx
  replace hcdx := gu _ _ hcdx
  replace hcT := gu _ _ hcT
  replace hTB := gu _ _ hTB
  replace hTA := gu _ _ hTA
  replace hcv := hcv.up gu
  replace hbv := hbv.mono gu fun _ _ z => z.up gu
  replace hav := hav.mono gu fun _ _ z => z.up gu
  refine st_loc' (by assumption) (by rfl) rfl (by kernel_rfl!) (by kernel_rfl!) fun _ _ S => ?_
  walk_at "x"
  refine wpAny_If ?_
  walk_at "q"; walk_at "n"; walk_at "f"
  refine n_len (by assumption) (by kernel_rfl!) (by kernel_rfl!) (by kernel_rfl!) (by kernel_rfl!) ?_
  refine PyProof.Rows.callWith_builtin1 ?_ (by kernel_rfl!) (by kernel_rfl!)
  walk_at "c"
  refine Attribute_any_ ?_ (by kernel_rfl!)
  walk_at "n"
  refine at_b (ga_Coverage _) (hd_Coverage _) (fa_Coverage_glyphs _) gl_glyphs (by assumption) (by rfl) (by assumption) (by assumption) (by first | rfl | assumption) ?_; intro _
  refine args_nil ?_
  rename St _ _ _ _ _ _ _ => S
  refine len_tup (S.get hcT) (by lia) ?_
  with_reducible refine ne_int ?_
  walk_at "t"
  refine ite_no (by rw [hcl, D.l3]; simp) ?_
  walk_at "z"; walk_at "x"
  refine wpAny_Return_some ?_
  walk_at "f"
  refine n_Reverse (by assumption) (by kernel_rfl!) (by kernel_rfl!) (by kernel_rfl!) ?_
  refine callWith_K (kinH (by assumption)) (by with_reducible exact kp_Reverse _) ?_ (by kernel_rfl!) (by kernel_rfl!)
  walk_at "c"; walk_at "f"
  refine n_by_glyph (by assumption) (by kernel_rfl!) (by kernel_rfl!) (by kernel_rfl!) ?_
  refine callWith_K (kinH (by assumption)) (by with_reducible exact kp_f_by_glyph _) ?_ (by kernel_rfl!) (by kernel_rfl!)
  walk_at "c"; walk_at "n"; walk_at "c"
  refine mcall ?_ (by kernel_rfl!)
  walk_at "n"
  refine me_mu (ga_OctetsIn _) (gt_OctetsIn _) (fm_OctetsIn_rows _) (tm_OctetsIn_rows _) gl_rows (by assumption) (by assumption) (by repeat (first | constructor | apply List.mem_append_left)) ?_
  refine callWith_K (kinH (by assumption)) (by with_reducible exact kp_f_OctetsIn_rows _) ?_ (by kernel_rfl!) (by kernel_rfl!)
  walk_at "c"; walk_at "n"
  refine args_nil ?_
  refine And.intro (kinH (by assumption)) ?_
  refine c_In_rows (n := n + 4) R' S.base S.sub hx (S.tu _ (.head _)).2.2.1 (S.muGet (.head _)) ho (fun i v hv => by rw [show 0 + 2 + 2 + 2 + 2 * o1.length + 2 + 2 * o2.length + 2 + 2 * i = 10 + 2 * o1.length + 2 * o2.length + 2 * i by lia]; exact D.r3 i v hv) (by lia) D.size (by lia) fun rv od' b' h' t' G gg ho hrv => ?_
  have gu := G.up
  have ho' := ho
  refine nay fun hG => ?_
  obtain ⟨u1, u2, u3, u4, nn, rfl⟩ := ho'
  refine hG ?_; clear hG
  replace S := S.call1 (t := t') G gg
  dsimp only at S
  replace hx := gu _ _ hx
  replace hcx := gu _ _ hcx
  replace hcdx := gu _ _ hcdx
  replace hcT := gu _ _ hcT
  replace hTB := gu _ _ hTB
  replace hTA := gu _ _ hTA
  replace hcv := hcv.up gu
  replace hbv := hbv.mono gu fun _ _ z => z.up gu
  replace hav := hav.mono gu fun _ _ z => z.up gu
  refine args_nil ?_
  refine And.intro (kinH (by assumption)) ?_
  refine c_by_glyph (n := n + 7) R' S.base S.sub hcv hrv D.l3 D.nd D.z3 fun mv b' h' t' G hmv => ?_
  have gu := G.up
  replace S := S.call0 (t := t') G
  dsimp only at S
  replace hx := gu _ _ hx
  replace hcx := gu _ _ hcx
  replace hcdx := gu _ _ hcdx
  replace hcT := gu _ _ hcT
  replace hTB := gu _ _ hTB
  replace hTA := gu _ _ hTA
  replace hcv := hcv.up gu
  replace hbv := hbv.mono gu fun _ _ z => z.up gu
  replace hav := hav.mono gu fun _ _ z => z.up gu
  walk_at "c"; walk_at "n"; walk_at "c"; walk_at "n"
  refine args_nil ?_
  refine And.intro (kinH (by assumption)) ?_
  refine c_new_rev (n := n + 7) R' S.base S.sub hmv hbv hav fun v b' h' t' G hv => ?_
  replace S := S.call0 (t := t') G
  dsimp only at S
  exact k _ _ _ _ S.grow hv
end
-- LA
noncomputable def takeStmt : Stmt := match f_law_taker.body with
  | .stmts l => (l[3]?).getD (.Pass default)
  | _ => .Pass default
noncomputable def f_take (cC cP c' : Addr) (doc pm ctv : Value) : FuncData := match takeStmt with
  | .FunctionDef name args body _ _ _ scope _ _ _ => fnX name "_law_taker.<locals>.take" args body scope [("place", cP), ("cells", cC)] .none .none doc pm none (.ref c') ctv
  | _ => default
noncomputable def IsAnyI (v : Value) : Prop := ∃ i t, v = .int i t
noncomputable def CodeB (b : PM) (c : Addr) (q : Str) : Prop := ∃ oc vs t, b c = some oc ∧ oc.data = .fields vs ∧ vs[1]? = some (.str q t)
noncomputable def TakerAt (b : PM) (T PL : Addr) : Prop :=
  ∃ cC cP c' doc pm ctv Cl cs kk, b T = some { cls := .type "function", data := .func (f_take cC cP c' doc pm ctv) } ∧ CodeB b c' "_law_taker.<locals>.take" ∧ CellAt b cC (.ref Cl) ∧ CellAt b cP (.ref PL) ∧
    b Cl = some (listOf cs kk) ∧ (∀ (i : Nat) (v : Value), cs[i]? = some v → IsAnyI v) ∧ 1 ≤ cs.size ∧ cs.size ≤ 63
theorem CodeB.up {b b' : PM} {c : Addr} {q : Str} (h : CodeB b c q) (hb : ∀ a o, b a = some o → b' a = some o) : CodeB b' c q := by
  refine nay fun hG => ?_
  obtain ⟨oc, vs, t, e, r⟩ := h
  refine hG ?_; clear hG
  exact ⟨oc, vs, t, hb _ _ e, r⟩
theorem TakerAt.up {b b' : PM} {T PL : Addr} (h : TakerAt b T PL) (hb : ∀ a o, b a = some o → b' a = some o) : TakerAt b' T PL := by
  refine nay fun hG => ?_
  obtain ⟨cC, cP, c', doc, pm, ctv, Cl, cs, kk, h1, h2, h3, h4, h5, r⟩ := h
  refine hG ?_; clear hG
  exact ⟨cC, cP, c', doc, pm, ctv, Cl, cs, kk, hb _ _ h1, h2.up hb, h3.up hb, h4.up hb, hb _ _ h5, r⟩
section
variable {w : World} {A : Around} {E : Value → Shared → Prop} {s s0 : Shared} {e : En} {b : PM} {L : Addr} {m : Str → Option Value} {mu : List (Addr × Obj)} {env : Env} {t0 : Nat}
theorem n_free {x : Str} {pos : Pos} {v : Value} {c : Addr} {Q : Value → Shared → Prop} (S : St w e b L m mu { s with toks := t0 }) (hk : env.scope.kind = .function) (hl : env.kindOf x = some .free) (hc : env.cells.lookup x = some c) (hd : (x == ("__debug__" : Str)) = false) (hn : (x == ("__classdict__" : Str)) = false) (hb : CellAt b c v) (h : Q v s) :
    wpAny (model pw w) A (eval (.Name x pos) env) Q E s := by
  refine nay fun hG => ?_
  obtain ⟨o, g, e⟩ := hb
  refine hG ?_; clear hG
  exact wpAny_Name (wpAny_loadName_free hk hl hc ⟨o, S.get g, e⟩ h hn) hd
theorem n_cellM {x : Str} {pos : Pos} {v : Value} {c : Addr} {o : Obj} {Q : Value → Shared → Prop} (S : St w e b L m mu { s with toks := t0 }) (hk : env.scope.kind = .function) (hl : env.kindOf x = some .cell) (hc : env.cells.lookup x = some c) (hd : (x == ("__debug__" : Str)) = false) (hm : (c, o) ∈ mu) (ho : o.data = .cell (some v)) (h : Q v s) :
    wpAny (model pw w) A (eval (.Name x pos) env) Q E s :=
  wpAny_Name (wpAny_loadName_cell hk hl hc ⟨o, S.muGet hm, ho⟩ h) hd
theorem st_cell {x : Str} {v : Value} {c : Addr} {o : Obj} {v0 : Option Value} {Q : Unit → Shared → Prop} (S : St w e b L m ((c, o) :: mu) { s0 with heap := s.heap, toks := t0 }) (hq : s = { s0 with heap := s.heap, toks := s.toks }) (hk : env.scope.kind = .function) (hl : env.kindOf x = some .cell) (hc : env.cells.lookup x = some c) (ho : o.data = .cell v0)
    (h : ∀ o' h' t', o'.data = .cell (some v) → St w e b L m ((c, o') :: mu) { s0 with heap := h', toks := t' } → Q () { s0 with heap := h', toks := t' }) : wpAny (model pw w) A (storeName env x v) Q E s := by
  refine wpAny_storeName_cell hk hl hc ⟨o, S.muGet (.head _), ho⟩ fun h' hc' hs => ?_
  refine nay fun hG => ?_
  obtain ⟨o', g, ho'⟩ := hc'
  refine hG ?_; clear hG
  have S1 := S.turn (h' := h') (t := s.toks) g fun a oa q q' => hs.extBut a oa q q'
  rw [hq]
  exact h o' h' _ ho' S1
theorem set_pos {l : Addr} {items : Array Value} {k : Int} {kk : Nat} {t : Tok} {v : Value} {Q : Unit → Shared → Prop} (ho : s.heap.get? l = some (listOf items kk)) (h0 : 0 ≤ k) (hn : k < (items.size : Int)) (hfit : k < 2 ^ 63)
    (hQ : ∀ h' k', h'.get? l = some (listOf (items.setIfInBounds k.toNat v) k') → Heap.SameBut l s.heap h' → Q () { s with heap := h' }) :
    wpAny (model pw w) A (setItem (.ref l) (.int k t) v) Q E s := by
  have hl : s.heap.IsList l items := ⟨_, ho, rfl, kk, rfl⟩
  have hd : (listOf items kk).data = .seq items kk := rfl
  unfold setItem
  try with_reducible refine wpAny_holding ?_
  first | refine wpAny_bind (wpAny_pure ?_) | skip
  refine wpAny_bind (wpAny_sequenceKey hl.typeIs (by decide) ?_)
  refine wpAny_bind (wpAny_callSpecial?_slot (name := Str.ofString "__setitem__") hl.typeIs slot_list_setitem
    (wpAny_call_entry slot_list_setitem hl.typeIs entry_list_setitem ?_ (args_list_setitem _ _ _)))
  show wpAny _ _ (Builtin.List.listSubscript? (.int k t) >>= _) _ _ s
  refine wpAny_bind (wpAny_listSubscript_int (fitsIndex_of h0 hfit) ?_)
  clear hfit
  obtain ⟨j, rfl⟩ := Int.eq_ofNat_of_zero_le h0
  have hj : j < items.size := by lia
  have hx' : items[j]? = some items[j] := Array.getElem?_eq_getElem hj
  show wpAny _ _ ((seqItemAt l j >>= fun r => pure (r.map (j, ·))) >>= _) _ _ s
  refine wpAny_bind (wpAny_bind (wpAny_seqItemAt ho hd (wpAny_pure ?_)))
  rw [hx']
  show wpAny _ _ (setSeqItemAt l j v >>= _) _ _ s
  refine wpAny_bind (wpAny_setSeqItemAt ho hd ?_)
  have hfin := get?_update_seq ho (·.setIfInBounds j v)
  first
    | exact wpAny_bind (wpAny_pure (wpAny_pure ⟨.none, rfl, wpAny_pure (hQ _ _ hfin (Heap.SameBut.update ..))⟩))
    | exact wpAny_pure ⟨.none, rfl, wpAny_pure (hQ _ _ hfin (Heap.SameBut.update ..))⟩
theorem set_lst {a : Addr} {items : Array Value} {k : Int} {kk : Nat} {t : Tok} {v : Value} {Q : Unit → Shared → Prop} (S : St w e b L m ((a, listOf items kk) :: mu) { s0 with heap := s.heap, toks := t0 }) (hq : s = { s0 with heap := s.heap, toks := s.toks }) (h0 : 0 ≤ k) (h1 : k < (items.size : Int)) (hz : items.size ≤ 10000)
    (h : ∀ k' h' t', St w e b L m ((a, listOf (items.setIfInBounds k.toNat v) k') :: mu) { s0 with heap := h', toks := t' } → Q () { s0 with heap := h', toks := t' }) : wpAny (model pw w) A (setItem (.ref a) (.int k t) v) Q E s := by
  refine set_pos (S.muGet (.head _)) h0 h1 (by lia) fun h' k' g hs => ?_
  have S1 := S.turn (h' := h') (t := s.toks) g fun c oc q q' => hs.extBut c oc q q'
  rw [hq]
  exact h _ _ _ S1
theorem enterF {f : Addr} {fd : FuncData} {body : List Stmt} {args : List Value} {binds : List (Str × Value)} {n : Nat} {Q : Value → Shared → Prop} {c : Addr}
    (R : Room A (n + 1)) (B : Base w b) (hs : ∀ a o, b a = some o → s.heap.get? a = some o) (mu : List (Addr × Obj)) (hm : ∀ p ∈ mu, s.heap.get? p.1 = some p.2 ∧ b p.1 = none) (nd : (mu.map (·.1)).Nodup)
    (hf : b f = some ⟨.type "function", none, .func fd, #[]⟩) (hcc : fd.code = .ref c) (hc : CodeB b c fd.qualname) (hbody : fd.body = .stmts body) (hbind : BindsTo s fd ⟨args, []⟩ binds)
    (hcell : ∀ x ∈ fd.scope.names, x.2 ≠ .cell) (hloc : (binds.all fun x => decide (fd.scope.names.lookup x.1 = some .local)) = true) (hco : fd.scope.isCoroutine = false) (hgen : fd.scope.isGenerator = false) (hk : fd.scope.kind = .function)
    (h : ∀ L h₁ t₁, L = s.heap.objs.size → St w ⟨s.heap, b, mu.map (·.1)⟩ b L (extL binds fun _ => none) mu { s with heap := h₁, toks := t₁ } → Room (A.deeper (callEnv fd L f)) n →
      wpAny (model pw w) (A.deeper (callEnv fd L f)) (execs body (callEnv fd L f)) (fun fl s' => Q (match fl with | .ret v => v | _ => .none) s') (fun _ _ => False) { s with heap := h₁, toks := t₁ }) :
    wpAny (model pw w) A (call (.ref f) args) Q E s := by
  have X : (K w.params).In s.heap := B.kin hs
  refine nay fun hG => ?_
  obtain ⟨oc, vs, tq, e1, e2, e3⟩ := hc
  refine hG ?_; clear hG
  refine wpAny_call (codeAny_call_def R.limit (hs _ _ hf) rfl (noLimit_of X) ⟨c, oc, vs, tq, hcc, hs _ _ e1, e2, e3⟩ hbody hbind hcell (locs hloc) (fun h₁ hn hk₁ => ?_) hco hgen hk)
  have S : St w ⟨s.heap, b, mu.map (·.1)⟩ b s.heap.objs.size (extL binds fun _ => none) mu { s with heap := h₁, toks := s.toks + binds.length } := by
    refine ⟨B, fun a o q => hk₁ a o (hs a o q), fun a o q => q, fun a o q => .inl q, fun a o q _ => hk₁ a o q, (by rw [← extL_lookup]; exact hn), Nat.le_refl _, ?_, fun p hp => ⟨hk₁ _ _ (hm p hp).1, Nat.ne_of_lt (Heap.lt_size (hm p hp).1), (hm p hp).2, .inl (List.mem_map_of_mem hp)⟩, nd⟩
    cases q : b s.heap.objs.size with
    | none => rfl
    | some o => exact absurd (Heap.lt_size (hs _ _ q)) (Nat.lt_irrefl _)
  exact wpAny_mono (h _ _ _ rfl S R.deeper) (fun fl s' z => z) fun _ _ z => z.elim
end
-- LB
noncomputable def PlaceO (k : Nat) (o : Obj) : Prop := ∃ (i : Nat) (tk : Tok) (kk : Nat), i ≤ k ∧ o = listOf #[.int (i : Nat) tk] kk
theorem PlaceO.le {k k' : Nat} {o : Obj} (h : PlaceO k o) (hk : k ≤ k') : PlaceO k' o := by
  refine nay fun hG => ?_
  obtain ⟨i, tk, kk, h1, h2⟩ := h
  refine hG ?_; clear hG
  exact ⟨i, tk, kk, by lia, h2⟩
theorem take_cells : ∀ x ∈ (f_take 0 0 0 .none .none .none).scope.names, x.2 ≠ .cell := by decide +kernel
theorem log2_pow (l : Nat) (h : l ≤ 60) : ((720720 : Int) ^ l).natAbs.log2 < 9000 := by
  have h1 : ((720720 : Int) ^ l).natAbs = 720720 ^ l := by rw [Int.natAbs_pow]; rfl
  rw [h1]
  have h2 : (720720 : Nat) ^ l < 2 ^ 9000 := by
    have a : (720720 : Nat) ^ l ≤ 720720 ^ 60 := Nat.pow_le_pow_right (by decide) h
    have c : (720720 : Nat) ^ 60 < 2 ^ 9000 := by decide +kernel
    lia
  exact (Nat.log2_lt (Nat.pos_iff_ne_zero.mp (Nat.pow_pos (by decide)))).mpr h2
section
variable {w : World} {A : Around} {E : Value → Shared → Prop} {s : Shared}
theorem fd_int {a b : Int} {t u : Tok} {Q : Value → Shared → Prop} (hb : b ≠ 0) (hp : Builtin.divisionGoesByPylong a b = false) (h : ∀ t t', Q (.int (a.fdiv b) t) { s with toks := t' }) : wpAny (model pw w) A (binaryOp .FloorDiv (.int a t) (.int b u)) Q E s :=
  AutoIntOps.floordiv_1 (by simpa using hb) (by rw [hp]; decide) (h _ _)
theorem pow_ok {l : Int} {t u : Tok} {Q : Value → Shared → Prop} (h0 : 0 ≤ l) (h1 : l ≤ 60) (h : ∀ t t', Q (.int (720720 ^ l.toNat) t) { s with toks := t' }) : wpAny (model pw w) A (binaryOp .Pow (.int 720720 t) (.int l u)) Q E s := by
  by_cases q : l = 0
  · subst q
    exact AutoIntOps.pow_0 (by decide) (by decide) (h _ _)
  · refine AutoIntOps.pow_4 h0 (by simpa using q) (by decide) (by decide) ?_ (h _ _)
    have : Builtin.Int.intBits 720720 = 20 := by decide +kernel
    rw [this]
    unfold Builtin.Int.intTooBig
    have hb : (1200 : Int) ≤ bitsLine := by decide +kernel
    simp only [decide_eq_true_eq, gt_iff_lt]
    lia
end
section
variable {w : World} {A : Around} {E : Value → Shared → Prop} {s : Shared} {b : PM} {n : Nat} {Q : Value → Shared → Prop}
theorem c_take {T PL : Addr} {k : Nat} {o : Obj} {t : Tok} {lim : Int} (R : Room A (n + 1)) (B : Base w b) (hs : ∀ a o, b a = some o → s.heap.get? a = some o)
    (hT : TakerAt b T PL) (hb : b PL = none) (hd : s.heap.get? PL = some o) (ho : PlaceO k o) (hk : k ≤ 60) (hl : 1 ≤ lim)
    (K : ∀ v t o' b' h' t', 0 ≤ v → v < lim → Grow b b' s.heap h' [PL] → h'.get? PL = some o' → PlaceO (k + 1) o' → Q (.int v t) { s with heap := h', toks := t' }) :
    wpAny (model pw w) A (call (.ref T) [.int lim t]) Q E s := by
  refine nay fun hG => ?_
  obtain ⟨cC, cP, c', doc, pm, ctv, Cl, cs, kc, h1, h2, h3, h4, h5, h6, h7, h8⟩ := hT
  obtain ⟨i, tk, kk, hi, rfl⟩ := ho
  refine hG ?_; clear hG
  refine enterF (fd := f_take cC cP c' doc pm ctv) (c := c') (body := _) (binds := [("limit", .int lim t)]) R B hs [(PL, _)] (one_mu hd hb) one_nd h1 rfl h2 rfl (BindsTo.of_eq rfl) take_cells (by kernel_rfl!) (by kernel_rfl!) (by kernel_rfl!) (by kernel_rfl!) ?_
  intro L h₁ t₁ hL S R'
  dsimp only [extL] at S
  walk_at "x"
  refine wpAny_Assign_Name ?_ (by kernel_rfl!)
  refine Subscript_ ?_
  refine n_free S (by kernel_rfl!) (by kernel_rfl!) (by rfl) (by kernel_rfl!) (by kernel_rfl!) h4 ?_
  walk_at "i"
  refine sub_lst (S.muGet (.head _)) (by decide) (Nat.le_of_ble_eq_true rfl) (v := .int (i : Nat) tk) (by rfl) ?_ (by with_unfolding_all rfl)
  refine st_loc' (by assumption) (by rfl) rfl (by kernel_rfl!) (by kernel_rfl!) fun _ _ S => ?_
  walk_at "x"
  refine wpAny_Assign_Subscript ?_ (by kernel_rfl!)
  with_reducible refine wpAny_BinOp ?_
  walk_at "n"; walk_at "i"
  with_reducible refine add_int ?_
  refine n_free S (by kernel_rfl!) (by kernel_rfl!) (by rfl) (by kernel_rfl!) (by kernel_rfl!) h4 ?_
  walk_at "i"
  refine set_lst S (by rfl) (by decide) (by simp) (Nat.le_of_ble_eq_true rfl) fun k' h₂ t₂ S => ?_
  walk_at "x"
  refine wpAny_Assign_Name ?_ (by kernel_rfl!)
  with_reducible refine wpAny_BinOp ?_
  walk_at "n"; walk_at "f"
  refine n_len (by assumption) (by kernel_rfl!) (by kernel_rfl!) (by kernel_rfl!) (by kernel_rfl!) ?_
  refine PyProof.Rows.callWith_builtin1 ?_ (by kernel_rfl!) (by kernel_rfl!)
  walk_at "c"
  refine n_free S (by kernel_rfl!) (by kernel_rfl!) (by rfl) (by kernel_rfl!) (by kernel_rfl!) h3 ?_
  refine args_nil ?_
  refine len_lst (S.get h5) (by lia) ?_
  refine fd_int (by lia) (PyProof.noPylong_small (by lia)) fun ta tb => ?_
  replace S := S.toks tb
  dsimp only at S
  obtain ⟨lv, hlv, hv0, hv1⟩ : ∃ lv : Int, (i : Int).fdiv (cs.size : Nat) = lv ∧ 0 ≤ lv ∧ lv ≤ 60 := by
    refine ⟨_, rfl, ?_, ?_⟩
    · exact Int.fdiv_nonneg (by lia) (by lia)
    · rw [Int.fdiv_eq_ediv_of_nonneg _ (by lia)]
      have := Int.ediv_le_self (a := (i : Int)) (cs.size : Nat) (by lia)
      lia
  rw [hlv]
  refine st_loc' (by assumption) (by rfl) rfl (by kernel_rfl!) (by kernel_rfl!) fun _ _ S => ?_
  walk_at "x"
  refine wpAny_Return_some ?_
  with_reducible refine wpAny_BinOp ?_
  with_reducible refine wpAny_BinOp ?_
  with_reducible refine wpAny_BinOp ?_
  refine Subscript_ ?_
  refine n_free S (by kernel_rfl!) (by kernel_rfl!) (by rfl) (by kernel_rfl!) (by kernel_rfl!) h3 ?_
  with_reducible refine wpAny_BinOp ?_
  walk_at "n"; walk_at "f"
  refine n_len (by assumption) (by kernel_rfl!) (by kernel_rfl!) (by kernel_rfl!) (by kernel_rfl!) ?_
  refine PyProof.Rows.callWith_builtin1 ?_ (by kernel_rfl!) (by kernel_rfl!)
  walk_at "c"
  refine n_free S (by kernel_rfl!) (by kernel_rfl!) (by rfl) (by kernel_rfl!) (by kernel_rfl!) h3 ?_
  refine args_nil ?_
  refine len_lst (S.get h5) (by lia) ?_
  refine mod_int' (by lia) ?_
  have hm0 : 0 ≤ (i : Int).fmod (cs.size : Nat) := Int.fmod_nonneg_of_pos _ (by lia)
  have hm1 : (i : Int).fmod (cs.size : Nat) < (cs.size : Nat) := Int.fmod_lt_of_pos _ (by lia)
  refine nay fun hG => ?_
  obtain ⟨ci, ct, hci⟩ := h6 ((i : Int).fmod (cs.size : Nat)).toNat _ (Array.getElem?_eq_getElem (by lia))
  refine hG ?_; clear hG
  refine sub_lst (S.get h5) hm0 (by lia) (v := .int ci ct) (by rw [← hci]; exact Array.getElem?_eq_getElem (by lia)) ?_ (by with_unfolding_all rfl)
  with_reducible refine wpAny_BinOp ?_
  walk_at "i"; walk_at "n"
  refine pow_ok hv0 hv1 fun ta tb => ?_
  replace S := S.toks tb
  dsimp only at S
  refine fd_int (by have : (0:Int) < 720720 ^ lv.toNat := Int.pow_pos (by decide); lia) (PyProof.noPylong_of_log2 (log2_pow _ (by lia))) fun ta tb => ?_
  replace S := S.toks tb
  dsimp only at S
  with_reducible refine wpAny_BinOp ?_
  walk_at "n"
  with_reducible refine wpAny_BinOp ?_
  with_reducible refine wpAny_BinOp ?_
  walk_at "i"; walk_at "n"
  with_reducible refine mul_int ?_ (mulok (by lia) (by lia))
  walk_at "i"
  with_reducible refine add_int ?_
  with_reducible refine mul_int ?_ (mulok (by lia) (by lia))
  with_reducible refine add_int ?_
  walk_at "n"
  refine mod_int' (by lia) ?_
  exact K _ _ _ _ _ _ (Int.fmod_nonneg_of_pos _ (by lia)) (Int.fmod_lt_of_pos _ (by lia)) (S.toks _).grow (S.muGet (.head _)) ⟨i + 1, _, k', by lia, by rw [Int.natCast_add]; rfl⟩
end
-- LC
noncomputable def takeScope : Scope := match takeStmt with | .FunctionDef _ _ _ _ _ _ scope _ _ _ => scope | _ => default
noncomputable def takeParams : Arguments := match takeStmt with | .FunctionDef _ params _ _ _ _ _ _ _ _ => params | _ => default
noncomputable def takeBody : List Stmt := match takeStmt with | .FunctionDef _ _ body _ _ _ _ _ _ _ => body | _ => default
noncomputable def takePos : Pos := match takeStmt with | .FunctionDef _ _ _ _ _ _ _ _ _ pos => pos | _ => default
theorem all_one {x v : Value} {i : Nat} (hv : #[x][i]? = some v) (hx : IsAnyI x := by exact ⟨_, _, rfl⟩) : IsAnyI v := by
  rcases i with _ | i
  · simp at hv; rw [← hv]; exact hx
  · simp at hv
theorem perm6b {α : Type} {a b c d e f : α} : [a, b, c, d, e, f].Perm [c, a, e, f, b, d] := by
  classical
  rw [List.perm_iff_count]
  intro x
  simp only [List.count_cons, List.count_nil]
  lia
theorem perm7a {α : Type} {a b c d e f g : α} : [a, b, c, d, e, f, g].Perm [d, b, c, e, a, f, g] := by
  classical
  rw [List.perm_iff_count]
  intro x
  simp only [List.count_cons, List.count_nil]
  lia
theorem perm6a {α : Type} {a b c d e f : α} : [a, b, c, d, e, f].Perm [e, c, d, f, a, b] := by
  classical
  rw [List.perm_iff_count]
  intro x
  simp only [List.count_cons, List.count_nil]
  lia
section
variable {w : World} {A : Around} {E : Value → Shared → Prop} {s : Shared} {b : PM} {n : Nat} {Q : Value → Shared → Prop}
theorem enterCells2 {f : Addr} {fd : FuncData} {body : List Stmt} {args : List Value} {binds lb : List (Str × Value)} {n : Nat} {x y : Str}
    (R : Room A (n + 1)) (B : Base w b) (hs : ∀ a o, b a = some o → s.heap.get? a = some o) (mu : List (Addr × Obj)) (hm : ∀ p ∈ mu, s.heap.get? p.1 = some p.2 ∧ b p.1 = none) (nd : (mu.map (·.1)).Nodup)
    (hf : (K w.params).lookup f = some ⟨.type "function", none, .func fd, #[]⟩) (hc : codeIn (K w.params) fd.code fd.qualname = true) (hbody : fd.body = .stmts body) (hbind : bindArgs fd ⟨args, []⟩ = pure binds) (hclo : fd.closure = [])
    (hcs : ∀ L, cellsFrom (L + 1) fd.scope.names [] = [(y, L + 2), (x, L + 1)])
    (hkind : (binds.all fun y => decide (fd.scope.names.lookup y.1 = some .local)) = true)
    (hl : ∀ L, bindL (callEnvC fd L f).kindOf binds (fun _ => none) = extL lb fun _ => none) (hx : ∀ L, bindC (callEnvC fd L f).kindOf binds (fun _ => none) x = none) (hy : ∀ L, bindC (callEnvC fd L f).kindOf binds (fun _ => none) y = none) (hxy : x ≠ y)
    (hco : fd.scope.isCoroutine = false) (hgen : fd.scope.isGenerator = false) (hk : fd.scope.kind = .function)
    (h : ∀ L h₁ t₁ o1 o2, L = s.heap.objs.size → o1.data = .cell none → o2.data = .cell none → St w ⟨s.heap, b, mu.map (·.1)⟩ b L (extL lb fun _ => none) ((L + 1, o1) :: (L + 2, o2) :: mu) { s with heap := h₁, toks := t₁ } → Room (A.deeper (callEnvC fd L f)) n →
      wpAny (model pw w) (A.deeper (callEnvC fd L f)) (execs body (callEnvC fd L f)) (fun fl s' => Q (match fl with | .ret v => v | _ => .none) s') (fun _ _ => False) { s with heap := h₁, toks := t₁ }) :
    wpAny (model pw w) A (call (.ref f) args) Q E s := by
  have X : (K w.params).In s.heap := B.kin hs
  refine wpAny_call (codeAny_call_cells R.limit (X _ _ hf) rfl (noLimit_of X) (codeRec_of X hc) hbody hbind hclo (fun y hy => .inl (of_decide_eq_true (List.all_eq_true.mp hkind y hy))) (fun s₁ x₁ => ?_) hco hgen hk)
  have hcells : (callEnvC fd s.heap.objs.size f).cells = [(y, s.heap.objs.size + 2), (x, s.heap.objs.size + 1)] := hcs _
  have hloc : (callEnvC fd s.heap.objs.size f).locals = s.heap.objs.size := rfl
  rw [hl, hcells, hloc] at x₁
  refine nay fun hG => ?_
  obtain ⟨h₁, t₁, rfl⟩ := x₁.toInCall.same
  refine hG ?_; clear hG
  have c2 := x₁.cell y (s.heap.objs.size + 2) (by simp)
  have c1 := x₁.cell x (s.heap.objs.size + 1) (by rw [List.lookup_cons, show (x == y) = false from by simpa using hxy]; simp)
  rw [hx] at c1
  rw [hy] at c2
  refine nay fun hG => ?_
  obtain ⟨o1, g1, d1⟩ := c1
  obtain ⟨o2, g2, d2⟩ := c2
  refine hG ?_; clear hG
  have bn : ∀ a, s.heap.objs.size ≤ a → b a = none := fun a ha => by
    cases q : b a with
    | none => rfl
    | some o => exact absurd (Heap.lt_size (hs _ _ q)) (Nat.not_lt.mpr ha)
  have lt : ∀ p ∈ mu, p.1 < s.heap.objs.size := fun p hp => Heap.lt_size (hm p hp).1
  refine wpAny_mono (h _ h₁ t₁ o1 o2 rfl d1 d2 ⟨B, fun a o q => x₁.toInCall.keep a o (hs a o q), fun a o q => q, fun a o q => .inl q, fun a o q _ => x₁.toInCall.keep a o q, x₁.toInCall.ns, Nat.le_refl _, bn _ (Nat.le_refl _), fun p hp => ?_, ?_⟩ R.deeper) (fun fl s' z => z) fun _ _ z => z.elim
  · rcases List.mem_cons.mp hp with rfl | hp
    · exact ⟨g1, Nat.ne_of_gt (Nat.lt_succ_self _), bn _ (Nat.le_succ _), .inr (Nat.le_succ _)⟩
    · rcases List.mem_cons.mp hp with rfl | hp
      · exact ⟨g2, by show s.heap.objs.size + 2 ≠ s.heap.objs.size; lia, bn _ (by lia), .inr (by show s.heap.objs.size ≤ s.heap.objs.size + 2; lia)⟩
      · exact ⟨x₁.toInCall.keep _ _ (hm p hp).1, Nat.ne_of_lt (lt p hp), (hm p hp).2, .inl (List.mem_map_of_mem hp)⟩
  · rw [List.map_cons, List.map_cons]
    refine List.nodup_cons.mpr ⟨fun q => ?_, List.nodup_cons.mpr ⟨fun q => ?_, nd⟩⟩
    · rcases List.mem_cons.mp q with q | q
      · exact Nat.succ_ne_self (s.heap.objs.size + 1) q.symm
      · obtain ⟨p, hp, e⟩ := List.mem_map.mp q
        have := lt p hp
        have e' : p.1 = s.heap.objs.size + 1 := e
        rw [e'] at this
        exact absurd this (Nat.not_lt.mpr (Nat.le_succ _))
    · obtain ⟨p, hp, e⟩ := List.mem_map.mp q
      have := lt p hp
      have e' : p.1 = s.heap.objs.size + 2 := e
      rw [e'] at this
      exact absurd this (Nat.not_lt.mpr (Nat.le_add_right _ 2))
noncomputable def BmAt (P : Params) (b : PM) : Prop := ∃ bm ob, gv P "__builtins__" = some (.ref bm) ∧ bm ≠ builtinsNs ∧ bm ≠ mainGlobals ∧ bm ≠ 430 ∧ b bm = some ob ∧ ob.cls = .type "module" ∧ ob.dict = some builtinsNs ∧ ob.data = .plain
theorem BmAt.up {P : Params} {b b' : PM} (h : BmAt P b) (hb : ∀ a o, b a = some o → b' a = some o) : BmAt P b' := by
  refine nay fun hG => ?_
  obtain ⟨bm, ob, h1, h2, h3, h4, h5, r⟩ := h
  refine hG ?_; clear hG
  exact ⟨bm, ob, h1, h2, h3, h4, hb _ _ h5, r⟩
theorem code434 {P : Params} {h : Heap} (X : (K P).In h) : CodeHd h 434 430 := by
  refine ⟨_, _, _, _, _, _, _, _, _, X 434 _ (by rfl), rfl, rfl, rfl, rfl, rfl, rfl, rfl, rfl, by decide⟩
theorem mk_take {e : En} {L : Addr} {m : Str → Option Value} {mu : List (Addr × Obj)} {s0 : Shared} {t0 : Nat} {env : Env} {cC cP : Addr} {Q : Flow → Shared → Prop} (S : St w e b L m mu { s0 with heap := s.heap, toks := t0 }) (hP : s.heap.get? 430 = some (tabObj #[])) (hBm : BmAt w.params b)
    (hcl : closureFor takeScope env = pure [((Str.ofString "place"), cP), ((Str.ofString "cells"), cC)]) (hge0 : env.globals = mainGlobals) (hcode : env.code = .ref 434)
    (h : ∀ c' ctv doc h' tk, Heap.ExtBut 430 s.heap h' → s.heap.objs.size ≤ c' → c' < h'.objs.size → h'.CodeRec (.ref c') "_law_taker.<locals>.take" → h'.get? 430 = some (tabObj (#[] ++ #[rawInt takePos.line, rawInt takePos.col, .ref c'])) →
      wpAny (model pw w) A (storeName env "take" (.ref h'.objs.size)) (fun _ s'' => Q .next s'') E { s with heap := h'.push { cls := .type "function", data := .func (f_take cC cP c' doc ((gv w.params "__name__").getD .none) ctv) }, toks := tk })
    (hqn : qualnameIn env "take" "take" = "_law_taker.<locals>.take") : wpAny (model pw w) A (exec takeStmt env) Q E s := by
  refine nay fun hG => ?_
  obtain ⟨bm, ob, m1, m2, m3, m4, m5, m6, m7, m8⟩ := hBm
  refine hG ?_; clear hG
  refine nestDef_K (name := "take") (params := takeParams) (body := takeBody) (scope := takeScope) (pos := takePos) rfl rfl rfl ?_
  rw [hqn]
  exact makeFunction_K (mg := gv w.params) (c := 434) (P := 430) (ps := #[]) hcl hge0 (globs_of S.kin) hcode (code434 S.kin) hP trivial rfl (by decide) ⟨bm, ob, m1, m2, m3, m4, S.get m5, m6, m7, m8⟩ fun c' ctv doc h₇ t₇ hx hge hlt hrec htb => h c' ctv doc h₇ t₇ hx hge hlt hrec htb
theorem c_law_taker {D : Addr} {vs : Array Value} {kk : Nat} (R : Room A (n + 2)) (B : Base w b) (hs : ∀ a o, b a = some o → s.heap.get? a = some o) (hBm : BmAt w.params b)
    (hD : b D = some (listOf vs kk)) (hv : ∀ (i : Nat) (v : Value), vs[i]? = some v → IsAnyI v) (hz : vs.size ≤ 63) (hb : b 430 = none) (hd : s.heap.get? 430 = some (tabObj #[]))
    (K : ∀ T PL o ps b' h' t', Grow b b' s.heap h' [430] → h'.get? 430 = some (tabObj ps) → TakerAt b' T PL → b' PL = none → s.heap.objs.size ≤ PL → h'.get? PL = some o → PlaceO 0 o → Q (.ref T) { s with heap := h', toks := t' }) :
    wpAny (model pw w) A (call (.ref 435) [.ref D]) Q E s := by
  refine enterCells2 R B hs [(430, tabObj #[])] (one_mu hd hb) one_nd (lk_law_taker _) (cd_law_taker _) (body := _) rfl (binds := [("script", .ref D)]) (lb := [("script", .ref D)]) (by kernel_rfl!) (by kernel_rfl!) (x := "cells") (y := "place") (by intro L; kernel_rfl!) (by kernel_rfl!) (by intro L; kernel_rfl!) (by intro L; kernel_rfl!) (by intro L; kernel_rfl!) (by decide) (by kernel_rfl!) (by kernel_rfl!) (by kernel_rfl!) ?_
  intro L h₁ t₁ o1 o2 hL d1 d2 S R'
  subst hL
  dsimp only [extL] at S
  walk_at "x"
  refine wpAny_Assign_Name ?_ (by kernel_rfl!)
  refine Subscript_ ?_
  walk_at "n"
  refine wpAny_Slice ?_
  with_reducible refine evalPart_none_step ?_
  with_reducible refine evalPart_some_step ?_
  walk_at "i"
  with_reducible refine evalPart_none_step ?_
  refine slc_lst S (by rfl) (S.get hD) .none (.int _ _) (by lia) (by with_unfolding_all rfl) fun a h₂ t₂ ha S => ?_
  have es : slicePick vs none (some 63) none = vs := by
    have := slicePick_upto' vs 63
    rw [show ((63 : Nat) : Int) = 63 from rfl] at this
    rw [this, List.take_of_length_le (by simpa using hz)]
  rw [es] at S
  replace S := S.swap
  refine st_cell S (by rfl) (by kernel_rfl!) (by kernel_rfl!) (by rfl) d1 fun o1' h₃ t₃ d1' S => ?_
  walk_at "x"
  refine wpAny_If ?_
  walk_at "q"
  refine n_cellM S (by kernel_rfl!) (by kernel_rfl!) (by rfl) (by kernel_rfl!) (.head _) d1' ?_
  refine PyProof.Rows.List_ ?_
  refine args_nil ?_
  refine new_lst S (by rfl) (by decide) fun a2 h₄ t₄ ha2 _ S => ?_
  by_cases hv0 : vs.size = 0
  · refine SeqAt.eq_listAt ⟨_, S.muGet (.tail _ (.tail _ (.head _))), rfl, _, rfl⟩ ⟨_, S.muGet (.head _), rfl, _, rfl⟩ (by simp [hv0]) (Room.line R') (e := fun _ => true) (fun j h1 _ => absurd h1 (by lia)) ?_
    walk_at "t"
    rename St _ _ _ _ _ _ _ => S
    refine ite_yes (by simp) ?_
    walk_at "x"
    refine wpAny_Assign_Name ?_ (by kernel_rfl!)
    refine PyProof.Rows.List_ ?_
    walk_at "c"; walk_at "i"
    refine args_nil ?_
    refine new_lst S (by rfl) (by simp) fun a3 h₄ t₄ ha3 _ S => ?_
    replace S := S.perm (mu' := (s.heap.objs.size + 1, o1') :: (a3, _) :: (s.heap.objs.size + 2, o2) :: (430, tabObj #[]) :: (a2, _) :: (a, _) :: []) perm6b
    refine st_cell S (by rfl) (by kernel_rfl!) (by kernel_rfl!) (by rfl) d1' fun o1'' h₄ t₄ d1'' S => ?_
    walk_at "z"; walk_at "x"
    refine wpAny_Assign_Name ?_ (by kernel_rfl!)
    refine PyProof.Rows.List_ ?_
    walk_at "c"; walk_at "i"
    refine args_nil ?_
    refine new_lst S (by rfl) (by simp) fun PL h₅ t₅ hPL _ S => ?_
    replace S := S.perm (mu' := (s.heap.objs.size + 2, o2) :: (s.heap.objs.size + 1, o1'') :: (a3, _) :: (430, tabObj #[]) :: (PL, _) :: (a2, _) :: (a, _) :: []) perm7a
    refine st_cell S (by rfl) (by kernel_rfl!) (by kernel_rfl!) (by rfl) d2 fun o2' h₆ t₆ d2' S => ?_
    refine S.frzK (Nat.le_add_right _ 2) fun b₁ up1 g1 S => ?_
    refine S.frzK (Nat.le_add_right _ 1) fun b₂ up2 g2 S => ?_
    refine S.frzK ha3 fun b₃ up3 g3 S => ?_
    refine wpAny_execs_cons ?_
    have hBm' := ((hBm.up up1).up up2).up up3
    refine mk_take (cC := s.heap.objs.size + 1) (cP := s.heap.objs.size + 2) S (S.muGet (.head _)) hBm' (by kernel_rfl!) (by rfl) (by rfl) (fun c' ctv doc h₇ t₇ hx hge hlt hrec htb => ?_) (by kernel_rfl!)
    have Lc := S.lt
    have bnc := S.b_new
    have mlt := fun p hp => S.mu_lt (p := p) hp
    have szc := S.size
    have S1 := S.turn (h' := h₇) (t := t₇) htb fun c oc q q' => hx c oc q q'
    refine nay fun hG => ?_
    obtain ⟨c₀, oc, vs', tq, e0, gc, dc, vc⟩ := hrec
    refine hG ?_; clear hG
    cases e0
    have bc : b₃ c' = none := by
      cases q : b₃ c' with
      | none => rfl
      | some o => exact absurd (Heap.lt_size (S.sub _ _ q)) (Nat.not_lt.mpr hge)
    have S2 := S1.put gc (Nat.ne_of_gt (Nat.lt_of_lt_of_le Lc hge)) (fun p hp => by
      rcases List.mem_cons.mp hp with rfl | hp
      · exact Nat.ne_of_lt (Nat.lt_of_lt_of_le (mlt (430, tabObj #[]) (.head _)) hge)
      · exact Nat.ne_of_lt (Nat.lt_of_lt_of_le (mlt p (.tail _ hp)) hge)) bc (Nat.le_trans szc hge)
    have up4 := fun (x : Addr) (ox : Obj) q => PM.put_le bc oc (x := x) (ox := ox) q
    have gc2 : b₃.put c' oc c' = some oc := PM.put_self ..
    have S3 := S2.push { cls := .type "function", data := .func (f_take (s.heap.objs.size + 1) (s.heap.objs.size + 2) c' doc ((gv w.params "__name__").getD .none) ctv) } (t := t₇)
    have bf : (b₃.put c' oc) h₇.objs.size = none := S2.b_new
    have up5 := fun (x : Addr) (ox : Obj) q => PM.put_le bf { cls := .type "function", data := .func (f_take (s.heap.objs.size + 1) (s.heap.objs.size + 2) c' doc ((gv w.params "__name__").getD .none) ctv) } (x := x) (ox := ox) q
    have gf := PM.put_self (b₃.put c' oc) h₇.objs.size { cls := .type "function", data := .func (f_take (s.heap.objs.size + 1) (s.heap.objs.size + 2) c' doc ((gv w.params "__name__").getD .none) ctv) }
    clear S S1 S2
    rename St _ _ _ _ _ _ _ => S
    refine st_loc' (by assumption) (by rfl) rfl (by kernel_rfl!) (by kernel_rfl!) fun _ _ S => ?_
    walk_at "x"
    refine wpAny_Return_some ?_
    walk_at "n"
    have gc3 := up5 _ _ gc2
    have e1 := up5 _ _ (up4 _ _ (up3 _ _ g2))
    have e2 := up5 _ _ (up4 _ _ (up3 _ _ (up2 _ _ g1)))
    have e3 := up5 _ _ (up4 _ _ g3)
    refine K _ PL _ _ _ _ _ S.grow (S.muGet (.head _)) ⟨s.heap.objs.size + 1, s.heap.objs.size + 2, c', doc, _, ctv, a3, _, 0, gf, ⟨oc, vs', tq, gc3, dc, vc⟩, ⟨o1'', e1, d1''⟩, ⟨o2', e2, d2'⟩, e3, (fun i v hv => all_one hv), Nat.le_refl 1, Nat.le_of_ble_eq_true rfl⟩ (S.tu _ (.tail _ (.head _))).2.2.1 hPL (S.muGet (.tail _ (.head _))) ⟨0, _, _, Nat.le_refl _, rfl⟩
  · refine SeqAt.eq_list_lengthsAt ⟨_, S.muGet (.tail _ (.tail _ (.head _))), rfl, _, rfl⟩ ⟨_, S.muGet (.head _), rfl, _, rfl⟩ (by simpa using hv0) (Room.line R') ?_
    walk_at "t"
    with_reducible refine ite_no (by with_reducible rfl) ?_
    walk_at "z"; walk_at "x"
    refine wpAny_Assign_Name ?_ (by kernel_rfl!)
    refine PyProof.Rows.List_ ?_
    walk_at "c"; walk_at "i"
    refine args_nil ?_
    rename St _ _ _ _ _ _ _ => S
    refine new_lst S (by rfl) (by simp) fun PL h₅ t₅ hPL _ S => ?_
    replace S := S.perm (mu' := (s.heap.objs.size + 2, o2) :: (s.heap.objs.size + 1, o1') :: (a, listOf vs 0) :: (430, tabObj #[]) :: (PL, _) :: (a2, listOf #[] 0) :: []) perm6a
    refine st_cell S (by rfl) (by kernel_rfl!) (by kernel_rfl!) (by rfl) d2 fun o2' h₆ t₆ d2' S => ?_
    refine S.frzK (Nat.le_add_right _ 2) fun b₁ up1 g1 S => ?_
    refine S.frzK (Nat.le_add_right _ 1) fun b₂ up2 g2 S => ?_
    refine S.frzK ha fun b₃ up3 g3 S => ?_
    refine wpAny_execs_cons ?_
    have hBm' := ((hBm.up up1).up up2).up up3
    refine mk_take (cC := s.heap.objs.size + 1) (cP := s.heap.objs.size + 2) S (S.muGet (.head _)) hBm' (by kernel_rfl!) (by rfl) (by rfl) (fun c' ctv doc h₇ t₇ hx hge hlt hrec htb => ?_) (by kernel_rfl!)
    have Lc := S.lt
    have bnc := S.b_new
    have mlt := fun p hp => S.mu_lt (p := p) hp
    have szc := S.size
    have S1 := S.turn (h' := h₇) (t := t₇) htb fun c oc q q' => hx c oc q q'
    refine nay fun hG => ?_
    obtain ⟨c₀, oc, vs', tq, e0, gc, dc, vc⟩ := hrec
    refine hG ?_; clear hG
    cases e0
    have bc : b₃ c' = none := by
      cases q : b₃ c' with
      | none => rfl
      | some o => exact absurd (Heap.lt_size (S.sub _ _ q)) (Nat.not_lt.mpr hge)
    have S2 := S1.put gc (Nat.ne_of_gt (Nat.lt_of_lt_of_le Lc hge)) (fun p hp => by
      rcases List.mem_cons.mp hp with rfl | hp
      · exact Nat.ne_of_lt (Nat.lt_of_lt_of_le (mlt (430, tabObj #[]) (.head _)) hge)
      · exact Nat.ne_of_lt (Nat.lt_of_lt_of_le (mlt p (.tail _ hp)) hge)) bc (Nat.le_trans szc hge)
    have up4 := fun (x : Addr) (ox : Obj) q => PM.put_le bc oc (x := x) (ox := ox) q
    have gc2 : b₃.put c' oc c' = some oc := PM.put_self ..
    have S3 := S2.push { cls := .type "function", data := .func (f_take (s.heap.objs.size + 1) (s.heap.objs.size + 2) c' doc ((gv w.params "__name__").getD .none) ctv) } (t := t₇)
    have bf : (b₃.put c' oc) h₇.objs.size = none := S2.b_new
    have up5 := fun (x : Addr) (ox : Obj) q => PM.put_le bf { cls := .type "function", data := .func (f_take (s.heap.objs.size + 1) (s.heap.objs.size + 2) c' doc ((gv w.params "__name__").getD .none) ctv) } (x := x) (ox := ox) q
    have gf := PM.put_self (b₃.put c' oc) h₇.objs.size { cls := .type "function", data := .func (f_take (s.heap.objs.size + 1) (s.heap.objs.size + 2) c' doc ((gv w.params "__name__").getD .none) ctv) }
    clear S S1 S2
    rename St _ _ _ _ _ _ _ => S
    refine st_loc' (by assumption) (by rfl) rfl (by kernel_rfl!) (by kernel_rfl!) fun _ _ S => ?_
    walk_at "x"
    refine wpAny_Return_some ?_
    walk_at "n"
    have gc3 := up5 _ _ gc2
    have e1 := up5 _ _ (up4 _ _ (up3 _ _ g2))
    have e2 := up5 _ _ (up4 _ _ (up3 _ _ (up2 _ _ g1)))
    have e3 := up5 _ _ (up4 _ _ g3)
    exact K _ PL _ _ _ _ _ S.grow (S.muGet (.head _)) ⟨s.heap.objs.size + 1, s.heap.objs.size + 2, c', doc, _, ctv, a, vs, 0, gf, ⟨oc, vs', tq, gc3, dc, vc⟩, ⟨o1', e1, d1'⟩, ⟨o2', e2, d2'⟩, e3, hv, by lia, hz⟩ (S.tu _ (.tail _ (.head _))).2.2.1 hPL (S.muGet (.tail _ (.head _))) ⟨0, _, _, Nat.le_refl _, rfl⟩
end
-- LD
theorem TakerAt.fn {b : PM} {T PL : Addr} (h : TakerAt b T PL) : ∃ o fd, b T = some o ∧ o.data = .func fd := by
  refine nay fun hG => ?_
  obtain ⟨_, _, _, _, _, _, _, _, _, h1, _⟩ := h
  refine hG ?_; clear hG
  exact ⟨_, _, h1, rfl⟩
noncomputable def SetL (gs : List Int) : Prop := gs.length ≤ 3 ∧ ∀ g ∈ gs, 1 ≤ g ∧ g ≤ 5
section
variable {w : World} {A : Around} {E : Value → Shared → Prop} {s : Shared} {b : PM} {n : Nat} {Q : Value → Shared → Prop}
theorem in_law_set {k : Nat} {body : List Stmt} {x0 : Value} (hbody : f_law_set.body = .stmts body)
    (R : Room A (k + 1)) (B : Base w b) (hs : ∀ a o, b a = some o → s.heap.get? a = some o) (mu : List (Addr × Obj)) (hm : ∀ p ∈ mu, s.heap.get? p.1 = some p.2 ∧ b p.1 = none) (nd : (mu.map (·.1)).Nodup)
    (h : ∀ L h₁ t₁ b₁, L = s.heap.objs.size → (∀ a o, b a = some o → b₁ a = some o) → CellAt b₁ (L + 1) x0 → St w ⟨s.heap, b, mu.map (·.1)⟩ b₁ L (extL [] fun _ => none) mu { s with heap := h₁, toks := t₁ } → Room (A.deeper (callEnvC f_law_set L 440)) k →
      wpAny (model pw w) (A.deeper (callEnvC f_law_set L 440)) (execs body (callEnvC f_law_set L 440)) (fun fl s' => Q (match fl with | .ret v => v | _ => .none) s') (fun _ _ => False) { s with heap := h₁, toks := t₁ }) :
    wpAny (model pw w) A (call (.ref 440) [x0]) Q E s :=
  enterCell R B hs mu hm nd (lk_law_set _) (cd_law_set _) hbody (binds := [("take", x0)]) (by kernel_rfl!) (by kernel_rfl!) (x := "take") (by intro L; kernel_rfl!) (by kernel_rfl!) (by intro L; kernel_rfl!) (by intro L; kernel_rfl!) (by kernel_rfl!) (by kernel_rfl!) (by kernel_rfl!) h
theorem c_law_set {T PL : Addr} {k : Nat} {o : Obj} (R : Room A (n + 3)) (B : Base w b) (hs : ∀ a o, b a = some o → s.heap.get? a = some o)
    (hT : TakerAt b T PL) (hb : b PL = none) (hd : s.heap.get? PL = some o) (ho : PlaceO k o) (hk : k + 5 ≤ 60)
    (K : ∀ v gs o' b' h' t', SetL gs → Grow b b' s.heap h' [PL] → h'.get? PL = some o' → PlaceO (k + 5) o' → ListOf b' IsI v gs → Q v { s with heap := h', toks := t' }) :
    wpAny (model pw w) A (call (.ref 440) [.ref T]) Q E s := by
  refine in_law_set (body := _) rfl R B hs [(PL, o)] (one_mu hd hb) one_nd ?_
  intro L h₁ t₁ b₁ hL hup hC S R'
  dsimp only [extL] at S
  replace hT := hT.up hup
  refine nay fun hG => ?_
  obtain ⟨oT, fdT, hT1, hT2⟩ := hT.fn
  refine hG ?_; clear hG
  walk_at "x"
  refine wpAny_Return_some ?_
  refine lcomp (cl := [("take", L + 1)]) (by intro _; kernel_rfl!) (by kernel_rfl!) (by kernel_rfl!) (by decide +kernel) ?_
  walk_at "f"
  refine n_range (by assumption) (by kernel_rfl!) (by kernel_rfl!) (by kernel_rfl!) (by kernel_rfl!) ?_
  refine PyProof.Rows.callWith_type1 ?_ (by kernel_rfl!) (by kernel_rfl!)
  walk_at "c"; walk_at "f"
  refine n_cell (by assumption) (by assumption) (by kernel_rfl!) (by kernel_rfl!) (by kernel_rfl!) (by kernel_rfl!) ?_
  rename St _ _ _ _ _ _ _ => S
  refine callWith_def hT2 ?_ (by kernel_rfl!)
  walk_at "c"; walk_at "i"
  refine args_nil ?_
  refine ⟨S.get hT1, ?_⟩
  refine c_take (n := n + 1) R' S.base S.sub hT (S.tu _ (.head _)).2.2.1 (S.muGet (.head _)) ho (by lia) (by decide) fun v t o' b' h' t' hv0 hv1 G gg ho => ?_
  have gu := G.up
  replace S := S.call1 (t := t') G gg
  dsimp only at S
  replace hT := hT.up gu
  replace hT1 := gu _ _ hT1
  replace hC := hC.up gu
  refine args_nil ?_
  refine it_range1 R'.hd S (by rfl) hv0 (by lia) fun I oI h₃ t₃ W S => ?_
  refine comp_src W S (by lia) (by decide) rfl (by kernel_rfl!) (fun i b₄ mu ys => ∃ od gs, mu = [(PL, od)] ∧ PlaceO (k + 1 + i) od ∧ All2 IsI ys.toList gs ∧ gs.length = i ∧ ∀ g ∈ gs, 1 ≤ g ∧ g ≤ 5) ⟨_, [], rfl, ho, .nil, rfl, fun _ h => nomatch h⟩ ?_ ?_
  · intro i v' b₄ mC mu ys tl h₄ t₄ C hi hx1 hx2 hb₄ S
    refine nay fun hG => ?_
    obtain ⟨tt, rfl⟩ := hx1
    obtain ⟨od, gs, rfl, ho, hy, hgl, hgs⟩ := hx2
    refine hG ?_; clear hG
    replace hT := hT.up hb₄
    replace hT1 := hb₄ _ _ hT1
    replace hC := hC.up hb₄
    with_reducible refine wpAny_BinOp ?_
    walk_at "i"; walk_at "f"
    refine n_cell (by assumption) (by assumption) (by kernel_rfl!) (by kernel_rfl!) (by kernel_rfl!) (by kernel_rfl!) ?_
    refine callWith_def hT2 ?_ (by kernel_rfl!)
    walk_at "c"; walk_at "i"
    refine args_nil ?_
    refine ⟨S.get hT1, ?_⟩
    refine c_take (n := n + 1) R' S.base S.sub hT (S.tu _ (.head _)).2.2.1 (S.muGet (.head _)) ho (by lia) (by decide) fun v t o' b₅ h₅ t₅ hv0 hv1 G gg ho => ?_
    replace S := S.call1 (t := t₅) G gg
    dsimp only at S
    with_reducible refine add_int ?_
    refine turnI (b2 := b₅) (mu2 := [(PL, o')]) rfl ⟨o', gs ++ [1 + v], rfl, ho, ?_, by simp [hgl], ?_⟩ (fun a o q => G.up _ _ (hb₄ _ _ q)) (S.toks _)
    · rw [Array.toList_push]; exact hy.push (IsI.mk _)
    · intro g hg
      rcases List.mem_append.mp hg with q | q
      · exact hgs g q
      · rw [List.mem_singleton.mp q]; lia
  intro b₄ mu ys k4 D4 h₄ t₄ hys hx1 hb₄ S hD4
  refine nay fun hG => ?_
  obtain ⟨od, gs, rfl, ho, hy, hgl, hgs⟩ := hx1
  refine hG ?_; clear hG
  refine S.frzK hD4 fun b₅ up5 gD S => ?_
  exact K _ gs _ _ _ _ ⟨by lia, hgs⟩ S.grow (S.muGet (.head _)) (ho.le (by lia)) ⟨D4, ys, k4, rfl, gD, hy⟩
end
-- LE
theorem keys_miss : typeLookup (.type "list") "keys" = pure none := by rw [typeLookup_type, builtinLookup_eq_fast]; kernel_rfl
section
variable {w : World} {A : Around} {E : Value → Shared → Prop} {s : Shared}
theorem no_keys {a : Addr} {xs : Array Value} {k : Nat} {Q : Option Value → Shared → Prop} (hx : s.heap.get? a = some (listOf xs k)) (hA : A.handled = none)
    (h : ∀ h' tk, (∀ b o, s.heap.get? b = some o → h'.get? b = some o) → Q none { s with heap := h', toks := tk }) : wpAny (model pw w) A (getAttr? (.ref a) "keys") Q E s := by
  refine nay fun hG => ?_
  obtain ⟨hp, g, d, tk, os⟩ := s
  refine hG ?_; clear hG
  have hT : ∀ tk', (⟨hp, g, d, tk', os⟩ : Shared).TypeIs (.ref a) "list" := fun _ => ⟨_, hx, rfl⟩
  have f1 := sub_AttributeError
  have f3 := F.slot_list_getattribute.lookup
  have f4 := F.slot_list_getattribute.bind (.ref a)
  have f5 := am_list_getattr_none
  unfold getAttr? getAttrBy? getAttrBy
  repeat (any_goals (first | assumption | exact hT _ | ((with_reducible show wpAny _ _ (call (Value.builtin "list.__getattribute__") _ _) _ _ _); refine call_meets F.slot_list_getattribute (hT _) am_entry_list_getattribute (F.args_list_getattribute_2 _ _) (meets_getattribute_miss_list a xs k #[] "keys" _ keys_miss (by decide) (by rw [sizeLine_eq]; decide +kernel)) ⟨hx, hA, fun h' tk' e hx' => ?_⟩) | wp_step))
  refine nay fun hG => ?_
  obtain ⟨t', u', he⟩ := hx'.there
  refine hG ?_; clear hG
  show wpAny _ _ (getattributeRaised _ _ _ _ _ _ _) _ _ _
  unfold getattributeRaised
  repeat (any_goals (first | assumption | wp_step))
  exact h _ _ hx'.of.keeps
end
noncomputable def putI (mp : List (Int × Int)) (p : Int × Int) : List (Int × Int) := if mp.any (fun q => decide (q.1 = p.1)) then mp.map (fun q => if q.1 = p.1 then (q.1, p.2) else q) else mp ++ [p]
theorem stored_le (kvs : List (Int × Value)) (k : Int) (v : Value) : (stored kvs k v).length ≤ kvs.length + 1 := by
  unfold stored
  split
  · rw [List.length_map]; lia
  · rw [List.length_append]; simp
theorem KV.store {kvs : List (Int × Value)} {mp : List (Int × Int)} {x y : Int} {v : Value} (h : KV kvs mp) (hv : IsI v y) : KV (stored kvs x v) (putI mp (x, y)) := by
  have key : ∀ (kvs : List (Int × Value)) (mp : List (Int × Int)), KV kvs mp → KV (kvs.map fun q => if q.1 = x then (q.1, v) else q) (mp.map fun q => if q.1 = x then (q.1, y) else q) := by
    intro kvs
    induction kvs with
    | nil =>
      intro mp h
      cases mp with
      | nil => exact ⟨rfl, .nil⟩
      | cons p mp => cases h.1
    | cons p kvs ih =>
      intro mp h
      cases mp with
      | nil => cases h.1
      | cons q mp =>
        obtain ⟨h1, h2⟩ := h
        simp only [List.map_cons, List.cons.injEq] at h1
        simp only [List.map_cons] at h2
        cases h2 with
        | cons a r =>
          obtain ⟨i1, i2⟩ := ih mp ⟨h1.2, r⟩
          have e : p.1 = q.1 := h1.1
          refine ⟨?_, ?_⟩
          · simp only [List.map_cons, List.cons.injEq]
            refine ⟨?_, i1⟩
            rw [e]
            split <;> simp [e]
          · simp only [List.map_cons]
            rw [e]
            split
            · exact .cons hv i2
            · exact .cons a i2
  have ha : kvs.any (fun q => decide (q.1 = x)) = mp.any (fun q => decide (q.1 = x)) := by
    have e1 : kvs.any (fun q => decide (q.1 = x)) = (kvs.map (·.1)).any (fun q => decide (q = x)) := by rw [List.any_map]; rfl
    have e2 : mp.any (fun q => decide (q.1 = x)) = (mp.map (·.1)).any (fun q => decide (q = x)) := by rw [List.any_map]; rfl
    rw [e1, e2, h.1]
  unfold stored putI
  rw [ha]
  split
  · exact key _ _ h
  · refine ⟨?_, ?_⟩
    · rw [List.map_append, List.map_append, h.1]; rfl
    · rw [List.map_append, List.map_append]; exact h.2.push hv
theorem entry_dul : entryFor table "dict.update.loop" = some Builtin.«dict.update.loop» := entryFor_of_tree (by kernel_rfl)
theorem plain_dul : plainId "dict.update.loop" = true := by decide +kernel
section
variable {w : World} {A : Around} {E : Value → Shared → Prop} {s : Shared}
theorem dict_loop {R : Result → Shared → Prop} {I a : Addr} {fp : List Addr} {n : Nat} {P : Nat → Value → Prop} {Z : Nat → Heap → Prop} (W : Walks pw w A.in1 I fp [I] n P Z) (ha : a ∉ fp) (H : Heap) (ps : List (Int × Int)) (hn : ps.length = n) (hz : n ≤ 1000) (haI : a ≠ I)
    (hP : ∀ i v, P i v → ∃ T x t y u, v = .ref T ∧ H.get? T = some (tupO #[.int x t, .int y u]) ∧ ps[i]? = some (x, y)) (hH : H.objs.size ≤ a) (hI : H.objs.size ≤ I) :
    ∀ k i s kvs mp tk, n - i = k → i ≤ n → Z i s.heap → s.heap.DictOf (intKind pw w) a kvs → KV kvs mp → kvs.length ≤ i → (∀ c oc, H.get? c = some oc → s.heap.get? c = some oc) →
      (∀ h' t' kvs', h'.DictOf (intKind pw w) a kvs' → KV kvs' ((ps.drop i).foldl putI mp) → kvs'.length ≤ n → (∀ c oc, c ≠ a → c ≠ I → s.heap.get? c = some oc → h'.get? c = some oc) → R (.ok (.ret .none)) { s with heap := h', toks := t' }) →
      codeAny (model pw w) A (.builtin "dict.update.loop" ⟨[.ref a, .ref I, .int (i : Nat) tk, .none], []⟩) R s := by
  have haw : a ∉ [I] := by simpa using haI
  intro k
  induction k with
  | zero =>
    intro i s kvs mp tk hk hi hst hD hKV hkl hHs hR
    obtain rfl : i = n := by lia
    refine codeAny_builtin entry_dul ?_
    rw [Around.under_plainId plain_dul _]
    show wpAny _ A.in1 (pyNext (.ref I) >>= _) _ _ s
    refine wpAny_bind (W.done s _ _ hst fun h' tk hk => ?_)
    show wpAny _ _ (Builtin.Dict.addKeywords a [] >>= _) _ _ _
    refine wpAny_bind (wpAny_pure (wpAny_pure (hR h' tk kvs ?_ (by rw [List.drop_of_length_le (by lia)]; exact hKV) hkl fun c oc h1 h2 q => hk c oc (by simpa using h2) q)))
    refine nay fun hG => ?_
    obtain ⟨o, es, ep, ho, r⟩ := hD
    refine hG ?_; clear hG
    exact ⟨o, es, ep, hk a o haw ho, r⟩
  | succ k ih =>
    intro i s kvs mp tk hk hi hst hD hKV hkl hHs hR
    have hlt : i < n := by lia
    refine codeAny_builtin entry_dul ?_
    rw [Around.under_plainId plain_dul _]
    show wpAny _ A.in1 (pyNext (.ref I) >>= _) _ _ s
    refine wpAny_bind (W.item i s _ _ hlt hst fun v h' tk' hPv hst' hk' => ?_)
    refine nay fun hG => ?_
    obtain ⟨T, x, t, y, u, rfl, hT, hpi⟩ := hP i v hPv
    refine hG ?_; clear hG
    have hTn : T ≠ I := Nat.ne_of_lt (Nat.lt_of_lt_of_le (Heap.lt_size hT) hI)
    have gT : h'.get? T = some (tupO #[.int x t, .int y u]) := hk' T _ (by simpa using hTn) (hHs _ _ hT)
    have hTT : ({ s with heap := h', toks := tk' } : Shared).TypeIs (.ref T) "tuple" := ⟨_, gT, rfl⟩
    have hD' : h'.DictOf (intKind pw w) a kvs := by
      refine nay fun hG => ?_
      obtain ⟨o, es, ep, ho, r⟩ := hD
      refine hG ?_; clear hG
      exact ⟨o, es, ep, hk' a o haw ho, r⟩
    dsimp only
    refine wpAny_bind (wpAny_holding (wpAny_bind (wpAny_tryCatch ?_)))
    unfold Builtin.Dict.pairItems
    refine wpAny_bind (wpAny_typeOf hTT ?_)
    rw [if_pos (by decide)]
    refine wpAny_bind (wpAny_seqItems gT rfl (wpAny_pure ?_))
    dsimp only [Option.getD]
    refine wpAny_holding (wpAny_dictSet_pairs (knd := intKind pw w) (k := x) (by simp [intKind, Value.isInt]) hD' (fun h2 hm2 hs2 => ?_) (by rw [sizeLine_eq]; lia))
    refine wpAny_pure ⟨plainId_quiet plain_dul _, ?_⟩
    have e1 : rawInt ((i : Int) + 1) = Value.int ((i + 1 : Nat) : Int) 0 := by rw [Int.natCast_add]; rfl
    rw [e1]
    have keep2 : ∀ c oc, c ≠ a → c ≠ I → s.heap.get? c = some oc → h2.get? c = some oc := fun c oc q1 q2 q => (hs2.2 c q1).trans (hk' c oc (by simpa using q2) q)
    refine ih (i + 1) _ (stored kvs x (.int y u)) (putI mp (x, y)) 0 (by lia) hlt (W.frame _ h' h2 hst' fun c hc oc q => (hs2.2 c (fun z => ha (z ▸ hc))).trans q) hm2 (hKV.store (.mk u)) (Nat.le_trans (stored_le kvs x _) (by lia))
      (fun c oc q => keep2 c oc (Nat.ne_of_lt (Nat.lt_of_lt_of_le (Heap.lt_size q) hH)) (Nat.ne_of_lt (Nat.lt_of_lt_of_le (Heap.lt_size q) hI)) (hHs c oc q)) fun h3 t3 kvs3 d1 d2 d3 d4 => hR h3 t3 kvs3 d1 ?_ d3 fun c oc q1 q2 q => d4 c oc q1 q2 (keep2 c oc q1 q2 q)
    rw [List.drop_eq_getElem_cons (by lia)]
    have : ps[i] = (x, y) := by
      have := List.getElem?_eq_getElem (l := ps) (i := i) (by lia)
      rw [hpi] at this
      exact (Option.some.inj this).symm
    rw [this]
    exact d2
end
-- LF
theorem St.addM {w : World} {e : En} {b : PM} {L : Addr} {m : Str → Option Value} {mu : List (Addr × Obj)} {s : Shared} (S : St w e b L m mu s) {a : Addr} {o : Obj} (g : s.heap.get? a = some o) (hL : a ≠ L) (hb : b a = none) (hn : e.h.objs.size ≤ a) (hm : ∀ p ∈ mu, p.1 ≠ a) : St w e b L m ((a, o) :: mu) s := by
  refine ⟨S.base, S.sub, S.up, S.new, S.keep, S.ns, S.Lnew, S.Lb, fun p hp => ?_, ?_⟩
  · rcases List.mem_cons.mp hp with rfl | hp
    · exact ⟨g, hL, hb, .inr hn⟩
    · exact S.tu p hp
  · rw [List.map_cons]
    refine List.nodup_cons.mpr ⟨fun q => ?_, S.nd⟩
    obtain ⟨p, hp, e⟩ := List.mem_map.mp q
    exact hm p hp e
theorem St.newM {w : World} {e : En} {b : PM} {L : Addr} {m : Str → Option Value} {mu : List (Addr × Obj)} {s : Shared} (S : St w e b L m mu s) {a : Addr} {o : Obj} {h' : Heap} {t : Nat} (k : ∀ c oc, s.heap.get? c = some oc → h'.get? c = some oc) (g : h'.get? a = some o) (ha : s.heap.objs.size ≤ a) : St w e b L m ((a, o) :: mu) { s with heap := h', toks := t } := by
  have bn : b a = none := by
    cases q : b a with
    | none => rfl
    | some o => exact absurd (Heap.lt_size (S.sub _ _ q)) (Nat.not_lt.mpr ha)
  exact (S.ext (t := t) k).addM g (Nat.ne_of_gt (Nat.lt_of_lt_of_le S.lt ha)) bn (Nat.le_trans S.size ha) fun p hp => Nat.ne_of_lt (Nat.lt_of_lt_of_le (S.mu_lt hp) ha)
section
variable {w : World} {A : Around} {E : Value → Shared → Prop} {s s0 : Shared} {e : En} {b : PM} {L : Addr} {m : Str → Option Value} {mu : List (Addr × Obj)} {env : Env} {t0 : Nat} {Q : Value → Shared → Prop}
theorem d_pairs {D : Addr} {vs : Array Value} {k : Nat} {ps : List (Int × Int)} (hh : A.handled = none) (S : St w e b L m mu { s0 with heap := s.heap, toks := t0 }) (hq : s = { s0 with heap := s.heap, toks := s.toks }) (hD : s.heap.get? D = some (listOf vs k)) (hvs : All2 (IsPr b) vs.toList ps) (hz : ps.length ≤ 1000)
    (h : ∀ d o kvs h' t', e.h.objs.size ≤ d → 465 < d → DictO (intKind pw w) kvs o → KV kvs (ps.foldl putI []) → kvs.length ≤ ps.length → St w e b L m ((d, o) :: mu) { s0 with heap := h', toks := t' } → Q (.ref d) { s0 with heap := h', toks := t' }) :
    wpAny (model pw w) A (call (.type "dict") [.ref D]) Q E s := by
  have hvl : ps.length = vs.size := by have := hvs.length; simp at this; lia
  have h465 : 465 < s.heap.objs.size := S.lt465
  have hDlt := Heap.lt_size hD
  have hS : (s.heap.push { cls := .type "dict", data := .dict #[] }).get? s.heap.objs.size = some { cls := .type "dict", data := .dict #[] } := Heap.get?_push_size _ rfl
  refine callType_codes (Q₁ := fun obj s₁ => obj = .ref s.heap.objs.size ∧ s₁ = { s with heap := s.heap.push { cls := .type "dict", data := .dict #[] } }) F.kt_called_dict (F.kt_typeCall_dict_1 _) F.entry_dict_init (kt_code_dict_new _ ⟨rfl, rfl⟩) ?_
  rintro obj s₁ ⟨rfl, rfl⟩
  have hnew : (s.heap.push { cls := .type "dict", data := .dict #[] }).DictOf (intKind pw w) s.heap.objs.size [] := Heap.DictOf.new s.heap
  have hD' : (s.heap.push { cls := .type "dict", data := .dict #[] }).get? D = some (listOf vs k) := Heap.get?_push_of_some _ hD
  refine ⟨hnew.typeIs, F.args_dict_init_2 _ _, ?_⟩
  unfold Builtin.«dict.__init__»
  refine wpAny_bind ?_
  unfold Builtin.Dict.selfAndRest
  refine wpAny_bind (wpAny_notOrdered_dict hnew.typeIs ?_)
  show wpAny _ _ (pure (s.heap.objs.size, [Value.ref D])) _ _ _
  refine wpAny_pure ?_
  show wpAny _ _ (Builtin.Dict.updateFrom "dict.__init__" s.heap.objs.size (.ref D) [] .none) _ _ _
  unfold Builtin.Dict.updateFrom
  refine wpAny_bind (wpAny_typeOf (T := "list") ⟨_, hD', rfl⟩ ?_)
  rw [if_pos (by decide)]
  refine wpAny_bind (no_keys hD' (by exact hh) fun h1 t1 k1 => ?_)
  rw [if_pos (show (none : Option Value).isNone = true from rfl)]
  have gD1 := k1 _ _ hD'
  have ga1 := k1 _ _ hS
  have lt1 : s.heap.objs.size < h1.objs.size := Heap.lt_size ga1
  refine wpAny_bind (wpAny_rule ?_)
  refine wpAny_bind (wpAny_pyIter_list ⟨_, gD1, rfl, k, rfl⟩ ?_)
  refine wpAny_pure ⟨plainId_quiet plain_dul _, ?_⟩
  have W := Walks.list (prog := pw) (w := w) (A := A.in1.in1) (by exact hh) h1.objs.size D (Nat.ne_of_lt (Heap.lt_size gD1)) vs
  have sub : ∀ c oc, s.heap.get? c = some oc → h1.get? c = some oc := fun c oc q => k1 _ _ (Heap.get?_push_of_some _ q)
  refine dict_loop (A := A.in1) W (a := s.heap.objs.size) (fun q => ?_) s.heap ps hvl (by lia) (Nat.ne_of_lt lt1) (fun i v hv => ?_) (Nat.le_refl _) (Nat.le_of_lt lt1) vs.size 0 _ [] [] 0 (Nat.sub_zero _) (Nat.zero_le _)
    ⟨⟨_, Heap.get?_push_size _ rfl, rfl, rfl⟩, ⟨_, Heap.get?_push_of_some _ gD1, rfl, k, rfl⟩⟩ ?_ ⟨rfl, .nil⟩ (Nat.le_refl _) (fun c oc q => Heap.get?_push_of_some _ (sub c oc q)) fun h' t' kvs' d1 d2 d3 d4 => ?_
  · rcases List.mem_cons.mp q with q | q
    · exact absurd q (Nat.ne_of_lt lt1)
    · exact absurd (List.mem_singleton.mp q) (Nat.ne_of_gt hDlt)
  · obtain ⟨x, hx, T, u1, u2, e1, hT⟩ := hvs.get (i := i) (v := v) (by rw [Array.getElem?_toList]; exact hv)
    exact ⟨T, x.1, u1, x.2, u2, e1, S.get hT, hx⟩
  · obtain ⟨o, es, ep, ho, r⟩ := hnew
    exact ⟨o, es, ep, Heap.get?_push_of_some _ (k1 _ _ ho), r⟩
  · obtain ⟨o, g, dO⟩ := DictO.back d1
    refine ⟨rfl, ?_⟩
    have S1 := S.newM (h' := h') (t := t') (fun c oc q => d4 c oc (Nat.ne_of_lt (Heap.lt_size q)) (Nat.ne_of_lt (Nat.lt_trans (Heap.lt_size q) lt1)) (Heap.get?_push_of_some _ (sub c oc q))) g (Nat.le_refl _)
    have key := h _ o kvs' h' t' S.size h465 dO d2 (by lia) S1
    rw [hq]
    exact key
end
-- LG
noncomputable def chk (ks : List Int) : KasT (Array Nat) → Bool
  | .ret p => ((p.toList.map fun i => ks.getD i 0).isPerm ks && decide ((p.toList.map fun i => ks.getD i 0).Pairwise (· ≤ ·))) && p.toList.all (fun i => decide (i < ks.length))
  | .ask i j k => decide (i < ks.length) && (decide (j < ks.length) && (decide (ks.getD i 0 ≠ ks.getD j 0) && chk ks (k (decide (ks.getD i 0 < ks.getD j 0)))))
noncomputable def six : List Int := [1, 2, 3, 4, 5, 6]
theorem mem_six {x : Int} (h1 : 1 ≤ x) (h2 : x ≤ 6) : x ∈ six := by
  have : x = 1 ∨ x = 2 ∨ x = 3 ∨ x = 4 ∨ x = 5 ∨ x = 6 := by lia
  rcases this with rfl | rfl | rfl | rfl | rfl | rfl <;> decide
noncomputable def at0 (ns : List Nat) (i : Nat) : Nat := ns.getD i 0
noncomputable def asc : List Nat → Bool
  | [] => true
  | a :: l => l.all (Nat.ble a) && asc l
theorem asc_pw : ∀ l : List Nat, asc l = true → l.Pairwise (· ≤ ·)
  | [], _ => .nil
  | a :: l, h => by
    obtain ⟨h1, h2⟩ := Bool.and_eq_true_iff.mp h
    exact .cons (fun x hx => Nat.le_of_ble_eq_true (List.all_eq_true.mp h1 x hx)) (asc_pw l h2)
noncomputable def chkS (n : Nat) : List (List Nat) → KasT (Array Nat) → Bool
  | nss, .ret p => p.toList.isPerm (List.range n) && nss.all fun ns => asc (p.toList.map (at0 ns))
  | nss, .ask i j k => (Nat.blt i n && (Nat.blt j n && !Nat.beq i j)) &&
      ((let a := nss.filter fun ns => Nat.blt (at0 ns i) (at0 ns j); a.isEmpty || chkS n a (k true)) && (let a := nss.filter fun ns => !Nat.blt (at0 ns i) (at0 ns j); a.isEmpty || chkS n a (k false)))
theorem map_at0 (ns : List Nat) : (List.range ns.length).map (at0 ns) = ns := by
  apply List.ext_getElem?
  intro i
  rw [List.getElem?_map]
  by_cases h : i < ns.length
  · rw [List.getElem?_range h, List.getElem?_eq_getElem h]
    show some (ns.getD i 0) = _
    rw [List.getD_eq_getElem?_getD, List.getElem?_eq_getElem h]; rfl
  · rw [List.getElem?_eq_none (by rw [List.length_range]; lia), List.getElem?_eq_none (by lia)]; rfl
theorem at0_ne {ns : List Nat} (nd : ns.Nodup) {i j : Nat} (hi : i < ns.length) (hj : j < ns.length) (h : i ≠ j) : at0 ns i ≠ at0 ns j := by
  unfold at0
  rw [List.getD_eq_getElem?_getD, List.getD_eq_getElem?_getD, List.getElem?_eq_getElem hi, List.getElem?_eq_getElem hj]
  intro q
  exact h ((List.getElem_inj nd).mp q)
theorem getD_cast (ns : List Nat) (i : Nat) : (ns.map Int.ofNat).getD i 0 = Int.ofNat (at0 ns i) := by
  unfold at0
  rw [List.getD_eq_getElem?_getD, List.getD_eq_getElem?_getD, List.getElem?_map]
  cases ns[i]? <;> rfl
theorem dlt_cast (a b : Nat) : decide (Int.ofNat a < Int.ofNat b) = Nat.blt a b := by
  cases h : Nat.blt a b
  · exact decide_eq_false fun q => by
      have := Nat.blt_eq.mpr (Int.ofNat_lt.mp q)
      rw [h] at this; cases this
  · exact decide_eq_true (Int.ofNat_lt.mpr (Nat.blt_eq.mp h))
theorem chkS_mem {ns : List Nat} (nd : ns.Nodup) : ∀ (t : KasT (Array Nat)) (nss : List (List Nat)), chkS ns.length nss t = true → ns ∈ nss → chk (ns.map Int.ofNat) t = true
  | .ret p, _, h, m => by
    unfold chkS at h; unfold chk
    obtain ⟨h1, h2⟩ := Bool.and_eq_true_iff.mp h
    have h3 := List.isPerm_iff.mp h1
    have h4 := List.all_eq_true.mp h2 ns m
    have e : (p.toList.map fun i => (ns.map Int.ofNat).getD i 0) = (p.toList.map (at0 ns)).map Int.ofNat := by
      rw [List.map_map]; exact List.map_congr_left fun i _ => getD_cast ns i
    rw [e]
    have h5 := h3.map (at0 ns)
    rw [map_at0] at h5
    refine Bool.and_eq_true_iff.mpr ⟨Bool.and_eq_true_iff.mpr ⟨List.isPerm_iff.mpr (h5.map _), decide_eq_true (List.pairwise_map.mpr ((asc_pw _ h4).imp fun q => Int.ofNat_le.mpr q))⟩, List.all_eq_true.mpr fun i hi => decide_eq_true ?_⟩
    rw [List.length_map]; exact List.mem_range.mp (h3.mem_iff.mp hi)
  | .ask i j k, nss, h, m => by
    unfold chkS at h; unfold chk
    obtain ⟨h1, h2⟩ := Bool.and_eq_true_iff.mp h
    obtain ⟨h3, h4⟩ := Bool.and_eq_true_iff.mp h2
    obtain ⟨h6, h7⟩ := Bool.and_eq_true_iff.mp h1
    obtain ⟨h8, h9⟩ := Bool.and_eq_true_iff.mp h7
    have h10 : at0 ns i ≠ at0 ns j := at0_ne nd (Nat.blt_eq.mp h6) (Nat.blt_eq.mp h8) fun q => by rw [q, Nat.beq_refl] at h9; cases h9
    rw [getD_cast, getD_cast, dlt_cast, List.length_map]
    refine Bool.and_eq_true_iff.mpr ⟨decide_eq_true (Nat.blt_eq.mp h6), Bool.and_eq_true_iff.mpr ⟨decide_eq_true (Nat.blt_eq.mp h8), Bool.and_eq_true_iff.mpr ⟨decide_eq_true fun q => h10 (Int.ofNat.inj q), ?_⟩⟩⟩
    cases q : Nat.blt (at0 ns i) (at0 ns j)
    · have hm : ns ∈ nss.filter fun ns => !Nat.blt (at0 ns i) (at0 ns j) := List.mem_filter.mpr ⟨m, by rw [q]; rfl⟩
      rcases Bool.or_eq_true_iff.mp h4 with z | z
      · rw [List.isEmpty_iff.mp z] at hm; cases hm
      · exact chkS_mem nd _ _ z hm
    · have hm : ns ∈ nss.filter fun ns => Nat.blt (at0 ns i) (at0 ns j) := List.mem_filter.mpr ⟨m, q⟩
      rcases Bool.or_eq_true_iff.mp h3 with z | z
      · rw [List.isEmpty_iff.mp z] at hm; cases hm
      · exact chkS_mem nd _ _ z hm
noncomputable def sixN : List Nat := [1, 2, 3, 4, 5, 6]
noncomputable def arr : Nat → List (List Nat)
  | 0 => [[]]
  | n + 1 => (arr n).flatMap fun l => (sixN.filter fun x => l.all fun y => !Nat.beq x y).map (· :: l)
theorem all_ok0 : chkS 0 (arr 0) (kas_sort 0) = true := by decide +kernel
theorem all_ok1 : chkS 1 (arr 1) (kas_sort 1) = true := by decide +kernel
theorem all_ok2 : chkS 2 (arr 2) (kas_sort 2) = true := by decide +kernel
theorem all_ok3 : chkS 3 (arr 3) (kas_sort 3) = true := by decide +kernel
theorem all_ok4 : chkS 4 (arr 4) (kas_sort 4) = true := by decide +kernel
theorem all_ok5 : chkS 5 (arr 5) (kas_sort 5) = true := by decide +kernel
theorem mem_sixN {x : Nat} (h1 : 1 ≤ x) (h2 : x ≤ 6) : x ∈ sixN := by
  have : x = 1 ∨ x = 2 ∨ x = 3 ∨ x = 4 ∨ x = 5 ∨ x = 6 := by lia
  rcases this with rfl | rfl | rfl | rfl | rfl | rfl <;> decide
theorem mem_arr : ∀ ks : List Int, ks.Nodup → (∀ x ∈ ks, 1 ≤ x ∧ x ≤ 6) → ∃ ns ∈ arr ks.length, ks = ns.map Int.ofNat
  | [], _, _ => ⟨[], .head _, rfl⟩
  | x :: l, nd, hb => by
    refine nay fun hG => ?_
    obtain ⟨n1, n2⟩ := List.nodup_cons.mp nd
    obtain ⟨ns, h1, rfl⟩ := mem_arr l n2 fun y hy => hb y (.tail _ hy)
    refine hG ?_; clear hG
    have h2 := hb x (.head _)
    obtain ⟨n, rfl⟩ := Int.eq_ofNat_of_zero_le (a := x) (by lia)
    rw [List.length_map] at h1
    refine ⟨n :: ns, List.mem_flatMap.mpr ⟨ns, by rw [List.length_map]; exact h1, List.mem_map.mpr ⟨n, List.mem_filter.mpr ⟨mem_sixN (by lia) (by lia), List.all_eq_true.mpr fun y hy => ?_⟩, rfl⟩⟩, rfl⟩
    cases q : Nat.beq n y
    · rfl
    · exact absurd (List.mem_map.mpr ⟨y, hy, by rw [Nat.eq_of_beq_eq_true q]; rfl⟩) n1
theorem chk_all (ks : List Int) (nd : ks.Nodup) (hb : ∀ x ∈ ks, 1 ≤ x ∧ x ≤ 6) (hl : ks.length ≤ 5) : chk ks (kas_sort ks.length) = true := by
  obtain ⟨ns, hm, rfl⟩ := mem_arr ks nd hb
  have nd2 : ns.Nodup := (List.pairwise_map.mp nd).imp fun q e => q (congrArg _ e)
  rw [List.length_map] at hm hl ⊢
  refine chkS_mem nd2 _ _ ?_ hm
  have e : ns.length = 0 ∨ ns.length = 1 ∨ ns.length = 2 ∨ ns.length = 3 ∨ ns.length = 4 ∨ ns.length = 5 := by lia
  rcases e with e | e | e | e | e | e <;> rw [e]
  · exact all_ok0
  · exact all_ok1
  · exact all_ok2
  · exact all_ok3
  · exact all_ok4
  · exact all_ok5
theorem chk_run {ks : List Int} {cmp : Nat → Nat → (Bool → Shared → Prop) → Shared → Prop} {Q : Array Nat → Shared → Prop} {s : Shared}
    (hcmp : ∀ i j C, i < ks.length → j < ks.length → ks.getD i 0 ≠ ks.getD j 0 → C (decide (ks.getD i 0 < ks.getD j 0)) s → cmp i j C s)
    (hret : ∀ p : Array Nat, (p.toList.map fun i => ks.getD i 0) = isort ks → (∀ i ∈ p.toList, i < ks.length) → Q p s) : ∀ t : KasT (Array Nat), chk ks t = true → t.kasWp cmp Q s
  | .ret p, h => by
    unfold chk at h
    refine nay fun hG => ?_
    obtain ⟨h1, h2⟩ := Bool.and_eq_true_iff.mp h
    obtain ⟨h3, h4⟩ := Bool.and_eq_true_iff.mp h1
    refine hG ?_; clear hG
    exact hret p (isort_eq (List.isPerm_iff.mp h3) (of_decide_eq_true h4)) fun i hi => of_decide_eq_true (List.all_eq_true.mp h2 i hi)
  | .ask i j k, h => by
    unfold chk at h
    refine nay fun hG => ?_
    obtain ⟨h1, h2⟩ := Bool.and_eq_true_iff.mp h
    obtain ⟨h2, h3⟩ := Bool.and_eq_true_iff.mp h2
    obtain ⟨h3, h4⟩ := Bool.and_eq_true_iff.mp h3
    refine hG ?_; clear hG
    exact hcmp i j _ (of_decide_eq_true h1) (of_decide_eq_true h2) (of_decide_eq_true h3) (chk_run hcmp hret _ h4)
-- LH
noncomputable def allObjs (h : Heap) (P : Addr → Bool) : List (Addr × Obj) := (List.range h.objs.size).filterMap fun a => if P a then (h.get? a).map fun o => (a, o) else none
theorem mem_allObjs {h : Heap} {P : Addr → Bool} {p : Addr × Obj} : p ∈ allObjs h P ↔ P p.1 = true ∧ h.get? p.1 = some p.2 := by
  unfold allObjs
  rw [List.mem_filterMap]
  constructor
  · intro hx1
    refine nay fun hG => ?_
    obtain ⟨a, ha, e⟩ := hx1
    refine hG ?_; clear hG
    split at e
    · rename_i hp
      rw [Option.map_eq_some_iff] at e
      refine nay fun hG => ?_
      obtain ⟨o, ho, rfl⟩ := e
      refine hG ?_; clear hG
      exact ⟨hp, ho⟩
    · cases e
  · rintro ⟨hp, ho⟩
    refine ⟨p.1, List.mem_range.mpr (Heap.lt_size ho), ?_⟩
    rw [if_pos hp, ho]
    rfl
theorem kat_tups {h : Heap} : ∀ vs : List Value, (∀ v ∈ vs, ∃ T k t y, v = .ref T ∧ h.get? T = some (tupO #[.int k t, y])) → ∃ fs, fs.length = vs.length ∧ KatTups h vs fs ∧ ∀ f ∈ fs, ∃ k t, f = .int k t
  | [], _ => ⟨[], rfl, KatTups.nil, fun _ h => nomatch h⟩
  | v :: vs, hv => by
    refine nay fun hG => ?_
    obtain ⟨T, k, t, y, rfl, hT⟩ := hv v (.head _)
    obtain ⟨fs, h1, h2, h3⟩ := kat_tups vs fun u hu => hv u (.tail _ hu)
    refine hG ?_; clear hG
    refine ⟨.int k t :: fs, by simp [h1], KatTups.cons hT rfl rfl rfl h2, fun f hf => ?_⟩
    rcases List.mem_cons.mp hf with rfl | hf
    · exact ⟨k, t, rfl⟩
    · exact h3 f hf
section
variable {w : World} {A : Around} {E : Value → Shared → Prop} {s : Shared}
theorem sort_tups {a L : Addr} {m : Str → Option Value} {vs : List Value} {ks : List Int} {n : Nat} {P : PySem.Fin → Shared → Prop} (hns : s.heap.Ns L m) (haL : a ≠ L) (ho : s.heap.get? a = some (seqObj "list" vs.toArray n))
    (hT : ∀ (i : Nat) v, vs[i]? = some v → ∃ T k t y, v = .ref T ∧ s.heap.get? T = some (tupO #[.int k t, y]) ∧ ks[i]? = some k) (hl : vs.length = ks.length) (nd : ks.Nodup) (hb : ∀ x ∈ ks, 1 ≤ x ∧ x ≤ 6) (h5 : ks.length ≤ 5)
    (h : ∀ h' (p : Array Nat) c, (p.toList.map fun i => ks.getD i 0) = isort ks → (∀ i ∈ p.toList, i < ks.length) → h'.Ns L m → (∀ c oc, c ≠ a → c ≠ L → s.heap.get? c = some oc → h'.get? c = some oc) →
      h'.get? a = some (listOf (p.toList.map fun i => vs.getD i .none).toArray c) → P (.done (.ret .none)) { s with heap := h' }) :
    wpAny (model pw w) A (Builtin.«list.sort» ⟨[.ref a], []⟩) P E s := by
  refine nay fun hG => ?_
  obtain ⟨oL, esL, epL, gL, dL, rL⟩ := id hns
  refine hG ?_; clear hG
  have hTL : ∀ T k t y, s.heap.get? T = some (tupO #[.int k t, y]) → T ≠ L ∧ T ≠ a := fun T k t y g => ⟨fun q => (by subst q; rw [g] at gL; cases gL; cases dL), fun q => (by subst q; rw [g] at ho; exact absurd (congrArg Obj.cls (Option.some.inj ho)) (by simp))⟩
  by_cases h2 : 2 ≤ vs.length
  · have F : Fr ({} : Heap) L s.heap m := ⟨hns, (fun b o e => by simp [Heap.get?] at e), Nat.zero_le _⟩
    have N : News ({} : Heap) L s.heap (allObjs s.heap fun c => decide (c ≠ a) && decide (c ≠ L)) := fun p hp => by
      refine nay fun hG => ?_
      obtain ⟨h1, h2⟩ := mem_allObjs.mp hp
      obtain ⟨h3, h4⟩ := Bool.and_eq_true_iff.mp h1
      refine hG ?_; clear hG
      exact ⟨h2, of_decide_eq_true h4, rfl⟩
    have nna : ∀ p ∈ allObjs s.heap (fun c => decide (c ≠ a) && decide (c ≠ L)), p.1 ≠ a := fun p hp => of_decide_eq_true (Bool.and_eq_true_iff.mp (mem_allObjs.mp hp).1).1
    refine kat_list_sort F N ho haL rfl nna h2 (by lia) fun e1 h₁ F₁ N₁ => ?_
    have keep₁ : ∀ c oc, c ≠ a → c ≠ L → s.heap.get? c = some oc → h₁.get? c = some oc := fun c oc q1 q2 q => (N₁ (c, oc) (.tail _ (mem_allObjs.mpr ⟨by simp [q1, q2], q⟩))).1
    obtain ⟨fs, k1, k2, k3⟩ := kat_tups (h := h₁) vs fun v hv => by
      refine nay fun hG => ?_
      obtain ⟨i, hi⟩ := List.mem_iff_getElem?.mp hv
      obtain ⟨T, k, t, y, e, g, _⟩ := hT i v hi
      refine hG ?_; clear hG
      exact ⟨T, k, t, y, e, keep₁ T _ (hTL _ _ _ _ g).2 (hTL _ _ _ _ g).1 g⟩
    refine kat_kind (T := .type "int") k2 (by lia) (fun v hv => by obtain ⟨k, t, rfl⟩ := k3 v hv; exact Looks.now) (by decide) ?_
    have cc := chk_all ks nd hb h5
    rw [← hl] at cc
    refine chk_run (ks := ks) (fun i j C hi hj hne hC => ?_) (fun p h1 h2 => ?_) _ cc
    · obtain ⟨Ti, ki, ti, yi, ei, gi, ni⟩ := hT i vs[i] (List.getElem?_eq_getElem (by lia))
      refine nay fun hG => ?_
      obtain ⟨Tj, kj, tj, yj, ej, gj, nj⟩ := hT j vs[j] (List.getElem?_eq_getElem (by lia))
      refine hG ?_; clear hG
      have di : ks.getD i 0 = ki := by rw [List.getD_eq_getElem?_getD, ni]; rfl
      have dj : ks.getD j 0 = kj := by rw [List.getD_eq_getElem?_getD, nj]; rfl
      rw [di, dj] at hC hne
      show wpAny _ _ (keyLt' _ (vs.getD i Value.none) (vs.getD j Value.none)) C _ _
      rw [List.getD_eq_getElem?_getD, List.getD_eq_getElem?_getD, List.getElem?_eq_getElem (by lia), List.getElem?_eq_getElem (by lia)]
      show wpAny _ _ (keyLt' _ vs[i] vs[j]) C _ _
      rw [ei, ej]
      refine kat_lt (keep₁ Ti _ (hTL _ _ _ _ gi).2 (hTL _ _ _ _ gi).1 gi) rfl (keep₁ Tj _ (hTL _ _ _ _ gj).2 (hTL _ _ _ _ gj).1 gj) rfl ?_
      refine kat_cons ((intKind pw w).eqBool (a := ki) (b := kj) (by simp [intKind, Value.isInt]) (by simp [intKind, Value.isInt]) ?_)
      rw [decide_eq_false hne]
      exact kat_no (oneLt_int hC)
    · refine KasFin.intro F₁ N₁ (.head nna) fun h' c F' N' => ?_
      exact h h' p c h1 h2 F'.ns (fun c oc q1 q2 q => (N' (c, oc) (.tail _ (mem_allObjs.mpr ⟨by simp [q1, q2], q⟩))).1) (N' _ (.head _)).1
  · have ha : a < s.heap.objs.size := Heap.lt_size ho
    rw [list_sort_plain]
    refine wpAny_bind (listItems_at ho rfl ?_)
    refine wpAny_bind (listUpdate_at ho rfl ?_ (by rw [List.size_toArray, sizeLine_eq]; lia) (Nat.zero_le _))
    refine nay fun hG => ?_
    obtain ⟨e1, ho1⟩ : ∃ e1, (s.heap.update a (Obj.mapSeq fun _ => (#[] : Array Value))).get? a = some (seqObj "list" #[] e1) := ⟨_, get?_update_seq ho fun _ => #[]⟩
    refine hG ?_; clear hG
    refine wpAny_bind (seqEpoch_at ho1 rfl ?_)
    refine wpAny_bind (wpAny_newTuple ?_ (by show vs.length ≤ _; rw [sizeLine_eq]; lia))
    refine wpAny_bind (wpAny_newList ?_ (Nat.zero_le _))
    refine wpAny_holding ?_
    show wpAny _ _ _ P E { s with heap := ((s.heap.update a (Obj.mapSeq fun _ => (#[] : Array Value))).push (seqObj "tuple" vs.toArray 0)).push (seqObj "list" #[] 0) }
    have keep : ∀ c oc, c ≠ a → s.heap.get? c = some oc → (((s.heap.update a (Obj.mapSeq fun _ => (#[] : Array Value))).push (seqObj "tuple" vs.toArray 0)).push (seqObj "list" #[] 0)).get? c = some oc := fun c oc q1 q => Heap.get?_push_of_some _ (Heap.get?_push_of_some _ ((Heap.get?_update_ne _ _ _ _ q1).trans q))
    have ho6 := Heap.get?_push_of_some (seqObj "list" #[] 0) (Heap.get?_push_of_some (seqObj "tuple" vs.toArray 0) ho1)
    dsimp only
    have hsz : vs.toArray.size < 2 := by rw [List.size_toArray]; lia
    rw [if_pos hsz, if_pos hsz]
    refine wpAny_bind (wpAny_pure ?_)
    rw [StateT.run_pure]
    refine wpAny_bind (wpAny_pure ?_)
    dsimp only
    refine wpAny_bind (seqEpoch_at ho6 rfl ?_)
    have e0 : (vs.toArray.zip vs.toArray).map (·.2) = vs.toArray := by
      rcases vs with _ | ⟨v, _ | ⟨u, r⟩⟩
      · simp
      · simp
      · simp at h2
    have e3 : (vs.toArray.zip vs.toArray).map (fun x => x.2) = vs.toArray := e0
    refine wpAny_bind (listUpdate_at ho6 rfl ?_ (Nat.zero_le _) ?_)
    · simp only [bne_self_eq_false, Bool.false_eq_true, if_false]
      refine wpAny_pure ?_
      have ei : isort ks = ks := (isort_eq (List.Perm.refl _) (by
        rcases ks with _ | ⟨x, _ | ⟨y, r⟩⟩
        · exact .nil
        · simp
        · simp at hl; lia)).symm
      have eo : ((List.range ks.length).map fun i => vs.getD i Value.none) = vs := by
        rcases vs with _ | ⟨v, _ | ⟨u, r⟩⟩
        · simp at hl; rw [← hl]; rfl
        · simp at hl; rw [← hl]; rfl
        · simp at h2
      have hc2 := get?_update_seq ho6 fun _ => (vs.toArray.zip vs.toArray).map (fun x => x.2)
      refine nay fun hG => ?_
      obtain ⟨c2, hc2⟩ : ∃ c2, ((((s.heap.update a (Obj.mapSeq fun _ => (#[] : Array Value))).push (seqObj "tuple" vs.toArray 0)).push (seqObj "list" #[] 0)).update a (Obj.mapSeq fun _ => (vs.toArray.zip vs.toArray).map (fun x => x.2))).get? a = some (seqObj "list" ((vs.toArray.zip vs.toArray).map (fun x => x.2)) c2) := ⟨_, hc2⟩
      refine hG ?_; clear hG
      refine h _ (List.range ks.length).toArray c2 ?_ (fun i hi => by simpa using hi) ⟨oL, esL, epL, (Heap.get?_update_ne _ _ _ _ (Ne.symm haL)).trans (keep L oL (Ne.symm haL) gL), dL, rL⟩ (fun c oc q1 q2 q => (Heap.get?_update_ne _ _ _ _ q1).trans (keep c oc q1 q)) ?_
      · rw [ei]
        rcases ks with _ | ⟨x, _ | ⟨y, r⟩⟩
        · rfl
        · rfl
        · simp at hl; lia
      · rw [show ((List.range ks.length).toArray.toList.map fun i => vs.getD i Value.none) = vs from eo]
        exact hc2.trans (congrArg (fun z => some (seqObj "list" z c2)) e3)
    · show ((vs.toArray.zip vs.toArray).map (fun x => x.2)).size ≤ _
      rw [e3, List.size_toArray, sizeLine_eq]; lia
end
-- LI
theorem All2.of_map {α β : Type} {P : Value → α → Prop} {f : β → Value} {g : β → α} : ∀ l : List β, (∀ i ∈ l, P (f i) (g i)) → All2 P (l.map f) (l.map g)
  | [], _ => .nil
  | x :: l, h => .cons (h x (.head _)) (All2.of_map l fun i hi => h i (.tail _ hi))
theorem val_at {mp : List (Int × Int)} (nd : (mp.map (·.1)).Nodup) {i : Nat} {x : Int × Int} (h : mp[i]? = some x) : val mp x.1 = x.2 := by
  unfold val
  have hx : x ∈ mp := List.mem_of_getElem? h
  cases q : mp.find? (fun z => decide (z.1 = x.1)) with
  | none => exact absurd (by simp) (List.find?_eq_none.mp q x hx)
  | some y =>
    have hy1 : y.1 = x.1 := by simpa using List.find?_some q
    have hy := List.mem_of_find?_eq_some q
    obtain ⟨j, hj⟩ := List.mem_iff_getElem?.mp hy
    obtain ⟨hi1, hi2⟩ := List.getElem?_eq_some_iff.mp h
    obtain ⟨hj1, hj2⟩ := List.getElem?_eq_some_iff.mp hj
    have : j = i := (List.getElem_inj (h₀ := by simpa using hj1) (h₁ := by simpa using hi1) nd).mp (by simp [hj2, hi2, hy1])
    subst this
    rw [hj] at h
    cases h
    rfl
section
variable {w : World} {e : En} {b : PM} {L : Addr} {m : Str → Option Value} {mu : List (Addr × Obj)} {s : Shared}
theorem St.many (S : St w e b L m mu s) (as : List Addr) (h1 : ∀ a ∈ as, a ≠ L ∧ (∀ p ∈ mu, p.1 ≠ a) ∧ b a = none ∧ e.h.objs.size ≤ a) :
    ∃ b', (∀ c oc, b c = some oc → b' c = some oc) ∧ (∀ a ∈ as, ∀ o, s.heap.get? a = some o → b' a = some o) ∧ St w e b' L m mu s := by
  have up : ∀ c oc, b c = some oc → (fun x => if x ∈ as then s.heap.get? x else b x) c = some oc := fun c oc q => by
    show (if c ∈ as then s.heap.get? c else b c) = some oc
    split
    · exact S.sub c oc q
    · exact q
  refine ⟨fun x => if x ∈ as then s.heap.get? x else b x, up, fun a ha o g => by show (if a ∈ as then s.heap.get? a else b a) = some o; rw [if_pos ha]; exact g, ?_⟩
  refine ⟨S.base.mono up, fun c oc q => ?_, fun c oc q => up _ _ (S.up _ _ q), fun c oc q => ?_, S.keep, S.ns, S.Lnew, ?_, fun p hp => ?_, S.nd⟩
  · have q : (if c ∈ as then s.heap.get? c else b c) = some oc := q
    split at q
    · exact q
    · exact S.sub _ _ q
  · have q : (if c ∈ as then s.heap.get? c else b c) = some oc := q
    split at q
    · rename_i hc; exact .inr (h1 c hc).2.2.2
    · exact S.new _ _ q
  · show (if L ∈ as then s.heap.get? L else b L) = none
    rw [if_neg fun q => (h1 L q).1 rfl]; exact S.Lb
  · have := S.tu p hp
    refine ⟨this.1, this.2.1, ?_, this.2.2.2⟩
    show (if p.1 ∈ as then s.heap.get? p.1 else b p.1) = none
    rw [if_neg fun q => (h1 p.1 q).2.1 p hp rfl]; exact this.2.2.1
theorem St.turnNs {a : Addr} {o o' : Obj} {h' : Heap} {t : Nat} (S : St w e b L m ((a, o) :: mu) s) (g : h'.get? a = some o') (n : h'.Ns L m) (k : ∀ c oc, c ≠ a → c ≠ L → s.heap.get? c = some oc → h'.get? c = some oc) :
    St w e b L m ((a, o') :: mu) { s with heap := h', toks := t } := by
  have ha := S.tu _ (.head _)
  have nd := List.nodup_cons.mp (by simpa only [List.map_cons] using S.nd)
  refine ⟨S.base, fun c oc q => k c oc (fun z => by subst z; rw [ha.2.2.1] at q; cases q) (fun z => by subst z; rw [S.Lb] at q; cases q) (S.sub c oc q), S.up, S.new, fun c oc q q' => k c oc (fun z => ?_) (Nat.ne_of_lt (Nat.lt_of_lt_of_le (Heap.lt_size q) S.Lnew)) (S.keep c oc q q'), n, S.Lnew, S.Lb, fun p hp => ?_, by simpa only [List.map_cons] using S.nd⟩
  · subst z
    rcases ha.2.2.2 with z | z
    · exact q' z
    · exact absurd (Heap.lt_size q) (Nat.not_lt.mpr z)
  · rcases List.mem_cons.mp hp with rfl | hp
    · exact ⟨g, ha.2⟩
    · have z := S.tu p (.tail _ hp)
      exact ⟨k _ _ (fun q => nd.1 (List.mem_map.mpr ⟨p, hp, q⟩)) z.2.1 z.1, z.2⟩
end
section
variable {w : World} {A : Around} {E : Value → Shared → Prop} {s s0 : Shared} {e : En} {b : PM} {L : Addr} {m : Str → Option Value} {mu : List (Addr × Obj)} {env : Env} {t0 : Nat} {Q : Value → Shared → Prop}
noncomputable abbrev itemsO (d : Addr) : Obj := { cls := .type "dict_items", data := .fields #[.ref d] }
theorem me_items {a : Addr} {o : Obj} {pl : Sem Bool} {Q : Value × List Value → Shared → Prop} (g : s.heap.get? a = some o) (hc : o.ExactDict) (h : Q (.builtin "dict.items", [.ref a]) s) : wpAny (model pw w) A (getMethod (.ref a) "items" pl) Q E s :=
  getMethod_builtin ⟨_, g, hc.1⟩ F.plainAttrs_dict F.slot_dict_items F.type_dict_items (fun c e => by cases e; exact ⟨_, g, hc.2.1⟩) h
theorem d_items {d : Addr} {o : Obj} {kvs : List (Int × Value)} (S : St w e b L m mu { s0 with heap := s.heap, toks := t0 }) (hq : s = { s0 with heap := s.heap, toks := s.toks }) (D : DictO (intKind pw w) kvs o) (g : s.heap.get? d = some o) (hd : 465 < d)
    (h : ∀ v b' h' t', (∀ c oc, b c = some oc → b' c = some oc) → b' v = some (itemsO d) → St w e b' L m mu { s0 with heap := h', toks := t' } → Q (.ref v) { s0 with heap := h', toks := t' }) : wpAny (model pw w) A (call (.builtin "dict.items") [.ref d]) Q E s := by
  have hD := D.of g
  have S1 := S.push (itemsO d) (t := s.toks)
  refine call_meetsIn PySem.F.slot_dict_items hD.typeIs PySem.F.entry_dict_items (PySem.F.args_dict_items_1 _) (meets_dict_items (intKind pw w) d (beq_eq_false_iff_ne.mpr (Nat.ne_of_gt (Nat.lt_of_le_of_lt (by decide) hd)))) ⟨⟨kvs, hD⟩, ?_⟩
  rw [hq]
  exact h _ _ _ _ (fun c oc q => PM.put_le S.b_new _ q) (PM.put_self ..) S1
theorem srt_items {v d : Addr} {o : Obj} {kvs : List (Int × Value)} {mp : List (Int × Int)} (hh : A.handled = none) (S : St w e b L m mu { s0 with heap := s.heap, toks := t0 }) (hq : s = { s0 with heap := s.heap, toks := s.toks }) (hv : s.heap.get? v = some (itemsO d)) (D : DictO (intKind pw w) kvs o) (g : s.heap.get? d = some o)
    (hKV : KV kvs mp) (nd : (mp.map (·.1)).Nodup) (hb : ∀ x ∈ mp.map (·.1), 1 ≤ x ∧ x ≤ 6) (h5 : mp.length ≤ 5)
    (h : ∀ a vs k b' h' t', e.h.objs.size ≤ a → (∀ c oc, b c = some oc → b' c = some oc) → All2 (IsPr b') (Array.toList vs) (toldPairs mp) → St w e b' L m ((a, listOf vs k) :: mu) { s0 with heap := h', toks := t' } → Q (.ref a) { s0 with heap := h', toks := t' }) : wpAny (model pw w) A (call (.builtin "sorted") [.ref v]) Q E s := by
  have hkl : kvs.length = mp.length := by have := congrArg List.length hKV.1; simpa using this
  obtain ⟨ep, hm⟩ := (D.of g).dictAt
  refine Calls.call_function_entry kind_sorted plain_sorted entry_sorted (args_sorted1 _) ?_
  unfold Builtin.«sorted»
  refine wpAny_bind (m := checkCount "sorted" 1 1 _) (wpAny_pure ?_)
  refine wpAny_bind (kdx_collect (A := A.in1) (knd := intKind pw w) (kvs := kvs) (ep := ep) hh ⟨_, hv, rfl, rfl⟩ hm (by rw [sizeLine_eq]; lia) fun h₁ t₁ as hk hl hG => ?_)
  have S1 := S.ext (h' := h₁) (t := t₁) hk
  have lo : ∀ a ∈ as, s.heap.objs.size ≤ a := fun a ha => Nat.le_of_lt (hG.above a ha)
  obtain ⟨b₂, up, hb₂, S2⟩ := S1.many as fun a ha => ⟨Nat.ne_of_gt (Nat.lt_of_lt_of_le S.lt (lo a ha)), fun p hp => Nat.ne_of_lt (Nat.lt_of_lt_of_le (S.mu_lt hp) (lo a ha)), (by
    cases q : b a with
    | none => rfl
    | some o => exact absurd (Heap.lt_size (S.sub _ _ q)) (Nat.not_lt.mpr (lo a ha))), Nat.le_trans S.size (lo a ha)⟩
  refine wpAny_bind (wpAny_newList ?_ (by rw [List.length_map, sizeLine_eq]; lia))
  have S3 := S2.pushM (seqObj "list" (as.map Value.ref).toArray 0) (t := t₁)
  have szS : e.h.objs.size ≤ h₁.objs.size := S2.size
  have gB := S3.muGet (.head _)
  have at' : ∀ (i : Nat) (v : Value), (as.map Value.ref)[i]? = some v → ∃ T k t y u, v = .ref T ∧ b₂ T = some (tupO #[.int k t, .int y u]) ∧ (mp.map (·.1))[i]? = some k ∧ mp[i]? = some (k, y) := by
    intro i v hv
    rw [List.getElem?_map, Option.map_eq_some_iff] at hv
    obtain ⟨T, hT, rfl⟩ := hv
    obtain ⟨key, k, x, c1, c2, c3⟩ := hG.pairs i T hT
    obtain ⟨t, rfl⟩ : ∃ t, key = .int k t := by
      cases key <;> simp [intKind, Value.isInt] at c2
      subst c2
      exact ⟨_, rfl⟩
    have hk1 : (mp.map (·.1))[i]? = some k := by rw [← hKV.1, List.getElem?_map, c1]; rfl
    obtain ⟨y, hy, u, rfl⟩ := hKV.2.get (i := i) (v := x) (by rw [List.getElem?_map, c1]; rfl)
    rw [List.getElem?_map, Option.map_eq_some_iff] at hk1 hy
    obtain ⟨p1, hp1, rfl⟩ := hk1
    obtain ⟨p2, hp2, rfl⟩ := hy
    rw [hp1] at hp2
    cases hp2
    exact ⟨T, p1.1, t, p1.2, u, rfl, hb₂ T (List.mem_of_getElem? hT) _ c3, by rw [List.getElem?_map, hp1]; rfl, hp1⟩
  refine wpAny_bind (wpAny_holding (wpAny_call_entry slot_list_sort ⟨_, gB, rfl⟩ entry_list_sort (sort_tups (ks := mp.map (·.1)) S3.ns (S3.tu _ (.head _)).2.1 gB (fun i v hv => ?_) (by rw [List.length_map, List.length_map]; lia) nd hb (by rw [List.length_map]; exact h5) fun h' p c p1 p2 p3 p4 p5 => ⟨_, rfl, ?_⟩) (args_list_sort _)))
  · obtain ⟨T, k, t, y, u, e1, e2, e3, _⟩ := at' i v hv
    exact ⟨T, k, t, .int y u, e1, S3.get e2, e3⟩
  · refine wpAny_pure ⟨_, rfl, ?_⟩
    have S4 := S3.turnNs (t := t₁) p5 p3 p4
    rw [hq]
    refine h _ _ c b₂ h' t₁ szS up ?_ S4
    rw [List.toList_toArray]
    have er : toldPairs mp = p.toList.map fun i => ((mp.map (·.1)).getD i 0, val mp ((mp.map (·.1)).getD i 0)) := by
      unfold toldPairs revKeys
      rw [← p1, List.map_map]
      rfl
    rw [er]
    refine All2.of_map _ fun i hi => ?_
    have hi' := p2 i hi
    rw [List.length_map] at hi'
    obtain ⟨T, k, t, y, u, e1, e2, e3, e4⟩ := at' i ((as.map Value.ref)[i]'(by rw [List.length_map]; lia)) (List.getElem?_eq_getElem _)
    have ev : (as.map Value.ref).getD i Value.none = .ref T := by rw [List.getD_eq_getElem?_getD, List.getElem?_eq_getElem (by rw [List.length_map]; lia), e1]; rfl
    have ek : (mp.map (·.1)).getD i 0 = k := by rw [List.getD_eq_getElem?_getD, e3]; rfl
    rw [ev, ek, val_at nd (x := (k, y)) e4]
    exact ⟨T, t, u, rfl, e2⟩
end
-- LJ
noncomputable def subs : List Int → List (List Int)
  | [] => [[]]
  | x :: r => subs r ++ (subs r).map (x :: ·)
noncomputable def goods : List (List Int) := (subs [1, 2, 3, 4, 5]).filter fun xs => decide (xs.length ≤ 3)
noncomputable def five : List Int := [1, 2, 3, 4, 5]
noncomputable def tb (led : Bool) (xs : List Int) : SetTable := ⟨7, (xs.map Int.toNat).toArray, #[], 0, led, 0, true⟩
noncomputable def pidx (xs : List Int) (x : Int) : Nat := SetTable.below (xs.map Int.toNat).toArray x.toNat
noncomputable def ins (xs : List Int) (x : Int) : List Int := xs.take (pidx xs x) ++ x :: xs.drop (pidx xs x)
noncomputable def stepOk (led : Bool) (xs : List Int) (x : Int) : Bool :=
  xs.contains x || (decide (3 ≤ xs.length) || (decide ((tb led xs).freeSlot (hashInt x) = some (x.toNat, false)) && (decide ((tb led xs).put x.toNat = (tb led (ins xs x), pidx xs x)) && (goods.contains (ins xs x) && ((tb led (ins xs x)).fits (xs.length + 1) && (!(tb led (ins xs x)).tooFull && decide (pidx xs x ≤ xs.length)))))))
theorem step_ok : ([true, false].all fun led => goods.all fun xs => five.all fun x => stepOk led xs x) = true := by decide +kernel
theorem fits_ok : ([true, false].all fun led => goods.all fun xs => (tb led xs).fits xs.length && decide (xs.length ≤ 3)) = true := by decide +kernel
noncomputable def slotAt (xs : List Int) (k : Nat) : Nat := if k = 0 then 0 else (xs.getD (k - 1) 0).toNat + 1
theorem below_ok : (goods.all fun xs => (List.range (xs.length + 1)).all fun k => SetTable.below (xs.map Int.toNat).toArray (slotAt xs k) == k) = true := by decide +kernel
theorem mem_five {x : Int} (h1 : 1 ≤ x) (h2 : x ≤ 5) : x ∈ five := by
  have : x = 1 ∨ x = 2 ∨ x = 3 ∨ x = 4 ∨ x = 5 := by lia
  rcases this with rfl | rfl | rfl | rfl | rfl <;> decide
theorem mem_bools (b : Bool) : b ∈ [true, false] := by cases b <;> decide
theorem step_of {led : Bool} {xs : List Int} {x : Int} (hg : xs ∈ goods) (h1 : 1 ≤ x) (h2 : x ≤ 5) (hn : x ∉ xs) (hl : xs.length < 3) :
    (tb led xs).freeSlot (hashInt x) = some (x.toNat, false) ∧ (tb led xs).put x.toNat = (tb led (ins xs x), pidx xs x) ∧ ins xs x ∈ goods ∧ (tb led (ins xs x)).fits (xs.length + 1) = true ∧ (tb led (ins xs x)).tooFull = false ∧ pidx xs x ≤ xs.length := by
  have := List.all_eq_true.mp (List.all_eq_true.mp (List.all_eq_true.mp step_ok led (mem_bools led)) xs hg) x (mem_five h1 h2)
  unfold stepOk at this
  rcases Bool.or_eq_true_iff.mp this with q | q
  · exact absurd (by simpa using q) hn
  rcases Bool.or_eq_true_iff.mp q with q | q
  · exact absurd (of_decide_eq_true q) (by lia)
  refine nay fun hG => ?_
  obtain ⟨q1, q⟩ := Bool.and_eq_true_iff.mp q
  obtain ⟨q2, q⟩ := Bool.and_eq_true_iff.mp q
  obtain ⟨q3, q⟩ := Bool.and_eq_true_iff.mp q
  obtain ⟨q4, q⟩ := Bool.and_eq_true_iff.mp q
  obtain ⟨q5, q6⟩ := Bool.and_eq_true_iff.mp q
  refine hG ?_; clear hG
  exact ⟨of_decide_eq_true q1, of_decide_eq_true q2, by simpa using q3, q4, by simpa using q5, of_decide_eq_true q6⟩
theorem fits_of' {led : Bool} {xs : List Int} (hg : xs ∈ goods) : (tb led xs).fits xs.length = true ∧ xs.length ≤ 3 := by
  have := List.all_eq_true.mp (List.all_eq_true.mp fits_ok led (mem_bools led)) xs hg
  obtain ⟨q1, q2⟩ := Bool.and_eq_true_iff.mp this
  exact ⟨q1, of_decide_eq_true q2⟩
theorem below_of {xs : List Int} (hg : xs ∈ goods) {k : Nat} (hk : k ≤ xs.length) : SetTable.below (xs.map Int.toNat).toArray (slotAt xs k) = k := by
  have := List.all_eq_true.mp (List.all_eq_true.mp below_ok xs hg) k (List.mem_range.mpr (by lia))
  simpa using this
theorem ins_perm (xs : List Int) (x : Int) : (ins xs x).Perm (xs ++ [x]) := by
  unfold ins
  refine List.perm_middle.trans ?_
  rw [List.take_append_drop]
  exact (List.perm_append_singleton x xs).symm
noncomputable def SetX (led : Bool) (xs : List Int) (o : Obj) : Prop := o.ExactSet ∧ ∃ es ep, o.data = .set es ep (tb led xs) ∧ es.toList.map (·.1) = xs.map hashInt ∧ All2 IsI (es.toList.map (·.2)) xs ∧ xs ∈ goods
theorem SetX.elems {led : Bool} {xs : List Int} {es : Array (Int × Value)} (w : World) (h1 : es.toList.map (·.1) = xs.map hashInt) (h2 : All2 IsI (es.toList.map (·.2)) xs) : ElemsOf (intKind pw w) es.toList := by
  intro e he
  refine nay fun hG => ?_
  obtain ⟨i, hi⟩ := List.mem_iff_getElem?.mp he
  obtain ⟨x, hx, t, ht⟩ := h2.get (i := i) (v := e.2) (by rw [List.getElem?_map, hi]; rfl)
  refine hG ?_; clear hG
  have h3 : (es.toList.map (·.1))[i]? = some e.1 := by rw [List.getElem?_map, hi]; rfl
  rw [h1, List.getElem?_map, hx] at h3
  refine ⟨⟨x, by rw [ht]; simp [intKind, Value.isInt], (Option.some.inj h3).symm⟩, by rw [ht]; rfl⟩
-- LK
section
variable {w : World} {A : Around} {E : Value → Shared → Prop} {s : Shared}
theorem setx_add {a : Addr} {o : Obj} {led : Bool} {xs : List Int} {x : Int} {t : Tok} {Q : Bool → Shared → Prop} (ho : s.heap.get? a = some o) (hX : SetX led xs o) (h1 : 1 ≤ x) (h2 : x ≤ 5) (hl : x ∉ xs → xs.length < 3)
    (h : ∀ b h' o', Heap.SameBut a s.heap h' → h'.get? a = some o' → SetX led (if x ∈ xs then xs else ins xs x) o' → Q b { s with heap := h' }) :
    wpAny (model pw w) A (setAddHashed a (.int x t) (hashInt x)) Q E s := by
  refine nay fun hG => ?_
  obtain ⟨hex, es, ep, hd, hk, hv, hg⟩ := hX
  refine hG ?_; clear hG
  have hsz : es.size = xs.length := by have := hv.length; simpa using this
  obtain ⟨hf, hl3⟩ := fits_of' (led := led) hg
  have hel := SetX.elems (led := led) w hk hv
  have hkey : (intKind pw w).is x (.int x t) = true := by simp [intKind, Value.isInt]
  have hf' : (tb led xs).fits es.size = true := by rw [hsz]; exact hf
  unfold setAddHashed setAddHashedIn
  refine wpAny_holding (wpAny_bind (wpAny_setState_of ho hd hf' ?_))
  dsimp only
  rw [byScan_of (knd := intKind pw w) rfl (by rw [hsz]; unfold scanBound; lia) hel]
  simp only [↓reduceIte]
  unfold setAddByScan
  refine wpAny_bind ?_
  refine wpAny_bind (wpAny_rule ?_)
  refine wpAny_bind (wpAny_setScan_of (knd := intKind pw w) hkey ho hd hf' hel ?_)
  cases hr : List.findIdx? (fun e => (intKind pw w).is x e.2) es.toList with
  | some j =>
    dsimp only
    refine nay fun hG => ?_
    obtain ⟨hj, hpj, _⟩ := List.findIdx?_eq_some_iff_getElem.mp hr
    refine hG ?_; clear hG
    have hm : x ∈ xs := by
      refine nay fun hG => ?_
      obtain ⟨y, hy, u, hu⟩ := hv.get (i := j) (v := es.toList[j].2) (by rw [List.getElem?_map, List.getElem?_eq_getElem hj]; rfl)
      refine hG ?_; clear hG
      rw [hu] at hpj
      have : y = x := by simpa [intKind, Value.isInt] using hpj
      subst this
      exact List.mem_of_getElem? hy
    refine wpAny_pure (wpAny_pure ?_)
    have e : s = { s with heap := s.heap } := by cases s; rfl
    rw [e]
    exact h _ s.heap o (Heap.SameBut.refl a s.heap) ho (by rw [if_pos hm]; exact ⟨hex, es, ep, hd, hk, hv, hg⟩)
  | none =>
    dsimp only
    have hn : x ∉ xs := fun hm => by
      refine nay fun hG => ?_
      obtain ⟨j, hj⟩ := List.mem_iff_getElem?.mp hm
      obtain ⟨v, hv', u, rfl⟩ := hv.get' hj
      refine hG ?_; clear hG
      rw [List.getElem?_map, Option.map_eq_some_iff] at hv'
      refine nay fun hG => ?_
      obtain ⟨e, he, hev⟩ := hv'
      refine hG ?_; clear hG
      have := List.findIdx?_eq_none_iff.mp hr e (List.mem_of_getElem? he)
      rw [hev] at this
      simp [intKind, Value.isInt] at this
    refine nay fun hG => ?_
    obtain ⟨c1, c2, c3, c4, c5, c6⟩ := step_of (led := led) hg h1 h2 hn (hl hn)
    refine hG ?_; clear hG
    have hzi : (SetTable.insertAt es (pidx xs x) (hashInt x, .int x t)).size = xs.length + 1 := by
      have := (SetTable.insertAt_perm es (pidx xs x) (hashInt x, Value.int x t)).length_eq
      simp at this
      lia
    have hL : layNew (tb led xs) es (hashInt x) (.int x t) = (SetTable.insertAt es (pidx xs x) (hashInt x, .int x t), tb led (ins xs x), false, false) := by
      unfold layNew
      rw [c1]
      dsimp only
      rw [c2]
      dsimp only
      unfold SetTable.orStandIn
      rw [hzi, if_pos c4, c4]
      rfl
    rw [hL]
    dsimp only
    refine wpAny_bind (wpAny_pure ?_)
    have hpl : (tb led (ins xs x)).plain = true := rfl
    rw [hpl]
    simp only [if_true]
    rw [hashByValue_scannable 8 (x := .int x t) rfl]
    refine wpAny_bind (wpAny_pure ?_)
    have hpk : plainKind (.int x t) = true := rfl
    rw [hpk]
    simp only [if_true]
    refine wpAny_bind (wpAny_storeSet_of ho hd ?_ (by rw [hzi, sizeLine_eq]; lia))
    rw [c5]
    simp only [Bool.and_false, Bool.false_eq_true, if_false]
    refine wpAny_pure (wpAny_pure ?_)
    have hput := putSet_of (SetTable.insertAt es (pidx xs x) (hashInt x, .int x t)) (tb led (ins xs x)) hd
    have htl := SetTable.toList_insertAt es (pidx xs x) (hashInt x, Value.int x t)
    have hself := Heap.get?_update_self (Obj.putSet (SetTable.insertAt es (pidx xs x) (hashInt x, .int x t)) (tb led (ins xs x))) ho (by rw [hput]; rfl)
    rw [hput] at hself
    refine h _ _ _ (Heap.SameBut.update _ a _) hself (by
      rw [if_neg hn]
      refine ⟨hex, _, ep + 1, rfl, ?_, ?_, c3⟩
      · rw [htl, List.map_append, List.map_cons, List.map_take, List.map_drop, hk]
        unfold ins
        rw [List.map_append, List.map_cons, List.map_take, List.map_drop]
      · rw [htl, List.map_append, List.map_cons, List.map_take, List.map_drop]
        unfold ins
        exact (hv.take _).append (.cons (.mk t) (hv.drop _)))
noncomputable def stepS (xs : List Int) (x : Int) : List Int := if x ∈ xs then xs else ins xs x
theorem stepS_perm {xs ys : List Int} (h : xs.Perm ys) (x : Int) : (stepS xs x).Perm (push1 ys x) := by
  unfold stepS push1
  by_cases hm : x ∈ xs
  · rw [if_pos hm, if_pos (by simpa using h.mem_iff.mp hm)]; exact h
  · rw [if_neg hm, if_neg (by simpa using fun q => hm (h.mem_iff.mpr q))]
    exact (ins_perm xs x).trans (h.append_right _)
theorem setx_loop {R : Result → Shared → Prop} {I a : Addr} {fp : List Addr} {n : Nat} {P : Nat → Value → Prop} {Z : Nat → Heap → Prop} {led : Bool} (W : Walks pw w A.in1 I fp [I] n P Z) (ha : a ∉ fp) (haI : a ≠ I) (ps : List Int) (hn : ps.length = n) (h3 : n ≤ 3)
    (hP : ∀ i v, P i v → ∃ x t, v = .int x t ∧ ps[i]? = some x) (hb : ∀ x ∈ ps, 1 ≤ x ∧ x ≤ 5) :
    ∀ k i s xs o, n - i = k → i ≤ n → Z i s.heap → s.heap.get? a = some o → SetX led xs o → xs.length ≤ i →
      (∀ h' t' o', h'.get? a = some o' → SetX led ((ps.drop i).foldl stepS xs) o' → (∀ c oc, c ≠ a → c ≠ I → s.heap.get? c = some oc → h'.get? c = some oc) → R (.ok (.ret .none)) { s with heap := h', toks := t' }) →
      codeAny (model pw w) A (.builtin "set.update.loop" ⟨[.ref a, .ref I], []⟩) R s := by
  have haw : a ∉ [I] := by simpa using haI
  intro k
  induction k with
  | zero =>
    intro i s xs o hk hi hst ho hX hkl hR
    obtain rfl : i = n := by lia
    refine codeAny_builtin F.entry_set_update_loop ?_
    rw [Around.under_plainId F.plain_set_update_loop _]
    show wpAny _ A.in1 (pyNext (.ref I) >>= _) _ _ s
    refine wpAny_bind (W.done s _ _ hst fun h' tk hk => ?_)
    show wpAny _ A.in1 (ret Value.none) _ _ _
    exact wpAny_pure (hR h' tk o (hk a o haw ho) (by rw [List.drop_of_length_le (by lia)]; exact hX) fun c oc q1 q2 q => hk c oc (by simpa using q2) q)
  | succ k ih =>
    intro i s xs o hk hi hst ho hX hkl hR
    have hlt : i < n := by lia
    refine codeAny_builtin F.entry_set_update_loop ?_
    rw [Around.under_plainId F.plain_set_update_loop _]
    show wpAny _ A.in1 (pyNext (.ref I) >>= _) _ _ s
    refine wpAny_bind (W.item i s _ _ hlt hst fun v h' tk' hPv hst' hk' => ?_)
    refine nay fun hG => ?_
    obtain ⟨x, t, rfl, hpi⟩ := hP i v hPv
    obtain ⟨b1, b2⟩ := hb x (List.mem_of_getElem? hpi)
    refine hG ?_; clear hG
    show wpAny _ A.in1 (holding [Value.int x t] (setAdd a (.int x t)) >>= _) _ _ _
    refine wpAny_bind (wpAny_holding ?_)
    unfold setAdd
    refine wpAny_holding ?_
    refine wpAny_bind ((intKind pw w).pyHash (k := x) (by simp [intKind, Value.isInt]) ?_)
    refine setx_add (A := A.in1) (led := led) (xs := xs) (hk' a o haw ho) hX b1 b2 (fun _ => by lia) fun bb h2 o2 hs2 g2 hX2 => ?_
    have keep2 : ∀ c oc, c ≠ a → c ≠ I → s.heap.get? c = some oc → h2.get? c = some oc := fun c oc q1 q2 q => (hs2.2 c q1).trans (hk' c oc (by simpa using q2) q)
    refine wpAny_pure ⟨plainId_quiet F.plain_set_update_loop _, ih (i + 1) _ (stepS xs x) o2 (by lia) hlt (W.frame _ h' h2 hst' fun c hc oc q => (hs2.2 c (fun z => ha (z ▸ hc))).trans q) g2 hX2 ?_ fun h3' t3 o3 d1 d2 d3 => hR h3' t3 o3 d1 ?_ fun c oc q1 q2 q => d3 c oc q1 q2 (keep2 c oc q1 q2 q)⟩
    · unfold stepS
      split
      · lia
      · have := (ins_perm xs x).length_eq; simp at this; lia
    · rw [List.drop_eq_getElem_cons (by lia)]
      have : ps[i] = x := by
        have := List.getElem?_eq_getElem (l := ps) (i := i) (by lia)
        rw [hpi] at this
        exact (Option.some.inj this).symm
      rw [this]
      exact d2
end
-- LL
noncomputable def bt (w : World) : Bool := w.params.followText "set-order"
noncomputable abbrev set0 (w : World) : Obj := { cls := .type "set", dict := none, data := .set #[] 0 (.fresh 0 0 (!bt w)) }
theorem setx0 (w : World) : SetX (!bt w) [] (set0 w) := ⟨⟨rfl, rfl, rfl⟩, #[], 0, rfl, rfl, .nil, by decide⟩
section
variable {w : World} {A : Around} {E : Value → Shared → Prop} {s s0 : Shared} {e : En} {b : PM} {L : Addr} {m : Str → Option Value} {mu : List (Addr × Obj)} {env : Env} {t0 : Nat} {Q : Value → Shared → Prop}
theorem code_set_one (a : Value) {Q₁ : Value → Shared → Prop} (h : Q₁ (.ref s.heap.objs.size) { s with heap := s.heap.push (set0 w) }) :
    codeAny (model pw w) A (.call (.builtin "set.__new__") ⟨[.type "set", a], []⟩) (wants Q₁ E) s := by
  refine codeAny_of_tree ?_
  show wpAny _ A.in1 (do checkBuiltinCall "set.__new__" ⟨[.type "set", a], []⟩; again (.builtin "set.__new__" ⟨[.type "set", a], []⟩)) _ _ s
  refine wpAny_bind (wpAny_of_eq (F.newCall_set_1 a) (wpAny_pure ⟨plainId_quiet F.plain_set_new _, codeAny_builtin F.entry_set_new ?_⟩))
  rw [Around.under_plainId F.plain_set_new _]
  unfold Builtin.«set.__new__» Builtin.Frozenset.newClass
  have hsub := sub_set_self
  obtain ⟨hp, g, d, tk, os⟩ := s
  dsimp only
  wp_walk
  refine wpAny_askSetting (wpAny_pure ?_)
  dsimp only
  simp only [newObj]
  refine wpAny_bind (wpAny_alloc (wpAny_pure ?_))
  exact wpAny_pure h
theorem set_list {D : Addr} {vs : Array Value} {k : Nat} {ps : List Int} (hh : A.handled = none) (S : St w e b L m mu { s0 with heap := s.heap, toks := t0 }) (hq : s = { s0 with heap := s.heap, toks := s.toks }) (hD : s.heap.get? D = some (listOf vs k)) (hvs : All2 IsI vs.toList ps) (h3 : ps.length ≤ 3) (hb : ∀ x ∈ ps, 1 ≤ x ∧ x ≤ 5)
    (h : ∀ d o h' t', e.h.objs.size ≤ d → 465 < d → SetX (!bt w) (ps.foldl stepS []) o → St w e b L m ((d, o) :: mu) { s0 with heap := h', toks := t' } → Q (.ref d) { s0 with heap := h', toks := t' }) :
    wpAny (model pw w) A (call (.type "set") [.ref D]) Q E s := by
  have h465 : 465 < s.heap.objs.size := S.lt465
  have hvl : ps.length = vs.size := by have := hvs.length; simp at this; lia
  have hDlt := Heap.lt_size hD
  have key : ∀ h' t' o', h'.get? s.heap.objs.size = some o' → SetX (!bt w) (ps.foldl stepS []) o' → (∀ c oc, s.heap.get? c = some oc → h'.get? c = some oc) → Q (.ref s.heap.objs.size) { s with heap := h', toks := t' } := fun h' t' o' g hX kp => by
    have := h _ o' h' t' S.size h465 hX (S.newM (h' := h') (t := t') kp g (Nat.le_refl _))
    rw [hq]
    exact this
  obtain ⟨c, tl, hmro⟩ := F.called_set.mro
  have hmade := F.called_set.made
  have hsub := F.called_set.sub
  refine wpAny_call (codeAny_of_tree ?_)
  show wpAny _ _ (callAny (.type "set") _) _ _ _
  refine wpAny_pure ⟨Code.quiet_builtin _ (by decide +kernel), codeAny_builtin F.entry_type_call ?_⟩
  rw [Around.under_plain (weight_type_call_type "set" [.ref D] []) rfl]
  have h1 := F.called_set.notType
  have h2 := F.called_set.canCreate
  have hct := F.typeCall_set_1 (.ref D)
  repeat (any_goals (first | assumption | wp_step))
  refine codeAny_mono (code_set_one (w := w) (.ref D) (E := E) (Q₁ := fun obj s₁ => obj = .ref s.heap.objs.size ∧ s₁ = { s with heap := s.heap.push (set0 w) }) ⟨rfl, rfl⟩) fun r s₁ hr => ?_
  cases r with
  | error e => exact hr
  | ok fl =>
    cases fl with
    | next => exact False.elim hr
    | brk => exact False.elim hr
    | cont => exact False.elim hr
    | ret obj =>
      obtain ⟨rfl, rfl⟩ := hr
      have hS : (s.heap.push (set0 w)).get? s.heap.objs.size = some (set0 w) := Heap.get?_push_size _ rfl
      have hT : Shared.TypeIs { s with heap := s.heap.push (set0 w) } (.ref s.heap.objs.size) "set" := ⟨_, hS, rfl⟩
      have hli := F.called_set.init.lookup
      have hbi := F.called_set.init.bind (.ref s.heap.objs.size)
      repeat (any_goals (first | assumption | wp_step))
      refine codeAny_mono (codeAny_call_builtin (R := wants (fun r s₂ => r = .none ∧ ∃ h' tk o', s₂ = { s with heap := h', toks := tk } ∧ h'.get? s.heap.objs.size = some o' ∧ SetX (!bt w) (ps.foldl stepS []) o' ∧ (∀ c oc, s.heap.get? c = some oc → h'.get? c = some oc)) E) F.called_set.init.plain F.entry_set_init (check_set_init_1 hT ?_)) fun r₂ s₂ hr₂ => ?_
      · have gD : (s.heap.push (set0 w)).get? D = some (listOf vs k) := Heap.get?_push_of_some _ hD
        have hsls := F.sub_list_set
        have hslf := F.sub_list_frozenset
        have hne : (Value.type "list" == Value.type "dict") = false := by decide
        unfold Builtin.«set.__init__» noKeywords Builtin.Frozenset.updateFrom
        generalize hPI : pyIter = PI
        wp_walk
        subst hPI
        refine wpAny_pyIter_list ⟨_, gD, rfl, k, rfl⟩ ?_
        refine wpAny_bind (wpAny_runValue ?_)
        have sz : (s.heap.push (set0 w)).objs.size = s.heap.objs.size + 1 := Heap.size_push ..
        have lt1 : s.heap.objs.size < (s.heap.push (set0 w)).objs.size := by rw [sz]; exact Nat.lt_succ_self _
        have W := Walks.list (prog := pw) (w := w) (A := A.in1.in1.in1) (by exact hh) (s.heap.push (set0 w)).objs.size D (Nat.ne_of_lt (Heap.lt_size gD)) vs
        refine setx_loop (A := A.in1.in1) (led := !bt w) W (a := s.heap.objs.size) (fun q => ?_) (Nat.ne_of_lt lt1) ps hvl (by lia) (fun i v hv => ?_) hb vs.size 0 _ [] (set0 w) (Nat.sub_zero _) (Nat.zero_le _)
          ⟨⟨_, Heap.get?_push_size _ rfl, rfl, rfl⟩, ⟨_, Heap.get?_push_of_some _ gD, rfl, k, rfl⟩⟩ (Heap.get?_push_of_some _ hS) (setx0 w) (Nat.le_refl _) fun h' t' o' d1 d2 d3 => ?_
        · rcases List.mem_cons.mp q with q | q
          · exact absurd q (Nat.ne_of_lt lt1)
          · exact absurd (List.mem_singleton.mp q) (Nat.ne_of_gt hDlt)
        · obtain ⟨x, hx, t, e1⟩ := hvs.get (i := i) (v := v) (by rw [Array.getElem?_toList]; exact hv)
          exact ⟨x, t, e1, hx⟩
        · show wpAny _ _ _ _ _ _
          refine wpAny_pure ?_
          show wpAny _ _ (ret Value.none) _ _ _
          exact wpAny_pure ⟨rfl, h', t', o', rfl, d1, d2, fun c oc q => d3 c oc (Nat.ne_of_lt (Heap.lt_size q)) (Nat.ne_of_lt (Nat.lt_trans (Heap.lt_size q) lt1)) (Heap.get?_push_of_some _ (Heap.get?_push_of_some _ q))⟩
      · cases r₂ with
        | error e => exact hr₂
        | ok fl₂ =>
          cases fl₂ with
          | next => exact False.elim hr₂
          | brk => exact False.elim hr₂
          | cont => exact False.elim hr₂
          | ret r =>
            obtain ⟨rfl, h', tk, o', rfl, g', hX, kp⟩ := hr₂
            repeat (any_goals (first | assumption | wp_step))
            exact key _ _ _ g' hX kp
end
-- LM
noncomputable abbrev setItO (slot i : Nat) (S : Addr) (n ep : Nat) (t1 t2 t3 t4 : Tok) : Obj := { cls := .type "set_iterator", data := .fields #[.int (slot : Nat) t1, .int (i : Nat) t2, .ref S, .int (n : Nat) t3, .int (ep : Nat) t4] }
noncomputable def ordOf (w : World) (S : Addr) (ep : Nat) (es : Array (Int × Value)) : Array (Int × Value) := if bt w = true then pickOrder (w.params.setOrder S ep) es else es
noncomputable def slotOf (w : World) (xs : List Int) (i : Nat) : Nat := if bt w = true then 0 else slotAt xs i
namespace FS
theorem slot_next : Slot "set_iterator" "__next__" "set_iterator.__next__" :=
  .of (owner := "set_iterator") (n := "__next__") (by rw [typeLookup_type, builtinLookup_eq_fast]; kernel_rfl) (by decide +kernel) (by decide +kernel) (by decide +kernel)
    (by first | exact .inl (by decide +kernel) | exact .inr (by decide +kernel)) (by rw [isSubtype_type]; kernel_rfl)
theorem entry_next : entryFor table "set_iterator.__next__" = some Builtin.«set_iterator.__next__» := entryFor_of_tree (by kernel_rfl)
theorem args_next (a : Value) : argsOk "set_iterator.__next__" ⟨[a], []⟩ := by unfold argsOk; kernel_rfl
theorem slot_iter : Slot "set" "__iter__" "set.__iter__" :=
  .of (owner := "set") (n := "__iter__") (by rw [typeLookup_type, builtinLookup_eq_fast]; kernel_rfl) (by decide +kernel) (by decide +kernel) (by decide +kernel)
    (by first | exact .inl (by decide +kernel) | exact .inr (by decide +kernel)) (by rw [isSubtype_type]; kernel_rfl)
theorem entry_iter : entryFor table "set.__iter__" = some Builtin.«frozenset.__iter__» :=
  entryFor_alias (id' := "frozenset.__iter__") (by kernel_rfl) (by decide +kernel) (by decide +kernel) (by kernel_rfl)
theorem args_iter (a : Value) : argsOk "set.__iter__" ⟨[a], []⟩ := by unfold argsOk; kernel_rfl
end FS
section
variable {w : World} {A : Around} {E : Value → Shared → Prop} {s : Shared}
theorem next_step {a : Addr} {o : Obj} {xs : List Int} {es : Array (Int × Value)} {ep i : Nat} {Q : Option (Value × Nat) → Shared → Prop} (ho : s.heap.get? a = some o) (hd : o.data = .set es ep (tb (!bt w) xs)) (hsz : es.size = xs.length) (hg : xs ∈ goods) (hi : i ≤ xs.length)
    (h : Q (((ordOf w a ep es)[i]?).map fun e => (e.2, slotOf w xs (i + 1))) s) : wpAny (model pw w) A (setNext a (slotOf w xs i) i ep) Q E s := by
  obtain ⟨hf, _⟩ := fits_of' (led := !bt w) hg
  rw [← hsz] at hf
  unfold setNext setsByText
  refine wpAny_bind (wpAny_setState_of ho hd hf ?_)
  dsimp only
  refine wpAny_bind (wpAny_bind (wpAny_askSetting (wpAny_pure ?_)))
  cases hb : bt w with
  | true =>
    have hb' : (model pw w).w.params.followText "set-order" = true := hb
    rw [if_pos hb', if_neg (by simp)]
    unfold setWalk setsByText
    refine wpAny_bind (wpAny_bind (wpAny_setState_of ho hd hf ?_))
    dsimp only
    refine wpAny_bind (wpAny_bind (wpAny_askSetting (wpAny_pure ?_)))
    rw [if_pos hb']
    refine wpAny_bind (wpAny_askSetting (wpAny_pure (wpAny_pure ?_)))
    unfold ordOf slotOf at h
    rw [if_pos hb, if_pos hb] at h
    unfold slotOf
    rw [if_pos hb]
    exact h
  | false =>
    have hb' : ¬ ((model pw w).w.params.followText "set-order" = true) := by
      show ¬ (bt w = true)
      rw [hb]; decide
    rw [if_neg hb']
    refine wpAny_ite_split (fun hab => absurd (show false = true from hab) Bool.false_ne_true) (fun _ => ?_)
    refine wpAny_bind (wpAny_of_eq (a := ()) rfl ?_)
    refine wpAny_pure ?_
    have hbel : SetTable.below (tb (!false) xs).place (slotOf w xs i) = i := by
      unfold slotOf
      rw [hb, if_neg (by decide)]
      exact below_of hg hi
    rw [hbel]
    unfold ordOf at h
    rw [hb, if_neg (by decide)] at h
    by_cases hlt : i < xs.length
    · rw [Array.getElem?_eq_getElem (by lia)] at h ⊢
      have hp : (tb (!false) xs).place[i]? = some (xs[i]'hlt).toNat := by
        show (xs.map Int.toNat).toArray[i]? = _
        simp [hlt]
      rw [hp]
      have hs : slotOf w xs (i + 1) = (xs[i]'hlt).toNat + 1 := by
        unfold slotOf slotAt
        rw [hb, if_neg (by decide), if_neg (by lia), Nat.add_sub_cancel, List.getD_eq_getElem?_getD, List.getElem?_eq_getElem hlt]
        rfl
      rw [hs] at h
      exact h
    · rw [Array.getElem?_eq_none (by lia)] at h ⊢
      exact h
noncomputable def SetZ (w : World) (I a : Addr) (o : Obj) (ep : Nat) (xs : List Int) (i : Nat) (h : Heap) : Prop := (∃ t1 t2 t3 t4, h.get? I = some (setItO (slotOf w xs i) i a xs.length ep t1 t2 t3 t4)) ∧ h.get? a = some o
theorem set_item {I a : Addr} {o : Obj} {xs : List Int} {es : Array (Int × Value)} {ep i : Nat} {v : Value} {Q : Option Value → Shared → Prop} (hZ : SetZ w I a o ep xs i s.heap) (haI : a ≠ I) (hd : o.data = .set es ep (tb (!bt w) xs)) (hsz : es.size = xs.length) (hg : xs ∈ goods) (hi : i < xs.length)
    (hv : ((ordOf w a ep es)[i]?).map (·.2) = some v)
    (h : ∀ h', SetZ w I a o ep xs (i + 1) h' → (∀ c oc, c ≠ I → s.heap.get? c = some oc → h'.get? c = some oc) → Q (some v) { s with heap := h' }) : wpAny (model pw w) A (pyNext (.ref I)) Q E s := by
  refine nay fun hG => ?_
  obtain ⟨⟨t1, t2, t3, t4, gI⟩, ga⟩ := hZ
  refine hG ?_; clear hG
  have hT : s.TypeIs (.ref I) "set_iterator" := ⟨_, gI, rfl⟩
  unfold pyNext
  refine wpAny_bind (wpAny_attempt (wpAny_callSpecial?_slot (name := Str.ofString "__next__") hT FS.slot_next (wpAny_call_entry FS.slot_next hT FS.entry_next ?_ (FS.args_next _))))
  unfold Builtin.«set_iterator.__next__»
  refine wpAny_bind (wpAny_pure ?_)
  refine wpAny_bind (wpAny_fieldsOf gI rfl ?_)
  dsimp only
  have hf := (fits_of' (led := !bt w) hg).1
  rw [← hsz] at hf
  refine wpAny_bind (wpAny_setEntries_of ga hd hf ?_)
  rw [if_neg (by rw [hsz]; simp)]
  rw [Int.toNat_natCast, Int.toNat_natCast, Int.toNat_natCast]
  refine wpAny_bind (next_step (A := A.in1) ga hd hsz hg (Nat.le_of_lt hi) ?_)
  rw [Option.map_eq_some_iff] at hv
  refine nay fun hG => ?_
  obtain ⟨x, hx, rfl⟩ := hv
  refine hG ?_; clear hG
  rw [hx]
  dsimp only [Option.map]
  refine wpAny_bind (wpAny_setField_rec gI (by simp) fun h₂ g₂ s₂ => ?_)
  replace s₂ : Heap.SameBut I s.heap h₂ := s₂
  replace g₂ : h₂.get? I = some (setItO (slotOf w xs (i + 1)) i a xs.length ep 0 t2 t3 t4) := g₂
  refine wpAny_bind (wpAny_setField_rec g₂ (by simp) fun h₃ g₃ s₃ => ?_)
  replace s₃ : Heap.SameBut I h₂ h₃ := s₃
  replace g₃ : h₃.get? I = some (setItO (slotOf w xs (i + 1)) (i + 1) a xs.length ep 0 0 t3 t4) := by
    show h₃.get? I = some { cls := .type "set_iterator", data := .fields #[.int (slotOf w xs (i + 1) : Nat) 0, .int ((i + 1 : Nat) : Int) 0, .ref a, .int (xs.length : Nat) t3, .int (ep : Nat) t4] }
    rw [Int.natCast_add]; exact g₃
  have keep : ∀ c oc, c ≠ I → s.heap.get? c = some oc → h₃.get? c = some oc := fun c oc q1 q => (s₃.2 c q1).trans ((s₂.2 c q1).trans q)
  exact wpAny_pure ⟨_, rfl, wpAny_pure (h h₃ ⟨⟨_, _, _, _, g₃⟩, keep a o haI ga⟩ keep)⟩
theorem set_done {I a : Addr} {o : Obj} {xs : List Int} {es : Array (Int × Value)} {ep : Nat} {Q : Option Value → Shared → Prop} (hh : A.handled = none) (hZ : SetZ w I a o ep xs xs.length s.heap) (hd : o.data = .set es ep (tb (!bt w) xs)) (hsz : es.size = xs.length) (hg : xs ∈ goods) (hoz : (ordOf w a ep es).size = xs.length)
    (h : ∀ h', (∀ c oc, c ≠ I → s.heap.get? c = some oc → h'.get? c = some oc) → Q none { s with heap := h' }) : wpAny (model pw w) A (pyNext (.ref I)) Q E s := by
  refine nay fun hG => ?_
  obtain ⟨⟨t1, t2, t3, t4, gI⟩, ga⟩ := hZ
  refine hG ?_; clear hG
  have hT : s.TypeIs (.ref I) "set_iterator" := ⟨_, gI, rfl⟩
  unfold pyNext
  refine wpAny_bind (wpAny_attempt (wpAny_callSpecial?_slot (name := Str.ofString "__next__") hT FS.slot_next (wpAny_call_entry FS.slot_next hT FS.entry_next ?_ (FS.args_next _))))
  unfold Builtin.«set_iterator.__next__»
  refine wpAny_bind (wpAny_pure ?_)
  refine wpAny_bind (wpAny_fieldsOf gI rfl ?_)
  dsimp only
  have hf := (fits_of' (led := !bt w) hg).1
  rw [← hsz] at hf
  refine wpAny_bind (wpAny_setEntries_of ga hd hf ?_)
  rw [if_neg (by rw [hsz]; simp)]
  rw [Int.toNat_natCast, Int.toNat_natCast, Int.toNat_natCast]
  refine wpAny_bind (next_step (A := A.in1) ga hd hsz hg (Nat.le_refl _) ?_)
  rw [Array.getElem?_eq_none (by lia)]
  dsimp only [Option.map]
  refine wpAny_bind (wpAny_setField gI rfl (by simp) ?_)
  show wpAny _ _ (newExc (.type "StopIteration") [] >>= _) _ _ _
  refine wpAny_bind ?_
  simp only [newExc, newTuple]
  refine wpAny_bind (wpAny_newObj_type ?_ (by size_fits))
  refine wpAny_bind (m := firstArgMember _ _) (wpAny_of_eq (a := Value.none) (by first | rfl | (simp only [firstArgMember]; rfl)) ?_)
  refine wpAny_newObj_type ?_ (by size_fits)
  simp only [raiseNew]
  refine wpAny_bind (wpAny_handled ?_)
  rw [show A.in1.handled = none from hh]
  refine wpAny_bind (wpAny_pure (wpAny_throw ?_))
  refine wpAny_bind (wpAny_isInstance (T := "StopIteration") (b := true) ⟨_, Heap.get?_push_size _ rfl, rfl⟩ isSubtype_stop ?_)
  refine wpAny_pure (h _ fun c oc q1 q => ?_)
  exact (((Heap.SameBut.update ..).extBut.push _).push _) c oc q1 q
theorem erase_perm {α : Type} : ∀ (l : List α) (i : Nat) (h : i < l.length), (l[i] :: l.eraseIdx i).Perm l
  | x :: l, 0, _ => .refl _
  | x :: l, i + 1, h => (List.Perm.swap ..).trans ((erase_perm l i (by simpa using h)).cons x)
theorem pickOrder_perm {α : Type} (next : Nat → Nat) (xs : Array α) : (pickOrder next xs).toList.Perm xs.toList := by
  have key : ∀ (fuel k : Nat) (left : List α) (out : Array α), left.length = fuel → (pickOrder.go next fuel k left out).toList.Perm (out.toList ++ left) := by
    intro fuel
    induction fuel with
    | zero => intro k left out hl; obtain rfl := List.length_eq_zero_iff.mp hl; simp [pickOrder.go]
    | succ fuel ih =>
      intro k left out hl
      unfold pickOrder.go
      have hlt : next k % left.length < left.length := Nat.mod_lt _ (by lia)
      rw [List.getElem?_eq_getElem hlt]
      refine (ih (k + 1) _ _ (by rw [List.length_eraseIdx_of_lt hlt]; lia)).trans ?_
      rw [Array.toList_push, List.append_assoc]
      refine List.Perm.append_left _ ?_
      exact erase_perm left _ hlt
  unfold pickOrder
  have := key xs.size 0 xs.toList #[] (by simp)
  simpa using this
end
-- LN
namespace FS
theorem slot_iiter : Slot "set_iterator" "__iter__" "set_iterator.__iter__" :=
  .of (owner := "set_iterator") (n := "__iter__") (by rw [typeLookup_type, builtinLookup_eq_fast]; kernel_rfl) (by decide +kernel) (by decide +kernel) (by decide +kernel)
    (by first | exact .inl (by decide +kernel) | exact .inr (by decide +kernel)) (by rw [isSubtype_type]; kernel_rfl)
theorem entry_iiter : entryFor table "set_iterator.__iter__" = some Builtin.«dict_keyiterator.__iter__» :=
  entryFor_alias (id' := "dict_keyiterator.__iter__") (by kernel_rfl) (by decide +kernel) (by decide +kernel) (by kernel_rfl)
theorem args_iiter (a : Value) : argsOk "set_iterator.__iter__" ⟨[a], []⟩ := by unfold argsOk; kernel_rfl
end FS
section
variable {w : World} {A : Around} {E : Value → Shared → Prop} {s : Shared}
theorem set_hint {r : Addr} {Q : Bool → Shared → Prop} (hT : s.TypeIs (.ref r) "set") (h : Q false s) : wpAny (model pw w) A (Builtin.List.listLengthHint (.ref r)) Q E s := by
  unfold Builtin.List.listLengthHint
  refine wpAny_bind (wpAny_specialOf hT PySem.F.slot_set_len.lookup ?_)
  generalize hid : ("set.__len__" : String) = id0
  wp_delta
  rw [show splitId id0 = some ("set", "__len__") from by subst hid; decide +kernel]
  subst hid
  refine wpAny_bind (wpAny_isInstance (T := "set") (b := true) hT (by rw [isSubtype_type]; kernel_rfl) ?_)
  refine wpAny_ite_split (fun hab => absurd hab (by decide)) (fun _ => ?_)
  refine wpAny_ite_split (fun _ => ?_) (fun hab => absurd (by decide +kernel) hab)
  refine wpAny_bind (wpAny_typeOf hT ?_)
  exact wpAny_pure h
theorem set_iter {a : Addr} {o : Obj} {xs : List Int} {es : Array (Int × Value)} {ep : Nat} {Q : Value → Shared → Prop} (ho : s.heap.get? a = some o) (hex : o.ExactSet) (hd : o.data = .set es ep (tb (!bt w) xs)) (hsz : es.size = xs.length) (hg : xs ∈ goods)
    (h : Q (.ref s.heap.objs.size) { s with heap := s.heap.push (setItO 0 0 a xs.length ep 0 0 0 0) }) : wpAny (model pw w) A (pyIter (.ref a)) Q E s := by
  have hT : s.TypeIs (.ref a) "set" := ⟨_, ho, hex.1⟩
  have hf := (fits_of' (led := !bt w) hg).1
  rw [← hsz] at hf
  refine wpAny_pyIter_slot hT FS.slot_iter (wpAny_call_entry FS.slot_iter hT FS.entry_iter ?_ (FS.args_iter _))
  unfold Builtin.«frozenset.__iter__» Builtin.Frozenset.slot0 slotArgs
  simp only [List.isEmpty_nil, Bool.not_true, Bool.false_eq_true, ↓reduceIte, bind_assoc, List.length_nil, bne_self_eq_false]
  unfold Builtin.Frozenset.addrOf Builtin.Frozenset.sizeOf
  refine wpAny_bind (wpAny_pure ?_)
  try dsimp only
  refine wpAny_bind (wpAny_pure ?_)
  refine wpAny_bind (wpAny_bind (wpAny_setEntries_of ho hd hf (wpAny_pure ?_)))
  refine wpAny_bind ?_
  unfold setDrawn setsByText
  refine wpAny_bind (wpAny_setState_of ho hd hf ?_)
  dsimp only
  refine wpAny_bind (wpAny_bind (wpAny_askSetting (wpAny_pure ?_)))
  refine wpAny_pure ?_
  refine wpAny_ite_split (fun hab => ?_) (fun _ => ?_)
  · obtain ⟨_, h2⟩ := Bool.and_eq_true_iff.mp hab
    exact absurd (show false = true from h2) Bool.false_ne_true
  refine wpAny_bind (wpAny_pure ?_)
  refine wpAny_bind (wpAny_setEpoch_of ho hd hf ?_)
  rw [hsz]
  exact wpAny_bind (wpAny_newObj_type (wpAny_pure ⟨_, rfl, "set_iterator", _, ⟨_, Heap.get?_push_size _ rfl, rfl⟩, FS.slot_next.lookup, h⟩))
theorem slotOf_zero (w : World) (xs : List Int) : slotOf w xs 0 = 0 := by unfold slotOf slotAt; split <;> rfl
theorem set_src {a : Addr} {o : Obj} {xs : List Int} {es : Array (Int × Value)} {ep : Nat} (hex : o.ExactSet) (hd : o.data = .set es ep (tb (!bt w) xs)) (hsz : es.size = xs.length) (hg : xs ∈ goods) (hoz : (ordOf w a ep es).size = xs.length) :
    KdlSrc pw w "set" a a xs.length (fun i v => ((ordOf w a ep es)[i]?).map (·.2) = some v) (fun h => h.get? a = some o) where
  type := fun _ hm => ⟨_, hm, hex.1⟩
  there := fun _ hm => ⟨Heap.lt_size hm, Heap.lt_size hm⟩
  keep := fun _ _ hm hk => hk a (.inl rfl) _ hm
  notList := by decide
  notTuple := by decide
  hint := fun _ _ s _ hm hq => set_hint (s := s) ⟨_, hm, hex.1⟩ hq
  iter := fun A s hh hm => ⟨setItO 0 0 a xs.length ep 0 0 0 0, SetZ w s.heap.objs.size a o ep xs, (fun _ _ hq => set_iter hm hex hd hsz hg hq),
    { sub := fun b hb => by simp at hb; simp [hb]
      frame := fun i h h' st hk => by
        refine nay fun hG => ?_
        obtain ⟨⟨t1, t2, t3, t4, g⟩, ga⟩ := st
        refine hG ?_; clear hG
        exact ⟨⟨t1, t2, t3, t4, hk _ (by simp) _ g⟩, hk _ (by simp) _ ga⟩
      item := fun i s' Q E hi st hQ => by
        have hlt : i < (ordOf w a ep es).size := by lia
        refine set_item st (Nat.ne_of_lt (Heap.lt_size hm)) hd hsz hg hi (v := ((ordOf w a ep es)[i]).2) (by rw [Array.getElem?_eq_getElem hlt]; rfl) fun h' z k => ?_
        exact hQ _ h' s'.toks (by rw [Array.getElem?_eq_getElem hlt]; rfl) z fun c oc hc q => k c oc (by simpa using hc) q
      done := fun s' Q E st hQ => by
        exact set_done (by exact hh) st hd hsz hg hoz fun h' k => hQ h' s'.toks fun c oc hc q => k c oc (by simpa using hc) q
      self := fun i s' Q E st h => by
        refine nay fun hG => ?_
        obtain ⟨⟨t1, t2, t3, t4, g⟩, ga⟩ := st
        refine hG ?_; clear hG
        have hT : s'.TypeIs (.ref s.heap.objs.size) "set_iterator" := ⟨_, g, rfl⟩
        refine wpAny_pyIter_slot hT FS.slot_iiter (wpAny_call_entry FS.slot_iiter hT FS.entry_iiter ?_ (FS.args_iiter _))
        show wpAny _ _ (ret (.ref s.heap.objs.size)) _ _ s'
        exact wpAny_pure ⟨_, rfl, "set_iterator", _, hT, FS.slot_next.lookup, h⟩ },
    ⟨⟨0, 0, 0, 0, by rw [slotOf_zero]; exact Heap.get?_push_size _ rfl⟩, Heap.get?_push_of_some _ hm⟩⟩
end
section
variable {w : World} {A : Around} {E : Value → Shared → Prop} {s s0 : Shared} {e : En} {b : PM} {L : Addr} {m : Str → Option Value} {mu : List (Addr × Obj)} {env : Env} {t0 : Nat} {Q : Value → Shared → Prop}
theorem perm_ints : ∀ {l l' : List (Int × Value)} {xs : List Int}, l.Perm l' → All2 IsI (l'.map (·.2)) xs → ∃ ys, ys.Perm xs ∧ All2 IsI (l.map (·.2)) ys := by
  intro l l' xs p
  induction p generalizing xs with
  | nil => intro h; exact ⟨xs, .refl _, h⟩
  | cons x p ih =>
    intro h
    cases h with
    | cons a r =>
      refine nay fun hG => ?_
      obtain ⟨ys, h1, h2⟩ := ih r
      refine hG ?_; clear hG
      exact ⟨_ :: ys, h1.cons _, .cons a h2⟩
  | swap x y l =>
    intro h
    cases h with
    | cons a r =>
      cases r with
      | cons a' r => exact ⟨_ :: _ :: _, .swap .., .cons a' (.cons a r)⟩
  | trans p q ih1 ih2 =>
    intro h
    refine nay fun hG => ?_
    obtain ⟨ys, h1, h2⟩ := ih2 h
    obtain ⟨zs, h3, h4⟩ := ih1 h2
    refine hG ?_; clear hG
    exact ⟨zs, h3.trans h1, h4⟩
theorem srt_set {d : Addr} {o : Obj} {xs : List Int} (hh : A.handled = none) (S : St w e b L m mu { s0 with heap := s.heap, toks := t0 }) (hq : s = { s0 with heap := s.heap, toks := s.toks }) (X : SetX (!bt w) xs o) (g : s.heap.get? d = some o)
    (h : ∀ a b' h' t', (∀ c oc, b c = some oc → b' c = some oc) → ListOf b' IsI (.ref a) (isort xs) → St w e b' L m mu { s0 with heap := h', toks := t' } → Q (.ref a) { s0 with heap := h', toks := t' }) : wpAny (model pw w) A (call (.builtin "sorted") [.ref d]) Q E s := by
  refine nay fun hG => ?_
  obtain ⟨hex, es, ep, hd, hk, hv, hg⟩ := X
  refine hG ?_; clear hG
  have hsz : es.size = xs.length := by have := hv.length; simpa using this
  have hop : (ordOf w d ep es).toList.Perm es.toList := by
    unfold ordOf
    split
    · exact pickOrder_perm _ _
    · exact .refl _
  have hoz : (ordOf w d ep es).size = xs.length := by have := hop.length_eq; simp at this; lia
  have hl3 := (fits_of' (led := !bt w) hg).2
  refine Calls.call_function_entry kind_sorted plain_sorted entry_sorted (args_sorted1 _) ?_
  unfold Builtin.«sorted»
  refine wpAny_bind (m := checkCount "sorted" 1 1 _) (wpAny_pure ?_)
  refine wpAny_bind (kdu_collect (set_src hex hd hsz hg hoz) hh g (by rw [sizeLine_eq]; lia) fun h' tk acc hk' hacc => ?_)
  have hl : acc.toList.length = xs.length := by rw [Array.length_toList]; exact hacc.1
  have ea : acc.toList = (ordOf w d ep es).toList.map (·.2) := by
    apply List.ext_getElem?
    intro i
    by_cases hi : i < acc.size
    · have := hacc.2 i acc[i] (Array.getElem?_eq_getElem hi)
      rw [List.getElem?_map, Array.getElem?_toList, Array.getElem?_toList, Array.getElem?_eq_getElem hi]
      exact this.symm
    · rw [List.getElem?_eq_none (by rw [Array.length_toList]; lia), List.getElem?_eq_none (by rw [List.length_map, Array.length_toList, hoz]; rw [Array.length_toList] at hl; lia)]
  refine nay fun hG => ?_
  obtain ⟨ys, p1, p2⟩ := perm_ints hop hv
  refine hG ?_; clear hG
  rw [← ea] at p2
  have hyl : acc.toList.length = ys.length := p2.length
  have S0 : St w e b L m mu { s0 with heap := h', toks := tk } := S.ext hk'
  refine wpAny_bind (wpAny_newList ?_ (by rw [sizeLine_eq]; lia))
  have hoL : (h'.push (seqObj "list" acc.toList.toArray 0)).get? h'.objs.size = some (seqObj "list" acc.toList.toArray 0) := Heap.get?_push_size _ rfl
  refine wpAny_bind (wpAny_holding (wpAny_call_entry slot_list_sort ⟨_, hoL, rfl⟩ entry_list_sort (list_sort_tree hoL (ints_of p2) (by lia) fun out ns' a1 a2 a3 => ⟨_, rfl, ?_⟩) (args_list_sort _)))
  obtain ⟨ep', g'⟩ := sortedHeap_at (out := out) hoL
  have S0' : St w e b L m mu { s0 with heap := ({ s0 with heap := h', toks := tk } : Shared).heap, toks := tk } := S0
  obtain ⟨S1, up⟩ := S0'.newAt (t1 := tk) (h' := sortedHeap (h'.push (seqObj "list" acc.toList.toArray 0)) h'.objs.size acc.toList out)
    (fun a o q => by
      have lt := Heap.lt_size q
      rw [sortedHeap_old (Nat.ne_of_lt lt) (by rw [size_push']; exact Nat.lt_succ_of_lt lt)]
      exact Heap.get?_push_of_some _ q) g' (fun c oc q => Heap.lt_size q)
  have e1 : ns' = isort xs := isort_eq (a2.trans p1) a3
  subst e1
  refine wpAny_pure ⟨_, rfl, ?_⟩
  rw [hq]
  exact h _ _ _ _ up ⟨_, out, ep', rfl, PM.put_self .., all2_of_ints a1⟩ S1
end
-- LP
structure Untr (e : En) (b : PM) (L : Addr) (mu : List (Addr × Obj)) (C : Addr) : Prop where
  b : b C = none
  m : ∀ p ∈ mu, p.1 ≠ C
  L : L ≠ C
  k : ∀ o, e.h.get? C = some o → C ∈ e.X
theorem St.untr {w : World} {e : En} {b : PM} {L : Addr} {m : Str → Option Value} {mu : List (Addr × Obj)} {s : Shared} (S : St w e b L m mu s) {C : Addr} (h : s.heap.get? C = none) : Untr e b L mu C := by
  refine ⟨?_, fun p hp q => ?_, fun q => ?_, fun o q => ?_⟩
  · cases q : b C with
    | none => rfl
    | some o => rw [S.sub _ _ q] at h; cases h
  · subst q; rw [(S.tu p hp).1] at h; cases h
  · subst q; obtain ⟨o, _, _, g, _⟩ := S.ns; rw [g] at h; cases h
  · by_cases hx : C ∈ e.X
    · exact hx
    · rw [S.keep C o q hx] at h; cases h
theorem St.other {w : World} {e : En} {b : PM} {L : Addr} {m : Str → Option Value} {mu : List (Addr × Obj)} {s : Shared} (S : St w e b L m mu s) {C : Addr} (U : Untr e b L mu C) {h' : Heap} {t : Nat} (hs : Heap.SameBut C s.heap h') : St w e b L m mu { s with heap := h', toks := t } := by
  refine ⟨S.base, fun a o q => (hs.2 a fun z => by subst z; rw [U.b] at q; cases q).trans (S.sub a o q), S.up, S.new, fun a o q q' => (hs.2 a fun z => by subst z; exact q' (U.k o q)).trans (S.keep a o q q'), S.ns.sameBut hs U.L, S.Lnew, S.Lb, fun p hp => ⟨(hs.2 _ (U.m p hp)).trans (S.tu p hp).1, (S.tu p hp).2⟩, S.nd⟩
section
variable {w : World} {A : Around} {E : Value → Shared → Prop} {s : Shared} {e : En} {b : PM} {L : Addr} {m : Str → Option Value} {mu : List (Addr × Obj)} {env : Env}
theorem as_lcomp {elt iter tgt : Expr} {scope : Scope} {pos py spos : Pos} {y : Str} {cl : List (Str × Addr)} {Q : Flow → Shared → Prop} (hsw : swapsWith (.ListComp elt [⟨tgt, iter, [], 0⟩] scope pos) (some (.Name y py)) spos.line env = pure true)
    (hs : ∀ x, foldedSetIterable iter env x = pure x) (hclos : closureFor scope env = pure cl) (hkind : scope.kind = .function) (hnames : ∀ x ∈ scope.names, x.2 = .local → scope.names.lookup x.1 = some .local)
    (h : wpAny (model pw w) A (eval iter env) (fun x s₁ => wpAny (model pw w) A (pyIter x) (fun it s₂ => wpAny (model pw w) A (newList []) (fun acc s₃ =>
      wpAny (model pw w) A (newFunctionEnv scope env.globals cl [] env.qual none .none (some env)) (fun cenv s₄ =>
        codeAny (model pw w) A (.compStart (.ListComp elt [⟨tgt, iter, [], 0⟩] scope pos) 0 it acc { cenv with scope := relabel scope env }) (compPost (model pw w) A E (some (assign (.Name y py) env)) (fun _ s' => Q .next s') acc cenv.locals) s₄) E s₃) E s₂) E s₁) E s) :
    wpAny (model pw w) A (exec (.Assign [.Name y py] (.ListComp elt [⟨tgt, iter, [], 0⟩] scope pos) spos) env) Q E s := by
  rw [exec_Assign_Name_used _ _ _ _ hsw]
  refine wpAny_bind (wpAny_standAt (wpAny_bind ?_))
  show wpAny _ A (do let _ ← comprehension (.ListComp elt [⟨tgt, iter, [], 0⟩] scope pos) scope env _ (newList []) false (eval iter env) (some (assign (.Name y py) env))) _ _ s
  exact wpAny_bind (wpAny_mono (wpAny_comprehension_free (use := some (assign (.Name y py) env)) (Q := fun _ s' => Q .next s') rfl hs hclos hkind hnames h) (fun _ s' hq => wpAny_pure (wpAny_pure hq)) fun _ _ e => e)
theorem comp_srcU {Q : Value → Shared → Prop} {elt iter : Expr} {x y : Str} {px py : Pos} {scope : Scope} {cl : List (Str × Addr)} {pos : Pos} {I : Addr} {n : Nat} {P : Nat → Value → Prop} {oI : Obj}
    (W : Src w A b I n P s.heap) (S : St w e b L m (mu ++ [(I, oI)]) s) (hsz : n ≤ 1000)
    (hcell : ∀ y ∈ scope.names, y.2 ≠ .cell) (hkind : scope.kind = .function) (hx : scope.names.lookup x = some .local)
    (hL : env.locals = L) (hy : env.kindOf y = some .local) (hp : (env.scope.kind == .class || (env.scope.kind == .module && env.locals != env.globals)) = false)
    (J : Nat → PM → List (Addr × Obj) → Array Value → Prop) (hJ : J 0 b mu #[])
    (turn : ∀ i v b' mC mu' ys tl h' t' C, i < n → P i v → J i b' mu' ys → (∀ a o, b a = some o → b' a = some o) → St w e b' C (ext mC x v) (mu' ++ tl) { s with heap := h', toks := t' } →
      wpAny (model pw w) A (eval elt (compEnvC scope cl C env)) (fun y s' => ∃ b'' mC'' mu'' h'' t'', s' = { s with heap := h'', toks := t'' } ∧ J (i + 1) b'' mu'' (ys.push y) ∧ (∀ a o, b a = some o → b'' a = some o) ∧ St w e b'' C mC'' (mu'' ++ tl) { s with heap := h'', toks := t'' })
        (fun _ _ => False) { s with heap := h', toks := t' })
    (done : ∀ b' mu' ys k D h' t', ys.size = n → J n b' mu' ys → (∀ a o, b a = some o → b' a = some o) → St w e b' L (ext m y (.ref D)) ((D, listOf ys k) :: mu') { s with heap := h', toks := t' } → e.h.objs.size ≤ D → Q .none { s with heap := h', toks := t' }) :
    wpAny (model pw w) A (newList []) (fun acc s₃ => wpAny (model pw w) A (newFunctionEnv scope env.globals cl [] env.qual none .none (some env)) (fun cenv s₄ =>
      codeAny (model pw w) A (.compStart (.ListComp elt [⟨.Name x px, iter, [], 0⟩] scope pos) 0 (.ref I) acc { cenv with scope := relabel scope env }) (compPost (model pw w) A E (some (assign (.Name y py) env)) Q acc cenv.locals) s₄) E s₃) E s := by
  refine wpAny_mono (comp_src (E := E) (elt := elt) (iter := iter) (px := px) (pos := pos) (env := env) (Q := fun v s' => ∃ b' mu' ys k D h' t', v = .ref D ∧ s' = { s with heap := h', toks := t' } ∧ ys.size = n ∧ J n b' mu' ys ∧ (∀ a o, b a = some o → b' a = some o) ∧ St w e b' L m ((D, listOf ys k) :: mu') { s with heap := h', toks := t' } ∧ e.h.objs.size ≤ D)
    W S hsz hcell hkind hx J hJ turn fun b' mu' ys k D h' t' h1 h2 h3 h4 h5 => ⟨b', mu', ys, k, D, h', t', rfl, rfl, h1, h2, h3, h4, h5⟩) (fun acc s₃ h₃ => wpAny_mono h₃ (fun cenv s₄ h₄ => codeAny_mono h₄ fun r s' hr => ?_) fun _ _ z => z) fun _ _ z => z
  cases r with
  | error x => exact hr
  | ok fl =>
    refine nay fun hG => ?_
    obtain ⟨mC, hn, hall⟩ := hr
    refine hG ?_; clear hG
    show wpAny _ A (assign (.Name y py) env acc) _ _ _
    refine nay fun hG => ?_
    obtain ⟨oC, esC, epC, gC, dC, rC⟩ := id hn
    refine hG ?_; clear hG
    generalize hC : cenv.locals = C at *
    have at1 := hall (s'.heap.update C fun _ => { cls := .none, data := .freed }) (Heap.SameBut.update ..)
    refine nay fun hG => ?_
    obtain ⟨b', mu', ys, k, D, h', t', rfl, e2, h1, h2, h3, S', h5⟩ := at1
    obtain ⟨hp', g', dr', tk', os'⟩ := s'
    refine hG ?_; clear hG
    simp only [Shared.mk.injEq] at e2
    refine nay fun hG => ?_
    obtain ⟨rfl, rfl, rfl, rfl, rfl⟩ := e2
    refine hG ?_; clear hG
    have gn : (hp'.update C fun _ => { cls := .none, data := .freed }).get? C = none := by
      obtain ⟨objs, l⟩ := hp'
      show (match (objs.modify C fun _ => ({ cls := .none, data := .freed } : Obj))[C]? with | some ⟨_, _, .freed, _⟩ => none | o => o) = none
      rw [Array.getElem?_modify]
      cases objs[C]? <;> simp
    have U := S'.untr gn
    have S₀ : St w e b' L m ((D, listOf ys k) :: mu') { s with heap := hp', toks := tk' } := S'.other U (h' := hp') (t := tk') (by
      obtain ⟨z1, z2⟩ := Heap.SameBut.update hp' C fun _ => ({ cls := .none, data := .freed } : Obj)
      exact ⟨z1.symm, fun c q => (z2 c q).symm⟩)
    have hn' : hp'.Ns C mC := hn
    refine wpAny_assign_Name (wpAny_storeName_local hy (by rw [hL]; exact S₀.ns) (fun h₂ hn₂ hs₂ => ?_) hp)
    rw [hL] at hn₂ hs₂
    refine ⟨mC, hn'.sameBut hs₂ (Ne.symm U.L), fun h₃ hs₃ => ?_⟩
    have S₂ := S₀.set (m' := ext m y (.ref D)) (t := tk' + 1) hn₂ hs₂
    exact done b' mu' ys k D h₃ _ h1 h2 h3 (S₂.other U (t := tk' + 1) hs₃) h5
end
-- LO
noncomputable def PrOk (P : List (Int × Int)) (n : Nat) : Prop := P.length ≤ n ∧ (P.map (·.1)).Pairwise (· < ·) ∧ ∀ p ∈ P, (1 ≤ p.1 ∧ p.1 ≤ 6) ∧ 1 ≤ p.2 ∧ p.2 ≤ 9
noncomputable def SetsOk (B : List (List Int)) (n : Nat) : Prop := B.length ≤ n ∧ ∀ gs ∈ B, SetL gs
noncomputable def PlanIs (b : PM) (v : Value) (P : List (Int × Int)) (B C : List (List Int)) : Prop :=
  ∃ T lp lb la, v = .ref T ∧ b T = some (tupO #[lp, lb, la]) ∧ ListOf b (IsPr b) lp P ∧ ListOf b (ListOf b IsI) lb B ∧ ListOf b (ListOf b IsI) la C
theorem PlanIs.up {b b' : PM} {v : Value} {P : List (Int × Int)} {B C : List (List Int)} (h : PlanIs b v P B C) (hb : ∀ a o, b a = some o → b' a = some o) : PlanIs b' v P B C := by
  refine nay fun hG => ?_
  obtain ⟨T, lp, lb, la, e, g, h1, h2, h3⟩ := h
  refine hG ?_; clear hG
  exact ⟨T, lp, lb, la, e, hb _ _ g, h1.mono hb fun _ _ z => z.up hb, h2.mono hb fun _ _ z => z.up hb, h3.mono hb fun _ _ z => z.up hb⟩
noncomputable def RawOk (ps : List (Int × Int)) : Prop := ∀ p ∈ ps, (1 ≤ p.1 ∧ p.1 ≤ 6) ∧ 1 ≤ p.2 ∧ p.2 ≤ 9
theorem putI_keys {mp : List (Int × Int)} {p : Int × Int} (nd : (mp.map (·.1)).Nodup) : ((putI mp p).map (·.1)).Nodup ∧ (putI mp p).length ≤ mp.length + 1 := by
  unfold putI
  split
  · refine ⟨?_, by rw [List.length_map]; lia⟩
    rw [List.map_map]
    have : ((fun x : Int × Int => x.1) ∘ fun q : Int × Int => if q.1 = p.1 then (q.1, p.2) else q) = fun x => x.1 := by
      funext q
      simp only [Function.comp_apply]
      split <;> rfl
    rw [this]
    exact nd
  · rename_i h
    refine ⟨?_, by simp⟩
    rw [List.map_append, List.nodup_append]
    refine ⟨nd, by simp, ?_⟩
    intro a ha c hc q
    simp at hc
    subst hc
    subst q
    refine nay fun hG => ?_
    obtain ⟨x, hx, e⟩ := List.mem_map.mp ha
    refine hG ?_; clear hG
    exact h (List.any_eq_true.mpr ⟨x, hx, by simpa using e⟩)
theorem putI_raw {mp : List (Int × Int)} {p : Int × Int} (h : RawOk mp) (hp : (1 ≤ p.1 ∧ p.1 ≤ 6) ∧ 1 ≤ p.2 ∧ p.2 ≤ 9) : RawOk (putI mp p) := by
  unfold putI
  split
  · intro q hq
    refine nay fun hG => ?_
    obtain ⟨x, hx, rfl⟩ := List.mem_map.mp hq
    refine hG ?_; clear hG
    have := h x hx
    split
    · exact ⟨this.1, hp.2⟩
    · exact this
  · intro q hq
    rcases List.mem_append.mp hq with hq | hq
    · exact h q hq
    · rw [List.mem_singleton.mp hq]; exact hp
theorem foldI : ∀ (ps mp : List (Int × Int)), (mp.map (·.1)).Nodup → RawOk mp → RawOk ps → ((ps.foldl putI mp).map (·.1)).Nodup ∧ RawOk (ps.foldl putI mp) ∧ (ps.foldl putI mp).length ≤ mp.length + ps.length
  | [], mp, nd, h, _ => ⟨nd, h, by simp⟩
  | p :: ps, mp, nd, h, hp => by
    refine nay fun hG => ?_
    obtain ⟨n1, n2⟩ := putI_keys (p := p) nd
    obtain ⟨r1, r2, r3⟩ := foldI ps (putI mp p) n1 (putI_raw h (hp p (.head _))) fun q hq => hp q (.tail _ hq)
    refine hG ?_; clear hG
    refine ⟨r1, r2, ?_⟩
    rw [List.foldl_cons, List.length_cons]
    lia
theorem val_mem {mp : List (Int × Int)} {k : Int} (hk : k ∈ mp.map (·.1)) : (k, val mp k) ∈ mp := by
  refine nay fun hG => ?_
  obtain ⟨x, hx, rfl⟩ := List.mem_map.mp hk
  refine hG ?_; clear hG
  unfold val
  cases q : mp.find? (fun z => decide (z.1 = x.1)) with
  | none => exact absurd (by simp) (List.find?_eq_none.mp q x hx)
  | some y =>
    have hy1 : y.1 = x.1 := by simpa using List.find?_some q
    have := List.mem_of_find?_eq_some q
    rw [← hy1]
    exact this
theorem isort_lt {xs : List Int} (nd : xs.Nodup) : (isort xs).Pairwise (· < ·) := by
  have h1 := isort_sorted xs
  have h2 : (isort xs).Nodup := (isort_perm xs).nodup_iff.mpr nd
  have := h1.and h2
  exact this.imp fun h => by lia
theorem told_keys (mp : List (Int × Int)) : (toldPairs mp).map (·.1) = revKeys mp := by
  unfold toldPairs
  rw [List.map_map]
  exact List.map_id _
theorem told_ok {mp : List (Int × Int)} (nd : (mp.map (·.1)).Nodup) (h : RawOk mp) : PrOk (toldPairs mp) mp.length := by
  refine ⟨by unfold toldPairs revKeys; rw [List.length_map, (isort_perm _).length_eq, List.length_map]; lia, by rw [told_keys]; exact isort_lt nd, fun p hp => ?_⟩
  unfold toldPairs at hp
  refine nay fun hG => ?_
  obtain ⟨k, hk, rfl⟩ := List.mem_map.mp hp
  refine hG ?_; clear hG
  have hk' := (isort_perm _).mem_iff.mp hk
  exact h _ (val_mem hk')
section
variable {w : World} {A : Around} {E : Value → Shared → Prop} {s : Shared} {b : PM} {n : Nat} {Q : Value → Shared → Prop}
theorem in_law_plan {k : Nat} {body : List Stmt} {x0 : Value} (hbody : f_law_plan.body = .stmts body)
    (R : Room A (k + 1)) (B : Base w b) (hs : ∀ a o, b a = some o → s.heap.get? a = some o) (mu : List (Addr × Obj)) (hm : ∀ p ∈ mu, s.heap.get? p.1 = some p.2 ∧ b p.1 = none) (nd : (mu.map (·.1)).Nodup)
    (h : ∀ L h₁ t₁ b₁, L = s.heap.objs.size → (∀ a o, b a = some o → b₁ a = some o) → CellAt b₁ (L + 1) x0 → St w ⟨s.heap, b, mu.map (·.1)⟩ b₁ L (extL [] fun _ => none) mu { s with heap := h₁, toks := t₁ } → Room (A.deeper (callEnvC f_law_plan L 445)) k →
      wpAny (model pw w) (A.deeper (callEnvC f_law_plan L 445)) (execs body (callEnvC f_law_plan L 445)) (fun fl s' => Q (match fl with | .ret v => v | _ => .none) s') (fun _ _ => False) { s with heap := h₁, toks := t₁ }) :
    wpAny (model pw w) A (call (.ref 445) [x0]) Q E s :=
  enterCell R B hs mu hm nd (lk_law_plan _) (cd_law_plan _) hbody (binds := [("take", x0)]) (by kernel_rfl!) (by kernel_rfl!) (x := "take") (by intro L; kernel_rfl!) (by kernel_rfl!) (by intro L; kernel_rfl!) (by intro L; kernel_rfl!) (by kernel_rfl!) (by kernel_rfl!) (by kernel_rfl!) h
theorem c_law_plan {T PL : Addr} {k : Nat} {o : Obj} (R : Room A (n + 5)) (B : Base w b) (hs : ∀ a o, b a = some o → s.heap.get? a = some o)
    (hT : TakerAt b T PL) (hb : b PL = none) (hd : s.heap.get? PL = some o) (ho : PlaceO k o) (hk : k + 31 ≤ 60)
    (K : ∀ v P Bk Ah o' b' h' t', PrOk P 4 → SetsOk Bk 2 → SetsOk Ah 2 → Grow b b' s.heap h' [PL] → h'.get? PL = some o' → PlaceO (k + 31) o' → PlanIs b' v P Bk Ah → Q v { s with heap := h', toks := t' }) :
    wpAny (model pw w) A (call (.ref 445) [.ref T]) Q E s := by
  refine in_law_plan (body := _) rfl R B hs [(PL, o)] (one_mu hd hb) one_nd ?_
  intro L h₁ t₁ b₁ hL hup hC S R'
  dsimp only [extL] at S
  replace hT := hT.up hup
  refine nay fun hG => ?_
  obtain ⟨oT, fdT, hT1, hT2⟩ := hT.fn
  refine hG ?_; clear hG
  walk_at "x"
  refine as_lcomp (cl := [("take", L + 1)]) (by kernel_rfl!) (by intro _; kernel_rfl!) (by kernel_rfl!) (by kernel_rfl!) (by decide +kernel) ?_
  walk_at "f"
  refine n_range (by assumption) (by kernel_rfl!) (by kernel_rfl!) (by kernel_rfl!) (by kernel_rfl!) ?_
  refine PyProof.Rows.callWith_type1 ?_ (by kernel_rfl!) (by kernel_rfl!)
  walk_at "c"; walk_at "f"
  refine n_cell (by assumption) (by assumption) (by kernel_rfl!) (by kernel_rfl!) (by kernel_rfl!) (by kernel_rfl!) ?_
  rename St _ _ _ _ _ _ _ => S
  refine callWith_def hT2 ?_ (by kernel_rfl!)
  walk_at "c"; walk_at "i"
  refine args_nil ?_
  refine ⟨S.get hT1, ?_⟩
  refine c_take (n := n + 3) R' S.base S.sub hT (S.tu _ (.head _)).2.2.1 (S.muGet (.head _)) ho (by lia) (by decide) fun v t o' b' h' t' hv0 hv1 G gg ho => ?_
  have gu := G.up
  replace S := S.call1 (t := t') G gg
  dsimp only at S
  replace hT1 := gu _ _ hT1
  replace hT := hT.up gu
  replace hC := hC.up gu
  refine args_nil ?_
  refine it_range1 R'.hd S (by rfl) hv0 (by lia) fun I oI h₃ t₃ W S => ?_
  refine comp_srcU W S (by lia) (by decide) rfl (by kernel_rfl!) rfl (by kernel_rfl!) (by kernel_rfl!) (fun i b₄ mu ys => ∃ od ps, mu = [(PL, od)] ∧ PlaceO (k + 1 + 2 * i) od ∧ All2 (IsPr b₄) ys.toList ps ∧ ps.length = i ∧ RawOk ps) ⟨_, [], rfl, ho, .nil, rfl, fun _ h => nomatch h⟩ ?_ ?_
  · intro i v' b₄ mC mu ys tl h₄ t₄ C hi hx1 hx2 hb₄ S
    refine nay fun hG => ?_
    obtain ⟨tt, rfl⟩ := hx1
    obtain ⟨od, ps, rfl, ho, hy, hgl, hgs⟩ := hx2
    refine hG ?_; clear hG
    replace hT1 := hb₄ _ _ hT1
    replace hT := hT.up hb₄
    replace hC := hC.up hb₄
    refine PyProof.Rows.Tuple_ ?_
    walk_at "c"
    with_reducible refine wpAny_BinOp ?_
    walk_at "i"; walk_at "f"
    refine n_cell (by assumption) (by assumption) (by kernel_rfl!) (by kernel_rfl!) (by kernel_rfl!) (by kernel_rfl!) ?_
    refine callWith_def hT2 ?_ (by kernel_rfl!)
    walk_at "c"; walk_at "i"
    refine args_nil ?_
    refine ⟨S.get hT1, ?_⟩
    refine c_take (n := n + 3) R' S.base S.sub hT (S.tu _ (.head _)).2.2.1 (S.muGet (.head _)) ho (by lia) (by decide) fun v t o' b₅ h₅ t₅ hv0 hv1 G gg ho => ?_
    have gu := G.up
    replace S := S.call1 (t := t₅) G gg
    dsimp only at S
    replace hT1 := gu _ _ hT1
    replace hT := hT.up gu
    replace hC := hC.up gu
    with_reducible refine add_int ?_
    walk_at "c"
    with_reducible refine wpAny_BinOp ?_
    walk_at "i"; walk_at "f"
    refine n_cell (by assumption) (by assumption) (by kernel_rfl!) (by kernel_rfl!) (by kernel_rfl!) (by kernel_rfl!) ?_
    refine callWith_def hT2 ?_ (by kernel_rfl!)
    walk_at "c"; walk_at "i"
    refine args_nil ?_
    refine ⟨S.get hT1, ?_⟩
    refine c_take (n := n + 3) R' S.base S.sub hT (S.tu _ (.head _)).2.2.1 (S.muGet (.head _)) ho (by lia) (by decide) fun v2 t2 o2 b₆ h₆ t₆ hv20 hv21 G2 gg2 ho => ?_
    replace S := S.call1 (t := t₆) G2 gg2
    dsimp only at S
    with_reducible refine add_int ?_
    refine args_nil ?_
    refine new_tup S (by rfl) (Nat.le_of_ble_eq_true rfl) fun TT b₇ h₇ t₇ up7 hTT S => ?_
    refine turnI (b2 := b₇) (mu2 := [(PL, o2)]) rfl ⟨o2, ps ++ [(1 + v, 1 + v2)], rfl, ho, ?_, by simp [hgl], ?_⟩ (fun a o q => up7 _ _ (G2.up _ _ (gu _ _ (hb₄ _ _ q)))) S
    · rw [Array.toList_push]; exact (hy.mono fun _ _ z => ((z.up gu).up G2.up).up up7).push ⟨TT, _, _, rfl, hTT⟩
    · intro g hg
      rcases List.mem_append.mp hg with q | q
      · exact hgs g q
      · rw [List.mem_singleton.mp q]; dsimp only; lia
  intro b₄ mu ys k4 D4 h₄ t₄ hys hx1 hb₄ S hD4
  refine nay fun hG => ?_
  obtain ⟨od, ps, rfl, ho, hy, hgl, hraw⟩ := hx1
  refine hG ?_; clear hG
  replace hT1 := hb₄ _ _ hT1
  replace hT := hT.up hb₄
  replace hC := hC.up hb₄
  refine S.frzK hD4 fun b₅ up5 gD S => ?_
  replace hT1 := up5 _ _ hT1
  replace hT := hT.up up5
  replace hC := hC.up up5
  walk_at "x"
  refine wpAny_Assign_Name ?_ (by kernel_rfl!)
  walk_at "f"
  refine n_sorted (by assumption) (by kernel_rfl!) (by kernel_rfl!) (by kernel_rfl!) (by kernel_rfl!) ?_
  refine PyProof.Rows.callWith_builtin1 ?_ (by kernel_rfl!) (by kernel_rfl!)
  walk_at "c"
  refine mcall ?_ (by kernel_rfl!)
  walk_at "f"
  refine n_dict (by assumption) (by kernel_rfl!) (by kernel_rfl!) (by kernel_rfl!) (by kernel_rfl!) ?_
  refine PyProof.Rows.callWith_type1 ?_ (by kernel_rfl!) (by kernel_rfl!)
  walk_at "c"; walk_at "n"
  refine args_nil ?_
  have hyl : ys.size = ps.length := by have := hy.length; simpa using this
  refine d_pairs R'.hd S (by rfl) (S.get gD) (hy.mono fun _ _ z => z.up up5) (by lia) fun d oD kvs h₆ t₆ hdn hd5 hDO hKV hkl S => ?_
  refine nay fun hG => ?_
  obtain ⟨nd, hraw2, hml⟩ := foldI ps [] .nil (fun _ h => nomatch h) hraw
  refine hG ?_; clear hG
  have hps : ps.length ≤ 4 := by lia
  have hfl : (ps.foldl putI []).length ≤ 4 := by simp at hml; lia
  refine me_items (S.muGet (.head _)) hDO.1 ?_
  refine callWith_method0 ?_
  refine d_items S (by rfl) hDO (S.muGet (.head _)) hd5 fun v2 b₆ h₇ t₇ up6 hv2 S => ?_
  replace hT1 := up6 _ _ hT1
  replace hT := hT.up up6
  replace hC := hC.up up6
  refine args_nil ?_
  refine srt_items R'.hd S (by rfl) (S.get hv2) hDO (S.muGet (.head _)) hKV nd (fun x hx => ?_) (by lia) fun aP vP kP b₇ h₈ t₈ haP up7 hP S => ?_
  · obtain ⟨p, hp, rfl⟩ := List.mem_map.mp hx
    exact (hraw2 p hp).1
  replace hT1 := up7 _ _ hT1
  replace hT := hT.up up7
  replace hC := hC.up up7
  refine S.frzK haP fun b₈ up8 gP S => ?_
  replace hT1 := up8 _ _ hT1
  replace hT := hT.up up8
  replace hC := hC.up up8
  replace hP : ListOf b₈ (IsPr b₈) (.ref aP) (toldPairs (ps.foldl putI [])) := ⟨aP, vP, kP, rfl, gP, hP.mono fun _ _ z => z.up up8⟩
  have hPok := told_ok nd hraw2
  replace hPok : PrOk (toldPairs (ps.foldl putI [])) 4 := ⟨Nat.le_trans hPok.1 hfl, hPok.2⟩
  refine st_loc' (by assumption) (by rfl) rfl (by kernel_rfl!) (by kernel_rfl!) fun _ _ S => ?_
  walk_at "x"
  refine wpAny_Return_some ?_
  refine PyProof.Rows.Tuple_ ?_
  walk_at "c"; walk_at "n"; walk_at "c"
  replace S := S.drop
  refine lcomp (cl := [("take", L + 1)]) (by intro _; kernel_rfl!) (by kernel_rfl!) (by kernel_rfl!) (by decide +kernel) ?_
  walk_at "f"
  refine n_range (by assumption) (by kernel_rfl!) (by kernel_rfl!) (by kernel_rfl!) (by kernel_rfl!) ?_
  refine PyProof.Rows.callWith_type1 ?_ (by kernel_rfl!) (by kernel_rfl!)
  walk_at "c"; walk_at "f"
  refine n_cell (by assumption) (by assumption) (by kernel_rfl!) (by kernel_rfl!) (by kernel_rfl!) (by kernel_rfl!) ?_
  rename St _ _ _ _ _ _ _ => S
  refine callWith_def hT2 ?_ (by kernel_rfl!)
  walk_at "c"; walk_at "i"
  refine args_nil ?_
  refine ⟨S.get hT1, ?_⟩
  refine c_take (n := n + 3) R' S.base S.sub hT (S.tu _ (.head _)).2.2.1 (S.muGet (.head _)) ho (by lia) (by decide) fun v8 t o' b' h' t' hv80 hv81 G gg ho => ?_
  have gu := G.up
  replace S := S.call1 (t := t') G gg
  dsimp only at S
  replace hT1 := gu _ _ hT1
  replace hT := hT.up gu
  replace hC := hC.up gu
  replace hP := hP.mono gu fun _ _ z => z.up gu
  refine args_nil ?_
  refine it_range1 R'.hd S (by rfl) hv80 (by lia) fun I oI h₃ t₃ W S => ?_
  refine comp_src W S (by lia) (by decide) rfl (by kernel_rfl!) (fun i b₄ mu ys => ∃ od gss, mu = [(PL, od)] ∧ PlaceO (k + 10 + 5 * i) od ∧ All2 (ListOf b₄ IsI) ys.toList gss ∧ gss.length = i ∧ ∀ gs ∈ gss, SetL gs) ⟨_, [], rfl, ho.le (by lia), .nil, rfl, fun _ h => nomatch h⟩ ?_ ?_
  · intro i v' b₄ mC mu ys tl h₄ t₄ C hi hx1 hx2 hb₄ S
    refine nay fun hG => ?_
    obtain ⟨tt, rfl⟩ := hx1
    obtain ⟨od, gss, rfl, ho, hy, hgl, hgs⟩ := hx2
    refine hG ?_; clear hG
    replace hT1 := hb₄ _ _ hT1
    replace hT := hT.up hb₄
    replace hC := hC.up hb₄
    walk_at "f"
    refine n_law_set (by assumption) (by kernel_rfl!) (by kernel_rfl!) (by kernel_rfl!) ?_
    refine callWith_K (kinH (by assumption)) (by with_reducible exact kp_f_law_set _) ?_ (by kernel_rfl!) (by kernel_rfl!)
    walk_at "c"
    refine n_cell (by assumption) (by assumption) (by kernel_rfl!) (by kernel_rfl!) (by kernel_rfl!) (by kernel_rfl!) ?_
    refine args_nil ?_
    refine And.intro (kinH (by assumption)) ?_
    refine c_law_set (n := n + 1) R' S.base S.sub hT (S.tu _ (.head _)).2.2.1 (S.muGet (.head _)) ho (by lia) fun v gs o' b₅ h₅ t₅ hgs1 G gg ho hv => ?_
    replace S := S.call1 (t := t₅) G gg
    refine turnI (b2 := b₅) (mu2 := [(PL, o')]) rfl ⟨o', gss ++ [gs], rfl, ho, ?_, by simp [hgl], ?_⟩ (fun a o q => G.up _ _ (hb₄ _ _ q)) S
    · rw [Array.toList_push]; exact (hy.mono fun _ _ z => z.up G.up).push hv
    · intro g hg
      rcases List.mem_append.mp hg with q | q
      · exact hgs g q
      · rw [List.mem_singleton.mp q]; exact hgs1
  intro b₄ mu ys8 k4 D8 h₄ t₄ hys hx1 hb₄ S hD8
  refine nay fun hG => ?_
  obtain ⟨od, gss8, rfl, ho, hy8, hgl8, hgs8⟩ := hx1
  refine hG ?_; clear hG
  replace hT1 := hb₄ _ _ hT1
  replace hT := hT.up hb₄
  replace hC := hC.up hb₄
  replace hP := hP.mono hb₄ fun _ _ z => z.up hb₄
  refine S.frzK hD8 fun b₅ up5 gD8 S => ?_
  replace hT1 := up5 _ _ hT1
  replace hT := hT.up up5
  replace hC := hC.up up5
  replace hP := hP.mono up5 fun _ _ z => z.up up5
  have hl8 : ListOf b₅ (ListOf b₅ IsI) (.ref D8) gss8 := ⟨D8, ys8, k4, rfl, gD8, hy8.mono fun _ _ z => z.up up5⟩
  walk_at "c"
  refine lcomp (cl := [("take", L + 1)]) (by intro _; kernel_rfl!) (by kernel_rfl!) (by kernel_rfl!) (by decide +kernel) ?_
  walk_at "f"
  refine n_range (by assumption) (by kernel_rfl!) (by kernel_rfl!) (by kernel_rfl!) (by kernel_rfl!) ?_
  refine PyProof.Rows.callWith_type1 ?_ (by kernel_rfl!) (by kernel_rfl!)
  walk_at "c"; walk_at "f"
  refine n_cell (by assumption) (by assumption) (by kernel_rfl!) (by kernel_rfl!) (by kernel_rfl!) (by kernel_rfl!) ?_
  rename St _ _ _ _ _ _ _ => S
  refine callWith_def hT2 ?_ (by kernel_rfl!)
  walk_at "c"; walk_at "i"
  refine args_nil ?_
  refine ⟨S.get hT1, ?_⟩
  refine c_take (n := n + 3) R' S.base S.sub hT (S.tu _ (.head _)).2.2.1 (S.muGet (.head _)) ho (by lia) (by decide) fun v9 t o' b' h' t' hv90 hv91 G gg ho => ?_
  have gu := G.up
  replace S := S.call1 (t := t') G gg
  dsimp only at S
  replace hT1 := gu _ _ hT1
  replace hT := hT.up gu
  replace hC := hC.up gu
  replace hP := hP.mono gu fun _ _ z => z.up gu
  replace hl8 := hl8.mono gu fun _ _ z => z.up gu
  refine args_nil ?_
  refine it_range1 R'.hd S (by rfl) hv90 (by lia) fun I oI h₃ t₃ W S => ?_
  refine comp_src W S (by lia) (by decide) rfl (by kernel_rfl!) (fun i b₄ mu ys => ∃ od gss, mu = [(PL, od)] ∧ PlaceO (k + 21 + 5 * i) od ∧ All2 (ListOf b₄ IsI) ys.toList gss ∧ gss.length = i ∧ ∀ gs ∈ gss, SetL gs) ⟨_, [], rfl, ho.le (by lia), .nil, rfl, fun _ h => nomatch h⟩ ?_ ?_
  · intro i v' b₄ mC mu ys tl h₄ t₄ C hi hx1 hx2 hb₄ S
    refine nay fun hG => ?_
    obtain ⟨tt, rfl⟩ := hx1
    obtain ⟨od, gss, rfl, ho, hy, hgl, hgs⟩ := hx2
    refine hG ?_; clear hG
    replace hT1 := hb₄ _ _ hT1
    replace hT := hT.up hb₄
    replace hC := hC.up hb₄
    walk_at "f"
    refine n_law_set (by assumption) (by kernel_rfl!) (by kernel_rfl!) (by kernel_rfl!) ?_
    refine callWith_K (kinH (by assumption)) (by with_reducible exact kp_f_law_set _) ?_ (by kernel_rfl!) (by kernel_rfl!)
    walk_at "c"
    refine n_cell (by assumption) (by assumption) (by kernel_rfl!) (by kernel_rfl!) (by kernel_rfl!) (by kernel_rfl!) ?_
    refine args_nil ?_
    refine And.intro (kinH (by assumption)) ?_
    refine c_law_set (n := n + 1) R' S.base S.sub hT (S.tu _ (.head _)).2.2.1 (S.muGet (.head _)) ho (by lia) fun v gs o' b₅ h₅ t₅ hgs1 G gg ho hv => ?_
    replace S := S.call1 (t := t₅) G gg
    refine turnI (b2 := b₅) (mu2 := [(PL, o')]) rfl ⟨o', gss ++ [gs], rfl, ho, ?_, by simp [hgl], ?_⟩ (fun a o q => G.up _ _ (hb₄ _ _ q)) S
    · rw [Array.toList_push]; exact (hy.mono fun _ _ z => z.up G.up).push hv
    · intro g hg
      rcases List.mem_append.mp hg with q | q
      · exact hgs g q
      · rw [List.mem_singleton.mp q]; exact hgs1
  intro b₄ mu ys9 k4 D9 h₄ t₄ hys hx1 hb₄ S hD9
  refine nay fun hG => ?_
  obtain ⟨od, gss9, rfl, ho, hy9, hgl9, hgs9⟩ := hx1
  refine hG ?_; clear hG
  replace hT1 := hb₄ _ _ hT1
  replace hT := hT.up hb₄
  replace hC := hC.up hb₄
  replace hP := hP.mono hb₄ fun _ _ z => z.up hb₄
  replace hl8 := hl8.mono hb₄ fun _ _ z => z.up hb₄
  refine S.frzK hD9 fun b₅ up5 gD9 S => ?_
  replace hT1 := up5 _ _ hT1
  replace hT := hT.up up5
  replace hC := hC.up up5
  replace hP := hP.mono up5 fun _ _ z => z.up up5
  replace hl8 := hl8.mono up5 fun _ _ z => z.up up5
  have hl9 : ListOf b₅ (ListOf b₅ IsI) (.ref D9) gss9 := ⟨D9, ys9, k4, rfl, gD9, hy9.mono fun _ _ z => z.up up5⟩
  refine args_nil ?_
  refine new_tup S (by rfl) (Nat.le_of_ble_eq_true rfl) fun TT b₆ h₆ t₆ up6 hTT S => ?_
  exact K _ _ _ _ _ _ _ _ hPok ⟨by lia, hgs8⟩ ⟨by lia, hgs9⟩ S.grow (S.muGet (.head _)) (ho.le (by lia)) ((⟨TT, _, _, _, rfl, hTT, hP.mono up6 fun _ _ z => z.up up6, hl8.mono up6 fun _ _ z => z.up up6, hl9.mono up6 fun _ _ z => z.up up6⟩))
end
-- LQ
section
variable {w : World} {A : Around} {E : Value → Shared → Prop} {s s0 : Shared} {e : En} {b : PM} {L : Addr} {m : Str → Option Value} {mu : List (Addr × Obj)} {env : Env} {t0 : Nat}
theorem draw_lst {it l : Addr} {items : Array Value} (hne : l ≠ it) : ∀ (n i : Nat) (s : Shared) (Q : List Value → Shared → Prop), s.heap.IsListIter it l i → s.heap.IsList l items → i + n ≤ items.size →
    (∀ h', h'.IsListIter it l (i + n) → Heap.SameBut it s.heap h' → Q ((items.toList.drop i).take n) { s with heap := h' }) → wpAny (model pw w) A (draw (.ref it) n) Q E s
  | 0, i, s, Q, hit, _, _, hQ => by
    show wpAny _ _ (pure []) Q E s
    exact wpAny_pure (by simpa using hQ s.heap hit (Heap.SameBut.refl ..))
  | n + 1, i, s, Q, hit, ht, hle, hQ => by
    have hlt : i < items.size := by lia
    show wpAny _ _ (pyNext (.ref it) >>= _) Q E s
    refine wpAny_bind (wpAny_pyNext_list_item hit ht (x := items[i]) (by simp [hlt]) fun h₁ hit₁ hs₁ => ?_)
    refine wpAny_bind (wpAny_holding (draw_lst hne n (i + 1) _ _ hit₁ (ht.extBut hs₁.extBut hne) (by lia) fun h₂ hit₂ hs₂ => wpAny_pure ?_))
    have hd : items.toList.drop i = items[i] :: items.toList.drop (i + 1) := by simp [List.drop_eq_getElem_cons, hlt]
    have := hQ h₂ (by rw [show i + (n + 1) = i + 1 + n by lia]; exact hit₂) (hs₁.trans hs₂)
    rw [hd, List.take_succ_cons] at this
    exact this
theorem unpack_lst {l : Addr} {items : Array Value} {k : Nat} {Q : List Value → Shared → Prop} (hh : A.handled = none) (hl : s.heap.get? l = some (listOf items k))
    (hQ : ∀ h', Heap.ExtBut s.heap.objs.size s.heap h' → Q items.toList { s with heap := h' }) : wpAny (model pw w) A (unpackItems (.ref l) items.size none) Q E s := by
  have ht : s.heap.IsList l items := ⟨_, hl, rfl, k, rfl⟩
  have hlt : l ≠ s.heap.objs.size := Nat.ne_of_lt (Heap.lt_size hl)
  unfold unpackItems
  refine wpAny_bind ?_
  unfold notIterableAtAll
  refine wpAny_bind (wpAny_specialOf ht.typeIs slot_list_iter.lookup ?_)
  refine wpAny_pure ?_
  simp only [Bool.false_eq_true, if_false]
  refine wpAny_bind (wpAny_holding (wpAny_pyIter_list ht ?_))
  refine wpAny_bind (wpAny_holding (draw_lst hlt items.size 0 _ _ ⟨_, Heap.get?_push_size _ rfl, rfl, rfl⟩ (ht.push _) (by lia) fun h₁ hit₁ hs₁ => ?_))
  have hall : List.take items.size (List.drop 0 items.toList) = items.toList := by
    rw [List.drop_zero]; exact List.take_of_length_le (by simp)
  rw [hall]
  rw [if_neg (by simp)]
  have ht₁ : h₁.IsList l items := (ht.push _).extBut hs₁.extBut hlt
  refine wpAny_bind (wpAny_holding (wpAny_pyNext_list_end hh hit₁ ht₁ (by simp) fun h₂ he₂ => ?_))
  simp only [Option.isSome_none, Bool.false_eq_true, if_false]
  exact wpAny_pure (hQ h₂ fun b o hb e => he₂ b o hb (hs₁.extBut b o hb (Heap.get?_push_of_some _ e)))
theorem as_lst3 {x y z : Str} {p q r pos : Pos} {k k0 : Nat} {T : Addr} {v1 v2 v3 : Value} {Q : Unit → Shared → Prop} (hh : A.handled = none) (S : St w e b L m mu { s0 with heap := s.heap, toks := t0 }) (hq : s = { s0 with heap := s.heap, toks := s.toks }) (hT : s.heap.get? T = some (listOf #[v1, v2, v3] k0)) (hL : env.locals = L)
    (h1 : env.kindOf x = some .local) (h2 : env.kindOf y = some .local) (h3 : env.kindOf z = some .local) (hp : (env.scope.kind == .class || (env.scope.kind == .module && env.locals != env.globals)) = false)
    (h : ∀ h' t', St w e b L (ext (ext (ext m x v1) y v2) z v3) mu { s0 with heap := h', toks := t' } → Q () { s0 with heap := h', toks := t' }) : wpAny (model pw w) A (assign (.Tuple [.Name x p, .Name y q, .Name z r] k pos) env (.ref T)) Q E s := by
  rw [assign_Tuple]
  refine wpAny_bind (wpAny_standAt ?_)
  unfold unpack
  refine wpAny_bind (wpAny_holding (unpack_lst (items := #[v1, v2, v3]) hh hT fun h' hx => ?_))
  have S1 : St w e b L m mu { s0 with heap := h', toks := t0 } := S.ext fun a o g => hx a o (Nat.ne_of_lt (Heap.lt_size g)) g
  refine assignInOrder_cons ?_
  refine as_name (s0 := s0) (t0 := t0) S1 (by rw [hq]) hL h1 hp fun h2' t2 S2 => ?_
  refine assignInOrder_cons ?_
  refine as_name (s0 := s0) (t0 := t2) S2 rfl hL h2 hp fun h3' t3 S3 => ?_
  refine assignInOrder_cons ?_
  exact as_name (s0 := s0) (t0 := t3) S3 rfl hL h3 hp fun h4 t4 S4 => assignInOrder_nil (h _ _ S4)
theorem un_swap2 {x y : Str} {T : Addr} {v1 v2 : Value} {Q : Unit → Shared → Prop} (hh : A.handled = none) (S : St w e b L m mu { s0 with heap := s.heap, toks := t0 }) (hq : s = { s0 with heap := s.heap, toks := s.toks }) (hT : b T = some (tupO #[v1, v2])) (hL : env.locals = L)
    (h1 : env.kindOf x = some .local) (h2 : env.kindOf y = some .local) (hp : (env.scope.kind == .class || (env.scope.kind == .module && env.locals != env.globals)) = false)
    (h : ∀ h' t', St w e b L (ext (ext m y v2) x v1) mu { s0 with heap := h', toks := t' } → Q () { s0 with heap := h', toks := t' }) :
    wpAny (model pw w) A (unpackItems (.ref T) 2 none) (fun items s₂ => wpAny (model pw w) A (assignInOrder (([x, y].reverse).map fun n => bindName env n) items.reverse) Q E s₂) E s := by
  refine unpackItems_tuple (items := #[v1, v2]) hh ⟨_, S.get hT, rfl, 0, rfl⟩ fun h' hx => ?_
  have S1 : St w e b L m mu { s0 with heap := h', toks := t0 } := S.ext fun a o g => hx a o (Nat.ne_of_lt (Heap.lt_size g)) g
  refine assignInOrder_cons (bindName_ ?_)
  refine st_loc' (s0 := s0) (t0 := t0) S1 (by rw [hq]) hL h2 hp fun h2' t2 S2 => ?_
  refine assignInOrder_cons (bindName_ ?_)
  exact st_loc' (s0 := s0) (t0 := t2) S2 rfl hL h1 hp fun h3' t3 S3 => assignInOrder_nil (h _ _ S3)
theorem slc_rev {value slice : Expr} {ops : List Value} {l : Addr} {xs : Array Value} {k : Nat} {t : Tok} {Q : Value → Shared → Prop} (S : St w e b L m mu { s0 with heap := s.heap, toks := t0 }) (hq : s = { s0 with heap := s.heap, toks := s.toks }) (hl : s.heap.get? l = some (listOf xs k)) (hz : xs.size ≤ 10000)
    (hs : subscripted slice false (.ref l) (.ref s.heap.objs.size) = operate ops (getItem (.ref l) (.ref s.heap.objs.size)))
    (h : ∀ a h' t', e.h.objs.size ≤ a → St w e b L m ((a, listOf xs.toList.reverse.toArray 0) :: mu) { s0 with heap := h', toks := t' } → Q (.ref a) { s0 with heap := h', toks := t' }) :
    wpAny (model pw w) A (subscriptTail value slice (.ref l) (.ref s.heap.objs.size)) Q E { s with heap := s.heap.push { cls := .type "slice", data := .fields #[.none, .none, .int (-1) t] } } := by
  have g : (s.heap.push { cls := .type "slice", data := .fields #[.none, .none, .int (-1) t] }).get? l = some (listOf xs k) := Heap.get?_push_of_some _ hl
  have hI : (s.heap.push { cls := .type "slice", data := .fields #[.none, .none, .int (-1) t] }).IsList l xs := ⟨_, g, rfl, k, rfl⟩
  refine sub_of (T := "list") (s := { s with heap := s.heap.push { cls := .type "slice", data := .fields #[.none, .none, .int (-1) t] } }) hI.typeIs slot_list_getitem.lookup (wpAny_getItem_list_slice hI (Heap.IsSliceOf.new _ _ _ _) .none .none (.int _ _) (by decide) ?_ (by rw [sizeLine_eq]; lia)) hs
  rw [krv_pick]
  have S0 : St w e b L m mu { s0 with heap := s.heap.push { cls := .type "slice", data := .fields #[.none, .none, .int (-1) t] }, toks := t0 } := S.ext fun a o q => Heap.get?_push_of_some _ q
  have S1 := S0.pushM (listOf xs.toList.reverse.toArray 0) (t := s.toks)
  have z := h _ _ _ S0.size S1
  rw [hq]
  exact z
end
-- LR
theorem asc_ext : ∀ (xs ys : List Int), xs.Pairwise (· < ·) → ys.Pairwise (· < ·) → (∀ x, x ∈ xs ↔ x ∈ ys) → xs = ys
  | [], [], _, _, _ => rfl
  | [], y :: ys, _, _, h => absurd ((h y).mpr (.head _)) (by simp)
  | x :: xs, [], _, _, h => absurd ((h x).mp (.head _)) (by simp)
  | x :: xs, y :: ys, h1, h2, h => by
    refine nay fun hG => ?_
    obtain ⟨a1, a2⟩ := List.pairwise_cons.mp h1
    obtain ⟨c1, c2⟩ := List.pairwise_cons.mp h2
    refine hG ?_; clear hG
    have e : x = y := by
      rcases List.mem_cons.mp ((h x).mp (.head _)) with q | q
      · exact q
      · rcases List.mem_cons.mp ((h y).mpr (.head _)) with q' | q'
        · exact q'.symm
        · have := c1 x q; have := a1 y q'; lia
    subst e
    rw [asc_ext xs ys a2 c2 fun z => ?_]
    constructor
    · intro hz
      rcases List.mem_cons.mp ((h z).mp (.tail _ hz)) with q | q
      · have := a1 z hz; lia
      · exact q
    · intro hz
      rcases List.mem_cons.mp ((h z).mpr (.tail _ hz)) with q | q
      · have := c1 z hz; lia
      · exact q
theorem push1_spec {acc : List Int} {x : Int} (nd : acc.Nodup) : (push1 acc x).Nodup ∧ ∀ z, z ∈ push1 acc x ↔ z ∈ acc ∨ z = x := by
  unfold push1
  by_cases h : x ∈ acc
  · rw [if_pos (by simpa using h)]
    exact ⟨nd, fun z => ⟨.inl, fun q => q.elim id fun e => e ▸ h⟩⟩
  · rw [if_neg (by simpa using h)]
    refine ⟨List.nodup_append.mpr ⟨nd, by simp, fun a ha c hc q => ?_⟩, fun z => by simp⟩
    rw [List.mem_singleton.mp hc] at q
    exact h (q ▸ ha)
theorem fold_push1 : ∀ (xs acc : List Int), acc.Nodup → (xs.foldl push1 acc).Nodup ∧ ∀ z, z ∈ xs.foldl push1 acc ↔ z ∈ acc ∨ z ∈ xs
  | [], acc, nd => ⟨nd, fun z => by simp⟩
  | x :: xs, acc, nd => by
    refine nay fun hG => ?_
    obtain ⟨n1, m1⟩ := push1_spec (x := x) nd
    obtain ⟨n2, m2⟩ := fold_push1 xs (push1 acc x) n1
    refine hG ?_; clear hG
    refine ⟨n2, fun z => ?_⟩
    rw [List.foldl_cons, m2 z, m1 z, List.mem_cons]
    constructor
    · rintro ((h | h) | h)
      · exact .inl h
      · exact .inr (.inl h)
      · exact .inr (.inr h)
    · rintro (h | h | h)
      · exact .inl (.inl h)
      · exact .inl (.inr h)
      · exact .inr h
theorem gset_spec (xs : List Int) : (gset xs).Pairwise (· < ·) ∧ ∀ z, z ∈ gset xs ↔ z ∈ xs := by
  obtain ⟨n1, m1⟩ := fold_push1 xs [] .nil
  unfold gset
  refine ⟨isort_lt n1, fun z => ?_⟩
  rw [(isort_perm _).mem_iff]
  exact (m1 z).trans (by simp)
theorem gset_rev (xs : List Int) : gset xs.reverse = gset xs := by
  refine nay fun hG => ?_
  obtain ⟨h1, h2⟩ := gset_spec xs
  obtain ⟨h3, h4⟩ := gset_spec xs.reverse
  refine hG ?_; clear hG
  exact asc_ext _ _ h3 h1 fun z => by rw [h4, h2, List.mem_reverse]
theorem putI_new {mp : List (Int × Int)} {p : Int × Int} (h : p.1 ∉ mp.map (·.1)) : putI mp p = mp ++ [p] := by
  unfold putI
  rw [if_neg]
  intro q
  refine nay fun hG => ?_
  obtain ⟨x, hx, e⟩ := List.any_eq_true.mp q
  refine hG ?_; clear hG
  exact h (List.mem_map.mpr ⟨x, hx, by simpa using e⟩)
theorem fold_same : ∀ (ps acc : List (Int × Int)), ((acc ++ ps).map (·.1)).Nodup → ps.foldl putI acc = acc ++ ps
  | [], acc, _ => by simp
  | p :: ps, acc, nd => by
    rw [List.foldl_cons, putI_new, fold_same ps (acc ++ [p]) (by simpa using nd)]
    · simp
    · intro q
      rw [List.map_append, List.nodup_append] at nd
      exact nd.2.2 p.1 q p.1 (by simp) rfl
theorem told_perm {ps P : List (Int × Int)} (hp : ps.Perm P) (ha : (P.map (·.1)).Pairwise (· < ·)) : toldPairs ps = P ∧ (ps.map (·.1)).Nodup := by
  have ndP : (P.map (·.1)).Nodup := ha.imp fun h => by lia
  have nd : (ps.map (·.1)).Nodup := (hp.map _).nodup_iff.mpr ndP
  refine ⟨?_, nd⟩
  have hk : revKeys ps = P.map (·.1) := (isort_eq (hp.map _).symm (ha.imp fun h => by lia)).symm
  unfold toldPairs
  rw [hk, List.map_map]
  have : ∀ p ∈ P, ((fun k => (k, val ps k)) ∘ fun x : Int × Int => x.1) p = p := fun p hp' => by
    obtain ⟨i, hi⟩ := List.mem_iff_getElem?.mp (hp.mem_iff.mpr hp')
    show (p.1, val ps p.1) = p
    rw [val_at nd hi]
  rw [List.map_congr_left this]
  exact List.map_id _
section
variable {w : World} {A : Around} {E : Value → Shared → Prop} {s : Shared} {b : PM} {n : Nat} {Q : Value → Shared → Prop}
theorem c_law_made {T PL : Addr} {k : Nat} {o : Obj} {pv : Value} {P : List (Int × Int)} {Bk Ah : List (List Int)} (R : Room A (n + 5)) (B : Base w b) (hs : ∀ a o, b a = some o → s.heap.get? a = some o)
    (hT : TakerAt b T PL) (hb : b PL = none) (hd : s.heap.get? PL = some o) (ho : PlaceO k o) (hk : k + 1 ≤ 60) (hp : PlanIs b pv P Bk Ah) (hP : PrOk P 6) (hBk : SetsOk Bk 4) (hAh : SetsOk Ah 4)
    (K : ∀ v mp o' b' h' t', toldPairs mp = P → (mp.map (·.1)).Nodup → mp.Perm P → Grow b b' s.heap h' [PL] → h'.get? PL = some o' → PlaceO (k + 1) o' → Rev w b' v mp (Bk.map gset) (Ah.map gset) → Q v { s with heap := h', toks := t' }) :
    wpAny (model pw w) A (call (.ref 455) [.ref T, pv]) Q E s := by
  refine nay fun hG => ?_
  obtain ⟨TT, lp, lb, la, rfl, hTT, hlp, hlb, hla⟩ := hp
  obtain ⟨Dp, vp, kp, rfl, hDp, hvp⟩ := hlp
  obtain ⟨Db, vb, kb, rfl, hDb, hvb⟩ := hlb
  obtain ⟨Da, va, ka, rfl, hDa, hva⟩ := hla
  refine hG ?_; clear hG
  have hvpl : vp.size = P.length := by have := hvp.length; simpa using this
  have hvbl : vb.size = Bk.length := by have := hvb.length; simpa using this
  have hval : va.size = Ah.length := by have := hva.length; simpa using this
  have hPl := hP.1
  have hBl := hBk.1
  have hAl := hAh.1
  refine in_law_made (body := _) rfl R B hs [(PL, o)] (one_mu hd hb) one_nd ?_
  intro L h₁ t₁ hL S R'
  dsimp only [extL] at S
  refine nay fun hG => ?_
  obtain ⟨oT, fdT, hT1, hT2⟩ := hT.fn
  refine hG ?_; clear hG
  walk_at "x"
  refine PyProof.Rows.Assign_Tuple ?_ (by kernel_rfl!) (by kernel_rfl!)
  walk_at "n"
  refine as_tup3 R'.hd S (by rfl) hTT rfl (by kernel_rfl!) (by kernel_rfl!) (by kernel_rfl!) (by kernel_rfl!) fun h₂ t₂ S => ?_
  walk_at "x"
  refine wpAny_If ?_
  walk_at "q"; walk_at "f"; walk_at "n"
  refine callWith_def hT2 ?_ (by kernel_rfl!)
  walk_at "c"; walk_at "i"
  refine args_nil ?_
  refine ⟨S.get hT1, ?_⟩
  refine c_take (n := n + 3) R' S.base S.sub hT (S.tu _ (.head _)).2.2.1 (S.muGet (.head _)) ho (by lia) (by decide) fun v t o' b' h' t' hv0 hv1 G gg ho => ?_
  have gu := G.up
  replace S := S.call1 (t := t') G gg
  dsimp only at S
  replace hT1 := gu _ _ hT1
  replace hDp := gu _ _ hDp
  replace hDb := gu _ _ hDb
  replace hDa := gu _ _ hDa
  replace hT := hT.up gu
  replace hvb := hvb.mono fun _ _ z => z.up gu
  replace hva := hva.mono fun _ _ z => z.up gu
  replace hvp := hvp.mono fun _ _ z => z.up gu
  walk_at "i"
  with_reducible refine eq_int ?_
  walk_at "t"
  by_cases hv : v = 1
  · subst hv
    refine ite_yes (by rfl) ?_
    walk_at "x"
    refine wpAny_Assign_Name ?_ (by kernel_rfl!)
    refine Subscript_ ?_
    walk_at "n"
    refine wpAny_Slice ?_
    with_reducible refine evalPart_none_step ?_
    with_reducible refine evalPart_none_step ?_
    with_reducible refine evalPart_some_step ?_
    refine PyProof.Rows.UnaryOp_ ?_
    walk_at "i"
    with_reducible refine PyProof.Rows.neg_int ?_
    rename St _ _ _ _ _ _ _ => S
    refine slc_rev S (by rfl) (S.get hDp) (by lia) (ops := [.ref Dp, .ref _]) (by with_unfolding_all rfl) fun Dr h₃ t₃ hDr S => ?_
    refine S.frzK hDr fun b₃ up3 gDr S => ?_
    replace hT1 := up3 _ _ hT1
    replace hDb := up3 _ _ hDb
    replace hDa := up3 _ _ hDa
    replace hT := hT.up up3
    replace hvb := hvb.mono fun _ _ z => z.up up3
    replace hva := hva.mono fun _ _ z => z.up up3
    have hvr := (hvp.mono fun _ _ z => z.up up3).reverse
    refine st_loc' (by assumption) (by rfl) rfl (by kernel_rfl!) (by kernel_rfl!) fun _ _ S => ?_
    walk_at "z"; walk_at "x"
    refine wpAny_Return_some ?_
    walk_at "f"
    refine n_Reverse (by assumption) (by kernel_rfl!) (by kernel_rfl!) (by kernel_rfl!) ?_
    refine callWith_K (kinH (by assumption)) (by with_reducible exact kp_Reverse _) ?_ (by kernel_rfl!) (by kernel_rfl!)
    walk_at "c"; walk_at "f"
    refine n_dict (by assumption) (by kernel_rfl!) (by kernel_rfl!) (by kernel_rfl!) (by kernel_rfl!) ?_
    refine PyProof.Rows.callWith_type1 ?_ (by kernel_rfl!) (by kernel_rfl!)
    walk_at "c"; walk_at "n"
    refine args_nil ?_
    refine d_pairs (ps := P.reverse) R'.hd S (by rfl) (S.get gDr) (by simpa using hvr) (by first | lia | (rw [List.length_reverse]; lia)) fun d oD kvs h₆ t₆ hdn hd5 hDO hKV hkl S => ?_
    obtain ⟨tp, ndp⟩ := told_perm (ps := P.reverse) (P := P) (List.reverse_perm P) hP.2.1
    rw [fold_same P.reverse [] (by simpa using ndp), List.nil_append] at hKV
    refine S.frzK hdn fun b₇ up7 gD7 S => ?_
    have hM : MapO w b₇ (.ref d) (P.reverse) := ⟨d, oD, kvs, rfl, hd5, gD7, hDO, hKV⟩
    replace hT1 := up7 _ _ hT1
    replace hDb := up7 _ _ hDb
    replace hDa := up7 _ _ hDa
    replace hT := hT.up up7
    replace hvb := hvb.mono fun _ _ z => z.up up7
    replace hva := hva.mono fun _ _ z => z.up up7
    walk_at "c"; walk_at "f"
    refine n_tuple (by assumption) (by kernel_rfl!) (by kernel_rfl!) (by kernel_rfl!) (by kernel_rfl!) ?_
    refine PyProof.Rows.callWith_type1 ?_ (by kernel_rfl!) (by kernel_rfl!)
    walk_at "c"
    refine lcomp (cl := []) (by intro _; kernel_rfl!) (by kernel_rfl!) (by kernel_rfl!) (by decide +kernel) ?_
    walk_at "n"
    rename St _ _ _ _ _ _ _ => S
    refine it_list R'.hd S (by rfl) hDb fun I1 oI1 h₈ t₈ W1 S => ?_
    refine comp_src W1 S (by lia) (by decide) rfl (by kernel_rfl!) (fun i b₄ mu ys => mu = [(PL, o')] ∧ All2 (Cov w.params b₄) ys.toList ((Bk.map gset).take i)) ⟨rfl, .nil⟩ ?_ ?_
    · rintro i v b₄ mC mu ys tl h₄ t₄ C hi hv ⟨rfl, hy⟩ hb₄ S
      refine nay fun hG => ?_
      obtain ⟨gs, hg, hgv⟩ := hvb.get (by rw [Array.getElem?_toList]; exact hv)
      refine hG ?_; clear hG
      replace hgv := hgv.up hb₄
      refine nay fun hG => ?_
      obtain ⟨Dg, vg, kg, rfl, hDg, hvg⟩ := id hgv
      refine hG ?_; clear hG
      walk_at "f"
      refine n_coverage_of (by assumption) (by kernel_rfl!) (by kernel_rfl!) (by kernel_rfl!) ?_
      refine callWith_K (kinH (by assumption)) (by with_reducible exact kp_f_coverage_of _) ?_ (by kernel_rfl!) (by kernel_rfl!)
      walk_at "c"; walk_at "n"
      refine args_nil ?_
      refine And.intro (kinH (by assumption)) ?_
      rename St _ _ _ _ _ _ _ => S
      refine c_coverage_of (n := n) R' S.base S.sub hgv (by have := (hBk.2 gs (List.mem_of_getElem? hg)).1; lia) fun r b₅ h₅ t₅ G hr => ?_
      replace S := S.call0 (t := t₅) G
      refine turnI (b2 := b₅) (mu2 := [(PL, o')]) rfl ⟨rfl, ?_⟩ (fun a o q => G.up _ _ (hb₄ _ _ q)) S
      rw [Array.toList_push]
      exact (hy.mono fun _ _ z => z.up G.up).push_take (by rw [List.getElem?_map, hg]; rfl) hr
    rintro b₄ mu ys1 k1 D1 h₄ t₄ hys1 ⟨rfl, hy1⟩ hb₄ S hD1
    rw [List.take_of_length_le (by rw [List.length_map]; lia)] at hy1
    replace hT1 := hb₄ _ _ hT1
    replace hDa := hb₄ _ _ hDa
    replace hT := hT.up hb₄
    replace hM := hM.up hb₄
    replace hva := hva.mono fun _ _ z => z.up hb₄
    refine S.frzK hD1 fun b₅ up5 gD1 S => ?_
    replace hT1 := up5 _ _ hT1
    replace hDa := up5 _ _ hDa
    replace hT := hT.up up5
    replace hM := hM.up up5
    replace hva := hva.mono fun _ _ z => z.up up5
    refine args_nil ?_
    refine tup_list (P := Cov w.params b₅) S (by rfl) (S.get gD1) (hy1.mono fun _ _ z => z.up up5) (by lia) fun a1 b₆ h₆ t₆ up6 ht1 S => ?_
    replace ht1 := ht1.mono (fun _ _ q => q) fun _ _ z => z.up up6
    replace hT1 := up6 _ _ hT1
    replace hDa := up6 _ _ hDa
    replace hT := hT.up up6
    replace hM := hM.up up6
    replace hva := hva.mono fun _ _ z => z.up up6
    walk_at "c"; walk_at "f"
    refine n_tuple (by assumption) (by kernel_rfl!) (by kernel_rfl!) (by kernel_rfl!) (by kernel_rfl!) ?_
    refine PyProof.Rows.callWith_type1 ?_ (by kernel_rfl!) (by kernel_rfl!)
    walk_at "c"
    refine lcomp (cl := []) (by intro _; kernel_rfl!) (by kernel_rfl!) (by kernel_rfl!) (by decide +kernel) ?_
    walk_at "n"
    rename St _ _ _ _ _ _ _ => S
    refine it_list R'.hd S (by rfl) hDa fun I2 oI2 h₈ t₈ W2 S => ?_
    refine comp_src W2 S (by lia) (by decide) rfl (by kernel_rfl!) (fun i b₄ mu ys => mu = [(PL, o')] ∧ All2 (Cov w.params b₄) ys.toList ((Ah.map gset).take i)) ⟨rfl, .nil⟩ ?_ ?_
    · rintro i v b₄ mC mu ys tl h₄ t₄ C hi hv ⟨rfl, hy⟩ hb₄ S
      refine nay fun hG => ?_
      obtain ⟨gs, hg, hgv⟩ := hva.get (by rw [Array.getElem?_toList]; exact hv)
      refine hG ?_; clear hG
      replace hgv := hgv.up hb₄
      refine nay fun hG => ?_
      obtain ⟨Dg, vg, kg, rfl, hDg, hvg⟩ := id hgv
      refine hG ?_; clear hG
      have hgl := (hAh.2 gs (List.mem_of_getElem? hg)).1
      have hvgl : vg.size = gs.length := by have := hvg.length; simpa using this
      walk_at "f"
      refine n_coverage_of (by assumption) (by kernel_rfl!) (by kernel_rfl!) (by kernel_rfl!) ?_
      refine callWith_K (kinH (by assumption)) (by with_reducible exact kp_f_coverage_of _) ?_ (by kernel_rfl!) (by kernel_rfl!)
      walk_at "c"
      refine Subscript_ ?_
      walk_at "n"
      refine wpAny_Slice ?_
      with_reducible refine evalPart_none_step ?_
      with_reducible refine evalPart_none_step ?_
      with_reducible refine evalPart_some_step ?_
      refine PyProof.Rows.UnaryOp_ ?_
      walk_at "i"
      with_reducible refine PyProof.Rows.neg_int ?_
      rename St _ _ _ _ _ _ _ => S
      refine slc_rev S (by rfl) (S.get hDg) (by lia) (ops := [.ref Dg, .ref _]) (by with_unfolding_all rfl) fun Dr2 h₉ t₉ hDr2 S => ?_
      refine S.frzK hDr2 fun b₉ up9 gDr2 S => ?_
      refine args_nil ?_
      refine And.intro (kinH (by assumption)) ?_
      refine c_coverage_of (n := n) (xs := gs.reverse) R' S.base S.sub ⟨Dr2, _, _, rfl, gDr2, by simpa using hvg.reverse⟩ (by rw [List.length_reverse]; lia) fun r b₅ h₅ t₅ G hr => ?_
      rw [gset_rev] at hr
      replace S := S.call0 (t := t₅) G
      refine turnI (b2 := b₅) (mu2 := [(PL, o')]) rfl ⟨rfl, ?_⟩ (fun a o q => G.up _ _ (up9 _ _ (hb₄ _ _ q))) S
      rw [Array.toList_push]
      exact (hy.mono fun _ _ z => (z.up up9).up G.up).push_take (by rw [List.getElem?_map, hg]; rfl) hr
    rintro b₄ mu ys2 k2 D2 h₄ t₄ hys2 ⟨rfl, hy2⟩ hb₄ S hD2
    rw [List.take_of_length_le (by rw [List.length_map]; lia)] at hy2
    replace hM := hM.up hb₄
    replace ht1 := ht1.mono hb₄ fun _ _ z => z.up hb₄
    refine S.frzK hD2 fun b₅ up5 gD2 S => ?_
    replace hM := hM.up up5
    replace ht1 := ht1.mono up5 fun _ _ z => z.up up5
    refine args_nil ?_
    refine tup_list (P := Cov w.params b₅) S (by rfl) (S.get gD2) (hy2.mono fun _ _ z => z.up up5) (by lia) fun a2 b₆ h₆ t₆ up6 ht2 S => ?_
    replace ht2 := ht2.mono (fun _ _ q => q) fun _ _ z => z.up up6
    replace ht1 := ht1.mono up6 fun _ _ z => z.up up6
    replace hM := hM.up up6
    refine args_nil ?_
    refine And.intro (kinH (by assumption)) ?_
    refine c_new_rev (n := n + 1) R' S.base S.sub hM ht1 ht2 fun v b' h' t' G hv => ?_
    replace S := S.call0 (t := t') G
    dsimp only at S
    exact K _ _ _ _ _ _ tp ndp (List.reverse_perm P) S.grow (S.muGet (.head _)) ho hv
  · refine ite_no (by simpa using hv) ?_
    walk_at "z"; walk_at "x"
    refine wpAny_Return_some ?_
    walk_at "f"
    refine n_Reverse (by assumption) (by kernel_rfl!) (by kernel_rfl!) (by kernel_rfl!) ?_
    refine callWith_K (kinH (by assumption)) (by with_reducible exact kp_Reverse _) ?_ (by kernel_rfl!) (by kernel_rfl!)
    walk_at "c"; walk_at "f"
    refine n_dict (by assumption) (by kernel_rfl!) (by kernel_rfl!) (by kernel_rfl!) (by kernel_rfl!) ?_
    refine PyProof.Rows.callWith_type1 ?_ (by kernel_rfl!) (by kernel_rfl!)
    walk_at "c"; walk_at "n"
    refine args_nil ?_
    rename St _ _ _ _ _ _ _ => S
    refine d_pairs (ps := P) R'.hd S (by rfl) (S.get hDp) (hvp) (by first | lia | (rw [List.length_reverse]; lia)) fun d oD kvs h₆ t₆ hdn hd5 hDO hKV hkl S => ?_
    obtain ⟨tp, ndp⟩ := told_perm (ps := P) (P := P) (List.Perm.refl P) hP.2.1
    rw [fold_same P [] (by simpa using ndp), List.nil_append] at hKV
    refine S.frzK hdn fun b₇ up7 gD7 S => ?_
    have hM : MapO w b₇ (.ref d) (P) := ⟨d, oD, kvs, rfl, hd5, gD7, hDO, hKV⟩
    replace hT1 := up7 _ _ hT1
    replace hDb := up7 _ _ hDb
    replace hDa := up7 _ _ hDa
    replace hT := hT.up up7
    replace hvb := hvb.mono fun _ _ z => z.up up7
    replace hva := hva.mono fun _ _ z => z.up up7
    walk_at "c"; walk_at "f"
    refine n_tuple (by assumption) (by kernel_rfl!) (by kernel_rfl!) (by kernel_rfl!) (by kernel_rfl!) ?_
    refine PyProof.Rows.callWith_type1 ?_ (by kernel_rfl!) (by kernel_rfl!)
    walk_at "c"
    refine lcomp (cl := []) (by intro _; kernel_rfl!) (by kernel_rfl!) (by kernel_rfl!) (by decide +kernel) ?_
    walk_at "n"
    rename St _ _ _ _ _ _ _ => S
    refine it_list R'.hd S (by rfl) hDb fun I1 oI1 h₈ t₈ W1 S => ?_
    refine comp_src W1 S (by lia) (by decide) rfl (by kernel_rfl!) (fun i b₄ mu ys => mu = [(PL, o')] ∧ All2 (Cov w.params b₄) ys.toList ((Bk.map gset).take i)) ⟨rfl, .nil⟩ ?_ ?_
    · rintro i v b₄ mC mu ys tl h₄ t₄ C hi hv ⟨rfl, hy⟩ hb₄ S
      refine nay fun hG => ?_
      obtain ⟨gs, hg, hgv⟩ := hvb.get (by rw [Array.getElem?_toList]; exact hv)
      refine hG ?_; clear hG
      replace hgv := hgv.up hb₄
      refine nay fun hG => ?_
      obtain ⟨Dg, vg, kg, rfl, hDg, hvg⟩ := id hgv
      refine hG ?_; clear hG
      walk_at "f"
      refine n_coverage_of (by assumption) (by kernel_rfl!) (by kernel_rfl!) (by kernel_rfl!) ?_
      refine callWith_K (kinH (by assumption)) (by with_reducible exact kp_f_coverage_of _) ?_ (by kernel_rfl!) (by kernel_rfl!)
      walk_at "c"; walk_at "n"
      refine args_nil ?_
      refine And.intro (kinH (by assumption)) ?_
      rename St _ _ _ _ _ _ _ => S
      refine c_coverage_of (n := n) R' S.base S.sub hgv (by have := (hBk.2 gs (List.mem_of_getElem? hg)).1; lia) fun r b₅ h₅ t₅ G hr => ?_
      replace S := S.call0 (t := t₅) G
      refine turnI (b2 := b₅) (mu2 := [(PL, o')]) rfl ⟨rfl, ?_⟩ (fun a o q => G.up _ _ (hb₄ _ _ q)) S
      rw [Array.toList_push]
      exact (hy.mono fun _ _ z => z.up G.up).push_take (by rw [List.getElem?_map, hg]; rfl) hr
    rintro b₄ mu ys1 k1 D1 h₄ t₄ hys1 ⟨rfl, hy1⟩ hb₄ S hD1
    rw [List.take_of_length_le (by rw [List.length_map]; lia)] at hy1
    replace hT1 := hb₄ _ _ hT1
    replace hDa := hb₄ _ _ hDa
    replace hT := hT.up hb₄
    replace hM := hM.up hb₄
    replace hva := hva.mono fun _ _ z => z.up hb₄
    refine S.frzK hD1 fun b₅ up5 gD1 S => ?_
    replace hT1 := up5 _ _ hT1
    replace hDa := up5 _ _ hDa
    replace hT := hT.up up5
    replace hM := hM.up up5
    replace hva := hva.mono fun _ _ z => z.up up5
    refine args_nil ?_
    refine tup_list (P := Cov w.params b₅) S (by rfl) (S.get gD1) (hy1.mono fun _ _ z => z.up up5) (by lia) fun a1 b₆ h₆ t₆ up6 ht1 S => ?_
    replace ht1 := ht1.mono (fun _ _ q => q) fun _ _ z => z.up up6
    replace hT1 := up6 _ _ hT1
    replace hDa := up6 _ _ hDa
    replace hT := hT.up up6
    replace hM := hM.up up6
    replace hva := hva.mono fun _ _ z => z.up up6
    walk_at "c"; walk_at "f"
    refine n_tuple (by assumption) (by kernel_rfl!) (by kernel_rfl!) (by kernel_rfl!) (by kernel_rfl!) ?_
    refine PyProof.Rows.callWith_type1 ?_ (by kernel_rfl!) (by kernel_rfl!)
    walk_at "c"
    refine lcomp (cl := []) (by intro _; kernel_rfl!) (by kernel_rfl!) (by kernel_rfl!) (by decide +kernel) ?_
    walk_at "n"
    rename St _ _ _ _ _ _ _ => S
    refine it_list R'.hd S (by rfl) hDa fun I2 oI2 h₈ t₈ W2 S => ?_
    refine comp_src W2 S (by lia) (by decide) rfl (by kernel_rfl!) (fun i b₄ mu ys => mu = [(PL, o')] ∧ All2 (Cov w.params b₄) ys.toList ((Ah.map gset).take i)) ⟨rfl, .nil⟩ ?_ ?_
    · rintro i v b₄ mC mu ys tl h₄ t₄ C hi hv ⟨rfl, hy⟩ hb₄ S
      refine nay fun hG => ?_
      obtain ⟨gs, hg, hgv⟩ := hva.get (by rw [Array.getElem?_toList]; exact hv)
      refine hG ?_; clear hG
      replace hgv := hgv.up hb₄
      refine nay fun hG => ?_
      obtain ⟨Dg, vg, kg, rfl, hDg, hvg⟩ := id hgv
      refine hG ?_; clear hG
      have hgl := (hAh.2 gs (List.mem_of_getElem? hg)).1
      have hvgl : vg.size = gs.length := by have := hvg.length; simpa using this
      walk_at "f"
      refine n_coverage_of (by assumption) (by kernel_rfl!) (by kernel_rfl!) (by kernel_rfl!) ?_
      refine callWith_K (kinH (by assumption)) (by with_reducible exact kp_f_coverage_of _) ?_ (by kernel_rfl!) (by kernel_rfl!)
      walk_at "c"
      refine Subscript_ ?_
      walk_at "n"
      refine wpAny_Slice ?_
      with_reducible refine evalPart_none_step ?_
      with_reducible refine evalPart_none_step ?_
      with_reducible refine evalPart_some_step ?_
      refine PyProof.Rows.UnaryOp_ ?_
      walk_at "i"
      with_reducible refine PyProof.Rows.neg_int ?_
      rename St _ _ _ _ _ _ _ => S
      refine slc_rev S (by rfl) (S.get hDg) (by lia) (ops := [.ref Dg, .ref _]) (by with_unfolding_all rfl) fun Dr2 h₉ t₉ hDr2 S => ?_
      refine S.frzK hDr2 fun b₉ up9 gDr2 S => ?_
      refine args_nil ?_
      refine And.intro (kinH (by assumption)) ?_
      refine c_coverage_of (n := n) (xs := gs.reverse) R' S.base S.sub ⟨Dr2, _, _, rfl, gDr2, by simpa using hvg.reverse⟩ (by rw [List.length_reverse]; lia) fun r b₅ h₅ t₅ G hr => ?_
      rw [gset_rev] at hr
      replace S := S.call0 (t := t₅) G
      refine turnI (b2 := b₅) (mu2 := [(PL, o')]) rfl ⟨rfl, ?_⟩ (fun a o q => G.up _ _ (up9 _ _ (hb₄ _ _ q))) S
      rw [Array.toList_push]
      exact (hy.mono fun _ _ z => (z.up up9).up G.up).push_take (by rw [List.getElem?_map, hg]; rfl) hr
    rintro b₄ mu ys2 k2 D2 h₄ t₄ hys2 ⟨rfl, hy2⟩ hb₄ S hD2
    rw [List.take_of_length_le (by rw [List.length_map]; lia)] at hy2
    replace hM := hM.up hb₄
    replace ht1 := ht1.mono hb₄ fun _ _ z => z.up hb₄
    refine S.frzK hD2 fun b₅ up5 gD2 S => ?_
    replace hM := hM.up up5
    replace ht1 := ht1.mono up5 fun _ _ z => z.up up5
    refine args_nil ?_
    refine tup_list (P := Cov w.params b₅) S (by rfl) (S.get gD2) (hy2.mono fun _ _ z => z.up up5) (by lia) fun a2 b₆ h₆ t₆ up6 ht2 S => ?_
    replace ht2 := ht2.mono (fun _ _ q => q) fun _ _ z => z.up up6
    replace ht1 := ht1.mono up6 fun _ _ z => z.up up6
    replace hM := hM.up up6
    refine args_nil ?_
    refine And.intro (kinH (by assumption)) ?_
    refine c_new_rev (n := n + 1) R' S.base S.sub hM ht1 ht2 fun v b' h' t' G hv => ?_
    replace S := S.call0 (t := t') G
    dsimp only at S
    exact K _ _ _ _ _ _ tp ndp (List.Perm.refl P) S.grow (S.muGet (.head _)) ho hv
end
-- LS
noncomputable def MeansIs (w : World) (b : PM) (v : Value) (md : Addr) (P : List (Int × Int)) (B C : List (List Int)) : Prop :=
  ∃ T lb la, v = .ref T ∧ b T = some (tupO #[.ref md, lb, la]) ∧ MapO w b (.ref md) P ∧ ListOf b (ListOf b IsI) lb B ∧ ListOf b (ListOf b IsI) la C
theorem MeansIs.up {w : World} {b b' : PM} {v : Value} {md : Addr} {P : List (Int × Int)} {B C : List (List Int)} (h : MeansIs w b v md P B C) (hb : ∀ a o, b a = some o → b' a = some o) : MeansIs w b' v md P B C := by
  refine nay fun hG => ?_
  obtain ⟨T, lb, la, e, g, h1, h2, h3⟩ := h
  refine hG ?_; clear hG
  exact ⟨T, lb, la, e, hb _ _ g, h1.up hb, h2.mono hb fun _ _ z => z.up hb, h3.mono hb fun _ _ z => z.up hb⟩
theorem stepS_fold : ∀ (xs acc acc' : List Int), acc.Perm acc' → (xs.foldl stepS acc).Perm (xs.foldl push1 acc')
  | [], _, _, h => h
  | x :: xs, _, _, h => stepS_fold xs _ _ (stepS_perm h x)
theorem isort_step (xs : List Int) : isort (xs.foldl stepS []) = gset xs := by
  have p := stepS_fold xs [] [] (.refl _)
  exact isort_eq ((isort_perm _).trans p) (isort_sorted _)
section
variable {w : World} {A : Around} {E : Value → Shared → Prop} {s : Shared} {b : PM} {n : Nat} {Q : Value → Shared → Prop}
theorem c_law_means {pv : Value} {P : List (Int × Int)} {Bk Ah : List (List Int)} (R : Room A (n + 2)) (B : Base w b) (hs : ∀ a o, b a = some o → s.heap.get? a = some o)
    (hp : PlanIs b pv P Bk Ah) (hP : PrOk P 6) (hBk : SetsOk Bk 4) (hAh : SetsOk Ah 4)
    (K : ∀ v md b' h' t', s.heap.objs.size ≤ md → Grow b b' s.heap h' [] → MeansIs w b' v md P (Bk.map gset) (Ah.map gset) → Q v { s with heap := h', toks := t' }) :
    wpAny (model pw w) A (call (.ref 460) [pv]) Q E s := by
  refine nay fun hG => ?_
  obtain ⟨TT, lp, lb, la, rfl, hTT, hlp, hlb, hla⟩ := hp
  obtain ⟨Dp, vp, kp, rfl, hDp, hvp⟩ := hlp
  obtain ⟨Db, vb, kb, rfl, hDb, hvb⟩ := hlb
  obtain ⟨Da, va, ka, rfl, hDa, hva⟩ := hla
  refine hG ?_; clear hG
  have hvpl : vp.size = P.length := by have := hvp.length; simpa using this
  have hvbl : vb.size = Bk.length := by have := hvb.length; simpa using this
  have hval : va.size = Ah.length := by have := hva.length; simpa using this
  have hPl := hP.1
  have hBl := hBk.1
  have hAl := hAh.1
  have ndP : (P.map (·.1)).Nodup := hP.2.1.imp fun h => by lia
  refine in_law_means (body := _) rfl R B hs [] (fun _ h => bbot h) List.nodup_nil ?_
  intro L h₁ t₁ hL S R'
  dsimp only [extL] at S
  walk_at "x"
  refine wpAny_Return_some ?_
  refine PyProof.Rows.Tuple_ ?_
  walk_at "c"; walk_at "f"
  refine n_dict (by assumption) (by kernel_rfl!) (by kernel_rfl!) (by kernel_rfl!) (by kernel_rfl!) ?_
  refine PyProof.Rows.callWith_type1 ?_ (by kernel_rfl!) (by kernel_rfl!)
  walk_at "c"
  refine Subscript_ ?_
  walk_at "n"; walk_at "i"
  refine sub_tup S hTT (by decide) (Nat.le_of_ble_eq_true rfl) (v := .ref Dp) (by rfl) ?_ (by with_unfolding_all rfl)
  refine args_nil ?_
  refine d_pairs (ps := P) R'.hd S (by rfl) (S.get hDp) hvp (by lia) fun d oD kvs h₆ t₆ hdn hd5 hDO hKV hkl S => ?_
  rw [fold_same P [] (by simpa using ndP), List.nil_append] at hKV
  refine S.frzK hdn fun b₇ up7 gD7 S => ?_
  have hM : MapO w b₇ (.ref d) P := ⟨d, oD, kvs, rfl, hd5, gD7, hDO, hKV⟩
  replace hTT := up7 _ _ hTT
  replace hDb := up7 _ _ hDb
  replace hDa := up7 _ _ hDa
  replace hvb := hvb.mono fun _ _ z => z.up up7
  replace hva := hva.mono fun _ _ z => z.up up7
  walk_at "c"
  refine lcomp (cl := []) (by intro _; kernel_rfl!) (by kernel_rfl!) (by kernel_rfl!) (by decide +kernel) ?_
  refine Subscript_ ?_
  walk_at "n"; walk_at "i"
  rename St _ _ _ _ _ _ _ => S
  refine sub_tup S hTT (by decide) (Nat.le_of_ble_eq_true rfl) (v := .ref Db) (by rfl) ?_ (by with_unfolding_all rfl)
  refine it_list R'.hd S (by rfl) hDb fun I1 oI1 h₈ t₈ W1 S => ?_
  refine comp_src W1 S (by lia) (by decide) rfl (by kernel_rfl!) (fun i b₄ mu ys => mu = [] ∧ All2 (ListOf b₄ IsI) ys.toList ((Bk.map gset).take i)) ⟨rfl, .nil⟩ ?_ ?_
  · rintro i v b₄ mC mu ys tl h₄ t₄ C hi hv ⟨rfl, hy⟩ hb₄ S
    refine nay fun hG => ?_
    obtain ⟨gs, hg, hgv⟩ := hvb.get (by rw [Array.getElem?_toList]; exact hv)
    refine hG ?_; clear hG
    replace hgv := hgv.up hb₄
    refine nay fun hG => ?_
    obtain ⟨Dg, vg, kg, rfl, hDg, hvg⟩ := hgv
    obtain ⟨hgl, hgb⟩ := hBk.2 gs (List.mem_of_getElem? hg)
    refine hG ?_; clear hG
    walk_at "f"
    refine n_sorted (by assumption) (by kernel_rfl!) (by kernel_rfl!) (by kernel_rfl!) (by kernel_rfl!) ?_
    refine PyProof.Rows.callWith_builtin1 ?_ (by kernel_rfl!) (by kernel_rfl!)
    walk_at "c"; walk_at "f"
    refine n_set (by assumption) (by kernel_rfl!) (by kernel_rfl!) (by kernel_rfl!) (by kernel_rfl!) ?_
    refine PyProof.Rows.callWith_type1 ?_ (by kernel_rfl!) (by kernel_rfl!)
    walk_at "c"; walk_at "n"
    refine args_nil ?_
    rename St _ _ _ _ _ _ _ => S
    refine set_list R'.hd S (by rfl) (S.get hDg) hvg hgl hgb fun dS oS h₉ t₉ hdSn hdS5 hX S => ?_
    refine args_nil ?_
    refine srt_set R'.hd S (by rfl) hX (S.muGet (.head _)) fun a b₅ h₅ t₅ up5 ha S => ?_
    rw [isort_step] at ha
    refine turnI (b2 := b₅) (mu2 := []) rfl ⟨rfl, ?_⟩ (fun a o q => up5 _ _ (hb₄ _ _ q)) S.drop
    rw [Array.toList_push]
    exact (hy.mono fun _ _ z => z.up up5).push_take (by rw [List.getElem?_map, hg]; rfl) ha
  rintro b₄ mu ys1 k1 D1 h₄ t₄ hys1 ⟨rfl, hy1⟩ hb₄ S hD1
  rw [List.take_of_length_le (by rw [List.length_map]; lia)] at hy1
  replace hTT := hb₄ _ _ hTT
  replace hDa := hb₄ _ _ hDa
  replace hM := hM.up hb₄
  replace hva := hva.mono fun _ _ z => z.up hb₄
  refine S.frzK hD1 fun b₅ up5 gD1 S => ?_
  replace hTT := up5 _ _ hTT
  replace hDa := up5 _ _ hDa
  replace hM := hM.up up5
  replace hva := hva.mono fun _ _ z => z.up up5
  have hl1 : ListOf b₅ (ListOf b₅ IsI) (.ref D1) (Bk.map gset) := ⟨D1, ys1, k1, rfl, gD1, hy1.mono fun _ _ z => z.up up5⟩
  walk_at "c"
  refine lcomp (cl := []) (by intro _; kernel_rfl!) (by kernel_rfl!) (by kernel_rfl!) (by decide +kernel) ?_
  refine Subscript_ ?_
  walk_at "n"; walk_at "i"
  rename St _ _ _ _ _ _ _ => S
  refine sub_tup S hTT (by decide) (Nat.le_of_ble_eq_true rfl) (v := .ref Da) (by rfl) ?_ (by with_unfolding_all rfl)
  refine it_list R'.hd S (by rfl) hDa fun I2 oI2 h₈ t₈ W2 S => ?_
  refine comp_src W2 S (by lia) (by decide) rfl (by kernel_rfl!) (fun i b₄ mu ys => mu = [] ∧ All2 (ListOf b₄ IsI) ys.toList ((Ah.map gset).take i)) ⟨rfl, .nil⟩ ?_ ?_
  · rintro i v b₄ mC mu ys tl h₄ t₄ C hi hv ⟨rfl, hy⟩ hb₄ S
    refine nay fun hG => ?_
    obtain ⟨gs, hg, hgv⟩ := hva.get (by rw [Array.getElem?_toList]; exact hv)
    refine hG ?_; clear hG
    replace hgv := hgv.up hb₄
    refine nay fun hG => ?_
    obtain ⟨Dg, vg, kg, rfl, hDg, hvg⟩ := hgv
    obtain ⟨hgl, hgb⟩ := hAh.2 gs (List.mem_of_getElem? hg)
    refine hG ?_; clear hG
    walk_at "f"
    refine n_sorted (by assumption) (by kernel_rfl!) (by kernel_rfl!) (by kernel_rfl!) (by kernel_rfl!) ?_
    refine PyProof.Rows.callWith_builtin1 ?_ (by kernel_rfl!) (by kernel_rfl!)
    walk_at "c"; walk_at "f"
    refine n_set (by assumption) (by kernel_rfl!) (by kernel_rfl!) (by kernel_rfl!) (by kernel_rfl!) ?_
    refine PyProof.Rows.callWith_type1 ?_ (by kernel_rfl!) (by kernel_rfl!)
    walk_at "c"; walk_at "n"
    refine args_nil ?_
    rename St _ _ _ _ _ _ _ => S
    refine set_list R'.hd S (by rfl) (S.get hDg) hvg hgl hgb fun dS oS h₉ t₉ hdSn hdS5 hX S => ?_
    refine args_nil ?_
    refine srt_set R'.hd S (by rfl) hX (S.muGet (.head _)) fun a b₅ h₅ t₅ up5 ha S => ?_
    rw [isort_step] at ha
    refine turnI (b2 := b₅) (mu2 := []) rfl ⟨rfl, ?_⟩ (fun a o q => up5 _ _ (hb₄ _ _ q)) S.drop
    rw [Array.toList_push]
    exact (hy.mono fun _ _ z => z.up up5).push_take (by rw [List.getElem?_map, hg]; rfl) ha
  rintro b₄ mu ys2 k2 D2 h₄ t₄ hys2 ⟨rfl, hy2⟩ hb₄ S hD2
  rw [List.take_of_length_le (by rw [List.length_map]; lia)] at hy2
  replace hM := hM.up hb₄
  replace hl1 := hl1.mono hb₄ fun _ _ z => z.up hb₄
  refine S.frzK hD2 fun b₅ up5 gD2 S => ?_
  replace hM := hM.up up5
  replace hl1 := hl1.mono up5 fun _ _ z => z.up up5
  have hl2 : ListOf b₅ (ListOf b₅ IsI) (.ref D2) (Ah.map gset) := ⟨D2, ys2, k2, rfl, gD2, hy2.mono fun _ _ z => z.up up5⟩
  refine args_nil ?_
  refine new_tup S (by rfl) (Nat.le_of_ble_eq_true rfl) fun TM b₆ h₆ t₆ up6 hTM S => ?_
  exact K _ d _ _ _ hdn S.grow ⟨TM, _, _, rfl, hTM, hM.up up6, hl1.mono up6 fun _ _ z => z.up up6, hl2.mono up6 fun _ _ z => z.up up6⟩
end
-- LT
noncomputable def prD (p : Int × Int) : PyData := .tuple [.int p.1, .int p.2]
noncomputable def liD (xs : List Int) : PyData := .list (xs.map PyData.int)
noncomputable def tuD (xs : List Int) : PyData := .tuple (xs.map PyData.int)
noncomputable def okD (n : Nat) (d : PyData) : Prop := d.canLay0 = true ∧ d.depth ≤ n
theorem okAll {n : Nat} : ∀ ds : List PyData, (∀ d ∈ ds, okD n d) → PyData.canLayAll0 ds = true ∧ PyData.depthAll ds ≤ n
  | [], _ => ⟨rfl, Nat.zero_le _⟩
  | d :: ds, h => by
    refine nay fun hG => ?_
    obtain ⟨h1, h2⟩ := h d (.head _)
    obtain ⟨h3, h4⟩ := okAll ds fun x hx => h x (.tail _ hx)
    refine hG ?_; clear hG
    refine ⟨?_, ?_⟩
    · show (d.canLay0 && PyData.canLayAll0 ds) = true
      rw [h1, h3]; rfl
    · show max d.depth (PyData.depthAll ds) ≤ n
      lia
theorem okD.list {n : Nat} {ds : List PyData} (h : ∀ d ∈ ds, okD n d) : okD (n + 1) (.list ds) := ⟨(okAll ds h).1, Nat.succ_le_succ (okAll ds h).2⟩
theorem okD.tuple {n : Nat} {ds : List PyData} (h : ∀ d ∈ ds, okD n d) : okD (n + 1) (.tuple ds) := ⟨(okAll ds h).1, Nat.succ_le_succ (okAll ds h).2⟩
theorem okD.int {n : Nat} (i : Int) : okD n (.int i) := ⟨rfl, Nat.zero_le _⟩
theorem okD.mono {n k : Nat} {d : PyData} (h : okD n d) (hk : n ≤ k) : okD k d := ⟨h.1, Nat.le_trans h.2 hk⟩
theorem ok_map {α : Type} {n : Nat} {f : α → PyData} (h : ∀ x, okD n (f x)) (xs : List α) : ∀ d ∈ xs.map f, okD n d := fun d hd => by
  refine nay fun hG => ?_
  obtain ⟨x, _, rfl⟩ := List.mem_map.mp hd
  refine hG ?_; clear hG
  exact h x
theorem ok_pr (p : Int × Int) : okD 1 (prD p) := .tuple fun d hd => by
  rcases List.mem_cons.mp hd with rfl | hd
  · exact .int _
  · rw [List.mem_singleton.mp hd]; exact .int _
theorem ok_li (xs : List Int) : okD 1 (liD xs) := .list (ok_map (fun _ => .int _) xs)
theorem ok_tu (xs : List Int) : okD 1 (tuD xs) := .tuple (ok_map (fun _ => .int _) xs)
theorem okD.shaped {d : PyData} (h : okD 10 d) : SeqAt.shaped d = true := by
  unfold SeqAt.shaped
  rw [h.1]
  simp only [Bool.true_and, decide_eq_true_eq]
  exact Nat.le_trans h.2 (by decide)
theorem eqv_map {α : Type} [DecidableEq α] {f : α → PyData} (h : ∀ x y, PyData.eqv (f x) (f y) = decide (x = y)) : ∀ xs ys : List α, PyData.eqvAll (xs.map f) (ys.map f) = decide (xs = ys)
  | [], [] => rfl
  | [], _ :: _ => rfl
  | _ :: _, [] => rfl
  | x :: xs, y :: ys => by
    show (PyData.eqv (f x) (f y) && PyData.eqvAll (xs.map f) (ys.map f)) = _
    rw [h, eqv_map h xs ys]
    by_cases e : x = y
    · by_cases e2 : xs = ys <;> simp [e, e2]
    · simp [e]
theorem eqv_int (a c : Int) : PyData.eqv (.int a) (.int c) = decide (a = c) := by
  show (a == c) = _
  by_cases h : a = c <;> simp [h]
theorem eqv_pr (p q : Int × Int) : PyData.eqv (prD p) (prD q) = decide (p = q) := by
  show (PyData.eqv (.int p.1) (.int q.1) && (PyData.eqv (.int p.2) (.int q.2) && true)) = _
  rw [eqv_int, eqv_int]
  by_cases h : p.1 = q.1 <;> by_cases h2 : p.2 = q.2 <;> simp [h, h2, Prod.ext_iff]
theorem eqv_li (xs ys : List Int) : PyData.eqv (liD xs) (liD ys) = decide (xs = ys) := eqv_map eqv_int xs ys
theorem eqv_tu (xs ys : List Int) : PyData.eqv (tuD xs) (tuD ys) = decide (xs = ys) := eqv_map eqv_int xs ys
theorem reads_all {α : Type} {P : Value → α → Prop} {f : α → PyData} {h : Heap} (hp : ∀ v x, P v x → ∃ as, Reads h v (f x) as) : ∀ {vs : List Value} {xs : List α}, All2 P vs xs → ∃ as, ReadsAll h vs (xs.map f) as
  | _, _, .nil => ⟨_, .nil⟩
  | _, _, .cons a r => by
    refine nay fun hG => ?_
    obtain ⟨as, h1⟩ := hp _ _ a
    obtain ⟨bs, h2⟩ := reads_all hp r
    refine hG ?_; clear hG
    exact ⟨_, .cons h1 h2⟩
section
variable {b : PM} {h : Heap}
theorem rd_int (v : Value) (x : Int) (hv : IsI v x) : ∃ as, Reads h v (.int x) as := by
  obtain ⟨t, rfl⟩ := hv
  exact ⟨_, .int _ _⟩
theorem rd_pr (hs : ∀ a o, b a = some o → h.get? a = some o) (v : Value) (x : Int × Int) (hv : IsPr b v x) : ∃ as, Reads h v (prD x) as := by
  refine nay fun hG => ?_
  obtain ⟨T, u1, u2, rfl, hT⟩ := hv
  refine hG ?_; clear hG
  exact ⟨_, .tuple (hs _ _ hT) rfl rfl (.cons (.int _ _) (.cons (.int _ _) .nil))⟩
theorem rd_list {α : Type} {P : Value → α → Prop} {f : α → PyData} (hs : ∀ a o, b a = some o → h.get? a = some o) (hp : ∀ v x, P v x → ∃ as, Reads h v (f x) as) (v : Value) (xs : List α) (hv : ListOf b P v xs) : ∃ as, Reads h v (.list (xs.map f)) as := by
  refine nay fun hG => ?_
  obtain ⟨D, vs, k, rfl, hD, hvs⟩ := hv
  obtain ⟨as, r⟩ := reads_all hp hvs
  refine hG ?_; clear hG
  exact ⟨_, .list (hs _ _ hD) rfl rfl r⟩
theorem rd_tup {α : Type} {P : Value → α → Prop} {f : α → PyData} (hs : ∀ a o, b a = some o → h.get? a = some o) (hp : ∀ v x, P v x → ∃ as, Reads h v (f x) as) (v : Value) (xs : List α) (hv : TupOf b P v xs) : ∃ as, Reads h v (.tuple (xs.map f)) as := by
  refine nay fun hG => ?_
  obtain ⟨D, vs, rfl, hD, hvs⟩ := hv
  obtain ⟨as, r⟩ := reads_all hp hvs
  refine hG ?_; clear hG
  exact ⟨_, .tuple (hs _ _ hD) rfl rfl r⟩
noncomputable def toldD (P : List (Int × Int)) (B C : List (List Int)) : PyData := .tuple [.tuple (P.map prD), .tuple (B.map tuD), .tuple (C.map tuD)]
theorem rd_told (hs : ∀ a o, b a = some o → h.get? a = some o) {v : Value} {P : List (Int × Int)} {B C : List (List Int)} (hv : ToldIs b v P B C) : ∃ as, Reads h v (toldD P B C) as := by
  refine nay fun hG => ?_
  obtain ⟨T, tp, tb, ta, rfl, hT, h1, h2, h3⟩ := hv
  obtain ⟨_, r1⟩ := rd_tup hs (rd_pr hs) _ _ h1
  obtain ⟨_, r2⟩ := rd_tup (f := tuD) hs (fun v x q => rd_tup hs rd_int v x q) _ _ h2
  obtain ⟨_, r3⟩ := rd_tup (f := tuD) hs (fun v x q => rd_tup hs rd_int v x q) _ _ h3
  refine hG ?_; clear hG
  exact ⟨_, .tuple (hs _ _ hT) rfl rfl (.cons r1 (.cons r2 (.cons r3 .nil)))⟩
theorem ok_told (P : List (Int × Int)) (B C : List (List Int)) : okD 10 (toldD P B C) := (okD.tuple (n := 2) fun d hd => by
  rcases List.mem_cons.mp hd with rfl | hd
  · exact .tuple (ok_map ok_pr P)
  · rcases List.mem_cons.mp hd with rfl | hd
    · exact .tuple (ok_map ok_tu B)
    · rw [List.mem_singleton.mp hd]; exact .tuple (ok_map ok_tu C)).mono (by decide)
theorem eqv_told (P P' : List (Int × Int)) (B B' C C' : List (List Int)) : PyData.eqv (toldD P B C) (toldD P' B' C') = decide (P = P' ∧ B = B' ∧ C = C') := by
  show (PyData.eqvAll (P.map prD) (P'.map prD) && (PyData.eqvAll (B.map tuD) (B'.map tuD) && (PyData.eqvAll (C.map tuD) (C'.map tuD) && true))) = _
  rw [eqv_map eqv_pr, eqv_map eqv_tu, eqv_map eqv_tu]
  by_cases h1 : P = P' <;> by_cases h2 : B = B' <;> by_cases h3 : C = C' <;> simp [h1, h2, h3]
end
section
variable {w : World} {A : Around} {E : Value → Shared → Prop} {s s0 : Shared} {e : En} {b : PM} {L : Addr} {m : Str → Option Value} {mu : List (Addr × Obj)} {n : Nat} {t0 : Nat} {Q : Value → Shared → Prop}
theorem Room.far (R : Room A n) : A.units + 64 < cLine := by have := R.un; show _ < 9900; lia
theorem eq_told {v1 v2 : Value} {P P' : List (Int × Int)} {B B' C C' : List (List Int)} (R : Room A n) (S : St w e b L m mu { s with toks := t0 }) (h1 : ToldIs b v1 P B C) (h2 : ToldIs b v2 P' B' C') (h : Q (.bool (decide (P = P' ∧ B = B' ∧ C = C'))) s) : wpAny (model pw w) A (compareOp .Eq v1 v2) Q E s := by
  refine nay fun hG => ?_
  obtain ⟨_, r1⟩ := rd_told S.sub h1
  obtain ⟨_, r2⟩ := rd_told S.sub h2
  refine hG ?_; clear hG
  exact eq_dataH r1 r2 (ok_told ..).shaped (ok_told ..).shaped R.far (by rw [eqv_told]; exact h)
theorem ne_told {v1 v2 : Value} {P P' : List (Int × Int)} {B B' C C' : List (List Int)} (R : Room A n) (S : St w e b L m mu { s with toks := t0 }) (h1 : ToldIs b v1 P B C) (h2 : ToldIs b v2 P' B' C') (h : Q (.bool (!decide (P = P' ∧ B = B' ∧ C = C'))) s) : wpAny (model pw w) A (compareOp .NotEq v1 v2) Q E s := by
  refine nay fun hG => ?_
  obtain ⟨_, r1⟩ := rd_told S.sub h1
  obtain ⟨_, r2⟩ := rd_told S.sub h2
  refine hG ?_; clear hG
  exact ne_dataH r1 r2 (ok_told ..).shaped (ok_told ..).shaped R.far (by rw [eqv_told]; exact h)
theorem eq_prs {v1 v2 : Value} {P P' : List (Int × Int)} (R : Room A n) (S : St w e b L m mu { s with toks := t0 }) (h1 : ListOf b (IsPr b) v1 P) (h2 : ListOf b (IsPr b) v2 P') (h : Q (.bool (decide (P = P'))) s) : wpAny (model pw w) A (compareOp .Eq v1 v2) Q E s := by
  refine nay fun hG => ?_
  obtain ⟨_, r1⟩ := rd_list S.sub (rd_pr S.sub) _ _ h1
  obtain ⟨_, r2⟩ := rd_list S.sub (rd_pr S.sub) _ _ h2
  refine hG ?_; clear hG
  exact eq_dataH r1 r2 ((okD.list (ok_map ok_pr P)).mono (by decide)).shaped ((okD.list (ok_map ok_pr P')).mono (by decide)).shaped R.far (by
    show Q (.bool (PyData.eqvAll (P.map prD) (P'.map prD))) s
    rw [eqv_map eqv_pr]; exact h)
theorem ne_empty {α : Type} {P : Value → α → Prop} {f : α → PyData} {D D0 : Addr} {vs : Array Value} {k k0 : Nat} {xs : List α} (R : Room A n) (g : s.heap.get? D = some (listOf vs k)) (g0 : s.heap.get? D0 = some (listOf #[] k0)) (hvs : All2 P vs.toList xs) (hp : ∀ v x, P v x → ∃ as, Reads s.heap v (f x) as) (hok : ∀ x, okD 5 (f x)) (h : Q (.bool (!xs.isEmpty)) s) :
    wpAny (model pw w) A (compareOp .NotEq (.ref D) (.ref D0)) Q E s := by
  obtain ⟨_, r1⟩ := reads_all hp hvs
  refine ne_dataH (.list g rfl rfl r1) (.list g0 rfl rfl .nil) ((okD.list (ok_map hok xs)).mono (by decide)).shaped ((okD.list (n := 0) (ds := []) (fun _ h => nomatch h)).mono (by decide)).shaped R.far ?_
  cases xs with
  | nil => exact h
  | cons x xs => exact h
end
-- LU
theorem perm4r {α : Type} {a b c d : α} : [a, b, c, d].Perm [d, c, b, a] := by
  classical
  rw [List.perm_iff_count]
  intro x
  simp only [List.count_cons, List.count_nil]
  lia
theorem perm4s {α : Type} {a b c d : α} : [a, b, c, d].Perm [b, c, d, a] := by
  classical
  rw [List.perm_iff_count]
  intro x
  simp only [List.count_cons, List.count_nil]
  lia
theorem perm4t {α : Type} {a b c d : α} : [a, b, c, d].Perm [c, d, b, a] := by
  classical
  rw [List.perm_iff_count]
  intro x
  simp only [List.count_cons, List.count_nil]
  lia
theorem perm4u {α : Type} {a b c d : α} : [a, b, c, d].Perm [b, d, c, a] := by
  classical
  rw [List.perm_iff_count]
  intro x
  simp only [List.count_cons, List.count_nil]
  lia
theorem PrOk.mono {P : List (Int × Int)} {n k : Nat} (h : PrOk P n) (hk : n ≤ k) : PrOk P k := ⟨Nat.le_trans h.1 hk, h.2⟩
theorem SetsOk.mono {B : List (List Int)} {n k : Nat} (h : SetsOk B n) (hk : n ≤ k) : SetsOk B k := ⟨Nat.le_trans h.1 hk, h.2⟩
theorem All2.set {α : Type} {P : Value → α → Prop} {v : Value} {x : α} (hv : P v x) : ∀ {vs : List Value} {xs : List α} (i : Nat), All2 P vs xs → All2 P (vs.set i v) (xs.set i x)
  | _, _, _, .nil => .nil
  | _, _, 0, .cons _ r => .cons hv r
  | _, _, i + 1, .cons a r => .cons a (All2.set hv i r)
theorem set_keys {P : List (Int × Int)} {i : Nat} {x : Int × Int} (h : P[i]? = some x) (y : Int) : (P.set i (x.1, y)).map (·.1) = P.map (·.1) := by
  rw [List.map_set]
  apply List.ext_getElem?
  intro j
  rw [List.getElem?_set]
  split
  · rename_i e
    subst e
    split
    · rw [List.getElem?_map, h]; rfl
    · rename_i hlt
      rw [List.length_map] at hlt
      rw [List.getElem?_eq_none (by rw [List.length_map]; lia)]
  · rfl
theorem pr_set {P : List (Int × Int)} {n i : Nat} {x : Int × Int} (hP : PrOk P n) (h : P[i]? = some x) {y : Int} (h1 : 1 ≤ y) (h2 : y ≤ 9) : PrOk (P.set i (x.1, y)) n := by
  refine ⟨by rw [List.length_set]; exact hP.1, by rw [set_keys h]; exact hP.2.1, fun p hp => ?_⟩
  rcases List.mem_or_eq_of_mem_set hp with q | rfl
  · exact hP.2.2 p q
  · exact ⟨(hP.2.2 x (List.mem_of_getElem? h)).1, h1, h2⟩
theorem pr_drop {P : List (Int × Int)} {n : Nat} (hP : PrOk P n) (i : Nat) : PrOk (P.drop i) n :=
  ⟨by have := hP.1; rw [List.length_drop]; lia, by rw [List.map_drop]; exact hP.2.1.sublist (List.drop_sublist _ _), fun p hp => hP.2.2 p (List.mem_of_mem_drop hp)⟩
theorem sets_set {B : List (List Int)} {n i : Nat} {g : List Int} (h : SetsOk B n) (hg : SetL g) : SetsOk (B.set i g) n :=
  ⟨by rw [List.length_set]; exact h.1, fun p hp => (List.mem_or_eq_of_mem_set hp).elim (h.2 p) fun e => e ▸ hg⟩
theorem sets_app {B : List (List Int)} {n : Nat} {g : List Int} (h : SetsOk B n) (hg : SetL g) : SetsOk (B ++ [g]) (n + 1) :=
  ⟨by have := h.1; simp; lia, fun p hp => (List.mem_append.mp hp).elim (h.2 p) fun e => List.mem_singleton.mp e ▸ hg⟩
theorem sets_take {B : List (List Int)} {n : Nat} (h : SetsOk B n) (i : Nat) : SetsOk (B.take i) n :=
  ⟨by have := h.1; rw [List.length_take]; lia, fun p hp => h.2 p (List.mem_of_mem_take hp)⟩
theorem sets_rev {B : List (List Int)} {n : Nat} (h : SetsOk B n) : SetsOk B.reverse n :=
  ⟨by rw [List.length_reverse]; exact h.1, fun p hp => h.2 p (List.mem_reverse.mp hp)⟩
section
variable {w : World} {A : Around} {E : Value → Shared → Prop} {s : Shared} {e : En} {b : PM} {L : Addr} {m : Str → Option Value} {mu : List (Addr × Obj)} {env : Env} {t0 : Nat}
theorem one_exec {st : Stmt} {Q : Flow → Shared → Prop} (h : wpAny (model pw w) A (exec st env) Q E s) : wpAny (model pw w) A (execs [st] env) Q E s := by
  refine wpAny_execs_cons (wpAny_mono h (fun f s' q => ?_) fun _ _ z => z)
  cases f <;> first | exact wpAny_execs_nil q | exact q
theorem isT_int {x : Str} {p1 p2 p3 : Pos} {kk : Nat} {c v : Int} {tv : Tok} {whole : Sem Value} {Q : Bool → Shared → Prop} (S : St w e b L m mu { s with toks := t0 }) (hL : env.locals = L) (hv : m x = some (.int v tv)) (hc : locOk env x = true)
    (h : Q (v == c) { s with toks := s.toks + 1 }) : wpAny (model pw w) A (isTrue (.Compare (.Name x p1) [.Eq] [.Constant (.int c) kk p2] p3) env whole) Q E s :=
  wpAny_isTrue_Compare1 (n_loc' S hL hv (locOk_kind hc) (locOk_local hc) (locOk_debug hc) (wpAny_Constant_int (eq_int (wpAny_truthy_bool h)))) rfl
theorem if_no {x : Str} {p1 p2 p3 p4 : Pos} {kk : Nat} {c v : Int} {tv : Tok} {body orelse : List Stmt} {Q : Flow → Shared → Prop} (S : St w e b L m mu { s with toks := t0 }) (hL : env.locals = L) (hv : m x = some (.int v tv)) (hc : locOk env x = true)
    (hn : (v == c) = false) (h : wpAny (model pw w) A (execs orelse env) Q E { s with toks := s.toks + 1 }) : wpAny (model pw w) A (exec (.If (.Compare (.Name x p1) [.Eq] [.Constant (.int c) kk p2] p3) body orelse p4) env) Q E s :=
  wpAny_If (isT_int S hL hv hc (ite_no hn h))
theorem if_yes {x : Str} {p1 p2 p3 p4 : Pos} {kk : Nat} {c v : Int} {tv : Tok} {body orelse : List Stmt} {Q : Flow → Shared → Prop} (S : St w e b L m mu { s with toks := t0 }) (hL : env.locals = L) (hv : m x = some (.int v tv)) (hc : locOk env x = true)
    (hn : (v == c) = true) (h : wpAny (model pw w) A (execs body env) Q E { s with toks := s.toks + 1 }) : wpAny (model pw w) A (exec (.If (.Compare (.Name x p1) [.Eq] [.Constant (.int c) kk p2] p3) body orelse p4) env) Q E s :=
  wpAny_If (isT_int S hL hv hc (ite_yes hn h))
theorem if_noA {x : Str} {p1 p2 p3 p4 p5 : Pos} {kk : Nat} {c v : Int} {tv : Tok} {rest : List Expr} {body orelse : List Stmt} {Q : Flow → Shared → Prop} (S : St w e b L m mu { s with toks := t0 }) (hL : env.locals = L) (hv : m x = some (.int v tv)) (hc : locOk env x = true)
    (hn : (v == c) = false) (h : wpAny (model pw w) A (execs orelse env) Q E { s with toks := s.toks + 1 }) : wpAny (model pw w) A (exec (.If (.BoolOp .And (.Compare (.Name x p1) [.Eq] [.Constant (.int c) kk p2] p3 :: rest) p5) body orelse p4) env) Q E s :=
  wpAny_If (isTrue_and (isT_int S hL hv hc (ite_no hn (ite_no rfl h))))
theorem if_yesA {x : Str} {p1 p2 p3 p4 p5 : Pos} {kk : Nat} {c v : Int} {tv : Tok} {rest : List Expr} {body orelse : List Stmt} {Q : Flow → Shared → Prop} (S : St w e b L m mu { s with toks := t0 }) (hL : env.locals = L) (hv : m x = some (.int v tv)) (hc : locOk env x = true)
    (hn : (v == c) = true) (h : wpAny (model pw w) A (isTrue (.BoolOp .And rest p5) env (eval (.BoolOp .And (.Compare (.Name x p1) [.Eq] [.Constant (.int c) kk p2] p3 :: rest) p5) env)) (fun b s₂ => if b then wpAny (model pw w) A (execs body env) Q E s₂ else wpAny (model pw w) A (execs orelse env) Q E s₂) E { s with toks := s.toks + 1 }) :
    wpAny (model pw w) A (exec (.If (.BoolOp .And (.Compare (.Name x p1) [.Eq] [.Constant (.int c) kk p2] p3 :: rest) p5) body orelse p4) env) Q E s :=
  wpAny_If (isTrue_and (isT_int S hL hv hc (ite_yes hn h)))
end
noncomputable abbrev bentJ (N : Nat) (b : PM) (PL : Addr) (o : Obj) (vp vb va : Array Value) (i : Nat) (b₄ : PM) (mu : List (Addr × Obj)) (ys : Array Value) : Prop := b₄ = b ∧ ((i = 0 ∧ mu = [(PL, o)] ∧ ys = #[]) ∨ (i = 1 ∧ ∃ a1 k1, N ≤ a1 ∧ mu = [(a1, listOf vp k1), (PL, o)] ∧ ys = #[.ref a1]) ∨ (i = 2 ∧ ∃ a1 k1 a2 k2, N ≤ a1 ∧ N ≤ a2 ∧ mu = [(a2, listOf vb k2), (a1, listOf vp k1), (PL, o)] ∧ ys = #[.ref a1, .ref a2]) ∨ (i = 3 ∧ ∃ a1 k1 a2 k2 a3 k3, N ≤ a1 ∧ N ≤ a2 ∧ N ≤ a3 ∧ mu = [(a3, listOf va k3), (a2, listOf vb k2), (a1, listOf vp k1), (PL, o)] ∧ ys = #[.ref a1, .ref a2, .ref a3]))
section
variable {w : World} {A : Around} {E : Value → Shared → Prop} {s : Shared} {b : PM} {n : Nat} {Q : Value → Shared → Prop}
theorem c_law_bent {T PL : Addr} {k : Nat} {o : Obj} {pv : Value} {P : List (Int × Int)} {Bk Ah : List (List Int)} (R : Room A (n + 5)) (B : Base w b) (hs : ∀ a o, b a = some o → s.heap.get? a = some o)
    (hT : TakerAt b T PL) (hb : b PL = none) (hd : s.heap.get? PL = some o) (ho : PlaceO k o) (hk : k + 8 ≤ 60) (hp : PlanIs b pv P Bk Ah) (hP : PrOk P 4) (hBk : SetsOk Bk 2) (hAh : SetsOk Ah 2)
    (K : ∀ v P' Bk' Ah' o' b' h' t', PrOk P' 6 → SetsOk Bk' 4 → SetsOk Ah' 4 → Grow b b' s.heap h' [PL] → h'.get? PL = some o' → PlaceO (k + 8) o' → PlanIs b' v P' Bk' Ah' → Q v { s with heap := h', toks := t' }) :
    wpAny (model pw w) A (call (.ref 450) [.ref T, pv]) Q E s := by
  refine nay fun hG => ?_
  obtain ⟨TT, lp, lb, la, rfl, hTT, hlp, hlb, hla⟩ := hp
  obtain ⟨Dp, vp, kp, rfl, hDp, hvp⟩ := hlp
  obtain ⟨Db, vb, kb, rfl, hDb, hvb⟩ := hlb
  obtain ⟨Da, va, ka, rfl, hDa, hva⟩ := hla
  refine hG ?_; clear hG
  have hvpl : vp.size = P.length := by have := hvp.length; simpa using this
  have hvbl : vb.size = Bk.length := by have := hvb.length; simpa using this
  have hval : va.size = Ah.length := by have := hva.length; simpa using this
  have hPl := hP.1
  have hBl := hBk.1
  have hAl := hAh.1
  refine in_law_bent (body := _) rfl R B hs [(PL, o)] (one_mu hd hb) one_nd ?_
  intro L h₁ t₁ hL S R'
  dsimp only [extL] at S
  refine nay fun hG => ?_
  obtain ⟨oT, fdT, hT1, hT2⟩ := hT.fn
  refine hG ?_; clear hG
  walk_at "x"
  refine PyProof.Rows.Assign_Tuple ?_ (by kernel_rfl!) (by kernel_rfl!)
  refine lcomp (cl := []) (by intro _; kernel_rfl!) (by kernel_rfl!) (by kernel_rfl!) (by decide +kernel) ?_
  walk_at "n"
  rename St _ _ _ _ _ _ _ => S
  refine it_tuple R'.hd S (by rfl) hTT fun I oI h₃ t₃ W S => ?_
  refine comp_src W S (Nat.le_of_ble_eq_true rfl) (by decide) rfl (by kernel_rfl!) (bentJ s.heap.objs.size b PL o vp vb va)
    ⟨rfl, .inl ⟨rfl, rfl, rfl⟩⟩ ?_ ?_
  · intro i v b₄ mC mu ys tl h₄ t₄ C hi hv hx hb₄ S
    refine nay fun hG => ?_
    obtain ⟨rfl, (⟨rfl, rfl, rfl⟩ | ⟨rfl, a1, k1, ha1, rfl, rfl⟩ | ⟨rfl, a1, k1, a2, k2, ha1, ha2, rfl, rfl⟩ | ⟨rfl, _⟩)⟩ := hx
    · refine hG ?_; clear hG
      obtain rfl : Value.ref Dp = v := Option.some.inj hv
      refine cutW fun _ hk1 => ?_
      walk_at "f"
      refine n_list (by assumption) (by kernel_rfl!) (by kernel_rfl!) (by kernel_rfl!) (by kernel_rfl!) ?_
      refine PyProof.Rows.callWith_type1 ?_ (by kernel_rfl!) (by kernel_rfl!)
      walk_at "c"; walk_at "n"
      refine args_nil ?_
      rename St _ _ _ _ _ _ _ => S
      refine lst_seq (P := fun (_ : Value) (_ : Nat) => True) (xs := []) S (by rfl) (.inl rfl) (S.get hDp) rfl rfl (by lia) fun a k' h₅ t₅ ha S => ?_
      refine hk1 _ _ ?_
      exact turnI (mu2 := [(a, listOf vp k'), (PL, o)]) rfl ⟨rfl, .inr (.inl ⟨rfl, a, k', ha, rfl, rfl⟩)⟩ (fun _ _ q => q) S
    · refine hG ?_; clear hG
      obtain rfl : Value.ref Db = v := Option.some.inj hv
      refine cutW fun _ hk1 => ?_
      walk_at "f"
      refine n_list (by assumption) (by kernel_rfl!) (by kernel_rfl!) (by kernel_rfl!) (by kernel_rfl!) ?_
      refine PyProof.Rows.callWith_type1 ?_ (by kernel_rfl!) (by kernel_rfl!)
      walk_at "c"; walk_at "n"
      refine args_nil ?_
      rename St _ _ _ _ _ _ _ => S
      refine lst_seq (P := fun (_ : Value) (_ : Nat) => True) (xs := []) S (by rfl) (.inl rfl) (S.get hDb) rfl rfl (by lia) fun a k' h₅ t₅ ha S => ?_
      refine hk1 _ _ ?_
      exact turnI (mu2 := [(a, listOf vb k'), (a1, listOf vp k1), (PL, o)]) rfl ⟨rfl, .inr (.inr (.inl ⟨rfl, a1, k1, a, k', ha1, ha, rfl, rfl⟩))⟩ (fun _ _ q => q) S
    · refine hG ?_; clear hG
      obtain rfl : Value.ref Da = v := Option.some.inj hv
      refine cutW fun _ hk1 => ?_
      walk_at "f"
      refine n_list (by assumption) (by kernel_rfl!) (by kernel_rfl!) (by kernel_rfl!) (by kernel_rfl!) ?_
      refine PyProof.Rows.callWith_type1 ?_ (by kernel_rfl!) (by kernel_rfl!)
      walk_at "c"; walk_at "n"
      refine args_nil ?_
      rename St _ _ _ _ _ _ _ => S
      refine lst_seq (P := fun (_ : Value) (_ : Nat) => True) (xs := []) S (by rfl) (.inl rfl) (S.get hDa) rfl rfl (by lia) fun a k' h₅ t₅ ha S => ?_
      refine hk1 _ _ ?_
      exact turnI (mu2 := [(a, listOf va k'), (a2, listOf vb k2), (a1, listOf vp k1), (PL, o)]) rfl ⟨rfl, .inr (.inr (.inr ⟨rfl, a1, k1, a2, k2, a, k', ha1, ha2, ha, rfl, rfl⟩))⟩ (fun _ _ q => q) S
    · exact absurd hi (Nat.lt_irrefl 3)
  intro b₄ mu ys k4 D4 h₄ t₄ hys hx hb₄ S hD4
  refine nay fun hG => ?_
  obtain ⟨rfl, (⟨h0, _⟩ | ⟨h0, _⟩ | ⟨h0, _⟩ | ⟨_, a1, k1, a2, k2, a3, k3, ha1, ha2, ha3, rfl, rfl⟩)⟩ := hx
  · simp at h0
  · simp at h0
  · simp at h0
  refine hG ?_; clear hG
  refine as_lst3 R'.hd S (by rfl) (S.muGet (.head _)) rfl (by kernel_rfl!) (by kernel_rfl!) (by kernel_rfl!) (by kernel_rfl!) fun h₅ t₅ S => ?_
  replace S := S.drop
  walk_at "x"
  refine wpAny_Assign_Name ?_ (by kernel_rfl!)
  walk_at "f"; walk_at "n"
  refine callWith_def hT2 ?_ (by kernel_rfl!)
  walk_at "c"; walk_at "i"
  refine args_nil ?_
  refine ⟨S.get hT1, ?_⟩
  replace S := S.perm perm4r
  refine c_take (n := n + 3) R' S.base S.sub hT (S.tu _ (.head _)).2.2.1 (S.muGet (.head _)) ho (by lia) (by decide) fun v t o' b' h' t' hv0 hv1 G gg ho => ?_
  have gu := G.up
  replace S := S.call1 (t := t') G gg
  dsimp only at S
  replace hT1 := gu _ _ hT1
  replace hT := hT.up gu
  replace hvp := hvp.mono fun _ _ z => z.up gu
  replace hvb := hvb.mono fun _ _ z => z.up gu
  replace hva := hva.mono fun _ _ z => z.up gu
  refine st_loc' S (by rfl) rfl (by kernel_rfl!) (by kernel_rfl!) ?_
  clear S
  intro h₆ t₆ S
  walk_at "x"
  refine cutW fun K1 hK1 => ?_
  have ret : ∀ (m : Str → Option Value) (c : PM) (h : Heap) (t0 t : Nat) (P' : List (Int × Int)) (Bk' Ah' : List (List Int)) (x1 x2 x3 : Value) (o' : Obj), St w { h := s.heap, b := b₄, X := [(PL, o)].map (fun x => x.1) } c L m [(PL, o')] { s with heap := h, toks := t0 } → m "pairs" = some x1 → m "back" = some x2 → m "ahead" = some x3 →
      ListOf c (IsPr c) x1 P' → ListOf c (ListOf c IsI) x2 Bk' → ListOf c (ListOf c IsI) x3 Ah' → PrOk P' 6 → SetsOk Bk' 4 → SetsOk Ah' 4 → PlaceO (k + 8) o' → K1 .next { s with heap := h, toks := t } := by
    intro m c h t0 t P' Bk' Ah' x1 x2 x3 o' S m1 m2 m3 f1 f2 f3 ok1 ok2 ok3 ho
    refine hK1 _ _ ?_
    walk_at "x"
    refine wpAny_Return_some ?_
    refine PyProof.Rows.Tuple_ ?_
    walk_at "c"; walk_at "n"; walk_at "c"; walk_at "n"; walk_at "c"; walk_at "n"
    refine args_nil ?_
    refine new_tup S (by rfl) (Nat.le_of_ble_eq_true rfl) fun TM b₆ h₆ t₆ up6 hTM S => ?_
    exact K _ P' Bk' Ah' _ _ _ _ ok1 ok2 ok3 S.grow (S.muGet (.head _)) ho ⟨TM, _, _, _, rfl, hTM, f1.mono up6 fun _ _ z => z.up up6, f2.mono up6 fun _ _ z => z.up up6, f3.mono up6 fun _ _ z => z.up up6⟩
  obtain hv | rfl | rfl | rfl : (v = 0 ∨ v = 2 ∨ v = 4 ∨ v = 5 ∨ v = 6 ∨ v = 7) ∨ v = 1 ∨ v = 3 ∨ v = 8 := by lia
  · replace S := S.perm perm4s
    refine S.frzK ha1 fun c1 u1 g1 S => ?_
    refine S.frzK ha2 fun c2 u2 g2 S => ?_
    refine S.frzK ha3 fun c3 u3 g3 S => ?_
    have u23 := fun (a : Addr) (o : Obj) q => u3 a o (u2 a o q)
    have u123 := fun (a : Addr) (o : Obj) q => u23 a o (u1 a o q)
    replace hT1 := u123 _ _ hT1
    replace hT := hT.up u123
    have fp : ListOf c3 (IsPr c3) (.ref a1) P := ⟨a1, vp, k1, rfl, u23 _ _ g1, hvp.mono fun _ _ z => z.up u123⟩
    have fb : ListOf c3 (ListOf c3 IsI) (.ref a2) Bk := ⟨a2, vb, k2, rfl, u3 _ _ g2, hvb.mono fun _ _ z => z.up u123⟩
    have fa : ListOf c3 (ListOf c3 IsI) (.ref a3) Ah := ⟨a3, va, k3, rfl, g3, hva.mono fun _ _ z => z.up u123⟩
    obtain rfl | rfl | rfl | rfl | rfl | rfl := hv
    · refine if_noA S (by rfl) (by walk_at "W look") (by kernel_rfl!) (by rfl) ?_
      refine one_exec (if_no S (by rfl) (by walk_at "W look") (by kernel_rfl!) (by rfl) ?_)
      refine one_exec (if_noA S (by rfl) (by walk_at "W look") (by kernel_rfl!) (by rfl) ?_)
      refine one_exec (if_no S (by rfl) (by walk_at "W look") (by kernel_rfl!) (by rfl) ?_)
      refine one_exec (if_noA S (by rfl) (by walk_at "W look") (by kernel_rfl!) (by rfl) ?_)
      refine one_exec (if_no S (by rfl) (by walk_at "W look") (by kernel_rfl!) (by rfl) ?_)
      refine one_exec (if_no S (by rfl) (by walk_at "W look") (by kernel_rfl!) (by rfl) ?_)
      refine one_exec (if_noA S (by rfl) (by walk_at "W look") (by kernel_rfl!) (by rfl) ?_)
      walk_at "z"
      rename St _ _ _ _ _ _ _ => S
      exact ret _ _ _ _ _ P Bk Ah _ _ _ _ S (by walk_at "W look") (by walk_at "W look") (by walk_at "W look") fp fb fa (hP.mono (by decide)) (hBk.mono (by decide)) (hAh.mono (by decide)) (ho.le (by lia))
    · refine if_noA S (by rfl) (by walk_at "W look") (by kernel_rfl!) (by rfl) ?_
      refine one_exec (if_yes S (by rfl) (by walk_at "W look") (by kernel_rfl!) (by rfl) ?_)
      walk_at "x"
      refine wpAny_Assign_Name ?_ (by kernel_rfl!)
      refine PyProof.Rows.IfExp_ ?_
      walk_at "q"; walk_at "f"; walk_at "n"
      rename St _ _ _ _ _ _ _ => S
      refine callWith_def hT2 ?_ (by kernel_rfl!)
      walk_at "c"; walk_at "i"
      refine args_nil ?_
      refine ⟨S.get hT1, ?_⟩
      refine c_take (n := n + 3) R' S.base S.sub hT (S.tu _ (.head _)).2.2.1 (S.muGet (.head _)) ho (by lia) (by decide) fun v2 t o' b' h' t' hv20 hv21 G gg ho => ?_
      have gu := G.up
      replace S := S.call1 (t := t') G gg
      dsimp only at S
      replace hT1 := gu _ _ hT1
      replace hT := hT.up gu
      replace fp := fp.mono gu fun _ _ z => z.up gu
      replace fb := fb.mono gu fun _ _ z => z.up gu
      replace fa := fa.mono gu fun _ _ z => z.up gu
      refine nay fun hG => ?_
      obtain ⟨Dq, vq, kq, e1, hDq, hvq⟩ := id fp
      refine hG ?_; clear hG
      cases e1
      have hvql : vq.size = P.length := by have := hvq.length; simpa using this
      walk_at "i"
      with_reducible refine eq_int ?_
      walk_at "t"
      rename St _ _ _ _ _ _ _ => S
      by_cases hv2 : v2 = 0
      · subst hv2
        refine ite_yes (by rfl) ?_
        refine Subscript_ ?_
        walk_at "n"
        refine wpAny_Slice ?_
        with_reducible refine evalPart_some_step ?_
        walk_at "i"
        with_reducible refine evalPart_none_step ?_
        with_reducible refine evalPart_none_step ?_
        rename St _ _ _ _ _ _ _ => S
        refine slc_lst S (by rfl) (S.get hDq) (.int _ _) .none (by lia) (by with_unfolding_all rfl) fun l7 h₇ t₇ hl7 S => ?_
        have es : slicePick vq (some 1) none none = (vq.toList.drop 1).toArray := slicePick_from' vq 1
        rw [es] at S
        refine S.frzK hl7 fun c4 u4 g4 S => ?_
        refine st_loc' (by assumption) (by rfl) rfl (by kernel_rfl!) (by kernel_rfl!) fun _ _ S => ?_
        walk_at "z"
        replace fb := fb.mono u4 fun _ _ z => z.up u4
        replace fa := fa.mono u4 fun _ _ z => z.up u4
        have fp2 : ListOf c4 (IsPr c4) (.ref l7) (P.drop 1) := ⟨l7, _, _, rfl, g4, by simpa using (hvq.mono fun _ _ z => z.up u4).drop 1⟩
        exact ret _ _ _ _ _ _ Bk Ah _ _ _ _ S (by walk_at "W look") (by walk_at "W look") (by walk_at "W look") fp2 fb fa ((pr_drop hP 1).mono (by decide)) (hBk.mono (by decide)) (hAh.mono (by decide)) (ho.le (by lia))
      · refine ite_no (by simpa using hv2) ?_
        walk_at "f"
        refine n_sorted (by assumption) (by kernel_rfl!) (by kernel_rfl!) (by kernel_rfl!) (by kernel_rfl!) ?_
        refine PyProof.Rows.callWith_builtin1 ?_ (by kernel_rfl!) (by kernel_rfl!)
        walk_at "c"
        refine mcall ?_ (by kernel_rfl!)
        walk_at "f"
        refine n_dict (by assumption) (by kernel_rfl!) (by kernel_rfl!) (by kernel_rfl!) (by kernel_rfl!) ?_
        refine PyProof.Rows.callWith_type1 ?_ (by kernel_rfl!) (by kernel_rfl!)
        walk_at "c"
        with_reducible refine wpAny_BinOp ?_
        walk_at "n"
        refine cutW fun _ hk1 => ?_
        refine PyProof.Rows.List_ ?_
        walk_at "c"
        refine PyProof.Rows.Tuple_ ?_
        walk_at "c"
        with_reducible refine wpAny_BinOp ?_
        walk_at "i"
        refine cutW fun _ hk2 => ?_
        walk_at "f"; walk_at "n"
        rename St _ _ _ _ _ _ _ => S
        refine callWith_def hT2 ?_ (by kernel_rfl!)
        walk_at "c"; walk_at "i"
        refine args_nil ?_
        refine ⟨S.get hT1, ?_⟩
        refine c_take (n := n + 3) R' S.base S.sub hT (S.tu _ (.head _)).2.2.1 (S.muGet (.head _)) ho (by lia) (by decide) fun v3 t o' b' h' t' hv30 hv31 G gg ho => ?_
        have gu := G.up
        refine hk2 _ _ ?_
        replace S := S.call1 (t := t') G gg
        dsimp only at S
        replace hT1 := gu _ _ hT1
        replace hDq := gu _ _ hDq
        replace hT := hT.up gu
        replace hvq := hvq.mono fun _ _ z => z.up gu
        replace fb := fb.mono gu fun _ _ z => z.up gu
        replace fa := fa.mono gu fun _ _ z => z.up gu
        with_reducible refine add_int ?_
        walk_at "c"
        refine cutW fun _ hk3 => ?_
        with_reducible refine wpAny_BinOp ?_
        walk_at "i"
        refine cutW fun _ hk4 => ?_
        walk_at "f"; walk_at "n"
        refine callWith_def hT2 ?_ (by kernel_rfl!)
        walk_at "c"; walk_at "i"
        refine args_nil ?_
        refine ⟨S.get hT1, ?_⟩
        refine c_take (n := n + 3) R' S.base S.sub hT (S.tu _ (.head _)).2.2.1 (S.muGet (.head _)) ho (by lia) (by decide) fun v4 t o' b' h' t' hv40 hv41 G gg ho => ?_
        have gu := G.up
        refine hk4 _ _ ?_
        replace S := S.call1 (t := t') G gg
        dsimp only at S
        replace hT1 := gu _ _ hT1
        replace hDq := gu _ _ hDq
        replace hT := hT.up gu
        replace hvq := hvq.mono fun _ _ z => z.up gu
        replace fb := fb.mono gu fun _ _ z => z.up gu
        replace fa := fa.mono gu fun _ _ z => z.up gu
        with_reducible refine add_int ?_
        refine hk3 _ _ ?_
        refine args_nil ?_
        refine new_tup S (by rfl) (Nat.le_of_ble_eq_true rfl) fun Tn b₇ h₇ t₇ up7 hTn S => ?_
        replace hT1 := up7 _ _ hT1
        replace hDq := up7 _ _ hDq
        replace hT := hT.up up7
        replace hvq := hvq.mono fun _ _ z => z.up up7
        replace fb := fb.mono up7 fun _ _ z => z.up up7
        replace fa := fa.mono up7 fun _ _ z => z.up up7
        refine args_nil ?_
        refine new_lst S (by rfl) (by simp) fun a9 h₈ t₈ ha9 _ S => ?_
        refine hk1 _ _ ?_
        refine add_lst S (by rfl) (S.get hDq) (S.muGet (.head _)) (by simp; lia) fun a8 h₉ t₉ ha8 S => ?_
        have hvr : All2 (IsPr b₇) (vq.toList ++ [Value.ref Tn]) (P ++ [(1 + v3, 1 + v4)]) := hvq.push ⟨Tn, _, _, rfl, hTn⟩
        refine args_nil ?_
        refine d_pairs (ps := P ++ [(1 + v3, 1 + v4)]) R'.hd S (by rfl) (S.muGet (.head _)) (by simpa using hvr) (by simp; lia) fun d oD kvs h₆ t₆ hdn hd5 hDO hKV hkl S => ?_
        have hraw : RawOk (P ++ [(1 + v3, 1 + v4)]) := fun p hp => by
          rcases List.mem_append.mp hp with q | q
          · exact hP.2.2 p q
          · rw [List.mem_singleton.mp q]; dsimp only; lia
        refine nay fun hG => ?_
        obtain ⟨nd, hraw2, hml⟩ := foldI (P ++ [(1 + v3, 1 + v4)]) [] .nil (fun _ h => nomatch h) hraw
        refine hG ?_; clear hG
        have hfl : ((P ++ [(1 + v3, 1 + v4)]).foldl putI []).length ≤ 5 := Nat.le_trans hml (by simp; lia)
        rename St _ _ _ _ _ _ _ => S
        refine me_items (S.muGet (.head _)) hDO.1 ?_
        refine callWith_method0 ?_
        refine d_items S (by rfl) hDO (S.muGet (.head _)) hd5 fun vv b₆ h₇ t₇ up6 hvv S => ?_
        replace fb := fb.mono up6 fun _ _ z => z.up up6
        replace fa := fa.mono up6 fun _ _ z => z.up up6
        refine args_nil ?_
        refine srt_items R'.hd S (by rfl) (S.get hvv) hDO (S.muGet (.head _)) hKV nd (fun x hx => ?_) (by lia) fun aP vP kP b₇ h₈ t₈ haP up7 hPP S => ?_
        · obtain ⟨p, hp, rfl⟩ := List.mem_map.mp hx
          exact (hraw2 p hp).1
        replace fb := fb.mono up7 fun _ _ z => z.up up7
        replace fa := fa.mono up7 fun _ _ z => z.up up7
        refine S.frzK haP fun b₈ up8 gP S => ?_
        replace fb := fb.mono up8 fun _ _ z => z.up up8
        replace fa := fa.mono up8 fun _ _ z => z.up up8
        have fp2 : ListOf b₈ (IsPr b₈) (.ref aP) _ := ⟨aP, vP, kP, rfl, gP, hPP.mono fun _ _ z => z.up up8⟩
        have hPok := told_ok nd hraw2
        replace S := S.drop.drop.drop
        refine st_loc' (by assumption) (by rfl) rfl (by kernel_rfl!) (by kernel_rfl!) fun _ _ S => ?_
        walk_at "z"
        exact ret _ _ _ _ _ _ Bk Ah _ _ _ _ S (by walk_at "W look") (by walk_at "W look") (by walk_at "W look") fp2 fb fa (⟨Nat.le_trans hPok.1 (by lia), hPok.2⟩) (hBk.mono (by decide)) (hAh.mono (by decide)) (ho.le (by lia))
    · refine if_noA S (by rfl) (by walk_at "W look") (by kernel_rfl!) (by rfl) ?_
      refine one_exec (if_no S (by rfl) (by walk_at "W look") (by kernel_rfl!) (by rfl) ?_)
      refine one_exec (if_noA S (by rfl) (by walk_at "W look") (by kernel_rfl!) (by rfl) ?_)
      refine one_exec (if_yes S (by rfl) (by walk_at "W look") (by kernel_rfl!) (by rfl) ?_)
      refine wpAny_execs_cons ?_
      refine PyProof.Rows.Assign_Tuple_swapped (names := ["back", "ahead"]) ?_ (by kernel_rfl!) (by kernel_rfl!)
      refine PyProof.Rows.Tuple_ ?_
      walk_at "c"; walk_at "n"; walk_at "c"; walk_at "n"
      refine args_nil ?_
      rename St _ _ _ _ _ _ _ => S
      refine new_tup S (by rfl) (Nat.le_of_ble_eq_true rfl) fun T4 b₇ h₇ t₇ up7 hT4 S => ?_
      refine un_swap2 R'.hd S (by rfl) hT4 rfl (by kernel_rfl!) (by kernel_rfl!) (by kernel_rfl!) fun h₈ t₈ S => ?_
      replace fp := fp.mono up7 fun _ _ z => z.up up7
      replace fb := fb.mono up7 fun _ _ z => z.up up7
      replace fa := fa.mono up7 fun _ _ z => z.up up7
      walk_at "z"
      exact ret _ _ _ _ _ P Ah Bk _ _ _ _ S (by walk_at "W look") (by walk_at "W look") (by walk_at "W look") fp fa fb (hP.mono (by decide)) (hAh.mono (by decide)) (hBk.mono (by decide)) (ho.le (by lia))
    · refine if_noA S (by rfl) (by walk_at "W look") (by kernel_rfl!) (by rfl) ?_
      refine one_exec (if_no S (by rfl) (by walk_at "W look") (by kernel_rfl!) (by rfl) ?_)
      refine one_exec (if_noA S (by rfl) (by walk_at "W look") (by kernel_rfl!) (by rfl) ?_)
      refine one_exec (if_no S (by rfl) (by walk_at "W look") (by kernel_rfl!) (by rfl) ?_)
      refine one_exec (if_yesA S (by rfl) (by walk_at "W look") (by kernel_rfl!) (by rfl) ?_)
      refine nay fun hG => ?_
      obtain ⟨Dq, vq, kq, e1, hDq, hvq⟩ := id fa
      refine hG ?_; clear hG
      cases e1
      have hvql : vq.size = Ah.length := by have := hvq.length; simpa using this
      refine nay fun hG => ?_
      obtain ⟨Dr, vr, kr, e2, hDr, hvr⟩ := id fb
      refine hG ?_; clear hG
      cases e2
      have hvrl : vr.size = Bk.length := by have := hvr.length; simpa using this
      with_reducible refine isTrue_and ?_
      walk_at "q"; walk_at "n"
      refine PyProof.Rows.List_ ?_
      refine args_nil ?_
      rename St _ _ _ _ _ _ _ => S
      refine new_lst S (by rfl) (by decide) fun a0 h₆ t₆ ha0 _ S => ?_
      refine ne_empty (f := liD) R' (S.get hDq) (S.muGet (.head _)) hvq (fun v x q => rd_list S.sub rd_int v x q) (fun x => (ok_li x).mono (by decide)) ?_
      replace S := S.drop
      walk_at "t"
      by_cases hne : Ah = []
      · subst hne
        refine ite_no (by rfl) ?_
        with_reducible refine ite_no (by with_reducible rfl) ?_
        refine one_exec (if_no S (by rfl) (by walk_at "W look") (by kernel_rfl!) (by rfl) ?_)
        refine one_exec (if_no S (by rfl) (by walk_at "W look") (by kernel_rfl!) (by rfl) ?_)
        refine one_exec (if_noA S (by rfl) (by walk_at "W look") (by kernel_rfl!) (by rfl) ?_)
        walk_at "z"
        rename St _ _ _ _ _ _ _ => S
        exact ret _ _ _ _ _ P Bk [] _ _ _ _ S (by walk_at "W look") (by walk_at "W look") (by walk_at "W look") fp fb fa (hP.mono (by decide)) (hBk.mono (by decide)) (hAh.mono (by decide)) (ho.le (by lia))
      · have hXpos : 0 < Ah.length := List.length_pos_iff.mpr hne
        refine ite_yes (by cases Ah with | nil => exact absurd rfl hne | cons => rfl) ?_
        with_reducible refine isTrue_and_nil ?_
        with_reducible refine ite_yes (by with_reducible rfl) ?_
        walk_at "x"
        refine wpAny_Assign_Name ?_ (by kernel_rfl!)
        with_reducible refine wpAny_BinOp ?_
        walk_at "n"
        refine PyProof.Rows.List_ ?_
        walk_at "c"
        refine Subscript_ ?_
        walk_at "n"
        refine PyProof.Rows.UnaryOp_ ?_
        walk_at "i"
        with_reducible refine PyProof.Rows.neg_int ?_
        rename St _ _ _ _ _ _ _ => S
        refine nay fun hG => ?_
        obtain ⟨g9, hg9⟩ : ∃ g9, Ah[Ah.length - 1]? = some g9 := ⟨_, List.getElem?_eq_getElem (by lia)⟩
        obtain ⟨v9, hv9, hl9⟩ := hvq.get' hg9
        refine hG ?_; clear hG
        refine sub_lst_neg (S.get hDq) (by decide) (by lia) (by lia) (v := v9) (by rw [show ((-1 : Int) + vq.size).toNat = Ah.length - 1 by lia, ← Array.getElem?_toList]; exact hv9) ?_ (by with_unfolding_all rfl)
        refine args_nil ?_
        refine new_lst S (by rfl) (by simp) fun a9 h₈ t₈ ha9 _ S => ?_
        refine add_lst S (by rfl) (S.get hDr) (S.muGet (.head _)) (by simp; lia) fun a8 h₉ t₉ ha8 S => ?_
        refine S.frzK ha8 fun c4 u4 g4 S => ?_
        replace S := S.drop
        replace hDq := u4 _ _ hDq
        replace fp := fp.mono u4 fun _ _ z => z.up u4
        have fb2 : ListOf c4 (ListOf c4 IsI) (.ref a8) (Bk ++ [g9]) := ⟨a8, _, _, rfl, g4, by simpa using (hvr.push hl9).mono fun _ _ z => z.up u4⟩
        refine st_loc' (by assumption) (by rfl) rfl (by kernel_rfl!) (by kernel_rfl!) fun _ _ S => ?_
        walk_at "x"
        refine wpAny_Assign_Name ?_ (by kernel_rfl!)
        refine Subscript_ ?_
        walk_at "n"
        refine wpAny_Slice ?_
        with_reducible refine evalPart_none_step ?_
        with_reducible refine evalPart_some_step ?_
        refine PyProof.Rows.UnaryOp_ ?_
        walk_at "i"
        with_reducible refine PyProof.Rows.neg_int ?_
        with_reducible refine evalPart_none_step ?_
        refine slc_lst S (by rfl) (S.get hDq) .none (.int _ _) (by lia) (by with_unfolding_all rfl) fun l7 h₇ t₇ hl7 S => ?_
        have es : slicePick vq none (some (-1)) none = (vq.toList.take (vq.size - 1)).toArray := slicePick_butLast vq 1 (by decide)
        rw [es] at S
        refine S.frzK hl7 fun c5 u5 g5 S => ?_
        replace fp := fp.mono u5 fun _ _ z => z.up u5
        replace fb2 := fb2.mono u5 fun _ _ z => z.up u5
        have fa2 : ListOf c5 (ListOf c5 IsI) (.ref l7) (Ah.take (vq.size - 1)) := ⟨l7, _, _, rfl, g5, by simpa using ((hvq.mono fun _ _ z => z.up u4).mono fun _ _ z => z.up u5).take (vq.size - 1)⟩
        refine st_loc' (by assumption) (by rfl) rfl (by kernel_rfl!) (by kernel_rfl!) fun _ _ S => ?_
        walk_at "z"
        exact ret _ _ _ _ _ P _ _ _ _ _ _ S (by walk_at "W look") (by walk_at "W look") (by walk_at "W look") fp fb2 fa2 (hP.mono (by decide)) ((sets_app hBk (hAh.2 _ (List.mem_of_getElem? hg9))).mono (by decide)) ((sets_take hAh _).mono (by decide)) (ho.le (by lia))
    · refine if_noA S (by rfl) (by walk_at "W look") (by kernel_rfl!) (by rfl) ?_
      refine one_exec (if_no S (by rfl) (by walk_at "W look") (by kernel_rfl!) (by rfl) ?_)
      refine one_exec (if_noA S (by rfl) (by walk_at "W look") (by kernel_rfl!) (by rfl) ?_)
      refine one_exec (if_no S (by rfl) (by walk_at "W look") (by kernel_rfl!) (by rfl) ?_)
      refine one_exec (if_noA S (by rfl) (by walk_at "W look") (by kernel_rfl!) (by rfl) ?_)
      refine one_exec (if_yes S (by rfl) (by walk_at "W look") (by kernel_rfl!) (by rfl) ?_)
      refine nay fun hG => ?_
      obtain ⟨Dq, vq, kq, e1, hDq, hvq⟩ := id fa
      refine hG ?_; clear hG
      cases e1
      have hvql : vq.size = Ah.length := by have := hvq.length; simpa using this
      walk_at "x"
      refine wpAny_Assign_Name ?_ (by kernel_rfl!)
      with_reducible refine wpAny_BinOp ?_
      walk_at "n"
      refine PyProof.Rows.List_ ?_
      walk_at "c"; walk_at "f"
      refine n_law_set (by assumption) (by kernel_rfl!) (by kernel_rfl!) (by kernel_rfl!) ?_
      refine callWith_K (kinH (by assumption)) (by with_reducible exact kp_f_law_set _) ?_ (by kernel_rfl!) (by kernel_rfl!)
      walk_at "c"; walk_at "n"
      refine args_nil ?_
      refine And.intro (kinH (by assumption)) ?_
      rename St _ _ _ _ _ _ _ => S
      refine c_law_set (n := n + 1) R' S.base S.sub hT (S.tu _ (.head _)).2.2.1 (S.muGet (.head _)) ho (by lia) fun sv gs o' b' h' t' hgs1 G gg ho hsv => ?_
      have gu := G.up
      replace S := S.call1 (t := t') G gg
      dsimp only at S
      replace hDq := gu _ _ hDq
      replace hvq := hvq.mono fun _ _ z => z.up gu
      replace fp := fp.mono gu fun _ _ z => z.up gu
      replace fb := fb.mono gu fun _ _ z => z.up gu
      refine args_nil ?_
      refine new_lst S (by rfl) (by simp) fun a9 h₈ t₈ ha9 _ S => ?_
      refine add_lst S (by rfl) (S.get hDq) (S.muGet (.head _)) (by simp; lia) fun a8 h₉ t₉ ha8 S => ?_
      refine S.frzK ha8 fun c4 u4 g4 S => ?_
      replace S := S.drop
      replace fp := fp.mono u4 fun _ _ z => z.up u4
      replace fb := fb.mono u4 fun _ _ z => z.up u4
      have fa2 : ListOf c4 (ListOf c4 IsI) (.ref a8) (Ah ++ [gs]) := ⟨a8, _, _, rfl, g4, by simpa using (hvq.push hsv).mono fun _ _ z => z.up u4⟩
      refine st_loc' (by assumption) (by rfl) rfl (by kernel_rfl!) (by kernel_rfl!) fun _ _ S => ?_
      walk_at "z"
      exact ret _ _ _ _ _ P Bk _ _ _ _ _ S (by walk_at "W look") (by walk_at "W look") (by walk_at "W look") fp fb fa2 (hP.mono (by decide)) (hBk.mono (by decide)) ((sets_app hAh hgs1).mono (by decide)) (ho.le (by lia))
    · refine if_noA S (by rfl) (by walk_at "W look") (by kernel_rfl!) (by rfl) ?_
      refine one_exec (if_no S (by rfl) (by walk_at "W look") (by kernel_rfl!) (by rfl) ?_)
      refine one_exec (if_noA S (by rfl) (by walk_at "W look") (by kernel_rfl!) (by rfl) ?_)
      refine one_exec (if_no S (by rfl) (by walk_at "W look") (by kernel_rfl!) (by rfl) ?_)
      refine one_exec (if_noA S (by rfl) (by walk_at "W look") (by kernel_rfl!) (by rfl) ?_)
      refine one_exec (if_no S (by rfl) (by walk_at "W look") (by kernel_rfl!) (by rfl) ?_)
      refine one_exec (if_yes S (by rfl) (by walk_at "W look") (by kernel_rfl!) (by rfl) ?_)
      refine nay fun hG => ?_
      obtain ⟨Dq, vq, kq, e1, hDq, hvq⟩ := id fb
      refine hG ?_; clear hG
      cases e1
      have hvql : vq.size = Bk.length := by have := hvq.length; simpa using this
      walk_at "x"
      refine wpAny_Assign_Name ?_ (by kernel_rfl!)
      refine Subscript_ ?_
      walk_at "n"
      refine wpAny_Slice ?_
      with_reducible refine evalPart_none_step ?_
      with_reducible refine evalPart_none_step ?_
      with_reducible refine evalPart_some_step ?_
      refine PyProof.Rows.UnaryOp_ ?_
      walk_at "i"
      with_reducible refine PyProof.Rows.neg_int ?_
      rename St _ _ _ _ _ _ _ => S
      refine slc_rev S (by rfl) (S.get hDq) (by lia) (ops := [.ref a2, .ref _]) (by with_unfolding_all rfl) fun Dr h₃ t₃ hDr S => ?_
      refine S.frzK hDr fun c4 u4 g4 S => ?_
      replace fp := fp.mono u4 fun _ _ z => z.up u4
      replace fa := fa.mono u4 fun _ _ z => z.up u4
      have fb2 : ListOf c4 (ListOf c4 IsI) (.ref Dr) Bk.reverse := ⟨Dr, _, _, rfl, g4, by simpa using (hvq.mono fun _ _ z => z.up u4).reverse⟩
      refine st_loc' (by assumption) (by rfl) rfl (by kernel_rfl!) (by kernel_rfl!) fun _ _ S => ?_
      walk_at "z"
      exact ret _ _ _ _ _ P _ Ah _ _ _ _ S (by walk_at "W look") (by walk_at "W look") (by walk_at "W look") fp fb2 fa (hP.mono (by decide)) ((sets_rev hBk).mono (by decide)) (hAh.mono (by decide)) (ho.le (by lia))
  · replace S := S.perm perm4t
    refine S.frzK ha2 fun c2 u2 g2 S => ?_
    refine S.frzK ha3 fun c3 u3 g3 S => ?_
    have u23 := fun (a : Addr) (o : Obj) q => u3 a o (u2 a o q)
    replace hT1 := u23 _ _ hT1
    replace hT := hT.up u23
    replace hvp := hvp.mono fun _ _ z => z.up u23
    have fb : ListOf c3 (ListOf c3 IsI) (.ref a2) Bk := ⟨a2, vb, k2, rfl, u3 _ _ g2, hvb.mono fun _ _ z => z.up u23⟩
    have fa : ListOf c3 (ListOf c3 IsI) (.ref a3) Ah := ⟨a3, va, k3, rfl, g3, hva.mono fun _ _ z => z.up u23⟩
    refine if_yesA S (by rfl) (by walk_at "W look") (by kernel_rfl!) (by rfl) ?_
    with_reducible refine isTrue_and ?_
    walk_at "q"; walk_at "n"
    refine PyProof.Rows.List_ ?_
    refine args_nil ?_
    refine new_lst S (by rfl) (by decide) fun a0 h₆ t₆ ha0 _ S => ?_
    refine ne_empty R' (S.muGet (.tail _ (.head _))) (S.muGet (.head _)) hvp (rd_pr S.sub) (fun x => (ok_pr x).mono (by decide)) ?_
    replace S := S.drop
    walk_at "t"
    by_cases hne : P = []
    · subst hne
      refine ite_no (by rfl) ?_
      refine S.frzK ha1 fun c4 u4 g4 S => ?_
      with_reducible refine ite_no (by with_reducible rfl) ?_
      refine one_exec (if_no S (by rfl) (by walk_at "W look") (by kernel_rfl!) (by rfl) ?_)
      refine one_exec (if_noA S (by rfl) (by walk_at "W look") (by kernel_rfl!) (by rfl) ?_)
      refine one_exec (if_no S (by rfl) (by walk_at "W look") (by kernel_rfl!) (by rfl) ?_)
      refine one_exec (if_noA S (by rfl) (by walk_at "W look") (by kernel_rfl!) (by rfl) ?_)
      refine one_exec (if_no S (by rfl) (by walk_at "W look") (by kernel_rfl!) (by rfl) ?_)
      refine one_exec (if_no S (by rfl) (by walk_at "W look") (by kernel_rfl!) (by rfl) ?_)
      refine one_exec (if_noA S (by rfl) (by walk_at "W look") (by kernel_rfl!) (by rfl) ?_)
      walk_at "z"
      replace fb := fb.mono u4 fun _ _ z => z.up u4
      replace fa := fa.mono u4 fun _ _ z => z.up u4
      have fp : ListOf c4 (IsPr c4) (.ref a1) [] := ⟨a1, vp, k1, rfl, g4, hvp.mono fun _ _ z => z.up u4⟩
      exact ret _ _ _ _ _ [] Bk Ah _ _ _ _ S (by walk_at "W look") (by walk_at "W look") (by walk_at "W look") fp fb fa (hP.mono (by decide)) (hBk.mono (by decide)) (hAh.mono (by decide)) (ho.le (by lia))
    · have hPpos : 0 < P.length := List.length_pos_iff.mpr hne
      refine ite_yes (by cases P with | nil => exact absurd rfl hne | cons => rfl) ?_
      with_reducible refine isTrue_and_nil ?_
      with_reducible refine ite_yes (by with_reducible rfl) ?_
      walk_at "x"
      refine wpAny_Assign_Name ?_ (by kernel_rfl!)
      walk_at "f"; walk_at "n"
      rename St _ _ _ _ _ _ _ => S
      refine callWith_def hT2 ?_ (by kernel_rfl!)
      walk_at "c"; walk_at "f"
      refine n_len (by assumption) (by kernel_rfl!) (by kernel_rfl!) (by kernel_rfl!) (by kernel_rfl!) ?_
      refine PyProof.Rows.callWith_builtin1 ?_ (by kernel_rfl!) (by kernel_rfl!)
      walk_at "c"; walk_at "n"
      refine args_nil ?_
      refine len_lst (S.muGet (.head _)) (by lia) ?_
      refine args_nil ?_
      refine ⟨S.get hT1, ?_⟩
      replace S := S.swap
      refine c_take (n := n + 3) R' S.base S.sub hT (S.tu _ (.head _)).2.2.1 (S.muGet (.head _)) ho (by lia) (by lia) fun v1 t o' b' h' t' hv10 hv11 G gg ho => ?_
      have gu := G.up
      replace S := S.call1 (t := t') G gg
      dsimp only at S
      replace hT1 := gu _ _ hT1
      replace hT := hT.up gu
      replace hvp := hvp.mono fun _ _ z => z.up gu
      replace fb := fb.mono gu fun _ _ z => z.up gu
      replace fa := fa.mono gu fun _ _ z => z.up gu
      refine nay fun hG => ?_
      obtain ⟨xi, hxi⟩ : ∃ xi, P[v1.toNat]? = some xi := ⟨_, List.getElem?_eq_getElem (by lia)⟩
      obtain ⟨vi, hvi, Ti, ti1, ti2, rfl, hTi⟩ := hvp.get' hxi
      refine hG ?_; clear hG
      refine st_loc' (by assumption) (by rfl) rfl (by kernel_rfl!) (by kernel_rfl!) fun _ _ S => ?_
      walk_at "x"
      refine wpAny_Assign_Subscript ?_ (by kernel_rfl!)
      refine PyProof.Rows.Tuple_ ?_
      walk_at "c"
      refine Subscript_ ?_
      refine Subscript_ ?_
      walk_at "n"; walk_at "n"
      refine sub_lst (S.muGet (.tail _ (.head _))) hv10 (by lia) (v := .ref Ti) (by rw [← Array.getElem?_toList]; exact hvi) ?_ (by with_unfolding_all rfl)
      walk_at "i"
      refine sub_tup S hTi (by decide) (Nat.le_of_ble_eq_true rfl) (v := .int xi.1 ti1) (by rfl) ?_ (by with_unfolding_all rfl)
      walk_at "c"
      with_reducible refine wpAny_BinOp ?_
      walk_at "i"
      refine cutW fun _ hk1 => ?_
      walk_at "f"; walk_at "n"
      refine callWith_def hT2 ?_ (by kernel_rfl!)
      walk_at "c"; walk_at "i"
      refine args_nil ?_
      refine ⟨S.get hT1, ?_⟩
      refine c_take (n := n + 3) R' S.base S.sub hT (S.tu _ (.head _)).2.2.1 (S.muGet (.head _)) ho (by lia) (by decide) fun v2 t o' b' h' t' hv20 hv21 G gg ho => ?_
      have gu := G.up
      refine hk1 _ _ ?_
      replace S := S.call1 (t := t') G gg
      dsimp only at S
      replace hvp := hvp.mono fun _ _ z => z.up gu
      replace fb := fb.mono gu fun _ _ z => z.up gu
      replace fa := fa.mono gu fun _ _ z => z.up gu
      with_reducible refine add_int ?_
      refine args_nil ?_
      refine new_tup S (by rfl) (Nat.le_of_ble_eq_true rfl) fun Tn b₇ h₇ t₇ up7 hTn S => ?_
      replace hvp := (hvp.mono fun _ _ z => z.up up7).set (v := .ref Tn) (x := (xi.1, 1 + v2)) ⟨Tn, _, _, rfl, hTn⟩ v1.toNat
      replace fb := fb.mono up7 fun _ _ z => z.up up7
      replace fa := fa.mono up7 fun _ _ z => z.up up7
      walk_at "n"; walk_at "n"
      replace S := S.swap
      refine set_lst S (by rfl) hv10 (by lia) (by lia) fun k' h₈ t₈ S => ?_
      refine S.frzK ha1 fun c4 u4 g4 S => ?_
      walk_at "z"
      replace fb := fb.mono u4 fun _ _ z => z.up u4
      replace fa := fa.mono u4 fun _ _ z => z.up u4
      have fp : ListOf c4 (IsPr c4) (.ref a1) (P.set v1.toNat (xi.1, 1 + v2)) := ⟨a1, _, k', rfl, g4, by rw [Array.toList_setIfInBounds]; exact hvp.mono fun _ _ z => z.up u4⟩
      exact ret _ _ _ _ _ _ Bk Ah _ _ _ _ S (by walk_at "W look") (by walk_at "W look") (by walk_at "W look") fp fb fa ((pr_set hP hxi (by lia) (by lia)).mono (by decide)) (hBk.mono (by decide)) (hAh.mono (by decide)) (ho.le (by lia))
  · replace S := S.perm perm4u
    refine S.frzK ha1 fun c2 u2 g2 S => ?_
    refine S.frzK ha3 fun c3 u3 g3 S => ?_
    have u23 := fun (a : Addr) (o : Obj) q => u3 a o (u2 a o q)
    replace hT1 := u23 _ _ hT1
    replace hT := hT.up u23
    replace hvb := hvb.mono fun _ _ z => z.up u23
    have fp : ListOf c3 (IsPr c3) (.ref a1) P := ⟨a1, vp, k1, rfl, u3 _ _ g2, hvp.mono fun _ _ z => z.up u23⟩
    have fa : ListOf c3 (ListOf c3 IsI) (.ref a3) Ah := ⟨a3, va, k3, rfl, g3, hva.mono fun _ _ z => z.up u23⟩
    refine if_noA S (by rfl) (by walk_at "W look") (by kernel_rfl!) (by rfl) ?_
    refine one_exec (if_no S (by rfl) (by walk_at "W look") (by kernel_rfl!) (by rfl) ?_)
    refine one_exec (if_yesA S (by rfl) (by walk_at "W look") (by kernel_rfl!) (by rfl) ?_)
    with_reducible refine isTrue_and ?_
    walk_at "q"; walk_at "n"
    refine PyProof.Rows.List_ ?_
    refine args_nil ?_
    refine new_lst S (by rfl) (by decide) fun a0 h₆ t₆ ha0 _ S => ?_
    refine ne_empty (f := liD) R' (S.muGet (.tail _ (.head _))) (S.muGet (.head _)) hvb (fun v x q => rd_list S.sub rd_int v x q) (fun x => (ok_li x).mono (by decide)) ?_
    replace S := S.drop
    walk_at "t"
    by_cases hne : Bk = []
    · subst hne
      refine ite_no (by rfl) ?_
      refine S.frzK ha2 fun c4 u4 g4 S => ?_
      with_reducible refine ite_no (by with_reducible rfl) ?_
      refine one_exec (if_no S (by rfl) (by walk_at "W look") (by kernel_rfl!) (by rfl) ?_)
      refine one_exec (if_noA S (by rfl) (by walk_at "W look") (by kernel_rfl!) (by rfl) ?_)
      refine one_exec (if_no S (by rfl) (by walk_at "W look") (by kernel_rfl!) (by rfl) ?_)
      refine one_exec (if_no S (by rfl) (by walk_at "W look") (by kernel_rfl!) (by rfl) ?_)
      refine one_exec (if_noA S (by rfl) (by walk_at "W look") (by kernel_rfl!) (by rfl) ?_)
      walk_at "z"
      replace fp := fp.mono u4 fun _ _ z => z.up u4
      replace fa := fa.mono u4 fun _ _ z => z.up u4
      have fb : ListOf c4 (ListOf c4 IsI) (.ref a2) [] := ⟨a2, vb, k2, rfl, g4, hvb.mono fun _ _ z => z.up u4⟩
      exact ret _ _ _ _ _ P [] Ah _ _ _ _ S (by walk_at "W look") (by walk_at "W look") (by walk_at "W look") fp fb fa (hP.mono (by decide)) (hBk.mono (by decide)) (hAh.mono (by decide)) (ho.le (by lia))
    · have hXpos : 0 < Bk.length := List.length_pos_iff.mpr hne
      refine ite_yes (by cases Bk with | nil => exact absurd rfl hne | cons => rfl) ?_
      with_reducible refine isTrue_and_nil ?_
      with_reducible refine ite_yes (by with_reducible rfl) ?_
      walk_at "x"
      refine wpAny_Assign_Subscript ?_ (by kernel_rfl!)
      walk_at "f"
      refine n_law_set (by assumption) (by kernel_rfl!) (by kernel_rfl!) (by kernel_rfl!) ?_
      refine callWith_K (kinH (by assumption)) (by with_reducible exact kp_f_law_set _) ?_ (by kernel_rfl!) (by kernel_rfl!)
      walk_at "c"; walk_at "n"
      refine args_nil ?_
      refine And.intro (kinH (by assumption)) ?_
      rename St _ _ _ _ _ _ _ => S
      replace S := S.swap
      refine c_law_set (n := n + 1) R' S.base S.sub hT (S.tu _ (.head _)).2.2.1 (S.muGet (.head _)) ho (by lia) fun sv gs o' b' h' t' hgs1 G gg ho hsv => ?_
      have gu := G.up
      replace S := S.call1 (t := t') G gg
      dsimp only at S
      replace hT1 := gu _ _ hT1
      replace hT := hT.up gu
      replace hvb := hvb.mono fun _ _ z => z.up gu
      replace fp := fp.mono gu fun _ _ z => z.up gu
      replace fa := fa.mono gu fun _ _ z => z.up gu
      walk_at "n"; walk_at "f"; walk_at "n"
      refine callWith_def hT2 ?_ (by kernel_rfl!)
      walk_at "c"; walk_at "f"
      refine n_len (by assumption) (by kernel_rfl!) (by kernel_rfl!) (by kernel_rfl!) (by kernel_rfl!) ?_
      refine PyProof.Rows.callWith_builtin1 ?_ (by kernel_rfl!) (by kernel_rfl!)
      walk_at "c"; walk_at "n"
      refine args_nil ?_
      refine len_lst (S.muGet (.tail _ (.head _))) (by lia) ?_
      refine args_nil ?_
      refine ⟨S.get hT1, ?_⟩
      refine c_take (n := n + 3) R' S.base S.sub hT (S.tu _ (.head _)).2.2.1 (S.muGet (.head _)) ho (by lia) (by lia) fun v1 t o' b' h' t' hv10 hv11 G gg ho => ?_
      have gu := G.up
      replace S := S.call1 (t := t') G gg
      dsimp only at S
      replace hsv := hsv.up gu
      replace hvb := (hvb.mono fun _ _ z => z.up gu).set hsv v1.toNat
      replace fp := fp.mono gu fun _ _ z => z.up gu
      replace fa := fa.mono gu fun _ _ z => z.up gu
      replace S := S.swap
      refine set_lst S (by rfl) hv10 (by lia) (by lia) fun k' h₈ t₈ S => ?_
      refine S.frzK ha2 fun c4 u4 g4 S => ?_
      walk_at "z"
      replace fp := fp.mono u4 fun _ _ z => z.up u4
      replace fa := fa.mono u4 fun _ _ z => z.up u4
      have fb : ListOf c4 (ListOf c4 IsI) (.ref a2) (Bk.set v1.toNat gs) := ⟨a2, _, k', rfl, g4, by rw [Array.toList_setIfInBounds]; exact hvb.mono fun _ _ z => z.up u4⟩
      exact ret _ _ _ _ _ P _ Ah _ _ _ _ S (by walk_at "W look") (by walk_at "W look") (by walk_at "W look") fp fb fa (hP.mono (by decide)) ((sets_set hBk hgs1).mono (by decide)) (hAh.mono (by decide)) (ho.le (by lia))
  · replace S := S.perm perm4s
    refine S.frzK ha1 fun c2 u2 g2 S => ?_
    refine S.frzK ha2 fun c3 u3 g3 S => ?_
    have u23 := fun (a : Addr) (o : Obj) q => u3 a o (u2 a o q)
    replace hT1 := u23 _ _ hT1
    replace hT := hT.up u23
    replace hva := hva.mono fun _ _ z => z.up u23
    have fp : ListOf c3 (IsPr c3) (.ref a1) P := ⟨a1, vp, k1, rfl, u3 _ _ g2, hvp.mono fun _ _ z => z.up u23⟩
    have fb : ListOf c3 (ListOf c3 IsI) (.ref a2) Bk := ⟨a2, vb, k2, rfl, g3, hvb.mono fun _ _ z => z.up u23⟩
    refine if_noA S (by rfl) (by walk_at "W look") (by kernel_rfl!) (by rfl) ?_
    refine one_exec (if_no S (by rfl) (by walk_at "W look") (by kernel_rfl!) (by rfl) ?_)
    refine one_exec (if_noA S (by rfl) (by walk_at "W look") (by kernel_rfl!) (by rfl) ?_)
    refine one_exec (if_no S (by rfl) (by walk_at "W look") (by kernel_rfl!) (by rfl) ?_)
    refine one_exec (if_noA S (by rfl) (by walk_at "W look") (by kernel_rfl!) (by rfl) ?_)
    refine one_exec (if_no S (by rfl) (by walk_at "W look") (by kernel_rfl!) (by rfl) ?_)
    refine one_exec (if_no S (by rfl) (by walk_at "W look") (by kernel_rfl!) (by rfl) ?_)
    refine one_exec (if_yesA S (by rfl) (by walk_at "W look") (by kernel_rfl!) (by rfl) ?_)
    with_reducible refine isTrue_and ?_
    walk_at "q"; walk_at "n"
    refine PyProof.Rows.List_ ?_
    refine args_nil ?_
    refine new_lst S (by rfl) (by decide) fun a0 h₆ t₆ ha0 _ S => ?_
    refine ne_empty (f := liD) R' (S.muGet (.tail _ (.head _))) (S.muGet (.head _)) hva (fun v x q => rd_list S.sub rd_int v x q) (fun x => (ok_li x).mono (by decide)) ?_
    replace S := S.drop
    walk_at "t"
    by_cases hne : Ah = []
    · subst hne
      refine ite_no (by rfl) ?_
      refine S.frzK ha3 fun c4 u4 g4 S => ?_
      with_reducible refine ite_no (by with_reducible rfl) ?_
      walk_at "z"
      replace fp := fp.mono u4 fun _ _ z => z.up u4
      replace fb := fb.mono u4 fun _ _ z => z.up u4
      have fa : ListOf c4 (ListOf c4 IsI) (.ref a3) [] := ⟨a3, va, k3, rfl, g4, hva.mono fun _ _ z => z.up u4⟩
      exact ret _ _ _ _ _ P Bk [] _ _ _ _ S (by walk_at "W look") (by walk_at "W look") (by walk_at "W look") fp fb fa (hP.mono (by decide)) (hBk.mono (by decide)) (hAh.mono (by decide)) (ho.le (by lia))
    · have hXpos : 0 < Ah.length := List.length_pos_iff.mpr hne
      refine ite_yes (by cases Ah with | nil => exact absurd rfl hne | cons => rfl) ?_
      with_reducible refine isTrue_and_nil ?_
      with_reducible refine ite_yes (by with_reducible rfl) ?_
      walk_at "x"
      refine wpAny_Assign_Subscript ?_ (by kernel_rfl!)
      walk_at "f"
      refine n_law_set (by assumption) (by kernel_rfl!) (by kernel_rfl!) (by kernel_rfl!) ?_
      refine callWith_K (kinH (by assumption)) (by with_reducible exact kp_f_law_set _) ?_ (by kernel_rfl!) (by kernel_rfl!)
      walk_at "c"; walk_at "n"
      refine args_nil ?_
      refine And.intro (kinH (by assumption)) ?_
      rename St _ _ _ _ _ _ _ => S
      replace S := S.swap
      refine c_law_set (n := n + 1) R' S.base S.sub hT (S.tu _ (.head _)).2.2.1 (S.muGet (.head _)) ho (by lia) fun sv gs o' b' h' t' hgs1 G gg ho hsv => ?_
      have gu := G.up
      replace S := S.call1 (t := t') G gg
      dsimp only at S
      replace hT1 := gu _ _ hT1
      replace hT := hT.up gu
      replace hva := hva.mono fun _ _ z => z.up gu
      replace fp := fp.mono gu fun _ _ z => z.up gu
      replace fb := fb.mono gu fun _ _ z => z.up gu
      walk_at "n"; walk_at "f"; walk_at "n"
      refine callWith_def hT2 ?_ (by kernel_rfl!)
      walk_at "c"; walk_at "f"
      refine n_len (by assumption) (by kernel_rfl!) (by kernel_rfl!) (by kernel_rfl!) (by kernel_rfl!) ?_
      refine PyProof.Rows.callWith_builtin1 ?_ (by kernel_rfl!) (by kernel_rfl!)
      walk_at "c"; walk_at "n"
      refine args_nil ?_
      refine len_lst (S.muGet (.tail _ (.head _))) (by lia) ?_
      refine args_nil ?_
      refine ⟨S.get hT1, ?_⟩
      refine c_take (n := n + 3) R' S.base S.sub hT (S.tu _ (.head _)).2.2.1 (S.muGet (.head _)) ho (by lia) (by lia) fun v1 t o' b' h' t' hv10 hv11 G gg ho => ?_
      have gu := G.up
      replace S := S.call1 (t := t') G gg
      dsimp only at S
      replace hsv := hsv.up gu
      replace hva := (hva.mono fun _ _ z => z.up gu).set hsv v1.toNat
      replace fp := fp.mono gu fun _ _ z => z.up gu
      replace fb := fb.mono gu fun _ _ z => z.up gu
      replace S := S.swap
      refine set_lst S (by rfl) hv10 (by lia) (by lia) fun k' h₈ t₈ S => ?_
      refine S.frzK ha3 fun c4 u4 g4 S => ?_
      walk_at "z"
      replace fp := fp.mono u4 fun _ _ z => z.up u4
      replace fb := fb.mono u4 fun _ _ z => z.up u4
      have fa : ListOf c4 (ListOf c4 IsI) (.ref a3) (Ah.set v1.toNat gs) := ⟨a3, _, k', rfl, g4, by rw [Array.toList_setIfInBounds]; exact hva.mono fun _ _ z => z.up u4⟩
      exact ret _ _ _ _ _ P Bk _ _ _ _ _ S (by walk_at "W look") (by walk_at "W look") (by walk_at "W look") fp fb fa (hP.mono (by decide)) (hBk.mono (by decide)) ((sets_set hAh hgs1).mono (by decide)) (ho.le (by lia))
end
-- LV
theorem asc_len : ∀ (P Q : List (Int × Int)), (P.map (·.1)).Pairwise (· < ·) → (Q.map (·.1)).Pairwise (· < ·) → (∀ p ∈ P, p ∈ Q) → P.length ≤ Q.length
  | [], _, _, _, _ => Nat.zero_le _
  | p :: P, [], _, _, h => absurd (h p (.head _)) (by simp)
  | p :: P, q :: Q, hP, hQ, h => by
    rw [List.map_cons] at hP hQ
    refine nay fun hG => ?_
    obtain ⟨a1, a2⟩ := List.pairwise_cons.mp hP
    obtain ⟨c1, c2⟩ := List.pairwise_cons.mp hQ
    refine hG ?_; clear hG
    rcases List.mem_cons.mp (h p (.head _)) with e | hp
    · have := asc_len P Q a2 c2 fun x hx => by
        rcases List.mem_cons.mp (h x (.tail _ hx)) with e2 | hx'
        · have := a1 x.1 (List.mem_map_of_mem hx)
          rw [e2, e] at this
          lia
        · exact hx'
      simp only [List.length_cons]; lia
    · have hall : ∀ x ∈ p :: P, x ∈ Q := fun x hx => by
        have hlt := c1 p.1 (List.mem_map_of_mem hp)
        rcases List.mem_cons.mp (h x hx) with e2 | hx'
        · rcases List.mem_cons.mp hx with e3 | hx3
          · rw [e3] at e2; rw [e2] at hlt; lia
          · have := a1 x.1 (List.mem_map_of_mem hx3)
            rw [e2] at this
            lia
        · exact hx'
      have := asc_len (p :: P) Q (by rw [List.map_cons]; exact hP) c2 hall
      simp only [List.length_cons] at this ⊢; lia
theorem asc_eq : ∀ (P Q : List (Int × Int)), (P.map (·.1)).Pairwise (· < ·) → (Q.map (·.1)).Pairwise (· < ·) → P.length = Q.length → (∀ p ∈ P, p ∈ Q) → P = Q
  | [], [], _, _, _, _ => rfl
  | [], _ :: _, _, _, e, _ => by simp at e
  | _ :: _, [], _, _, e, _ => by simp at e
  | p :: P, q :: Q, hP, hQ, e, h => by
    have hP' := hP
    rw [List.map_cons] at hP hQ
    refine nay fun hG => ?_
    obtain ⟨a1, a2⟩ := List.pairwise_cons.mp hP
    obtain ⟨c1, c2⟩ := List.pairwise_cons.mp hQ
    refine hG ?_; clear hG
    rcases List.mem_cons.mp (h p (.head _)) with e1 | hp
    · subst e1
      rw [asc_eq P Q a2 c2 (by simpa using e) fun x hx => by
        rcases List.mem_cons.mp (h x (.tail _ hx)) with e2 | hx'
        · have := a1 x.1 (List.mem_map_of_mem hx)
          rw [e2] at this
          lia
        · exact hx']
    · have hall : ∀ x ∈ p :: P, x ∈ Q := fun x hx => by
        have hlt := c1 p.1 (List.mem_map_of_mem hp)
        rcases List.mem_cons.mp (h x hx) with e2 | hx'
        · rcases List.mem_cons.mp hx with e3 | hx3
          · rw [e3] at e2; rw [e2] at hlt; lia
          · have := a1 x.1 (List.mem_map_of_mem hx3)
            rw [e2] at this
            lia
        · exact hx'
      have := asc_len (p :: P) Q hP' c2 hall
      simp only [List.length_cons] at this e; lia
theorem hits_of {A : Around} {s : Shared} {kb : List (Int × Value)} {P' : List (Int × Int)} (h2 : KV kb P') (nd : (P'.map (·.1)).Nodup) : ∀ (ka : List (Int × Value)) (P : List (Int × Int)), KV ka P → KeqHits A s kb ka (P.all fun p => decide (p ∈ P'))
  | [], [], _ => .nil
  | [], _ :: _, h => by cases h.1
  | _ :: _, [], h => by cases h.1
  | (k, v) :: r, (k', x) :: Pr, h => by
    obtain ⟨h1, hv⟩ := h
    simp only [List.map_cons, List.cons.injEq] at h1
    simp only [List.map_cons] at hv
    obtain ⟨rfl, h1⟩ := h1
    cases hv with
    | cons a ra =>
      have rest := hits_of (A := A) (s := s) h2 nd r Pr ⟨h1, ra⟩
      obtain ⟨t, rfl⟩ := a
      by_cases hk : k ∈ P'.map (·.1)
      · obtain ⟨vy, e1, u, rfl⟩ := h2.val nd hk
        have := KeqHits.hit (v := .int x t) e1 (SeqAt.EqAt.int_int x t (val P' k) u) rest
        have e : decide ((k, x) ∈ P') = (x == val P' k) := by
          by_cases hx : x = val P' k
          · subst hx
            simp [val_mem hk]
          · have : (k, x) ∉ P' := fun hm => by
              obtain ⟨i, hi⟩ := List.mem_iff_getElem?.mp hm
              exact hx (val_at nd hi).symm
            simp [this, hx]
        rw [List.all_cons, e]
        exact this
      · have hn : valueAt kb k = none := by
          unfold valueAt
          rw [Option.map_eq_none_iff, List.find?_eq_none]
          intro kv hkv hd
          have : kv.1 ∈ kb.map (·.1) := List.mem_map_of_mem hkv
          rw [h2.1, of_decide_eq_true hd] at this
          exact hk this
        have hm : (k, x) ∉ P' := fun hm => hk (List.mem_map.mpr ⟨_, hm, rfl⟩)
        rw [List.all_cons, decide_eq_false hm, Bool.false_and]
        exact .miss hn
theorem pairs_any {w w' : World} {p' : Program} {es : List DictEntry} {kvs : List (Int × Value)} (h : Pairs (intKind pw w) es kvs) : Pairs (intKind p' w') es kvs := by
  induction h with
  | nil => exact .nil
  | cons a c d ih => exact .cons a c ih
theorem dict_any {w w' : World} {p' : Program} {h : Heap} {a : Addr} {kvs : List (Int × Value)} (d : h.DictOf (intKind pw w) a kvs) : h.DictOf (intKind p' w') a kvs := by
  refine nay fun hG => ?_
  obtain ⟨o, es, ep, g, x, hd, k, p, n⟩ := d
  refine hG ?_; clear hG
  exact ⟨o, es, ep, g, x, hd, k, pairs_any p, n⟩
theorem all_mem_eq {P P' : List (Int × Int)} (h1 : (P.map (·.1)).Pairwise (· < ·)) (h2 : (P'.map (·.1)).Pairwise (· < ·)) : (P.length == P'.length && P.all fun p => decide (p ∈ P')) = decide (P = P') := by
  by_cases e : P = P'
  · subst e
    simp
  · rw [decide_eq_false e]
    cases q : (P.length == P'.length && P.all fun p => decide (p ∈ P')) with
    | false => rfl
    | true =>
      obtain ⟨q1, q2⟩ := Bool.and_eq_true_iff.mp q
      exact absurd (asc_eq P P' h1 h2 (by simpa using q1) fun p hp => of_decide_eq_true (List.all_eq_true.mp q2 p hp)) e
section
variable {w : World} {A : Around} {E : Value → Shared → Prop} {s s0 : Shared} {e : En} {b : PM} {L : Addr} {m : Str → Option Value} {mu : List (Addr × Obj)} {n : Nat} {t0 : Nat} {Q : Value → Shared → Prop}
theorem Room.far1 (R : Room A n) : A.in1.units + 64 < cLine := by have := R.un; show A.units + 1 + 64 < 9900; lia
theorem eq_means {v1 v2 : Value} {d1 d2 : Addr} {P P' : List (Int × Int)} {B B' C C' : List (List Int)} (R : Room A n) (S : St w e b L m mu { s with toks := t0 }) (h1 : MeansIs w b v1 d1 P B C) (h2 : MeansIs w b v2 d2 P' B' C') (hne : d1 ≠ d2)
    (hP : (P.map (·.1)).Pairwise (· < ·)) (hP' : (P'.map (·.1)).Pairwise (· < ·)) (h : Q (.bool (decide (P = P' ∧ B = B' ∧ C = C'))) s) : wpAny (model pw w) A (compareOp .Eq v1 v2) Q E s := by
  refine nay fun hG => ?_
  obtain ⟨T1, lb1, la1, rfl, g1, ⟨x1, o1, kv1, e1, n1, gd1, D1, K1⟩, hb1, hc1⟩ := h1
  obtain ⟨T2, lb2, la2, rfl, g2, ⟨x2, o2, kv2, e2, n2, gd2, D2, K2⟩, hb2, hc2⟩ := h2
  refine hG ?_; clear hG
  cases e1
  cases e2
  have s1 : (d1 == sysModules) = false := beq_eq_false_iff_ne.mpr (Nat.ne_of_gt (Nat.lt_of_le_of_lt (by decide) n1))
  have s2 : (d2 == sysModules) = false := beq_eq_false_iff_ne.mpr (Nat.ne_of_gt (Nat.lt_of_le_of_lt (by decide) n2))
  have nd2 : (P'.map (·.1)).Nodup := hP'.imp fun h => by lia
  have l1 : kv1.length = P.length := by have := congrArg List.length K1.1; simpa using this
  have l2 : kv2.length = P'.length := by have := congrArg List.length K2.1; simpa using this
  have hu1 : A.in1.units < cLine := by have := R.un; show A.units + 1 < 9900; lia
  have E0 : SeqAt.EqAt A.in1 s (.ref d1) (.ref d2) (decide (P = P')) := by
    refine SeqAt.EqAt.of_refs hne fun prog' w' E' Q' hq => ?_
    refine keq_eq (prog := prog') (w := w') (knd := intKind prog' w') (ka := kv1) (kb := kv2) (r := P.all fun p => decide (p ∈ P')) s1 s2 (dict_any (D1.of (S.get gd1))) (dict_any (D2.of (S.get gd2))) hu1 (fun _ => hits_of K2 nd2 kv1 P K1) ?_
    rw [l1, l2, all_mem_eq hP hP']
    exact hq
  refine nay fun hG => ?_
  obtain ⟨_, rb1⟩ := rd_list (f := liD) S.sub (fun v x q => rd_list S.sub rd_int v x q) _ _ hb1
  obtain ⟨_, rb2⟩ := rd_list (f := liD) S.sub (fun v x q => rd_list S.sub rd_int v x q) _ _ hb2
  obtain ⟨_, rc1⟩ := rd_list (f := liD) S.sub (fun v x q => rd_list S.sub rd_int v x q) _ _ hc1
  obtain ⟨_, rc2⟩ := rd_list (f := liD) S.sub (fun v x q => rd_list S.sub rd_int v x q) _ _ hc2
  refine hG ?_; clear hG
  have sh : ∀ X : List (List Int), SeqAt.shaped (.list (X.map liD)) = true := fun X => ((okD.list (ok_map ok_li X)).mono (by decide)).shaped
  have E1 : SeqAt.EqAt A.in1 s lb1 lb2 (decide (B = B')) := by
    have := keq_at (s := s) rb1 rb2 (sh _) (sh _) R.far1
    rwa [show PyData.eqv (.list (B.map liD)) (.list (B'.map liD)) = decide (B = B') from eqv_map eqv_li B B'] at this
  have E2 : SeqAt.EqAt A.in1 s la1 la2 (decide (C = C')) := by
    have := keq_at (s := s) rc1 rc2 (sh _) (sh _) R.far1
    rwa [show PyData.eqv (.list (C.map liD)) (.list (C'.map liD)) = decide (C = C') from eqv_map eqv_li C C'] at this
  refine SeqAt.eq_tupleAt (items := #[.ref d1, lb1, la1]) (items2 := #[.ref d2, lb2, la2]) (e := fun j => if j = 0 then decide (P = P') else if j = 1 then decide (B = B') else decide (C = C')) ⟨_, S.get g1, rfl, 0, rfl⟩ ⟨_, S.get g2, rfl, 0, rfl⟩ (Room.line R) (fun j q1 q2 => ?_) ?_
  · match j, q1, q2 with
    | 0, _, _ => exact E0
    | 1, _, _ => exact E1
    | 2, _, _ => exact E2
    | j + 3, q1, _ => exact absurd q1 (by simp)
  · have : ((List.range (min 3 3)).all (fun j => if j = 0 then decide (P = P') else if j = 1 then decide (B = B') else decide (C = C')) && 3 == 3) = decide (P = P' ∧ B = B' ∧ C = C') := by
      show (decide (P = P') && (decide (B = B') && (decide (C = C') && true)) && true) = _
      by_cases h1 : P = P' <;> by_cases h2 : B = B' <;> by_cases h3 : C = C' <;> simp [h1, h2, h3]
    show Q (.bool ((List.range (min 3 3)).all _ && 3 == 3)) s
    rw [this]
    exact h
theorem ne_bool {x y : Bool} (R : Room A n) (h : Q (.bool (!(x == y))) s) : wpAny (model pw w) A (compareOp .NotEq (.bool x) (.bool y)) Q E s :=
  ne_dataH (.bool x) (.bool y) (by cases x <;> rfl) (by cases y <;> rfl) R.far h
end
-- LW
noncomputable def NumL (l : List UInt8) (p : Nat) (x : Int) : Prop := ∃ hi lo : UInt8, l[p]? = some hi ∧ l[p + 1]? = some lo ∧ x = (hi.toNat : Int) * 256 + lo.toNat
theorem NumL.arr {l : List UInt8} {p : Nat} {x : Int} (h : NumL l p x) : Num l.toArray p x := by
  refine nay fun hG => ?_
  obtain ⟨hi, lo, h1, h2, h3⟩ := h
  refine hG ?_; clear hG
  exact ⟨hi, lo, by simpa using h1, by simpa using h2, h3⟩
theorem NumL.left {l r : List UInt8} {p : Nat} {x : Int} (h : NumL l p x) : NumL (l ++ r) p x := by
  refine nay fun hG => ?_
  obtain ⟨hi, lo, h1, h2, h3⟩ := h
  refine hG ?_; clear hG
  have l1 := (List.getElem?_eq_some_iff.mp h1).1
  have l2 := (List.getElem?_eq_some_iff.mp h2).1
  exact ⟨hi, lo, by rw [List.getElem?_append_left l1]; exact h1, by rw [List.getElem?_append_left l2]; exact h2, h3⟩
theorem NumL.right {l r : List UInt8} {p : Nat} {x : Int} (h : NumL r p x) : NumL (l ++ r) (l.length + p) x := by
  refine nay fun hG => ?_
  obtain ⟨hi, lo, h1, h2, h3⟩ := h
  refine hG ?_; clear hG
  exact ⟨hi, lo, by rw [List.getElem?_append_right (by lia), Nat.add_sub_cancel_left]; exact h1, by rw [List.getElem?_append_right (by lia), show l.length + p + 1 - l.length = p + 1 by lia]; exact h2, h3⟩
theorem NumL.drop {l : List UInt8} {k p : Nat} {x : Int} (h : NumL (l.drop k) p x) : NumL l (k + p) x := by
  refine nay fun hG => ?_
  obtain ⟨hi, lo, h1, h2, h3⟩ := h
  refine hG ?_; clear hG
  rw [List.getElem?_drop] at h1 h2
  exact ⟨hi, lo, h1, h2, h3⟩
theorem w16_num {x : Int} (h0 : 0 ≤ x) (h1 : x < 65536) (r : List UInt8) : NumL (w16 x ++ r) 0 x := by
  refine ⟨(x / 256).toNat.toUInt8, (x % 256).toNat.toUInt8, rfl, rfl, ?_⟩
  have a1 : (x / 256).toNat < 256 := by lia
  have a2 : (x % 256).toNat < 256 := by lia
  have e1 : ((x / 256).toNat.toUInt8).toNat = (x / 256).toNat := by simp [Nat.mod_eq_of_lt a1]
  have e2 : ((x % 256).toNat.toUInt8).toNat = (x % 256).toNat := by simp [Nat.mod_eq_of_lt a2]
  rw [e1, e2]
  lia
theorem num_flat : ∀ (nums : List Int) (i : Nat) (x : Int), nums[i]? = some x → (∀ x ∈ nums, 0 ≤ x ∧ x < 65536) → NumL (nums.flatMap w16) (2 * i) x
  | [], _, _, h, _ => by simp at h
  | y :: nums, 0, x, h, hb => by
    obtain rfl : y = x := by simpa using h
    rw [List.flatMap_cons]
    obtain ⟨h0, h1⟩ := hb y (.head _)
    exact w16_num h0 h1 _
  | y :: nums, i + 1, x, h, hb => by
    rw [List.flatMap_cons]
    have := (num_flat nums i x (by simpa using h) fun z hz => hb z (.tail _ hz)).right (l := w16 y)
    rw [show 2 * (i + 1) = (w16 y).length + 2 * i by rw [w16_len]; lia]
    exact this
noncomputable def GoodAt (begin : Int) (out : List UInt8) (o : Int) (p : List UInt8) : Prop := begin ≤ o ∧ p <+: out.drop (o - begin).toNat
theorem GoodAt.app {begin : Int} {out : List UInt8} {o : Int} {p : List UInt8} (h : GoodAt begin out o p) (q : List UInt8) : GoodAt begin (out ++ q) o p := by
  refine ⟨h.1, h.2.trans ?_⟩
  rw [List.drop_append]
  exact List.prefix_append ..
theorem GoodAt.new (begin : Int) (out p : List UInt8) : GoodAt begin (out ++ p) (begin + out.length) p := by
  refine ⟨by lia, ?_⟩
  rw [show (begin + (out.length : Int) - begin).toNat = out.length by lia, List.drop_left]
  exact List.prefix_refl _
theorem laid_good (begin : Int) : ∀ (ps done : List (List UInt8)) (st : LaidSt), st.1.length = done.length → (∀ x ∈ st.2.1, GoodAt begin st.2.2 x.2 x.1) → (∀ (i : Nat) o p, st.1[i]? = some o → done[i]? = some p → GoodAt begin st.2.2 o p) →
    ∀ (i : Nat) o p, (ps.foldl (laidStep begin) st).1[i]? = some o → (done ++ ps)[i]? = some p → GoodAt begin (ps.foldl (laidStep begin) st).2.2 o p
  | [], done, st, _, _, h3 => by simpa using h3
  | q :: ps, done, st, h1, h2, h3 => by
    have e : done ++ q :: ps = (done ++ [q]) ++ ps := by simp
    rw [e, List.foldl_cons]
    unfold laidStep
    cases hq : place? st.2.1 q with
    | some o' =>
      refine laid_good begin ps (done ++ [q]) _ (by simp [h1]) h2 fun i o p ho hp => ?_
      by_cases hlt : i < st.1.length
      · rw [List.getElem?_append_left hlt] at ho
        rw [List.getElem?_append_left (by lia)] at hp
        exact h3 i o p ho hp
      · have hi : i = st.1.length := by
          have := (List.getElem?_eq_some_iff.mp ho).1
          simp at this
          lia
        subst hi
        simp at ho
        rw [h1] at hp
        simp at hp
        subst ho
        subst hp
        unfold place? at hq
        rw [Option.map_eq_some_iff] at hq
        refine nay fun hG => ?_
        obtain ⟨x, hx, rfl⟩ := hq
        refine hG ?_; clear hG
        have hx1 : x.1 = q := by simpa using List.find?_some hx
        rw [← hx1]
        exact h2 x (List.mem_of_find?_eq_some hx)
    | none =>
      refine laid_good begin ps (done ++ [q]) _ (by simp [h1]) (fun x hx => ?_) fun i o p ho hp => ?_
      · rcases List.mem_append.mp hx with z | z
        · exact (h2 x z).app q
        · rw [List.mem_singleton.mp z]; exact .new ..
      · by_cases hlt : i < st.1.length
        · rw [List.getElem?_append_left hlt] at ho
          rw [List.getElem?_append_left (by lia)] at hp
          exact (h3 i o p ho hp).app q
        · have hi : i = st.1.length := by
            have := (List.getElem?_eq_some_iff.mp ho).1
            simp at this
            lia
          subst hi
          simp at ho
          rw [h1] at hp
          simp at hp
          subst ho
          subst hp
          exact .new ..
theorem laid_at (begin : Int) (ps : List (List UInt8)) (i : Nat) (o : Int) (p : List UInt8) (ho : (laidF begin ps).1[i]? = some o) (hp : ps[i]? = some p) : GoodAt begin (laidF begin ps).2.2 o p :=
  laid_good begin ps [] ([], [], []) rfl (fun _ h => nomatch h) (fun i o p h => by simp at h) i o p ho hp
noncomputable def GoodG (gs : List Int) : Prop := gs.Pairwise (· < ·) ∧ ∀ x ∈ gs, 1 ≤ x ∧ x ≤ 6
theorem mem_subs : ∀ (ys xs : List Int), ys.Pairwise (· < ·) → xs.Pairwise (· < ·) → (∀ x ∈ xs, x ∈ ys) → xs ∈ subs ys
  | [], [], _, _, _ => by simp [subs]
  | [], x :: _, _, _, h => absurd (h x (.head _)) (by simp)
  | y :: ys, xs, hy, hx, h => by
    obtain ⟨a1, a2⟩ := List.pairwise_cons.mp hy
    unfold subs
    cases xs with
    | nil => exact List.mem_append_left _ (mem_subs ys [] a2 hx (fun _ h => nomatch h))
    | cons x xs =>
      obtain ⟨c1, c2⟩ := List.pairwise_cons.mp hx
      rcases List.mem_cons.mp (h x (.head _)) with e | hm
      · subst e
        refine List.mem_append_right _ (List.mem_map.mpr ⟨xs, mem_subs ys xs a2 c2 fun z hz => ?_, rfl⟩)
        rcases List.mem_cons.mp (h z (.tail _ hz)) with e | q
        · have := c1 z hz; lia
        · exact q
      · refine List.mem_append_left _ (mem_subs ys (x :: xs) a2 hx fun z hz => ?_)
        rcases List.mem_cons.mp (h z hz) with e | q
        · rcases List.mem_cons.mp hz with e2 | hz'
          · rw [e2]; exact hm
          · have := a1 x hm; have := c1 z hz'; lia
        · exact q
noncomputable def covOk (gs : List Int) : Bool :=
  decide (gs.length ≤ 6) && ((covNums gs).all (fun x => decide (0 ≤ x) && decide (x < 65536)) && (decide (covNums gs = 1 :: (gs.length : Int) :: gs) ||
    six.any fun f => (List.range 6).any fun g => decide (covNums gs = [2, 1, f, f + (g : Nat), 0]) && decide (gs = spanL f (g + 1))))
theorem cov_ok : (subs six).all covOk = true := by decide +kernel
theorem GoodG.mem {gs : List Int} (h : GoodG gs) : gs ∈ subs six := mem_subs six gs (by unfold six; decide) h.1 fun x hx => mem_six (h.2 x hx).1 (h.2 x hx).2
theorem GoodG.ok {gs : List Int} (h : GoodG gs) : gs.length ≤ 6 ∧ (∀ x ∈ covNums gs, 0 ≤ x ∧ x < 65536) ∧ (covNums gs = 1 :: (gs.length : Int) :: gs ∨ ∃ (f : Int) (g : Nat), covNums gs = [2, 1, f, f + (g : Nat), 0] ∧ gs = spanL f (g + 1) ∧ 0 ≤ f ∧ f ≤ 65535) := by
  have := List.all_eq_true.mp cov_ok gs h.mem
  unfold covOk at this
  refine nay fun hG => ?_
  obtain ⟨q1, q⟩ := Bool.and_eq_true_iff.mp this
  obtain ⟨q2, q⟩ := Bool.and_eq_true_iff.mp q
  refine hG ?_; clear hG
  refine ⟨of_decide_eq_true q1, fun x hx => ?_, ?_⟩
  · obtain ⟨r1, r2⟩ := Bool.and_eq_true_iff.mp (List.all_eq_true.mp q2 x hx)
    exact ⟨of_decide_eq_true r1, of_decide_eq_true r2⟩
  · rcases Bool.or_eq_true_iff.mp q with q | q
    · exact .inl (of_decide_eq_true q)
    · obtain ⟨f, hf, q⟩ := List.any_eq_true.mp q
      refine nay fun hG => ?_
      obtain ⟨g, _, q⟩ := List.any_eq_true.mp q
      obtain ⟨r1, r2⟩ := Bool.and_eq_true_iff.mp q
      refine hG ?_; clear hG
      have hf' : ∀ f ∈ six, (0 : Int) ≤ f ∧ f ≤ 65535 := by decide
      exact .inr ⟨f, g, of_decide_eq_true r1, of_decide_eq_true r2, hf' f hf⟩
theorem cov_at {d : List UInt8} {q : Nat} {gs : List Int} (h : GoodG gs) (hp : covBytes gs <+: d.drop q) : CovD d.toArray q gs := by
  refine nay fun hG => ?_
  obtain ⟨h1, h2, h3⟩ := h.ok
  obtain ⟨r, hr⟩ := hp
  refine hG ?_; clear hG
  have num : ∀ (i : Nat) (x : Int), (covNums gs)[i]? = some x → Num d.toArray (q + 2 * i) x := fun i x hx => by
    refine NumL.arr (NumL.drop ?_)
    rw [← hr]
    exact (num_flat _ i x hx h2).left
  refine ⟨by lia, ?_⟩
  rcases h3 with e | ⟨f, g, e, e2, f0, f1⟩
  · refine .inl ⟨num 0 _ (by rw [e]; rfl), num 1 _ (by rw [e]; rfl), fun i v hv => ?_, h.1⟩
    have := num (2 + i) v (by rw [e, show 2 + i = i + 1 + 1 by lia]; simpa using hv)
    rw [show q + 2 + 2 + 2 * i = q + 2 * (2 + i) by lia]
    exact this
  · exact .inr ⟨f, g, num 0 _ (by rw [e]; rfl), num 1 _ (by rw [e]; rfl), num 2 _ (by rw [e]; rfl), num 3 _ (by rw [e]; rfl), num 4 _ (by rw [e]; rfl), e2, f0, f1⟩
-- LX
theorem gset_asc {xs : List Int} (h : xs.Pairwise (· < ·)) : gset xs = xs := by
  obtain ⟨h1, h2⟩ := gset_spec xs
  exact asc_ext _ _ h1 h h2
theorem rev_data {mp : List (Int × Int)} {back ahead : List (List Int)} (nd : (mp.map (·.1)).Nodup) (hm : RawOk mp) (hl : mp.length ≤ 6) (hbl : back.length ≤ 4) (hal : ahead.length ≤ 4) (hB : ∀ gs ∈ back, GoodG gs) (hA : ∀ gs ∈ ahead, GoodG gs) :
    (∃ o0 o1 o2, RevD (revBytes mp back ahead).toArray (revKeys mp) ((revKeys mp).map (val mp)) back ahead o0 o1 o2) ∧ (∀ gs ∈ revCovs mp back ahead, gs.length < 20 ∧ ∀ x ∈ covNums gs, 0 ≤ x ∧ x < 65536) ∧ (∀ k ∈ revKeys mp, 0 ≤ val mp k ∧ val mp k < 65536) := by
  have hkasc : (revKeys mp).Pairwise (· < ·) := isort_lt nd
  have hkm : ∀ k ∈ revKeys mp, k ∈ mp.map (·.1) := fun k hk => (isort_perm _).mem_iff.mp hk
  have hkl : (revKeys mp).length = mp.length := by unfold revKeys; rw [(isort_perm _).length_eq, List.length_map]
  have hkg : GoodG (revKeys mp) := ⟨hkasc, fun x hx => by
    obtain ⟨p, hp, rfl⟩ := List.mem_map.mp (hkm x hx)
    exact (hm p hp).1⟩
  have hvv : ∀ k ∈ revKeys mp, 1 ≤ val mp k ∧ val mp k ≤ 9 := fun k hk => (hm _ (val_mem (hkm k hk))).2
  have hcovs : revCovs mp back ahead = revKeys mp :: (back ++ ahead) := by unfold revCovs; rw [gset_asc hkasc]; simp
  have hg : ∀ gs ∈ revCovs mp back ahead, GoodG gs := fun gs hgs => by
    rw [hcovs] at hgs
    rcases List.mem_cons.mp hgs with rfl | h
    · exact hkg
    · exact (List.mem_append.mp h).elim (hB gs) (hA gs)
  have hC : ∀ gs ∈ revCovs mp back ahead, gs.length < 20 ∧ ∀ x ∈ covNums gs, 0 ≤ x ∧ x < 65536 := fun gs hgs => ⟨by have := (hg gs hgs).ok.1; lia, (hg gs hgs).ok.2.1⟩
  have hV : ∀ k ∈ revKeys mp, 0 ≤ val mp k ∧ val mp k < 65536 := fun k hk => by have := hvv k hk; lia
  refine ⟨?_, hC, hV⟩
  have hcl : (revCovs mp back ahead).length = 1 + back.length + ahead.length := by rw [hcovs]; simp; lia
  have hlen := laid_len (revBegin mp back ahead) ((revCovs mp back ahead).map covBytes)
  rw [List.length_map, hcl] at hlen
  have hsum := sum_le ((revCovs mp back ahead).map covBytes) 124 fun p hp => by
    obtain ⟨gs, hgs, rfl⟩ := List.mem_map.mp hp
    exact covBytes_len gs (hC gs hgs).1
  rw [List.length_map, hcl] at hsum
  have hbnd := laid_bound (revBegin mp back ahead) ((revCovs mp back ahead).map covBytes)
  have hgood := laid_at (revBegin mp back ahead) ((revCovs mp back ahead).map covBytes)
  change (revLaid mp back ahead).2.2.length ≤ _ ∧ (revLaid mp back ahead).1.length = _ ∧ _ at hlen
  change ∀ o ∈ (revLaid mp back ahead).1, _ ≤ o ∧ o ≤ _ + ((revLaid mp back ahead).2.2.length : Int) at hbnd
  change ∀ (i : Nat) (o : Int) (p : List UInt8), (revLaid mp back ahead).1[i]? = some o → _ → GoodAt _ (revLaid mp back ahead).2.2 o p at hgood
  have hbeg : revBegin mp back ahead = 10 + 2 * ((back.length : Int) + ahead.length + mp.length) := by unfold revBegin; rw [hkl]
  have hbytes : revBytes mp back ahead = (revNums mp back ahead).flatMap w16 ++ (revLaid mp back ahead).2.2 := rfl
  have hnums : revNums mp back ahead = [1, (revLaid mp back ahead).1.headD 0] ++ ((back.length : Int) :: ((revLaid mp back ahead).1.drop 1).take back.length) ++ ((ahead.length : Int) :: (revLaid mp back ahead).1.drop (1 + back.length)) ++ (((revKeys mp).length : Int) :: (revKeys mp).map (val mp)) := rfl
  generalize hO : (revLaid mp back ahead).1 = offs at *
  generalize hU : (revLaid mp back ahead).2.2 = out at *
  obtain ⟨hl1, hl2, _⟩ := hlen
  obtain ⟨o0, offs', rfl⟩ : ∃ o r, offs = o :: r := by
    cases offs with
    | nil => simp at hl2; lia
    | cons o r => exact ⟨o, r, rfl⟩
  have hol : offs'.length = back.length + ahead.length := by simp at hl2; lia
  have e1 : (o0 :: offs').drop (1 + back.length) = offs'.drop back.length := by rw [Nat.add_comm, List.drop_succ_cons]
  rw [e1] at hnums
  change revNums mp back ahead = [1, o0] ++ ((back.length : Int) :: offs'.take back.length) ++ ((ahead.length : Int) :: offs'.drop back.length) ++ (((revKeys mp).length : Int) :: (revKeys mp).map (val mp)) at hnums
  have ho1 : (offs'.take back.length).length = back.length := by rw [List.length_take]; lia
  have ho2 : (offs'.drop back.length).length = ahead.length := by rw [List.length_drop]; lia
  have hnl : (revNums mp back ahead).length = 5 + back.length + ahead.length + mp.length := by
    rw [hnums]; simp [ho1, ho2, hkl]; lia
  have hfl : ((revNums mp back ahead).flatMap w16).length = 2 * (5 + back.length + ahead.length + mp.length) := by rw [flat_w16_len, hnl]
  have hbd : ∀ x ∈ revNums mp back ahead, 0 ≤ x ∧ x < 65536 := by
    have hofs : ∀ o ∈ o0 :: offs', 0 ≤ o ∧ o < 65536 := fun o ho => by
      have := hbnd o ho
      lia
    intro x hx
    rw [hnums] at hx
    simp only [List.mem_append, List.mem_cons, List.not_mem_nil, or_false] at hx
    rcases hx with (((rfl | rfl) | rfl | hx) | rfl | hx) | rfl | hx
    · lia
    · exact hofs _ (.head _)
    · lia
    · exact hofs _ (.tail _ (List.mem_of_mem_take hx))
    · lia
    · exact hofs _ (.tail _ (List.mem_of_mem_drop hx))
    · lia
    · obtain ⟨k, hk, rfl⟩ := List.mem_map.mp hx
      exact hV k hk
  have num : ∀ (i : Nat) (x : Int), (revNums mp back ahead)[i]? = some x → Num (revBytes mp back ahead).toArray (2 * i) x := fun i x hx => by
    rw [hbytes]
    exact ((num_flat _ i x hx hbd).left).arr
  have cov : ∀ (i : Nat) o gs, (o0 :: offs')[i]? = some o → (revCovs mp back ahead)[i]? = some gs → o ≠ 0 ∧ ∃ q : Nat, o = (q : Nat) ∧ CovD (revBytes mp back ahead).toArray q gs := fun i o gs ho hgs => by
    obtain ⟨p1, p2⟩ := hgood i o (covBytes gs) ho (by rw [List.getElem?_map, hgs]; rfl)
    have hpos : 0 < o := by lia
    refine ⟨by lia, o.toNat, by lia, cov_at (hg gs (List.mem_of_getElem? hgs)) ?_⟩
    rw [hbytes, List.drop_append, List.drop_of_length_le (by lia), List.nil_append, hfl]
    rw [show o.toNat - 2 * (5 + back.length + ahead.length + mp.length) = (o - revBegin mp back ahead).toNat by lia]
    exact p2
  have hsz : (revBytes mp back ahead).length = 2 * (5 + back.length + ahead.length + mp.length) + out.length := by rw [hbytes, List.length_append, hfl]
  have num' : ∀ (i p : Nat) (x : Int), (revNums mp back ahead)[i]? = some x → p = 2 * i → Num (revBytes mp back ahead).toArray p x := fun i p x h q => q ▸ num i x h
  refine ⟨o0, offs'.take back.length, offs'.drop back.length, ?_⟩
  exact {
    size := by rw [List.size_toArray, hsz]; lia
    h0 := num' 0 _ _ (by rw [hnums]; rfl) rfl
    h1 := num' 1 _ _ (by rw [hnums]; rfl) rfl
    ne0 := (cov 0 o0 (revKeys mp) rfl (by rw [hcovs]; rfl)).1
    cov := (cov 0 o0 (revKeys mp) rfl (by rw [hcovs]; rfl)).2
    l1 := ho1.symm
    l2 := ho2.symm
    z1 := by lia
    z2 := by lia
    n1 := num' 2 _ _ (by rw [hnums, ho1]; rfl) rfl
    r1 := fun i v hv => num' (3 + i) _ _ (by
      have hi := (List.getElem?_eq_some_iff.mp hv).1
      rw [hnums, List.getElem?_append_left (by simp; lia), List.getElem?_append_left (by simp; lia), List.getElem?_append_right (by simp; lia)]
      rw [show 3 + i - [1, o0].length = i + 1 by simp; lia, List.getElem?_cons_succ]
      exact hv) (by lia)
    c1 := fun i o g ho hgs => by
      have hi := (List.getElem?_eq_some_iff.mp ho).1
      have := cov (1 + i) o g (by
        rw [Nat.add_comm, List.getElem?_cons_succ, ← ho, List.getElem?_take_of_lt (by lia)]) (by
        rw [hcovs, Nat.add_comm, List.getElem?_cons_succ, List.getElem?_append_left (by lia)]; exact hgs)
      rw [Int.zero_add]
      exact this
    n2 := num' (3 + back.length) _ _ (by
      rw [hnums, List.getElem?_append_left (by simp [ho1, ho2]; lia), List.getElem?_append_right (by simp [ho1]; lia)]
      rw [show 3 + back.length - ([1, o0] ++ ((back.length : Int) :: offs'.take back.length)).length = 0 by simp [ho1]; lia, ho2]
      rfl) (by lia)
    r2 := fun i v hv => num' (4 + back.length + i) _ _ (by
      have hi := (List.getElem?_eq_some_iff.mp hv).1
      rw [hnums, List.getElem?_append_left (by simp [ho1, ho2]; lia), List.getElem?_append_right (by simp [ho1]; lia)]
      rw [show 4 + back.length + i - ([1, o0] ++ ((back.length : Int) :: offs'.take back.length)).length = i + 1 by simp [ho1]; lia, List.getElem?_cons_succ]
      exact hv) (by lia)
    c2 := fun i o g ho hgs => by
      have hi := (List.getElem?_eq_some_iff.mp ho).1
      have hia := (List.getElem?_eq_some_iff.mp hgs).1
      rw [List.getElem?_drop] at ho
      have := cov (1 + (back.length + i)) o g (by rw [Nat.add_comm, List.getElem?_cons_succ]; exact ho) (by
        rw [hcovs, Nat.add_comm, List.getElem?_cons_succ, List.getElem?_append_right (by lia), Nat.add_sub_cancel_left]; exact hgs)
      rw [Int.zero_add]
      exact this
    l3 := by rw [List.length_map]
    z3 := by lia
    nd := hkasc.imp fun h => by lia
    n3 := num' (4 + back.length + ahead.length) _ _ (by
      rw [hnums, List.getElem?_append_right (by simp [ho1, ho2]; lia)]
      rw [show 4 + back.length + ahead.length - ([1, o0] ++ ((back.length : Int) :: offs'.take back.length) ++ ((ahead.length : Int) :: offs'.drop back.length)).length = 0 by simp [ho1, ho2]; lia, List.length_map]
      rfl) (by lia)
    r3 := fun i v hv => num' (5 + back.length + ahead.length + i) _ _ (by
      rw [hnums, List.getElem?_append_right (by simp [ho1, ho2]; lia)]
      rw [show 5 + back.length + ahead.length + i - ([1, o0] ++ ((back.length : Int) :: offs'.take back.length) ++ ((ahead.length : Int) :: offs'.drop back.length)).length = i + 1 by simp [ho1, ho2]; lia, List.getElem?_cons_succ]
      exact hv) (by lia)
    big := by rw [List.size_toArray, hsz, ho1, ho2, List.length_map, hkl]; lia }
-- LY
theorem zip_told (mp : List (Int × Int)) : (revKeys mp).zip ((revKeys mp).map (val mp)) = toldPairs mp := by
  unfold toldPairs
  rw [List.zip_map_right]
  induction revKeys mp with
  | nil => rfl
  | cons k r ih => simpa using ih
theorem goodG_gset {gs : List Int} (h : SetL gs) : GoodG (gset gs) := by
  obtain ⟨h1, h2⟩ := gset_spec gs
  exact ⟨h1, fun x hx => by have := h.2 x ((h2 x).mp hx); lia⟩
theorem good_map {B : List (List Int)} {n : Nat} (h : SetsOk B n) : ∀ gs ∈ B.map gset, GoodG gs := fun gs hgs => by
  obtain ⟨x, hx, rfl⟩ := List.mem_map.mp hgs
  exact goodG_gset (h.2 x hx)
noncomputable def lawSt (i : Nat) : Stmt := match f_law.body with
  | .stmts l => (l[i]?).getD (.Pass default)
  | _ => .Pass default
structure LawF (w : World) (b : PM) (T PL : Addr) (vp vq v1 v2 vt vm : Value) (md : Addr) (P : List (Int × Int)) (Bk Ah : List (List Int)) (P' : List (Int × Int)) (Bk' Ah' : List (List Int)) (mp1 mp2 : List (Int × Int)) : Prop where
  hT : TakerAt b T PL
  hp : PlanIs b vp P Bk Ah
  hq : PlanIs b vq P' Bk' Ah'
  hR1 : Rev w b v1 mp1 (Bk.map gset) (Ah.map gset)
  hR2 : Rev w b v2 mp2 (Bk'.map gset) (Ah'.map gset)
  ht : ToldIs b vt P (Bk.map gset) (Ah.map gset)
  hm : MeansIs w b vm md P (Bk.map gset) (Ah.map gset)
  hP : PrOk P 4
  hBk : SetsOk Bk 2
  hAh : SetsOk Ah 2
  hP' : PrOk P' 6
  hBk' : SetsOk Bk' 4
  hAh' : SetsOk Ah' 4
  tp1 : toldPairs mp1 = P
  nd1 : (mp1.map (·.1)).Nodup
  pm1 : mp1.Perm P
  tp2 : toldPairs mp2 = P'
  nd2 : (mp2.map (·.1)).Nodup
  pm2 : mp2.Perm P'
theorem LawF.up {w : World} {b b' : PM} {T PL : Addr} {vp vq v1 v2 vt vm : Value} {md : Addr} {P : List (Int × Int)} {Bk Ah : List (List Int)} {P' : List (Int × Int)} {Bk' Ah' : List (List Int)} {mp1 mp2 : List (Int × Int)}
    (F : LawF w b T PL vp vq v1 v2 vt vm md P Bk Ah P' Bk' Ah' mp1 mp2) (hb : ∀ a o, b a = some o → b' a = some o) : LawF w b' T PL vp vq v1 v2 vt vm md P Bk Ah P' Bk' Ah' mp1 mp2 :=
  { F with hT := F.hT.up hb, hp := F.hp.up hb, hq := F.hq.up hb, hR1 := F.hR1.up hb, hR2 := F.hR2.up hb, ht := F.ht.up hb, hm := F.hm.up hb }
structure LawM (m : Str → Option Value) (T : Addr) (vp vq v1 v2 vt vm : Value) : Prop where
  take : m "take" = some (.ref T)
  plan : m "plan" = some vp
  other : m "other" = some vq
  first : m "first" = some v1
  second : m "second" = some v2
  told : m "told" = some vt
  means : m "means" = some vm
-- LY6
section
variable {w : World} {A : Around} {E : Value → Shared → Prop} {s : Shared} {e : En} {b : PM} {L : Addr} {m : Str → Option Value} {mu : List (Addr × Obj)} {n : Nat} {Q : Flow → Shared → Prop} {T PL : Addr} {vp vq v1 v2 vt vm : Value} {md : Addr} {P : List (Int × Int)} {Bk Ah : List (List Int)} {P' : List (Int × Int)} {Bk' Ah' : List (List Int)} {mp1 mp2 : List (Int × Int)}
theorem law_if6 (R : Room A (n + 2)) (S : St w e b L m mu s) (F : LawF w b T PL vp vq v1 v2 vt vm md P Bk Ah P' Bk' Ah' mp1 mp2) (M : LawM m T vp vq v1 v2 vt vm) (K : ∀ b' h' t', (∀ a o, b a = some o → b' a = some o) → St w e b' L m mu { s with heap := h', toks := t' } → Q .next { s with heap := h', toks := t' }) : wpAny (model pw w) A (exec (lawSt 6) (callEnv f_law L 465)) Q E s := by
  have est : lawSt 6 = Stmt.If _ _ _ _ := rfl
  rw [est]
  refine nay fun hG => ?_
  obtain ⟨m1, m2, m3, m4, m5, m6, m7⟩ := M
  refine hG ?_; clear hG
  have hPl := F.hP.1
  have hBl := F.hBk.1
  have hAl := F.hAh.1
  have hPl' := F.hP'.1
  have hBl' := F.hBk'.1
  have hAl' := F.hAh'.1
  have hml1 : mp1.length = P.length := F.pm1.length_eq
  have hml2 : mp2.length = P'.length := F.pm2.length_eq
  refine nay fun hG => ?_
  obtain ⟨Tt, tt1, tt2, tt3, rfl, hTt, _, _, _⟩ := id F.ht
  obtain ⟨Tm, mb, ma, rfl, hTm, ⟨md', omd, kvm, emd, _, hmdg, _⟩, ⟨Db, vb, kb, rfl, hDb, hvb⟩, ⟨Da, va, ka, rfl, hDa, hva⟩⟩ := id F.hm
  refine hG ?_; clear hG
  cases emd
  refine nay fun hG => ?_
  obtain ⟨Tp, lp, lb, la, rfl, hTp, ⟨Dp, vvp, kp, rfl, hDp, hvp⟩, _, _⟩ := id F.hp
  refine hG ?_; clear hG
  have hvbl : vb.size = (Bk.map gset).length := by have := hvb.length; simpa using this
  have hval : va.size = (Ah.map gset).length := by have := hva.length; simpa using this
  rw [List.length_map] at hvbl hval
  have hvpl : vvp.size = P.length := by have := hvp.length; simpa using this
  refine wpAny_If ?_
  walk_at "q"; walk_at "n"
  refine PyProof.Rows.Tuple_ ?_
  walk_at "c"; walk_at "f"
  refine n_tuple (by assumption) (by kernel_rfl!) (by kernel_rfl!) (by kernel_rfl!) (by kernel_rfl!) ?_
  refine PyProof.Rows.callWith_type1 ?_ (by kernel_rfl!) (by kernel_rfl!)
  walk_at "c"
  refine Subscript_ ?_
  walk_at "n"; walk_at "i"
  rename St _ _ _ _ _ _ _ => S
  refine sub_tup S hTp (by decide) (Nat.le_of_ble_eq_true rfl) (v := .ref Dp) (by rfl) ?_ (by with_unfolding_all rfl)
  refine args_nil ?_
  refine tup_list S (by rfl) (S.get hDp) hvp (by lia) fun a1 b₄ h₄ t₄ up4 ht1 S => ?_
  replace ht1 := ht1.mono (fun _ _ q => q) fun _ _ z => z.up up4
  replace hvb := hvb.mono fun _ _ z => z.up up4
  replace hva := hva.mono fun _ _ z => z.up up4
  have U := up4
  replace hTm := up4 _ _ hTm
  replace hDb := up4 _ _ hDb
  replace hDa := up4 _ _ hDa
  replace hTt := up4 _ _ hTt
  walk_at "c"; walk_at "f"
  refine n_tuple (by assumption) (by kernel_rfl!) (by kernel_rfl!) (by kernel_rfl!) (by kernel_rfl!) ?_
  refine PyProof.Rows.callWith_type1 ?_ (by kernel_rfl!) (by kernel_rfl!)
  walk_at "c"
  refine lcomp (cl := []) (by intro _; kernel_rfl!) (by kernel_rfl!) (by kernel_rfl!) (by decide +kernel) ?_
  refine Subscript_ ?_
  walk_at "n"; walk_at "i"
  rename St _ _ _ _ _ _ _ => S
  refine sub_tup S hTm (by decide) (Nat.le_of_ble_eq_true rfl) (v := .ref Db) (by rfl) ?_ (by with_unfolding_all rfl)
  refine it_list R.hd S (by rfl) hDb fun I2 oI2 h₈ t₈ W2 S => ?_
  refine comp_src W2 S (by lia) (by decide) rfl (by kernel_rfl!) (fun i b₄ mu' ys => mu' = mu ∧ All2 (TupOf b₄ IsI) ys.toList ((Bk.map gset).take i)) ⟨rfl, .nil⟩ ?_ ?_
  · rintro i v b₄ mC mu' ys tl h₄ t₄ C hi hv ⟨emu, hy⟩ hb₄ S
    rw [emu] at S
    refine nay fun hG => ?_
    obtain ⟨gs, hg, hgv⟩ := hvb.get (by rw [Array.getElem?_toList]; exact hv)
    refine hG ?_; clear hG
    replace hgv := hgv.up hb₄
    refine nay fun hG => ?_
    obtain ⟨Dg, vg, kg, rfl, hDg, hvg⟩ := hgv
    refine hG ?_; clear hG
    have hgl : vg.size = gs.length := by have := hvg.length; simpa using this
    have hgs : gs.length ≤ 60 := by
      have := (good_map F.hBk gs (List.mem_of_getElem? hg)).ok.1
      lia
    walk_at "f"
    refine n_tuple (by assumption) (by kernel_rfl!) (by kernel_rfl!) (by kernel_rfl!) (by kernel_rfl!) ?_
    refine PyProof.Rows.callWith_type1 ?_ (by kernel_rfl!) (by kernel_rfl!)
    walk_at "c"; walk_at "n"
    refine args_nil ?_
    rename St _ _ _ _ _ _ _ => S
    refine tup_list S (by rfl) (S.get hDg) hvg (by lia) fun a b₅ h₅ t₅ up5 ha S => ?_
    refine turnI (b2 := b₅) (mu2 := mu) rfl ⟨rfl, ?_⟩ (fun a o q => up5 _ _ (hb₄ _ _ q)) S
    rw [Array.toList_push]
    exact (hy.mono fun _ _ z => z.up up5).push_take hg ha
  rintro b₄ mu' ys2 k2 D2 h₄ t₄ hys2 ⟨emu, hy2⟩ hb₄ S hD2
  rw [emu] at S
  rw [List.take_of_length_le (by rw [List.length_map]; lia)] at hy2
  replace ht1 := ht1.mono hb₄ fun _ _ z => z.up hb₄
  replace hva := hva.mono fun _ _ z => z.up hb₄
  replace hTm := hb₄ _ _ hTm
  replace hDa := hb₄ _ _ hDa
  replace hTt := hb₄ _ _ hTt
  replace U := fun (a : Addr) (o : Obj) q => hb₄ a o (U a o q)
  refine S.frzK hD2 fun b₅ up5 gD2 S => ?_
  replace ht1 := ht1.mono up5 fun _ _ z => z.up up5
  replace hva := hva.mono fun _ _ z => z.up up5
  replace hTm := up5 _ _ hTm
  replace hDa := up5 _ _ hDa
  replace hTt := up5 _ _ hTt
  replace U := fun (a : Addr) (o : Obj) q => up5 a o (U a o q)
  refine args_nil ?_
  refine tup_list (P := TupOf b₅ IsI) S (by rfl) (S.get gD2) (hy2.mono fun _ _ z => z.up up5) (by lia) fun a2 b₆ h₆ t₆ up6 ht2 S => ?_
  replace ht2 := ht2.mono (fun _ _ q => q) fun _ _ z => z.up up6
  replace ht1 := ht1.mono up6 fun _ _ z => z.up up6
  replace hva := hva.mono fun _ _ z => z.up up6
  replace hTm := up6 _ _ hTm
  replace hDa := up6 _ _ hDa
  replace hTt := up6 _ _ hTt
  replace U := fun (a : Addr) (o : Obj) q => up6 a o (U a o q)
  walk_at "c"; walk_at "f"
  refine n_tuple (by assumption) (by kernel_rfl!) (by kernel_rfl!) (by kernel_rfl!) (by kernel_rfl!) ?_
  refine PyProof.Rows.callWith_type1 ?_ (by kernel_rfl!) (by kernel_rfl!)
  walk_at "c"
  refine lcomp (cl := []) (by intro _; kernel_rfl!) (by kernel_rfl!) (by kernel_rfl!) (by decide +kernel) ?_
  refine Subscript_ ?_
  walk_at "n"; walk_at "i"
  rename St _ _ _ _ _ _ _ => S
  refine sub_tup S hTm (by decide) (Nat.le_of_ble_eq_true rfl) (v := .ref Da) (by rfl) ?_ (by with_unfolding_all rfl)
  refine it_list R.hd S (by rfl) hDa fun I3 oI3 h₈ t₈ W3 S => ?_
  refine comp_src W3 S (by lia) (by decide) rfl (by kernel_rfl!) (fun i b₄ mu' ys => mu' = mu ∧ All2 (TupOf b₄ IsI) ys.toList ((Ah.map gset).take i)) ⟨rfl, .nil⟩ ?_ ?_
  · rintro i v b₄ mC mu' ys tl h₄ t₄ C hi hv ⟨emu, hy⟩ hb₄ S
    rw [emu] at S
    refine nay fun hG => ?_
    obtain ⟨gs, hg, hgv⟩ := hva.get (by rw [Array.getElem?_toList]; exact hv)
    refine hG ?_; clear hG
    replace hgv := hgv.up hb₄
    refine nay fun hG => ?_
    obtain ⟨Dg, vg, kg, rfl, hDg, hvg⟩ := hgv
    refine hG ?_; clear hG
    have hgl : vg.size = gs.length := by have := hvg.length; simpa using this
    have hgs : gs.length ≤ 60 := by
      have := (good_map F.hAh gs (List.mem_of_getElem? hg)).ok.1
      lia
    walk_at "f"
    refine n_tuple (by assumption) (by kernel_rfl!) (by kernel_rfl!) (by kernel_rfl!) (by kernel_rfl!) ?_
    refine PyProof.Rows.callWith_type1 ?_ (by kernel_rfl!) (by kernel_rfl!)
    walk_at "c"; walk_at "n"
    refine args_nil ?_
    rename St _ _ _ _ _ _ _ => S
    refine tup_list S (by rfl) (S.get hDg) hvg (by lia) fun a b₅ h₅ t₅ up5 ha S => ?_
    refine turnI (b2 := b₅) (mu2 := mu) rfl ⟨rfl, ?_⟩ (fun a o q => up5 _ _ (hb₄ _ _ q)) S
    rw [Array.toList_push]
    exact (hy.mono fun _ _ z => z.up up5).push_take hg ha
  rintro b₄ mu' ys3 k3 D3 h₄ t₄ hys3 ⟨emu, hy3⟩ hb₄ S hD3
  rw [emu] at S
  rw [List.take_of_length_le (by rw [List.length_map]; lia)] at hy3
  replace ht1 := ht1.mono hb₄ fun _ _ z => z.up hb₄
  replace ht2 := ht2.mono hb₄ fun _ _ z => z.up hb₄
  replace hTm := hb₄ _ _ hTm
  replace hTt := hb₄ _ _ hTt
  replace U := fun (a : Addr) (o : Obj) q => hb₄ a o (U a o q)
  refine S.frzK hD3 fun b₅ up5 gD3 S => ?_
  replace ht1 := ht1.mono up5 fun _ _ z => z.up up5
  replace ht2 := ht2.mono up5 fun _ _ z => z.up up5
  replace hTm := up5 _ _ hTm
  replace hTt := up5 _ _ hTt
  replace U := fun (a : Addr) (o : Obj) q => up5 a o (U a o q)
  refine args_nil ?_
  refine tup_list (P := TupOf b₅ IsI) S (by rfl) (S.get gD3) (hy3.mono fun _ _ z => z.up up5) (by lia) fun a3 b₆ h₆ t₆ up6 ht3 S => ?_
  replace ht3 := ht3.mono (fun _ _ q => q) fun _ _ z => z.up up6
  replace ht1 := ht1.mono up6 fun _ _ z => z.up up6
  replace ht2 := ht2.mono up6 fun _ _ z => z.up up6
  replace hTm := up6 _ _ hTm
  replace hTt := up6 _ _ hTt
  replace U := fun (a : Addr) (o : Obj) q => up6 a o (U a o q)
  refine args_nil ?_
  refine new_tup S (by rfl) (Nat.le_of_ble_eq_true rfl) fun T5 b₇ h₇ t₇ up7 hT5 S => ?_
  have ht5 : ToldIs b₇ (.ref T5) P (Bk.map gset) (Ah.map gset) := ⟨T5, _, _, _, rfl, hT5, ht1.mono up7 fun _ _ z => z.up up7, ht2.mono up7 fun _ _ z => z.up up7, ht3.mono up7 fun _ _ z => z.up up7⟩
  replace U := fun (a : Addr) (o : Obj) q => up7 a o (U a o q)
  refine ne_told R S (F.up U).ht ht5 ?_
  walk_at "t"
  refine ite_no (by simp) ?_
  walk_at "z"
  exact K _ _ _ U S
end
-- LY7
section
variable {w : World} {A : Around} {E : Value → Shared → Prop} {s : Shared} {e : En} {b : PM} {L : Addr} {m : Str → Option Value} {mu : List (Addr × Obj)} {n : Nat} {Q : Flow → Shared → Prop} {T PL : Addr} {vp vq v1 v2 vt vm : Value} {md : Addr} {P : List (Int × Int)} {Bk Ah : List (List Int)} {P' : List (Int × Int)} {Bk' Ah' : List (List Int)} {mp1 mp2 : List (Int × Int)}
theorem law_if7 (R : Room A (n + 6)) (S : St w e b L m mu s) (F : LawF w b T PL vp vq v1 v2 vt vm md P Bk Ah P' Bk' Ah' mp1 mp2) (M : LawM m T vp vq v1 v2 vt vm) (K : ∀ b' h' t', (∀ a o, b a = some o → b' a = some o) → St w e b' L m mu { s with heap := h', toks := t' } → Q .next { s with heap := h', toks := t' }) : wpAny (model pw w) A (exec (lawSt 7) (callEnv f_law L 465)) Q E s := by
  have est : lawSt 7 = Stmt.If _ _ _ _ := rfl
  rw [est]
  refine nay fun hG => ?_
  obtain ⟨m1, m2, m3, m4, m5, m6, m7⟩ := M
  refine hG ?_; clear hG
  have hPl := F.hP.1
  have hBl := F.hBk.1
  have hAl := F.hAh.1
  have hPl' := F.hP'.1
  have hBl' := F.hBk'.1
  have hAl' := F.hAh'.1
  have hml1 : mp1.length = P.length := F.pm1.length_eq
  have hml2 : mp2.length = P'.length := F.pm2.length_eq
  refine nay fun hG => ?_
  obtain ⟨Tt, tt1, tt2, tt3, rfl, hTt, _, _, _⟩ := id F.ht
  obtain ⟨Tm, mb, ma, rfl, hTm, ⟨md', omd, kvm, emd, _, hmdg, _⟩, ⟨Db, vb, kb, rfl, hDb, hvb⟩, ⟨Da, va, ka, rfl, hDa, hva⟩⟩ := id F.hm
  refine hG ?_; clear hG
  cases emd
  refine nay fun hG => ?_
  obtain ⟨Tq, lq1, lq2, lq3, rfl, hTq, _, _, _⟩ := id F.hq
  obtain ⟨x2, dx2, e1, mv2, e2, bv2, e3, av2, nn2, rfl, hx2, hdx2, _, _, _⟩ := id F.hR2
  refine hG ?_; clear hG
  refine wpAny_If ?_
  walk_at "q"
  refine wpAny_Compare1 ?_ (by kernel_rfl!)
  walk_at "n"
  refine mcall ?_ (by kernel_rfl!)
  walk_at "n"
  refine me_b (ga_Reverse _) (gt_Reverse _) (fm_Reverse_told _) (tm_Reverse_told _) gl_rev_told (by assumption) (by assumption) (by assumption) ?_
  refine callWith_K0 (kinH (by assumption)) (by with_reducible exact kp_f_Reverse_told _) ?_
  rename St _ _ _ _ _ _ _ => S
  refine c_told (n := n + 1) R S.base S.sub F.hR2 F.nd2 (by lia) (by rw [List.length_map]; lia) (by rw [List.length_map]; lia) fun u1v b' h' t' G u1 => ?_
  have gu := G.up
  rw [F.tp2] at u1
  replace S := S.call0 (t := t') G
  try dsimp only at S
  have U := gu
  replace F := F.up gu
  replace hTm := gu _ _ hTm
  replace hmdg := gu _ _ hmdg
  replace hTq := gu _ _ hTq
  replace hTt := gu _ _ hTt
  replace hx2 := gu _ _ hx2
  replace hdx2 := gu _ _ hdx2
  refine eq_told R S F.ht u1 ?_
  refine wpAny_Compare1 ?_ (by kernel_rfl!)
  walk_at "n"; walk_at "f"
  refine n_law_means (by assumption) (by kernel_rfl!) (by kernel_rfl!) (by kernel_rfl!) ?_
  refine callWith_K (kinH (by assumption)) (by with_reducible exact kp_f_law_means _) ?_ (by kernel_rfl!) (by kernel_rfl!)
  walk_at "c"; walk_at "n"
  refine args_nil ?_
  refine And.intro (kinH (by assumption)) ?_
  refine c_law_means (n := n + 4) R S.base S.sub F.hq F.hP' F.hBk' F.hAh' fun w1v w1d b' h' t' w1s G w1 => ?_
  have w1ne : md ≠ w1d := fun q => by
    have := Heap.lt_size (S.get hmdg)
    rw [q] at this
    exact absurd this (Nat.not_lt.mpr w1s)
  replace S := S.call0 (t := t') G
  try dsimp only at S
  replace F := F.up G.up
  replace U := fun (a : Addr) (o : Obj) q => G.up a o (U a o q)
  refine eq_means R S F.hm w1 w1ne F.hP.2.1 F.hP'.2.1 ?_
  refine ne_bool R ?_
  walk_at "t"
  refine ite_no (by simp) ?_
  walk_at "z"
  exact K _ _ _ U S
end
-- LY8
section
variable {w : World} {A : Around} {E : Value → Shared → Prop} {s : Shared} {e : En} {b : PM} {L : Addr} {m : Str → Option Value} {mu : List (Addr × Obj)} {n : Nat} {Q : Flow → Shared → Prop} {T PL : Addr} {vp vq v1 v2 vt vm : Value} {md : Addr} {P : List (Int × Int)} {Bk Ah : List (List Int)} {P' : List (Int × Int)} {Bk' Ah' : List (List Int)} {mp1 mp2 : List (Int × Int)}
theorem law_st8 (R : Room A (n + 12)) (S : St w e b L m mu s) (F : LawF w b T PL vp vq v1 v2 vt vm md P Bk Ah P' Bk' Ah' mp1 mp2) (M : LawM m T vp vq v1 v2 vt vm)
    (K : ∀ b' h' t' x3, (∀ a o, b a = some o → b' a = some o) → Rev w b' (.ref x3) P' (Bk'.map gset) (Ah'.map gset) → St w e b' L (ext m "back" (.ref x3)) mu { s with heap := h', toks := t' } → Q .next { s with heap := h', toks := t' }) : wpR w A (exec (lawSt 8) (callEnv f_law L 465)) Q E s := by
  have est : lawSt 8 = Stmt.Assign [Expr.Name _ _] _ _ := rfl
  rw [est]
  refine nay fun hG => ?_
  obtain ⟨m1, m2, m3, m4, m5, m6, m7⟩ := M
  refine hG ?_; clear hG
  have hPl := F.hP.1
  have hBl := F.hBk.1
  have hAl := F.hAh.1
  have hPl' := F.hP'.1
  have hBl' := F.hBk'.1
  have hAl' := F.hAh'.1
  have hml1 : mp1.length = P.length := F.pm1.length_eq
  have hml2 : mp2.length = P'.length := F.pm2.length_eq
  refine nay fun hG => ?_
  obtain ⟨x2, dx2, e1, mv2, e2, bv2, e3, av2, nn2, rfl, hx2, hdx2, _, _, _⟩ := id F.hR2
  refine hG ?_; clear hG
  have hraw2 : RawOk mp2 := fun q hq => F.hP'.2.2 q (F.pm2.mem_iff.mp hq)
  refine nay fun hG => ?_
  obtain ⟨⟨o0, o1, o2, hDD⟩, hCC, hVV⟩ := rev_data (back := Bk'.map gset) (ahead := Ah'.map gset) F.nd2 hraw2 (by lia) (by rw [List.length_map]; lia) (by rw [List.length_map]; lia) (good_map F.hBk') (good_map F.hAh')
  refine hG ?_; clear hG
  refine r_AssignName ?_ (by kernel_rfl!)
  refine r_Call ?_ (by kernel_rfl!)
  refine n_read_reverse (by assumption) (by kernel_rfl!) (by kernel_rfl!) (by kernel_rfl!) ?_
  refine r_callK (by kernel_rfl!) (by with_reducible exact kp_f_read_reverse _) ?_
  refine r_args_cons ?_ (by kernel_rfl!)
  refine r_Call ?_ (by kernel_rfl!)
  refine n_write_reverse (by assumption) (by kernel_rfl!) (by kernel_rfl!) (by kernel_rfl!) ?_
  refine r_callK (by kernel_rfl!) (by with_reducible exact kp_f_write_reverse _) ?_
  refine r_args_cons ?_ (by kernel_rfl!)
  refine wpR.any ?_
  walk_at "n"
  refine r_args_nil ?_
  refine And.intro (kinH (by assumption)) ?_
  rename St _ _ _ _ _ _ _ => S
  refine c_write_reverse (n := n + 4) R S.base S.sub F.hR2 F.nd2 (by lia) (by rw [List.length_map]; lia) (by rw [List.length_map]; lia) hCC hVV fun wt b' h' t' G => ?_
  replace S := S.call0 (t := t') G
  try dsimp only at S
  have U := G.up
  refine r_args_cons ?_ (by kernel_rfl!)
  refine wpR.any ?_
  walk_at "i"
  refine r_args_nil ?_
  refine And.intro (kinH (by assumption)) ?_
  refine .any ?_
  refine c_read_reverse (n := n + 1) R S.base S.sub hDD fun v3 b' h' t' G hR3 => ?_
  rw [zip_told, F.tp2] at hR3
  replace S := S.call0 (t := t') G
  try dsimp only at S
  have hR3' := hR3
  refine nay fun hG => ?_
  obtain ⟨x3, dx3, f1, mv3, f2, bv3, f3, av3, nn3, rfl, hx3, hdx3, _, _, _⟩ := hR3'
  refine hG ?_; clear hG
  refine st_loc' (by assumption) (by rfl) rfl (by kernel_rfl!) (by kernel_rfl!) fun _ _ S => ?_
  exact K _ _ _ _ (fun a o q => G.up _ _ (U _ _ q)) hR3 S
end
-- LY9
section
variable {w : World} {A : Around} {E : Value → Shared → Prop} {s : Shared} {e : En} {b : PM} {L : Addr} {m : Str → Option Value} {mu : List (Addr × Obj)} {n : Nat} {Q : Flow → Shared → Prop} {T PL : Addr} {vp vq v1 v2 vt vm : Value} {md : Addr} {P : List (Int × Int)} {Bk Ah : List (List Int)} {P' : List (Int × Int)} {Bk' Ah' : List (List Int)} {mp1 mp2 : List (Int × Int)}
theorem law_if9 {x3 : Addr} {Q : Flow → Shared → Prop} (R : Room A (n + 6)) (S : St w e b L m mu s) (F : LawF w b T PL vp vq v1 v2 vt vm md P Bk Ah P' Bk' Ah' mp1 mp2) (M : LawM m T vp vq v1 v2 vt vm) (hR3 : Rev w b (.ref x3) P' (Bk'.map gset) (Ah'.map gset)) (m8 : m "back" = some (.ref x3))
    (K : ∀ b' h' t', (∀ a o, b a = some o → b' a = some o) → St w e b' L m mu { s with heap := h', toks := t' } → Q .next { s with heap := h', toks := t' }) : wpAny (model pw w) A (exec (lawSt 9) (callEnv f_law L 465)) Q E s := by
  have est : lawSt 9 = Stmt.If _ _ _ _ := rfl
  rw [est]
  refine nay fun hG => ?_
  obtain ⟨m1, m2, m3, m4, m5, m6, m7⟩ := M
  refine hG ?_; clear hG
  have hPl := F.hP.1
  have hBl := F.hBk.1
  have hAl := F.hAh.1
  have hPl' := F.hP'.1
  have hBl' := F.hBk'.1
  have hAl' := F.hAh'.1
  have hml1 : mp1.length = P.length := F.pm1.length_eq
  have hml2 : mp2.length = P'.length := F.pm2.length_eq
  refine nay fun hG => ?_
  obtain ⟨Tt, tt1, tt2, tt3, rfl, hTt, _, _, _⟩ := id F.ht
  obtain ⟨Tm, mb, ma, rfl, hTm, ⟨md', omd, kvm, emd, _, hmdg, _⟩, ⟨Db, vb, kb, rfl, hDb, hvb⟩, ⟨Da, va, ka, rfl, hDa, hva⟩⟩ := id F.hm
  refine hG ?_; clear hG
  cases emd
  refine nay fun hG => ?_
  obtain ⟨Tq, lq1, lq2, lq3, rfl, hTq, _, _, _⟩ := id F.hq
  obtain ⟨x2, dx2, e1, mv2, e2, bv2, e3, av2, nn2, rfl, hx2, hdx2, _, _, _⟩ := id F.hR2
  obtain ⟨x3', dx3, f1, mv3, f2, bv3, f3, av3, nn3, ex3, hx3, hdx3, _, _, _⟩ := id hR3
  refine hG ?_; clear hG
  cases ex3
  obtain ⟨tp3, nd3⟩ := told_perm (List.Perm.refl P') F.hP'.2.1
  refine wpAny_If ?_
  with_reducible refine isTrue_or ?_
  walk_at "q"
  refine mcall ?_ (by kernel_rfl!)
  walk_at "n"
  refine me_b (ga_Reverse _) (gt_Reverse _) (fm_Reverse_told _) (tm_Reverse_told _) gl_rev_told (by assumption) (by assumption) (by assumption) ?_
  refine callWith_K0 (kinH (by assumption)) (by with_reducible exact kp_f_Reverse_told _) ?_
  rename St _ _ _ _ _ _ _ => S
  refine c_told (n := n + 1) R S.base S.sub hR3 nd3 (by lia) (by rw [List.length_map]; lia) (by rw [List.length_map]; lia) fun y1v b' h' t' G y1 => ?_
  have gu := G.up
  rw [tp3] at y1
  replace S := S.call0 (t := t') G
  try dsimp only at S
  have U := gu
  replace F := F.up gu
  replace hR3 := hR3.up gu
  replace hTm := gu _ _ hTm
  replace hmdg := gu _ _ hmdg
  replace hTq := gu _ _ hTq
  replace hTt := gu _ _ hTt
  replace hx2 := gu _ _ hx2
  replace hdx2 := gu _ _ hdx2
  replace hx3 := gu _ _ hx3
  replace hdx3 := gu _ _ hdx3
  refine mcall ?_ (by kernel_rfl!)
  walk_at "n"
  refine me_b (ga_Reverse _) (gt_Reverse _) (fm_Reverse_told _) (tm_Reverse_told _) gl_rev_told (by assumption) (by assumption) (by assumption) ?_
  refine callWith_K0 (kinH (by assumption)) (by with_reducible exact kp_f_Reverse_told _) ?_
  refine c_told (n := n + 1) R S.base S.sub F.hR2 F.nd2 (by lia) (by rw [List.length_map]; lia) (by rw [List.length_map]; lia) fun y2v b' h' t' G y2 => ?_
  have gu := G.up
  rw [F.tp2] at y2
  replace S := S.call0 (t := t') G
  try dsimp only at S
  replace U := fun (a : Addr) (o : Obj) q => gu a o (U a o q)
  replace F := F.up gu
  replace hR3 := hR3.up gu
  replace y1 := y1.up gu
  replace hTm := gu _ _ hTm
  replace hmdg := gu _ _ hmdg
  replace hTq := gu _ _ hTq
  replace hTt := gu _ _ hTt
  replace hx2 := gu _ _ hx2
  replace hdx2 := gu _ _ hdx2
  replace hx3 := gu _ _ hx3
  replace hdx3 := gu _ _ hdx3
  refine ne_told R S y1 y2 ?_
  walk_at "t"
  refine ite_no (by simp) ?_
  with_reducible refine isTrue_or ?_
  walk_at "q"
  refine wpAny_Compare1 ?_ (by kernel_rfl!)
  refine mcall ?_ (by kernel_rfl!)
  walk_at "n"
  refine me_b (ga_Reverse _) (gt_Reverse _) (fm_Reverse_told _) (tm_Reverse_told _) gl_rev_told (by assumption) (by assumption) (by assumption) ?_
  refine callWith_K0 (kinH (by assumption)) (by with_reducible exact kp_f_Reverse_told _) ?_
  refine c_told (n := n + 1) R S.base S.sub hR3 nd3 (by lia) (by rw [List.length_map]; lia) (by rw [List.length_map]; lia) fun y3v b' h' t' G y3 => ?_
  have gu := G.up
  rw [tp3] at y3
  replace S := S.call0 (t := t') G
  try dsimp only at S
  replace U := fun (a : Addr) (o : Obj) q => gu a o (U a o q)
  replace F := F.up gu
  replace hTm := gu _ _ hTm
  replace hmdg := gu _ _ hmdg
  replace hTq := gu _ _ hTq
  replace hTt := gu _ _ hTt
  replace hx2 := gu _ _ hx2
  replace hdx2 := gu _ _ hdx2
  replace hx3 := gu _ _ hx3
  replace hdx3 := gu _ _ hdx3
  walk_at "n"
  refine eq_told R S y3 F.ht ?_
  refine wpAny_Compare1 ?_ (by kernel_rfl!)
  walk_at "n"; walk_at "f"
  refine n_law_means (by assumption) (by kernel_rfl!) (by kernel_rfl!) (by kernel_rfl!) ?_
  refine callWith_K (kinH (by assumption)) (by with_reducible exact kp_f_law_means _) ?_ (by kernel_rfl!) (by kernel_rfl!)
  walk_at "c"; walk_at "n"
  refine args_nil ?_
  refine And.intro (kinH (by assumption)) ?_
  refine c_law_means (n := n + 4) R S.base S.sub F.hq F.hP' F.hBk' F.hAh' fun w2v w2d b' h' t' w2s G w2 => ?_
  have w2ne : md ≠ w2d := fun q => by
    have := Heap.lt_size (S.get hmdg)
    rw [q] at this
    exact absurd this (Nat.not_lt.mpr w2s)
  replace S := S.call0 (t := t') G
  try dsimp only at S
  replace F := F.up G.up
  replace U := fun (a : Addr) (o : Obj) q => G.up a o (U a o q)
  refine eq_means R S F.hm w2 w2ne F.hP.2.1 F.hP'.2.1 ?_
  refine ne_bool R ?_
  walk_at "t"
  refine ite_no (by
    by_cases h1 : P = P' <;> by_cases h2 : Bk.map gset = Bk'.map gset <;> by_cases h3 : Ah.map gset = Ah'.map gset <;> simp [h1, h2, h3, eq_comm]) ?_
  with_reducible refine isTrue_or_nil ?_
  with_reducible refine ite_no (by with_reducible rfl) ?_
  walk_at "z"
  rename St _ _ _ _ _ _ _ => S
  exact K _ _ _ U S
end
-- LY10
section
variable {w : World} {A : Around} {E : Value → Shared → Prop} {s : Shared} {e : En} {b : PM} {L : Addr} {m : Str → Option Value} {mu : List (Addr × Obj)} {n : Nat} {Q : Flow → Shared → Prop} {T PL : Addr} {vp vq v1 v2 vt vm : Value} {md : Addr} {P : List (Int × Int)} {Bk Ah : List (List Int)} {P' : List (Int × Int)} {Bk' Ah' : List (List Int)} {mp1 mp2 : List (Int × Int)}
theorem law_ret {o ot : Obj} {k : Nat} (R : Room A (n + 6)) (S : St w e b L m [(PL, o), (430, ot)] s) (ho : PlaceO k o) (hk : k + 1 ≤ 60) (F : LawF w b T PL vp vq v1 v2 vt vm md P Bk Ah P' Bk' Ah' mp1 mp2) (M : LawM m T vp vq v1 v2 vt vm)
    (K : ∀ b' h' t' o', (∀ a o, b a = some o → b' a = some o) → St w e b' L m [(PL, o'), (430, ot)] { s with heap := h', toks := t' } → Q (.ret (.bool true)) { s with heap := h', toks := t' }) : wpAny (model pw w) A (exec (lawSt 10) (callEnv f_law L 465)) Q E s := by
  have est : lawSt 10 = Stmt.Return (some (Expr.BoolOp _ (_ :: _ :: _) _)) _ := rfl
  rw [est]
  refine nay fun hG => ?_
  obtain ⟨m1, m2, m3, m4, m5, m6, m7⟩ := M
  refine hG ?_; clear hG
  have hPl := F.hP.1
  have hBl := F.hBk.1
  have hAl := F.hAh.1
  have hPl' := F.hP'.1
  have hBl' := F.hBk'.1
  have hAl' := F.hAh'.1
  have hml1 : mp1.length = P.length := F.pm1.length_eq
  have hml2 : mp2.length = P'.length := F.pm2.length_eq
  refine nay fun hG => ?_
  obtain ⟨Tt, tt1, tt2, tt3, rfl, hTt, _, _, _⟩ := id F.ht
  obtain ⟨Tp, lp, lb, la, rfl, hTp, ⟨Dp, vvp, kp, rfl, hDp, hvp⟩, _, _⟩ := id F.hp
  obtain ⟨x1, dx1, c1, mv1, c2, bv1, c3, av1, nn1, rfl, hx1, hdx1, ⟨d1, od1, kv1, rfl, hd15, hd1, hDO1, hKV1⟩, _, _⟩ := id F.hR1
  refine hG ?_; clear hG
  refine wpAny_Return_some ?_
  rename St _ _ _ _ _ _ _ => S
  refine PyProof.Rows.BoolOp_and ?_
  refine wpAny_Compare1 ?_ (by kernel_rfl!)
  refine mcall ?_ (by kernel_rfl!)
  walk_at "n"
  refine me_b (ga_Reverse _) (gt_Reverse _) (fm_Reverse_told _) (tm_Reverse_told _) gl_rev_told (by assumption) (by assumption) (by assumption) ?_
  refine callWith_K0 (kinH (by assumption)) (by with_reducible exact kp_f_Reverse_told _) ?_
  refine c_told (n := n + 1) R S.base S.sub F.hR1 F.nd1 (by lia) (by rw [List.length_map]; lia) (by rw [List.length_map]; lia) fun y1v b' h' t' G y1 => ?_
  have gu := G.up
  rw [F.tp1] at y1
  replace S := S.call0 (t := t') G
  try dsimp only at S
  have U := gu
  replace F := F.up gu
  replace hTp := gu _ _ hTp
  replace hTt := gu _ _ hTt
  replace hx1 := gu _ _ hx1
  replace hdx1 := gu _ _ hdx1
  replace hd1 := gu _ _ hd1
  replace hDp := gu _ _ hDp
  replace hvp := hvp.mono fun _ _ z => z.up gu
  walk_at "n"
  refine eq_told R S y1 F.ht ?_
  walk_at "t"
  refine ite_yes (by simp) ?_
  refine PyProof.Rows.BoolOp_and ?_
  refine wpAny_Compare1 ?_ (by kernel_rfl!)
  walk_at "f"
  refine n_sorted (by assumption) (by kernel_rfl!) (by kernel_rfl!) (by kernel_rfl!) (by kernel_rfl!) ?_
  refine PyProof.Rows.callWith_builtin1 ?_ (by kernel_rfl!) (by kernel_rfl!)
  walk_at "c"
  refine mcall ?_ (by kernel_rfl!)
  refine Attribute_any_ ?_ (by kernel_rfl!)
  walk_at "n"
  refine at_b (ga_Reverse _) (hd_Reverse _) (fa_Reverse_mapping _) gl_mapping (by assumption) (by rfl) (by assumption) (by assumption) (by first | rfl | assumption) ?_; intro _
  rename St _ _ _ _ _ _ _ => S
  refine me_items (S.get hd1) hDO1.1 ?_
  refine callWith_method0 ?_
  refine d_items S (by rfl) hDO1 (S.get hd1) hd15 fun vv b₆ h₇ t₇ up6 hvv S => ?_
  replace U := fun (a : Addr) (o : Obj) q => up6 a o (U a o q)
  replace F := F.up up6
  replace hTp := up6 _ _ hTp
  replace hTt := up6 _ _ hTt
  replace hd1 := up6 _ _ hd1
  replace hDp := up6 _ _ hDp
  replace hvp := hvp.mono fun _ _ z => z.up up6
  refine args_nil ?_
  refine srt_items R.hd S (by rfl) (S.get hvv) hDO1 (S.get hd1) hKV1 F.nd1 (fun x hx => ?_) (by lia) fun aP vP kP b₇ h₈ t₈ haP up7 hPP S => ?_
  · obtain ⟨p, hp, rfl⟩ := List.mem_map.mp hx
    exact (F.hP.2.2 p (F.pm1.mem_iff.mp hp)).1
  rw [F.tp1] at hPP
  replace U := fun (a : Addr) (o : Obj) q => up7 a o (U a o q)
  replace F := F.up up7
  replace hTp := up7 _ _ hTp
  replace hTt := up7 _ _ hTt
  replace hDp := up7 _ _ hDp
  replace hvp := hvp.mono fun _ _ z => z.up up7
  refine S.frzK haP fun b₈ up8 gP S => ?_
  replace U := fun (a : Addr) (o : Obj) q => up8 a o (U a o q)
  replace F := F.up up8
  replace hTp := up8 _ _ hTp
  replace hTt := up8 _ _ hTt
  replace hDp := up8 _ _ hDp
  replace hvp := hvp.mono fun _ _ z => z.up up8
  have hl1 : ListOf b₈ (IsPr b₈) (.ref aP) P := ⟨aP, vP, kP, rfl, gP, hPP.mono fun _ _ z => z.up up8⟩
  have hl2 : ListOf b₈ (IsPr b₈) (.ref Dp) P := ⟨Dp, _, _, rfl, hDp, hvp⟩
  refine Subscript_ ?_
  walk_at "n"; walk_at "i"
  refine sub_tup S hTp (by decide) (Nat.le_of_ble_eq_true rfl) (v := .ref Dp) (by rfl) ?_ (by with_unfolding_all rfl)
  refine eq_prs R S hl1 hl2 ?_
  walk_at "t"
  refine ite_yes (by simp) ?_
  refine PyProof.Rows.BoolOp_one ?_
  refine wpAny_Compare1 ?_ (by kernel_rfl!)
  refine mcall ?_ (by kernel_rfl!)
  walk_at "f"
  refine n_law_made (by assumption) (by kernel_rfl!) (by kernel_rfl!) (by kernel_rfl!) ?_
  refine callWith_K (kinH (by assumption)) (by with_reducible exact kp_f_law_made _) ?_ (by kernel_rfl!) (by kernel_rfl!)
  walk_at "c"; walk_at "n"; walk_at "c"; walk_at "n"
  refine args_nil ?_
  refine And.intro (kinH (by assumption)) ?_
  refine c_law_made (n := n + 1) R S.base S.sub F.hT (S.tu _ (.head _)).2.2.1 (S.muGet (.head _)) ho hk F.hp (F.hP.mono (by decide)) (F.hBk.mono (by decide)) (F.hAh.mono (by decide)) fun v4 mp4 o4 b' h' t' tp4 nd4 pm4 G gg ho4 hR4 => ?_
  have gu := G.up
  replace S := S.call1 (t := t') G gg
  try dsimp only at S
  replace U := fun (a : Addr) (o : Obj) q => gu a o (U a o q)
  replace F := F.up gu
  replace hTt := gu _ _ hTt
  have hml4 : mp4.length = P.length := pm4.length_eq
  refine nay fun hG => ?_
  obtain ⟨x4, dx4, f1, mv4, f2, bv4, f3, av4, nn4, rfl, hx4, hdx4, _, _, _⟩ := id hR4
  refine hG ?_; clear hG
  refine me_b (ga_Reverse _) (gt_Reverse _) (fm_Reverse_told _) (tm_Reverse_told _) gl_rev_told (by assumption) (by assumption) (by assumption) ?_
  refine callWith_K0 (kinH (by assumption)) (by with_reducible exact kp_f_Reverse_told _) ?_
  refine c_told (n := n + 1) R S.base S.sub hR4 nd4 (by lia) (by rw [List.length_map]; lia) (by rw [List.length_map]; lia) fun y4v b' h' t' G y4 => ?_
  have gu := G.up
  rw [tp4] at y4
  replace S := S.call0 (t := t') G
  try dsimp only at S
  replace U := fun (a : Addr) (o : Obj) q => gu a o (U a o q)
  replace F := F.up gu
  replace hTt := gu _ _ hTt
  walk_at "n"
  refine eq_told R S y4 F.ht ?_
  have e9 : decide (P = P ∧ Bk.map gset = Bk.map gset ∧ Ah.map gset = Ah.map gset) = true := by simp
  rw [e9]
  exact K _ _ _ _ U S
end
-- LZ
section
variable {w : World} {A : Around} {E : Value → Shared → Prop} {s : Shared} {b : PM} {n : Nat} {Q : Value → Shared → Prop}
theorem c_law {D : Addr} {vs : Array Value} {kk : Nat} (R : Room A (n + 13)) (B : Base w b) (hs : ∀ a o, b a = some o → s.heap.get? a = some o) (hBm : BmAt w.params b)
    (hD : b D = some (listOf vs kk)) (hv : ∀ (i : Nat) (v : Value), vs[i]? = some v → IsAnyI v) (hz : vs.size ≤ 63) (hb : b 430 = none) (hd : s.heap.get? 430 = some (tabObj #[]))
    (K : ∀ ps b' h' t', Grow b b' s.heap h' [430] → h'.get? 430 = some (tabObj ps) → Q (.bool true) { s with heap := h', toks := t' }) :
    wpR w A (call (.ref 465) [.ref D]) Q E s := by
  refine inR_law (body := _) rfl R B hs [(430, tabObj #[])] (one_mu hd hb) one_nd ?_
  intro L h₁ t₁ hL S R'
  dsimp only [extL] at S
  refine r_consA ?_
  refine wpAny_Assign_Name ?_ (by kernel_rfl!)
  walk_at "f"
  refine n_law_taker (by assumption) (by kernel_rfl!) (by kernel_rfl!) (by kernel_rfl!) ?_
  refine callWith_K (kinH (by assumption)) (by with_reducible exact kp_f_law_taker _) ?_ (by kernel_rfl!) (by kernel_rfl!)
  walk_at "c"; walk_at "n"
  refine args_nil ?_
  refine And.intro (kinH (by assumption)) ?_
  refine c_law_taker (n := n + 10) R' S.base S.sub hBm hD hv hz hb (S.muGet (.head _)) fun T PL o ps b' h' t' G g4 hT hbP hnP hdP ho => ?_
  replace S := S.call1M (t := t') G g4 hdP hbP hnP
  try dsimp only at S
  refine st_loc' (by assumption) (by rfl) rfl (by kernel_rfl!) (by kernel_rfl!) fun _ _ S => ?_
  refine r_consA ?_
  refine wpAny_Assign_Name ?_ (by kernel_rfl!)
  walk_at "f"
  refine n_law_plan (by assumption) (by kernel_rfl!) (by kernel_rfl!) (by kernel_rfl!) ?_
  refine callWith_K (kinH (by assumption)) (by with_reducible exact kp_f_law_plan _) ?_ (by kernel_rfl!) (by kernel_rfl!)
  walk_at "c"; walk_at "n"
  refine args_nil ?_
  refine And.intro (kinH (by assumption)) ?_
  refine c_law_plan (n := n + 7) R' S.base S.sub hT (S.tu _ (.head _)).2.2.1 (S.muGet (.head _)) ho (by decide) fun pv P Bk Ah o b' h' t' hP hBk hAh G gg ho hp => ?_
  replace S := S.call1 (t := t') G gg
  try dsimp only at S
  replace hT := hT.up G.up
  have hPl := hP.1
  have hBl := hBk.1
  have hAl := hAh.1
  refine nay fun hG => ?_
  obtain ⟨Tp, lp, lb, la, rfl, hTp, _, _, _⟩ := id hp
  refine hG ?_; clear hG
  refine st_loc' (by assumption) (by rfl) rfl (by kernel_rfl!) (by kernel_rfl!) fun _ _ S => ?_
  refine r_consA ?_
  refine wpAny_Assign_Name ?_ (by kernel_rfl!)
  walk_at "f"
  refine n_law_bent (by assumption) (by kernel_rfl!) (by kernel_rfl!) (by kernel_rfl!) ?_
  refine callWith_K (kinH (by assumption)) (by with_reducible exact kp_f_law_bent _) ?_ (by kernel_rfl!) (by kernel_rfl!)
  walk_at "c"; walk_at "n"; walk_at "c"; walk_at "n"
  refine args_nil ?_
  refine And.intro (kinH (by assumption)) ?_
  refine c_law_bent (n := n + 7) R' S.base S.sub hT (S.tu _ (.head _)).2.2.1 (S.muGet (.head _)) ho (by decide) hp hP hBk hAh fun qv P' Bk' Ah' o b' h' t' hP' hBk' hAh' G gg ho hq => ?_
  replace S := S.call1 (t := t') G gg
  try dsimp only at S
  replace hT := hT.up G.up
  replace hp := hp.up G.up
  refine nay fun hG => ?_
  obtain ⟨Tq, lq1, lq2, lq3, rfl, hTq, _, _, _⟩ := id hq
  refine hG ?_; clear hG
  refine st_loc' (by assumption) (by rfl) rfl (by kernel_rfl!) (by kernel_rfl!) fun _ _ S => ?_
  refine r_consA ?_
  refine PyProof.Rows.Assign_Tuple_swapped (names := ["first", "second"]) ?_ (by kernel_rfl!) (by kernel_rfl!)
  refine PyProof.Rows.Tuple_ ?_
  walk_at "c"; walk_at "f"
  refine n_law_made (by assumption) (by kernel_rfl!) (by kernel_rfl!) (by kernel_rfl!) ?_
  refine callWith_K (kinH (by assumption)) (by with_reducible exact kp_f_law_made _) ?_ (by kernel_rfl!) (by kernel_rfl!)
  walk_at "c"; walk_at "n"; walk_at "c"; walk_at "n"
  refine args_nil ?_
  refine And.intro (kinH (by assumption)) ?_
  refine c_law_made (n := n + 7) R' S.base S.sub hT (S.tu _ (.head _)).2.2.1 (S.muGet (.head _)) ho (by decide) hp (hP.mono (by decide)) (hBk.mono (by decide)) (hAh.mono (by decide)) fun v1 mp1 o b' h' t' tp1 nd1 pm1 G gg ho hR1 => ?_
  have gu := G.up
  replace S := S.call1 (t := t') G gg
  try dsimp only at S
  replace hT := hT.up gu
  replace hp := hp.up gu
  replace hq := hq.up gu
  refine nay fun hG => ?_
  obtain ⟨x1, dx1, c1, mv1, c2, bv1, c3, av1, nn1, rfl, hx1, hdx1, _, _, _⟩ := id hR1
  refine hG ?_; clear hG
  have hml1 : mp1.length = P.length := pm1.length_eq
  walk_at "c"; walk_at "f"
  refine n_law_made (by assumption) (by kernel_rfl!) (by kernel_rfl!) (by kernel_rfl!) ?_
  refine callWith_K (kinH (by assumption)) (by with_reducible exact kp_f_law_made _) ?_ (by kernel_rfl!) (by kernel_rfl!)
  walk_at "c"; walk_at "n"; walk_at "c"; walk_at "n"
  refine args_nil ?_
  refine And.intro (kinH (by assumption)) ?_
  refine c_law_made (n := n + 7) R' S.base S.sub hT (S.tu _ (.head _)).2.2.1 (S.muGet (.head _)) ho (by decide) hq hP' hBk' hAh' fun v2 mp2 o b' h' t' tp2 nd2 pm2 G gg ho hR2 => ?_
  have gu := G.up
  replace S := S.call1 (t := t') G gg
  try dsimp only at S
  replace hT := hT.up gu
  replace hp := hp.up gu
  replace hq := hq.up gu
  replace hR1 := hR1.up gu
  refine nay fun hG => ?_
  obtain ⟨x2, dx2, e1, mv2, e2, bv2, e3, av2, nn2, rfl, hx2, hdx2, _, _, _⟩ := id hR2
  refine hG ?_; clear hG
  refine args_nil ?_
  refine new_tup S (by rfl) (Nat.le_of_ble_eq_true rfl) fun T4 b₇ h₇ t₇ up7 hT4 S => ?_
  replace hT := hT.up up7
  replace hp := hp.up up7
  replace hq := hq.up up7
  replace hR1 := hR1.up up7
  replace hR2 := hR2.up up7
  refine un_swap2 R'.hd S (by rfl) hT4 rfl (by kernel_rfl!) (by kernel_rfl!) (by kernel_rfl!) fun h₈ t₈ S => ?_
  refine nay fun hG => ?_
  obtain ⟨x1', dx1', c1, mv1, c2, bv1, c3, av1, nn1, ex1, hx1, hdx1, _, _, _⟩ := id hR1
  refine hG ?_; clear hG
  cases ex1
  rename St _ _ _ _ _ _ _ => S
  refine r_consA ?_
  refine wpAny_Assign_Name ?_ (by kernel_rfl!)
  refine mcall ?_ (by kernel_rfl!)
  walk_at "n"
  refine me_b (ga_Reverse _) (gt_Reverse _) (fm_Reverse_told _) (tm_Reverse_told _) gl_rev_told (by assumption) (by assumption) (by assumption) ?_
  refine callWith_K0 (kinH (by assumption)) (by with_reducible exact kp_f_Reverse_told _) ?_
  refine c_told (n := n + 7) R' S.base S.sub hR1 nd1 (by lia) (by rw [List.length_map]; lia) (by rw [List.length_map]; lia) fun tv b' h' t' G ht => ?_
  have gu := G.up
  rw [tp1] at ht
  replace S := S.call0 (t := t') G
  try dsimp only at S
  replace hT := hT.up gu
  replace hp := hp.up gu
  replace hq := hq.up gu
  replace hR1 := hR1.up gu
  replace hR2 := hR2.up gu
  refine nay fun hG => ?_
  obtain ⟨Tt, tt1, tt2, tt3, rfl, hTt, _, _, _⟩ := id ht
  refine hG ?_; clear hG
  refine st_loc' (by assumption) (by rfl) rfl (by kernel_rfl!) (by kernel_rfl!) fun _ _ S => ?_
  refine r_consA ?_
  refine wpAny_Assign_Name ?_ (by kernel_rfl!)
  walk_at "f"
  refine n_law_means (by assumption) (by kernel_rfl!) (by kernel_rfl!) (by kernel_rfl!) ?_
  refine callWith_K (kinH (by assumption)) (by with_reducible exact kp_f_law_means _) ?_ (by kernel_rfl!) (by kernel_rfl!)
  walk_at "c"; walk_at "n"
  refine args_nil ?_
  refine And.intro (kinH (by assumption)) ?_
  refine c_law_means (n := n + 10) R' S.base S.sub hp (hP.mono (by decide)) (hBk.mono (by decide)) (hAh.mono (by decide)) fun mv md b' h' t' hmd G hm => ?_
  have gu := G.up
  replace S := S.call0 (t := t') G
  try dsimp only at S
  refine nay fun hG => ?_
  obtain ⟨Tm, mb, ma, rfl, hTm, _, _, _⟩ := id hm
  refine hG ?_; clear hG
  have F : LawF w b' T PL (.ref Tp) (.ref Tq) (.ref x1) (.ref x2) (.ref Tt) (.ref Tm) md P Bk Ah P' Bk' Ah' mp1 mp2 :=
    { hT := hT.up gu, hp := hp.up gu, hq := hq.up gu, hR1 := hR1.up gu, hR2 := hR2.up gu, ht := ht.up gu, hm := hm, hP := hP, hBk := hBk, hAh := hAh, hP' := hP', hBk' := hBk', hAh' := hAh', tp1 := tp1, nd1 := nd1, pm1 := pm1, tp2 := tp2, nd2 := nd2, pm2 := pm2 }
  refine st_loc' (by assumption) (by rfl) rfl (by kernel_rfl!) (by kernel_rfl!) fun _ _ S => ?_
  refine r_consA ?_
  refine law_if6 (n := n + 10) R' S F ⟨by walk_at "W look", by walk_at "W look", by walk_at "W look", by walk_at "W look", by walk_at "W look", by walk_at "W look", by walk_at "W look"⟩ fun b' h' t' up S => ?_
  replace F := F.up up
  refine r_consA ?_
  refine law_if7 (n := n + 6) R' S F ⟨by walk_at "W look", by walk_at "W look", by walk_at "W look", by walk_at "W look", by walk_at "W look", by walk_at "W look", by walk_at "W look"⟩ fun b' h' t' up S => ?_
  replace F := F.up up
  refine r_cons ?_
  refine law_st8 (n := n) R' S F ⟨by walk_at "W look", by walk_at "W look", by walk_at "W look", by walk_at "W look", by walk_at "W look", by walk_at "W look", by walk_at "W look"⟩ fun b' h' t' x3 up hR3 S => ?_
  replace F := F.up up
  refine r_consA ?_
  refine law_if9 (n := n + 6) R' S F ⟨by walk_at "W look", by walk_at "W look", by walk_at "W look", by walk_at "W look", by walk_at "W look", by walk_at "W look", by walk_at "W look"⟩ hR3 (by walk_at "W look") fun b' h' t' up S => ?_
  replace F := F.up up
  refine r_consA ?_
  refine law_ret (n := n + 6) R' S ho (by decide) F ⟨by walk_at "W look", by walk_at "W look", by walk_at "W look", by walk_at "W look", by walk_at "W look", by walk_at "W look", by walk_at "W look"⟩ fun b' h' t' o' up S => ?_
  exact K ps b' h' t' S.grow (S.muGet (.tail _ (.head _)))
end
-- HA
theorem caller_good : Good (⟨.builtin "claim.caller" {}, none, none, [], none⟩ : Ctx) := ⟨by decide +kernel, fun _ h => nomatch h⟩
theorem wp_of_wpR {w : World} {t : Sem PySem.Fin} {R : Result → Shared → Prop} {s : Shared} (h : wpR w callerA t (fun fin s' => ∃ f, fin = .done f ∧ R (.ok f) s') (fun e s' => R (.error e) s') s) (p : Pos) :
    Sem.wp (model pw w) ⟨.builtin "claim.caller" {}, none, none, [], none⟩ t (Sem.finPost (model pw w) ⟨.builtin "claim.caller" {}, none, none, [], none⟩ R) (fun e _ s' => R (.error e) s') p s := by
  refine Sem.wp_mono _ _ t (fun fin p' s' h' => ?_) (fun _ _ _ h' => h') p s (h _ p caller_in caller_good)
  refine nay fun hG => ?_
  obtain ⟨f, rfl, hf⟩ := h'
  refine hG ?_; clear hG
  exact hf
theorem thread_ends_R {w : World} {t : Sem PySem.Fin} {s : Shared} {R : Result → Shared → Prop} (hreg : s.asleep) (hG : leftWithCleanup s.gens = false)
    (h : wpR w callerA t (fun fin s' => ∃ f, fin = .done f ∧ (R (.ok f) s' ∧ s'.gens = #[])) (fun e s' => R (.error e) s' ∧ s'.gens = #[]) { s with gens := #[] }) :
    ∃ n r s', schedN (denote table) pw w n (.single s ⟨t, .builtin "claim.caller" {}, default, []⟩) = .halted (outcomeOf r) { s' with gens := s.gens } ∧ s'.heap.life = s.heap.life ∧ R r s' := by
  have h' := wp_of_wpR (R := fun r s' => (R r s' ∧ s'.gens = #[]) ∧ leftWithCleanup s'.gens = false)
    (h.mono (fun _ _ ⟨f, e, a, b⟩ => ⟨f, e, ⟨a, b⟩, by rw [b]; simp [leftWithCleanup]⟩) fun _ _ ⟨a, b⟩ => ⟨⟨a, b⟩, by rw [b]; simp [leftWithCleanup]⟩) default
  refine nay fun hG => ?_
  obtain ⟨n, r, s₁, hn, hR, hg⟩ := (wp_iff_halts (M := model pw w) (R := fun r s' => R r s' ∧ s'.gens = #[]) ..).mp h'
  obtain ⟨s₂, hr, hf, hc⟩ := runNI_real _ _ _ hn (outcomeOf_ends r)
  obtain rfl : s₂ = s₁ := Shared.eq_of_forget_eq hf hg
  refine hG ?_; clear hG
  exact ⟨n, r, s₂, sched_gens (s := { s with gens := #[] }) hG hr (outcomeOf_ends r) hg rfl hc hreg, runN_life (s := { s with gens := #[] }) _ _ _ hr, hR⟩
-- HB
theorem callFrom_R {c : ClaimW} (hp : c.prog = pw) {tree : List Value → Sem PySem.Fin} {w : World} {s : Shared} {free : Addr → Prop} {gens : Prop} {kept : Heap → Prop} (hz : s.asleep) (hG : leftWithCleanup s.gens = false)
    (hspec : ∀ args, c.pre args = true → WData.layableAll args = true →
      ∀ ord : List DictEntry → List DictEntry, (∀ l, (ord l).Perm l) →
      ∃ vs s₁, layAllW c.records (classAt s.heap) w.params ord args s = some (vs, s₁) ∧
        wpR w callerA (tree vs) (fun fin s' => ∃ f, fin = .done f ∧ (c.Ends s args vs s₁ (.ok f) s' ∧ s'.os = s.os ∧ s'.gens = #[] ∧ kept s'.heap))
          (fun e s' => c.Ends s args vs s₁ (.error e) s' ∧ s'.os = s.os ∧ s'.gens = #[] ∧ kept s'.heap) { s₁ with gens := #[] }) :
    c.CallFrom (fun vs => ⟨tree vs, .builtin "claim.caller" {}, default, []⟩) w free gens kept s := by
  intro args hpre hlay ord hord
  refine nay fun hG => ?_
  obtain ⟨vs, s₁, hlaid, hcode⟩ := hspec args hpre hlay ord hord
  refine hG ?_; clear hG
  have hal := layAllW_rest _ _ _ hlaid
  obtain ⟨k, r, s', hsched, hlife, hcase, hos, hkp⟩ := thread_ends_R (w := w) (t := tree vs) (s := s₁) (R := fun r s' => c.Ends s args vs s₁ r s' ∧ s'.os = s.os ∧ kept s'.heap)
    (Shared.asleep_of_life hal.2.2.2 hz) (by rw [show s₁.gens = s.gens from hal.1]; exact hG)
    (hcode.mono (fun _ _ q => q.elim fun f q => ⟨f, q.1, ⟨q.2.1, q.2.2.1, q.2.2.2.2⟩, q.2.2.2.1⟩) fun _ _ q => ⟨⟨q.1, q.2.1, q.2.2.2⟩, q.2.2.1⟩)
  rw [← hp] at hsched
  refine ⟨vs, s₁, hlaid, k, _, _, hsched, ?_, (fun _ i x hx => by rw [← hx]; exact congrArg (·[i]?) hal.1), hkp, congrArg Life.seen (hlife.trans hal.2.2.2), Shared.rest_eq hos⟩
  refine Classical.byContradiction fun hN => ?_
  rcases hcase with ⟨v, rfl, d1, d2, d3, d4, d5⟩ | ⟨e, ob, cls, rfl, d1, d2, d3, d4, d5⟩
  · exact hN (.inl ⟨v, rfl, d1, d2, d3, fun b o y _ => d4 b o y, d5⟩)
  · exact hN (.inr ⟨e, ob, cls, rfl, d1, d2, d3, d4, fun b o y _ => d5 b o y⟩)
-- HC
noncomputable abbrev rw0 : RowW := PySem.Challenge.rw_pb0195_01.row.toRowW
theorem pre_open {args : List WData} (h : rw0.claim.pre args = true) : ∃ ns : List Int, args = [.list (ns.map .int)] ∧ ns.length ≤ 63 := by
  obtain ⟨h1, h2⟩ := pre_splitW h
  cases args with
  | nil => exact absurd (show (false = true) from h1) (by decide)
  | cons a rest =>
    cases rest with
    | cons c r =>
      have := (Bool.and_eq_true_iff.mp (show (WShape.has [] a (.list .int) && false) = true from h1)).2
      cases this
    | nil =>
      have h3 := (Bool.and_eq_true_iff.mp (show (WShape.has [] a (.list .int) && WShape.hasAll [] [] []) = true from h1)).1
      cases a with
      | list xs =>
        obtain ⟨ns, rfl⟩ := items_int (R := []) (xs := xs) (Bool.or_eq_true_iff.mp h3 |>.elim id fun q => by cases q)
        refine ⟨ns, rfl, ?_⟩
        have h4 : WTm.holds [] (.and (.not (.lt (.lit (.int 63)) (.len (.arg 0)))) (.lit (.bool true))) { args := [.list (ns.map .int)] } = true := h2
        by_cases h5 : (63 : Int) < (ns.length : Int)
        · simp [WTm.holds, WTm.value, PySem.W.less?, PySem.W.Num.less?, h5] at h4
        · lia
      | _ => exact absurd (show (false = true) from h3) (by decide)
theorem wellAll_nil_inv {P : Params} {h : Heap} {vs : List Value} (x : WellAll P h vs []) : vs = [] := by cases x; rfl
theorem well_int_inv {P : Params} {h : Heap} {v : Value} {i : Int} (x : Well P h v (.int i)) : ∃ t, v = .int i t := by cases x; exact ⟨_, rfl⟩
theorem well_list_inv {P : Params} {h : Heap} {v : Value} {xs : List WData} (x : Well P h v (.list xs)) : ∃ a vs, v = .ref a ∧ h.get? a = some { cls := .type "list", data := .seq vs.toArray } ∧ WellAll P h vs xs := by
  cases x; exact ⟨_, _, rfl, by assumption, by assumption⟩
theorem intsW_of {P : Params} {h : Heap} : ∀ {ns : List Int} {vs : List Value}, WellAll P h vs (ns.map .int) → vs.length = ns.length ∧ ∀ v ∈ vs, IsAnyI v := by
  intro ns
  induction ns with
  | nil => intro vs x; rw [wellAll_nil_inv x]; exact ⟨rfl, fun _ h => absurd h List.not_mem_nil⟩
  | cons i ns ih =>
    intro vs x
    refine nay fun hG => ?_
    obtain ⟨v, vs', rfl, a, r⟩ := wellAll_cons_inv x
    obtain ⟨t, rfl⟩ := well_int_inv a
    obtain ⟨h1, h2⟩ := ih r
    refine hG ?_; clear hG
    refine ⟨congrArg (· + 1) h1, fun v hv => ?_⟩
    rcases List.mem_cons.mp hv with rfl | hv
    · exact ⟨i, t, rfl⟩
    · exact h2 v hv
noncomputable def allBut (h : Heap) : PM := fun a => if a = 430 then none else h.get? a
theorem allBut_sub {h : Heap} {a : Addr} {o : Obj} (e : allBut h a = some o) : h.get? a = some o := by
  unfold allBut at e; split at e
  · cases e
  · exact e
theorem allBut_at {h : Heap} {a : Addr} {o : Obj} (e : h.get? a = some o) (n : a ≠ 430) : allBut h a = some o := by
  unfold allBut; rw [if_neg n]; exact e
theorem K430 (P : Params) : (K P).lookup 430 = none := by kernel_rfl!
theorem lawK (P : Params) : nsIn (K P) mainGlobals "law" = some (some (.ref 465)) := by kernel_rfl!
theorem walked {w : World} {s₀ s₁ : Shared} {mg mb : Str → Option Value} (G : Ground qw looseW' [] (fun _ _ => True) w s₀ mg mb s₁.heap) (X : (K w.params).In s₁.heap) (h430 : s₁.heap.get? 430 = some (tabObj #[])) (hg : s₁.gens = #[]) {args : List WData} {vs : List Value}
    (hpre : rw0.claim.pre args = true) (W : WellAll w.params s₁.heap vs args) :
    mg "law" = some (.ref 465) ∧ wpR w callerA (PySem.call (.ref 465) vs) (fun v s' => GoodWG rw0.claim (classAt s₀.heap) (ExcName.means s₀.heap) args s₁ (.ok (.ret v)) s' ∧ s'.gens = #[]) (fun _ _ => False) s₁ := by
  refine ⟨mg_of X G.T.g (lawK _), ?_⟩
  refine nay fun hG => ?_
  obtain ⟨ns, rfl, hn⟩ := pre_open hpre
  refine hG ?_; clear hG
  obtain ⟨D, xs, rfl, hD, hx⟩ : ∃ D xs, vs = [.ref D] ∧ s₁.heap.get? D = some { cls := .type "list", data := .seq (List.toArray xs) } ∧ WellAll w.params s₁.heap xs (ns.map .int) := by
    refine nay fun hG => ?_
    obtain ⟨v, vs', rfl, a, r⟩ := wellAll_cons_inv W
    obtain rfl := wellAll_nil_inv r
    obtain ⟨D, xs, rfl, h1, h2⟩ := well_list_inv a
    refine hG ?_; clear hG
    exact ⟨D, xs, rfl, h1, h2⟩
  obtain ⟨hl, hi⟩ := intsW_of hx
  have C := code434 X
  have ne : ∀ {a : Addr} {o : Obj}, s₁.heap.get? a = some o → o.cls ≠ .none → a ≠ 430 := fun e hc q => by
    rw [q, h430] at e; cases e; exact hc rfl
  refine nay fun hG => ?_
  obtain ⟨bm, ob, b1, b2, b3, b4, b5, b6⟩ := G.T.bmain
  obtain ⟨og, eg, pg, g1, g2, g3, g4⟩ := G.T.g
  obtain ⟨og', eg', pg', g1', g2', _, g4'⟩ := globs_of X
  obtain rfl : og' = og := Option.some.inj (g1'.symm.trans g1)
  refine hG ?_; clear hG
  have hb1 : gv w.params "__builtins__" = some (.ref bm) := by
    rw [g2] at g2'; cases g2'
    exact ((g4' _).symm.trans (g4 _)).trans b1
  refine nay fun hG => ?_
  obtain ⟨o0, e0, p0, z1, z2, z3, z4⟩ := G.T.b
  refine hG ?_; clear hG
  have hbm : bm ≠ mainGlobals := fun q => by rw [q, g1] at b3; cases b3; rw [g2] at b6; cases b6
  have hbl : bm ≠ 430 := ne b3 (by rw [b4]; nofun)
  refine c_law (n := 0) (b := allBut s₁.heap) (s := s₁) (A := callerA) ⟨rfl, by show 1 + claimMargin + 13 < 900; decide, by decide⟩
    ⟨fun a o e => allBut_at (X a o e) (fun q => by rw [q, K430] at e; cases e), ⟨o0, mb, allBut_at z1 (by decide), fun h e => ⟨o0, e0, p0, e, z2, z3, z4⟩, G.T.builtins⟩⟩
    (fun _ _ => allBut_sub) ⟨bm, ob, hb1, b2, hbm, hbl, allBut_at b3 hbl, b4, b5, b6⟩
    (allBut_at hD (ne hD (by nofun))) (fun i v e => hi v (by have := Array.mem_of_getElem? e; simpa using this)) (by simp; lia) rfl h430 fun ps b' h' t' g hP => ?_
  refine ⟨⟨.inl ⟨.bool true, .bool true, [], rfl, fun _ => rfl, (.bool true), by kernel_rfl!, fun _ => ⟨.nil, fun _ h => nomatch h⟩⟩, ⟨fun a o e => ?_, fun a o e => ?_⟩, rfl, .of_eq hg⟩, hg⟩
  · by_cases q : a = 430
    · subst q
      obtain rfl := Option.some.inj (e.symm.trans h430)
      exact .inr (.inl ⟨(C.tab h430).isCodeTable, rfl, #[], ps, rfl, by rw [Array.empty_append]; exact hP⟩)
    · exact .inl (g.keep a o e (by simpa using q))
  · by_cases q : a = 430
    · subst q; exact ⟨_, hP⟩
    · exact ⟨o, g.keep a o e (by simpa using q)⟩
-- HD
noncomputable def kBs : List Addr := 430 :: kAs
noncomputable def kB (P : Params) : List (Option Obj) := some (tabObj #[]) :: (K P).map fun p => some p.2
noncomputable abbrev X1 (_ : Shared) : Bool := true
theorem whole_q2 (w : World) (os : OsState) : Option.map (fun r : Flow × SharedT × Code × Pos => (r.1, r.2.2.1, r.2.2.2, (staticsOk [] (boot_heap w.params) r.2.1.abs.heap && namesBound pw r.2.1.abs.heap && gensDone r.2.1.abs && laidKept (boot_heap w.params) r.2.1.abs.heap),
      PySem.W.Fast.tw4187177175401517315 qw looseW' [] X1 true r.2.1.abs, kBs.map r.2.1.abs.heap.get?))
      (PySem.W.Fast.tw10110043849684766642 PySem.W.Fast.tw14364793385576792824 pw w 11 ann0 1 2988 (S0 w os) (piecesOf body0 env0 code0 pos0 B0)) =
    some (.next, code0, posL, true, openGood qw looseW', kB w.params) := by kernel_rfl!
theorem whole02 (w : World) (os : OsState) : Option.map (fun r : Flow × SharedT × Code × Pos => (r.1, r.2.2.1, r.2.2.2, (staticsOk [] (boot_heap w.params) r.2.1.abs.heap && namesBound pw r.2.1.abs.heap && gensDone r.2.1.abs && laidKept (boot_heap w.params) r.2.1.abs.heap),
      openSeen qw looseW' [] X1 true r.2.1.abs, kBs.map r.2.1.abs.heap.get?))
      (segRunT treeTable pw w 11 ann0 1 2988 (S0 w os) (piecesOf body0 env0 code0 pos0 B0)) =
    some (.next, code0, posL, true, openGood qw looseW', kB w.params) := by
  rw [PySem.W.Fast.te4187177175401517315, PySem.W.Fast.te10110043849684766642, PySem.W.Fast.te14364793385576792824]; exact whole_q2 w os
theorem left02 : LeftO pw qw looseW' X1 (fun s => kBs.map s.heap.get?) (fun w => kB w.params) 6098 true :=
  left_once (M := 12 + (1 + (2988 + 2))) open0 size0 (fun w os => by
    obtain ⟨⟨fl, S', c, ps⟩, e1, e2⟩ := Option.map_eq_some_iff.mp (whole02 w os)
    simp only [Prod.mk.injEq] at e2
    obtain ⟨rfl, rfl, rfl, l1, l2, l3⟩ := e2
    refine ⟨S'.abs, ?_, ?_, ?_, l3⟩
    · have a := piece_app (rest := []) (env := env0) (segRun_of e1) (fin0 w S'.abs posL)
      have b := piece_block (env := env0) (block0 w os) (by rw [List.append_nil] at a; exact a)
      exact go_top (pre0 w os) b
    · rw [imp0]; exact l1
    · rw [imp0]; exact l2) (by decide)
-- HE
noncomputable abbrev XT (_ : Str → Option Value) (_ : Heap) : Prop := True
theorem defLaw : ∃ d kwd, defOf qw (Str.ofString "law") = some (d, kwd) ∧ pw.theDef (Str.ofString "law") = some (d.params, d.body, d.scope) ∧ kwWritten? d.params.kwonlyargs d.params.kw_defaults = some kwd :=
  ⟨_, _, by rfl, by rfl, by rfl⟩
theorem okLaw : (chainsOk qw && opensWell pw && (frees rw0 && rw0.within.isEmpty)) = true := by decide +kernel
theorem bareLaw : pw.bare := ⟨rfl, rfl, rfl, rfl, rfl, by decide +kernel⟩
theorem promisedLaw : rw0.promised := ⟨[.list [.int 3, .int 1]], by decide +kernel, by decide +kernel⟩
theorem open_row : rw0.claim.HoldsOpenBy (fun vs => ⟨do match ← nsGet mainNs (Str.ofString "law") with
      | some f => do ret (← PySem.call f vs)
      | none => unsupported "claim.caller:no-such-global", .builtin "claim.caller" {}, default, []⟩) [Str.ofString "law"] PySem.Challenge.rw_pb0195_01.own false := by
  refine nay fun hG => ?_
  obtain ⟨hch, o1⟩ := Bool.and_eq_true_iff.mp (Bool.and_eq_true_iff.mp okLaw).1
  obtain ⟨k5, k6⟩ := Bool.and_eq_true_iff.mp (Bool.and_eq_true_iff.mp okLaw).2
  obtain ⟨hsame, hu, ha, hap, hm⟩ := frees_parts k5
  obtain ⟨d, kwd, q1, q2, q3⟩ := defLaw
  refine hG ?_; clear hG
  have hX : ∀ s, X1 s = true → XT (s.heap.nsMap mainGlobals) s.heap := fun _ _ => trivial
  refine ⟨⟨bareLaw, o1, rfl⟩, promisedLaw.witness, fun w => ⟨(left02.behind (XP := XT) hX hch w).1, fun s' hs' => ?_⟩⟩
  refine nay fun hG => ?_
  obtain ⟨s₀, hf, hg0, s, hT, hz, hgens, hg, G, y⟩ := (left02.behind (XP := XT) hX hch w).2 s' hs'
  refine hG ?_; clear hG
  have hgens : s.gens = #[] := Array.eq_empty_of_size_eq_zero (beq_iff_eq.mp hgens)
  have h430 : s.heap.get? 430 = some (tabObj #[]) := (List.cons.inj y).1
  have X : (K w.params).In s.heap := Frag.in_of (kAs_ok _) (List.cons.inj y).2
  refine ⟨s₀, hf, hg0, s, hT, fun n hn => ?_, fun x hx => (nomatch hx), fun x hx => (nomatch hx), ?_⟩
  · obtain rfl := List.mem_singleton.mp hn
    exact pinned_of_view hg G q1 q2 q3
  refine callFrom_R (c := rw0.claim) rfl (tree := fun vs => do match ← nsGet mainNs (Str.ofString "law") with
      | some f => do ret (← PySem.call f vs)
      | none => unsupported "claim.caller:no-such-global") hz (by rw [hgens]; simp [leftWithCleanup]) fun args hpre hlay ord hord => ?_
  refine nay fun hG => ?_
  obtain ⟨⟨vs, s₁⟩, hlaid⟩ := Option.isSome_iff_exists.mp (layAllW_isSome (P := w.params) (ord := ord) G.has args rw0.args s (pre_splitW hpre).1)
  refine hG ?_; clear hG
  have keeps := layAllW_keeps _ _ _ hlaid
  have hal := layAllW_rest _ _ _ hlaid
  refine nay fun hG => ?_
  obtain ⟨as, hrd, hin, hold⟩ := reads_layAllW hord _ _ _ hlaid hlay s₁.heap (fun _ _ e => e)
  refine hG ?_; clear hG
  have L : Laid rw0.claim.records w s s₁ args vs as := ⟨⟨ord, hord, hlaid⟩, hrd, hin, hold, keeps, hal.1.trans hgens, hal.2.2.1⟩
  have G₁ := G.keeps (XP := XT) (fun _ _ _ _ _ => trivial) keeps
  obtain ⟨hlaw, walk⟩ := walked (s₁ := { s₁ with gens := #[] }) G₁ (X.keeps keeps) (keeps _ _ h430) rfl hpre L.well
  refine ⟨vs, s₁, hlaid, wpR.bindA (wpAny_nsGet G₁.T.g ?_)⟩
  rw [hlaw]
  refine wpR.bind (walk.mono (fun v s' g => wpR.pure ?_) fun e s' g => g.elim)
  have z := g.1.laid (c := rw0.claim) hsame (List.isEmpty_iff.mp k6) (ident_freeW hu ha hap) L
  exact ⟨_, rfl, z.1, z.2.1, g.2, fun q => nomatch q⟩
-- HF
theorem saidLaw : PySem.Challenge.rw_pb0195_01.wellSaid = true := by
  unfold OpenLaw.wellSaid OpenRow.wellSaid OpenRow.partSaid looksOpen
  repeat' (with_reducible refine Bool.and_eq_true_iff.mpr ⟨?_, ?_⟩)
  all_goals decide +kernel
end Mine
theorem PySem.Challenge.cw_pb0195_01_holds : PySem.Challenge.rw_pb0195_01.Holds :=
  ⟨Mine.saidLaw, row_said Mine.saidLaw, Mine.promisedLaw, Mine.open_row⟩
