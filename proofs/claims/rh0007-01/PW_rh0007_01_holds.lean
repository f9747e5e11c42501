import PyProof.Rows.All
import Wide.All
import OpenK.AllK
import Wide.FinOn
import PySem.Challenge.RW_rh0007_01
open PySem PySem.W PyProof.Rows PySem.Calls PySem.Spec
set_option Elab.async false
set_option compiler.extract_closed false
set_option genSizeOfSpec false
set_option maxRecDepth 100000
set_option maxHeartbeats 8000000
set_option linter.unusedVariables false
set_option linter.unusedSimpArgs false
set_option linter.deprecated false
namespace Mine
noncomputable def st1 (tb : String → Option Builtin) (p : Program) (w : World) (n₀ : Nat) (ann : Option Value) (s : SharedT) (t : Thread) : Option (SharedT × Thread) := match through t with
  | true => none
  | false => match stepOk n₀ ann t with
    | false => none
    | true => stepT (denote tb) p w s t
noncomputable def topGoT (tb : String → Option Builtin) (p : Program) (w : World) (n₀ : Nat) (ann : Option Value) : Nat → SharedT → Thread → Option (SharedT × Thread)
  | 0, s, t => some (s, t)
  | n + 1, s, t => match st1 tb p w n₀ ann s t with
    | some (s', t') => topGoT tb p w n₀ ann n s' t'
    | none => none
theorem st1_run {tb : String → Option Builtin} {p : Program} {w : World} {n₀ : Nat} {ann : Option Value} {n : Nat} {s s' : SharedT} {t t' : Thread} (h : st1 tb p w n₀ ann s t = some (s', t')) : topRun tb p w n₀ ann (n + 1) s.abs t = topRun tb p w n₀ ann n s'.abs t' := by
  unfold st1 at h
  rw [topRun]
  cases he : through t with
  | true => rw [he] at h; cases h
  | false =>
    rw [he] at h
    cases hk : stepOk n₀ ann t with
    | false => rw [hk] at h; cases h
    | true => rw [hk] at h; dsimp only at h ⊢; rw [stepT_spec h]
theorem topGo_run {tb : String → Option Builtin} {p : Program} {w : World} {n₀ : Nat} {ann : Option Value} {m : Nat} {s' : SharedT} {t' : Thread} (n : Nat) : ∀ {s : SharedT} {t : Thread}, topGoT tb p w n₀ ann n s t = some (s', t') → topRun tb p w n₀ ann (n + m) s.abs t = topRun tb p w n₀ ann m s'.abs t' := by
  induction n with
  | zero => intro s t h; cases h; rw [Nat.zero_add]
  | succ n ih =>
    intro s t h
    unfold topGoT at h
    rw [Nat.succ_add]
    cases hs : st1 tb p w n₀ ann s t with
    | none => rw [hs] at h; cases h
    | some r => obtain ⟨s₂, t₂⟩ := r; rw [hs] at h; rw [st1_run hs]; exact ih h
noncomputable def growT : List Obj → Nat → BT → BT
  | [], _, t => t
  | o :: r, n, t => growT r (n + 1) (t.ins n o)
noncomputable def bootS (P : Params) (os : OsState) : SharedT := ⟨growT (boot_heap P).objs.toList 0 .nil, (boot_heap P).objs.size, (boot_heap P).life, Array.mk [], boot_drawn, boot_toks, os⟩
theorem left_of {p q : Program} {loose : List Str} {Xt : Shared → Bool} {α : Type} {Yf : Shared → α} {Ya : World → α} {N M : Nat} {g0 : Bool}
    (e : opening p = plainProg p.main.scope.names) (hN : Nat.ble 600 N = true) (f : ∀ s, fenceModules? p s = some s) (le : Nat.ble (M + 1) N = true)
    (size : ∀ P : Params, (boot_heap P).isNs mainGlobals = true)
    (tree : ∀ P : Params, absHeap (growT (boot_heap P).objs.toList 0 .nil) (boot_heap P).objs.size (boot_heap P).life = boot_heap P)
    (run : ∀ (w : World) (os : OsState), ∃ (s' : SharedT) (t' : Thread), (∀ m, topRun treeTable p w (boot_heap w.params).objs.size ((boot_heap w.params).nsMap mainGlobals "__annotations__") (M + m) (bootS w.params os).abs (topStub p) = topRun treeTable p w (boot_heap w.params).objs.size ((boot_heap w.params).nsMap mainGlobals "__annotations__") m s'.abs t') ∧ (through t', staticsOk (importedModules p.main.body) (boot_heap w.params) s'.abs.heap && namesBound p s'.abs.heap && gensDone s'.abs && laidKept (boot_heap w.params) s'.abs.heap,
      openSeen q loose (importedModules p.main.body) Xt g0 s'.abs, Yf s'.abs) = (true, true, openGood q loose, Ya w)) : LeftO p q loose Xt Yf Ya N g0 := fun w => by
  obtain ⟨⟨h, gs, d, k, os⟩, e1, e2⟩ := Option.map_eq_some_iff.mp (boot_open e hN f w)
  obtain ⟨rfl, rfl, rfl, rfl⟩ : h = boot_heap w.params ∧ gs = Array.mk [] ∧ d = boot_drawn ∧ k = boot_toks := by simpa using e2
  obtain ⟨sT, tT, r1, r2⟩ := run w os
  obtain ⟨th, l1, l2, l3⟩ : _ ∧ _ ∧ _ ∧ _ := by simpa only [Prod.mk.injEq] using r2
  have z1 := size w.params
  have r : topRun treeTable p w (boot_heap w.params).objs.size ((boot_heap w.params).nsMap mainGlobals "__annotations__") N (bootS w.params os).abs (topStub p) = some sT.abs := by
    rw [show N = M + ((N - M - 1) + 1) by have := Nat.le_of_ble_eq_true le; omega, r1, topRun, th]
  have hb : (bootS w.params os).abs = ⟨boot_heap w.params, Array.mk [], boot_drawn, boot_toks, os⟩ := by
    unfold bootS SharedT.abs
    dsimp only
    rw [tree]
  rw [hb] at r
  have t : topFrom treeTable p w N ⟨boot_heap w.params, Array.mk [], boot_drawn, boot_toks, os⟩ = some sT.abs := by
    unfold topFrom
    dsimp only
    rw [z1, r]
    show (match staticsOk (importedModules p.main.body) (boot_heap w.params) sT.abs.heap && namesBound p sT.abs.heap && gensDone sT.abs && laidKept (boot_heap w.params) sT.abs.heap with | true => _ | false => _) = _
    rw [l1]
  unfold openEnds
  rw [e1]
  show (topFrom treeTable p w N _).map _ = _
  rw [t]
  exact congrArg some (Prod.ext l2 l3)
end Mine
namespace Mine
noncomputable def stIn : List Stmt → List Nat → Option Stmt
  | l, [i] => l[i]?
  | l, i :: r => match l[i]? with
    | some (.ClassDef _ _ _ b _ _ _ _ _ _ _) => stIn b r
    | _ => none
  | _, [] => none
noncomputable def stAt (p : List Nat) : Option Stmt := stIn PySem.Challenge.pw_rh0007_01.main.body p
noncomputable def fd (p : List Nat) : Arguments × List Stmt × Scope := match stAt p with | some (.FunctionDef _ a b _ _ _ s _ _ _) => (a, b, s) | _ => (default, [], default)
noncomputable def bd (p : List Nat) : List Stmt := (fd p).2.1
noncomputable def ag (p : List Nat) : Arguments := (fd p).1
noncomputable def sc (p : List Nat) : Scope := (fd p).2.2
noncomputable def em : Obj := ⟨.none, none, (.fields #[]), #[]⟩
noncomputable def de (P : Params) (x : Str) (n : Tok) (v : Value) : DictEntry := ⟨PyData.keyHash P x, .str x n, v⟩
noncomputable def fu (n q : Str) (p : List Nat) (m : Value) (c : Addr) : Obj := ⟨.type "function", none, (.func ⟨n, q, ag p, .stmts (bd p), sc p, 3, [], .none, .none, .none, m, none, .ref c, .none, 0⟩), #[]⟩
noncomputable def fz (n q : Str) (p : List Nat) : Obj := ⟨.none, none, (.func ⟨n, q, ag p, .stmts (bd p), sc p, 0, [], .none, .none, .none, .none, none, .none, .none, 0⟩), #[]⟩
noncomputable def co (n q : Str) (t : Nat) (l a : Int) (r u : Nat) : Obj := ⟨.type "code", none, (.fields #[.str n t, .str q (t + 1), .str "/claim/cut.py" (t + 2), .int l 0, .int a 0, .int 0 0, .int 0 0, .int 3 0, .ref r, .bool true, .int 181 0, .ref (r + 1), .none, .ref (r + 2), .ref (r + 3), .ref (r + 4), .int (u : Int) 0, .int l 0, .str "/claim/cut.py" (u + 1)]), #[]⟩
noncomputable def hK (P : Params) : Frag := [
(3, ⟨(.type "dict"), none, (.dict #[(de P "__name__" 165 (.str "law_rh0007_01" 731)), (de P "__doc__" 166 .none), (de P "__package__" 167 .none), (de P "__loader__" 168 (.builtin "__main__.__loader__#opaque")), (de P "__spec__" 169 .none), (de P "__annotations__" 170 (.ref 6)), (de P "__builtins__" 171 (.ref 4)), (de P "__file__" 173 (.str "/claim/cut.py" 172)), (de P "__cached__" 174 .none), (de P "_wall" 193 (.ref 21)), (de P "HeapError" 233 (.ref 47)), (de P "TermFault" 249 (.ref 60)), (de P "is_op" 257 (.ref 67)), (de P "is_variable" 264 (.ref 74)), (de P "parts" 270 (.ref 79)), (de P "Bank" 401 (.ref 181)), (de P "Placer" 457 (.ref 219)), (de P "Unions" 561 (.ref 301)), (de P "Heap" 730 (.ref 433)), (de P "_law_turn" 741 (.ref 444)), (de P "_law_homes" 747 (.ref 449)), (de P "_law_pattern" 756 (.ref 456)), (de P "_law_sought" 762 (.ref 461)), (de P "_law_laid" 774 (.ref 468)), (de P "_law_is_right" 780 (.ref 473)), (de P "law" 786 (.ref 478))] 26), #[]⟩),
(66, ⟨(.type "code"), none, (.fields #[(.str "is_op" 252), (.str "is_op" 253), (.str "/claim/cut.py" 254), (.int 16 0), (.int 1 0), (.int 0 0), (.int 0 0), (.int 3 0), (.ref 63), (.bool true), (.int 181 0), (.ref 64), .none, .none, .none, (.ref 65), (.int 255 0), (.int 16 0), (.str "/claim/cut.py" 256)]), #[]⟩),
(67, (fu "is_op" "is_op" [5] (.str "alikeheap.terms" 250) 66)),
(73, (co "is_variable" "is_variable" 258 18 1 68 262)),
(74, (fu "is_variable" "is_variable" [6] (.str "alikeheap.terms" 250) 73)),
(92, (co "__init__" "Bank.__init__" 283 27 1 87 287)),
(93, (fu "__init__" "Bank.__init__" [8, 0] (.str "alikeheap.terms" 250) 92)),
(99, (co "size" "Bank.size" 290 33 1 94 294)),
(100, (fu "size" "Bank.size" [8, 1] (.str "alikeheap.terms" 250) 99)),
(104, ⟨(.type "code"), none, (.fields #[(.str "take" 297), (.str "Bank.take" 298), (.str "/claim/cut.py" 299), (.int 36 0), (.int 3 0), (.int 0 0), (.int 0 0), (.int 3 0), (.ref 101), (.bool true), (.int 181 0), (.ref 102), .none, .none, .none, (.ref 103), (.int 300 0), (.int 36 0), (.str "/claim/cut.py" 301)]), #[]⟩),
(105, (fu "take" "Bank.take" [8, 2] (.str "alikeheap.terms" 250) 104)),
(111, (co "require" "Bank.require" 303 50 2 106 308)),
(112, (fu "require" "Bank.require" [8, 3] (.str "alikeheap.terms" 250) 111)),
(137, (co "op" "Bank.op" 335 65 2 132 340)),
(138, (fu "op" "Bank.op" [8, 7] (.str "alikeheap.terms" 250) 137)),
(144, (co "kids" "Bank.kids" 343 68 2 139 348)),
(145, (fu "kids" "Bank.kids" [8, 8] (.str "alikeheap.terms" 250) 144)),
(180, ⟨(.type "dict"), none, (.dict #[(de P "__module__" 278 (.str "alikeheap.terms" 250)), (de P "__firstlineno__" 282 (.int 25 281)), (de P "__init__" 289 (.ref 93)), (de P "size" 296 (.ref 100)), (de P "take" 302 (.ref 105)), (de P "require" 310 (.ref 112)), (de P "put" 320 (.ref 119)), (de P "put_all" 326 (.ref 124)), (de P "cut" 334 (.ref 131)), (de P "op" 342 (.ref 138)), (de P "kids" 350 (.ref 145)), (de P "node" 358 (.ref 152)), (de P "term" 364 (.ref 157)), (de P "weight" 372 (.ref 164)), (de P "depth" 380 (.ref 171)), (de P "seek" 389 (.ref 178)), (de P "__static_attributes__" 394 (.ref 179)), (de P "__dict__" 396 (.ref 182)), (de P "__weakref__" 398 (.ref 183)), (de P "__doc__" 399 .none)] 4), #[]⟩),
(181, ⟨(.type "type"), none, (.cls ⟨"Bank", [(.type "object")], [(.ref 181), (.type "object")], 180, "Bank", true, [], [], false, none, false⟩), #[none, none, (some (.str "Bank" 271)), (some (.str "Bank" 279)), (some (.builtin "object.__new__")), (some (.bool true))]⟩),
(198, (co "__init__" "Placer.__init__" 416 97 2 193 421)),
(199, (fu "__init__" "Placer.__init__" [10, 0] (.str "alikeheap.rules" 402) 198)),
(203, ⟨(.type "code"), none, (.fields #[(.str "put" 424), (.str "Placer.put" 425), (.str "/claim/cut.py" 426), (.int 100 0), (.int 3 0), (.int 0 0), (.int 0 0), (.int 3 0), (.ref 200), (.bool true), (.int 181 0), (.ref 201), .none, .none, .none, (.ref 202), (.int 427 0), (.int 100 0), (.str "/claim/cut.py" 428)]), #[]⟩),
(204, (fu "put" "Placer.put" [10, 1] (.str "alikeheap.rules" 402) 203)),
(208, ⟨(.type "code"), none, (.fields #[(.str "class_of" 430), (.str "Placer.class_of" 431), (.str "/claim/cut.py" 432), (.int 105 0), (.int 3 0), (.int 0 0), (.int 0 0), (.int 3 0), (.ref 205), (.bool true), (.int 181 0), (.ref 206), .none, .none, .none, (.ref 207), (.int 433 0), (.int 105 0), (.str "/claim/cut.py" 434)]), #[]⟩),
(209, (fu "class_of" "Placer.class_of" [10, 2] (.str "alikeheap.rules" 402) 208)),
(215, (co "holds" "Placer.holds" 436 111 3 210 446)),
(216, (fu "holds" "Placer.holds" [10, 3] (.str "alikeheap.rules" 402) 215)),
(218, ⟨(.type "dict"), none, (.dict #[(de P "__module__" 411 (.str "alikeheap.rules" 402)), (de P "__firstlineno__" 415 (.int 95 414)), (de P "__init__" 423 (.ref 199)), (de P "put" 429 (.ref 204)), (de P "class_of" 435 (.ref 209)), (de P "holds" 448 (.ref 216)), (de P "__static_attributes__" 450 (.ref 217)), (de P "__dict__" 452 (.ref 220)), (de P "__weakref__" 454 (.ref 221)), (de P "__doc__" 455 .none)] 4), #[]⟩),
(219, ⟨(.type "type"), none, (.cls ⟨"Placer", [(.type "object")], [(.ref 219), (.type "object")], 218, "Placer", true, [], [], false, none, false⟩), #[none, none, (some (.str "Placer" 404)), (some (.str "Placer" 412)), (some (.builtin "object.__new__")), (some (.bool true))]⟩),
(236, (co "__init__" "Unions.__init__" 472 118 1 231 476)),
(237, (fu "__init__" "Unions.__init__" [12, 0] (.str "alikeheap.unions" 458) 236)),
(243, (co "make" "Unions.make" 479 123 1 238 483)),
(244, (fu "make" "Unions.make" [12, 1] (.str "alikeheap.unions" 458) 243)),
(250, (co "size" "Unions.size" 486 128 1 245 490)),
(251, (fu "size" "Unions.size" [12, 2] (.str "alikeheap.unions" 458) 250)),
(257, (co "find" "Unions.find" 493 131 2 252 498)),
(258, (fu "find" "Unions.find" [12, 3] (.str "alikeheap.unions" 458) 257)),
(264, (co "merge" "Unions.merge" 501 136 3 259 509)),
(265, (fu "merge" "Unions.merge" [12, 4] (.str "alikeheap.unions" 458) 264)),
(300, ⟨(.type "dict"), none, (.dict #[(de P "__module__" 467 (.str "alikeheap.unions" 458)), (de P "__firstlineno__" 471 (.int 116 470)), (de P "__init__" 478 (.ref 237)), (de P "make" 485 (.ref 244)), (de P "size" 492 (.ref 251)), (de P "find" 500 (.ref 258)), (de P "merge" 511 (.ref 265)), (de P "members" 519 (.ref 272)), (de P "classes" 525 (.ref 277)), (de P "log" 532 (.ref 284)), (de P "back" 542 (.ref 291)), (de P "cut" 550 (.ref 298)), (de P "__static_attributes__" 554 (.ref 299)), (de P "__dict__" 556 (.ref 302)), (de P "__weakref__" 558 (.ref 303)), (de P "__doc__" 559 .none)] 4), #[]⟩),
(301, ⟨(.type "type"), none, (.cls ⟨"Unions", [(.type "object")], [(.ref 301), (.type "object")], 300, "Unions", true, [], [], false, none, false⟩), #[none, none, (some (.str "Unions" 460)), (some (.str "Unions" 468)), (some (.builtin "object.__new__")), (some (.bool true))]⟩),
(318, (co "__init__" "Heap.__init__" 576 165 1 313 580)),
(319, (fu "__init__" "Heap.__init__" [14, 0] (.str "alikeheap.heap" 562) 318)),
(325, (co "size" "Heap.size" 583 175 1 320 587)),
(326, (fu "size" "Heap.size" [14, 1] (.str "alikeheap.heap" 562) 325)),
(330, ⟨(.type "code"), none, (.fields #[(.str "node" 590), (.str "Heap.node" 591), (.str "/claim/cut.py" 592), (.int 178 0), (.int 2 0), (.int 0 0), (.int 0 0), (.int 3 0), (.ref 327), (.bool true), (.int 181 0), (.ref 328), .none, .none, .none, (.ref 329), (.int 593 0), (.int 178 0), (.str "/claim/cut.py" 594)]), #[]⟩),
(331, (fu "node" "Heap.node" [14, 2] (.str "alikeheap.heap" 562) 330)),
(335, ⟨(.type "code"), none, (.fields #[(.str "add" 596), (.str "Heap.add" 597), (.str "/claim/cut.py" 598), (.int 181 0), (.int 3 0), (.int 0 0), (.int 0 0), (.int 3 0), (.ref 332), (.bool true), (.int 181 0), (.ref 333), .none, .none, .none, (.ref 334), (.int 599 0), (.int 181 0), (.str "/claim/cut.py" 600)]), #[]⟩),
(336, (fu "add" "Heap.add" [14, 3] (.str "alikeheap.heap" 562) 335)),
(347, (co "look_at" "Heap.look_at" 608 195 2 342 614)),
(348, (fu "look_at" "Heap.look_at" [14, 5] (.str "alikeheap.heap" 562) 347)),
(354, (co "find" "Heap.find" 617 200 2 349 622)),
(355, (fu "find" "Heap.find" [14, 6] (.str "alikeheap.heap" 562) 354)),
(368, (co "merge" "Heap.merge" 634 206 4 363 641)),
(369, (fu "merge" "Heap.merge" [14, 8] (.str "alikeheap.heap" 562) 368)),
(375, (co "join" "Heap.join" 644 209 4 370 654)),
(376, (fu "join" "Heap.join" [14, 9] (.str "alikeheap.heap" 562) 375)),
(382, (co "settle" "Heap.settle" 657 220 1 377 661)),
(383, (fu "settle" "Heap.settle" [14, 10] (.str "alikeheap.heap" 562) 382)),
(389, (co "is_settled" "Heap.is_settled" 664 224 1 384 668)),
(390, (fu "is_settled" "Heap.is_settled" [14, 11] (.str "alikeheap.heap" 562) 389)),
(422, ⟨(.type "code"), none, (.fields #[(.str "seek" 701), (.str "Heap.seek" 702), (.str "/claim/cut.py" 703), (.int 239 0), (.int 3 0), (.int 0 0), (.int 0 0), (.int 3 0), (.ref 419), (.bool true), (.int 181 0), (.ref 420), .none, .none, .none, (.ref 421), (.int 704 0), (.int 239 0), (.str "/claim/cut.py" 705)]), #[]⟩),
(423, (fu "seek" "Heap.seek" [14, 16] (.str "alikeheap.heap" 562) 422)),
(432, ⟨(.type "dict"), none, (.dict #[(de P "__module__" 571 (.str "alikeheap.heap" 562)), (de P "__firstlineno__" 575 (.int 163 574)), (de P "__init__" 582 (.ref 319)), (de P "size" 589 (.ref 326)), (de P "node" 595 (.ref 331)), (de P "add" 601 (.ref 336)), (de P "put" 607 (.ref 341)), (de P "look_at" 616 (.ref 348)), (de P "find" 624 (.ref 355)), (de P "are_like" 633 (.ref 362)), (de P "merge" 643 (.ref 369)), (de P "join" 656 (.ref 376)), (de P "settle" 663 (.ref 383)), (de P "is_settled" 670 (.ref 390)), (de P "classes" 677 (.ref 397)), (de P "members" 685 (.ref 404)), (de P "nodes_of" 693 (.ref 411)), (de P "many_nodes" 700 (.ref 418)), (de P "seek" 706 (.ref 423)), (de P "users" 714 (.ref 430)), (de P "__static_attributes__" 723 (.ref 431)), (de P "__dict__" 725 (.ref 434)), (de P "__weakref__" 727 (.ref 435)), (de P "__doc__" 728 .none)] 4), #[]⟩),
(433, ⟨(.type "type"), none, (.cls ⟨"Heap", [(.type "object")], [(.ref 433), (.type "object")], 432, "Heap", true, [], [], false, none, false⟩), #[none, none, (some (.str "Heap" 564)), (some (.str "Heap" 572)), (some (.builtin "object.__new__")), (some (.bool true))]⟩),
(443, (co "_law_turn" "_law_turn" 733 246 2 438 739)),
(444, (fu "_law_turn" "_law_turn" [16] (.str "law_rh0007_01" 731) 443)),
(448, ⟨(.type "code"), none, (.fields #[(.str "_law_homes" 742), (.str "_law_homes" 743), (.str "/claim/cut.py" 744), (.int 252 0), (.int 2 0), (.int 0 0), (.int 0 0), (.int 3 0), (.ref 445), (.bool true), (.int 181 0), (.ref 446), .none, .none, .none, (.ref 447), (.int 745 0), (.int 252 0), (.str "/claim/cut.py" 746)]), #[]⟩),
(449, (fu "_law_homes" "_law_homes" [17] (.str "law_rh0007_01" 731) 448)),
(455, (co "_law_pattern" "_law_pattern" 748 263 2 450 754)),
(456, (fu "_law_pattern" "_law_pattern" [18] (.str "law_rh0007_01" 731) 455)),
(460, ⟨(.type "code"), none, (.fields #[(.str "_law_sought" 757), (.str "_law_sought" 758), (.str "/claim/cut.py" 759), (.int 270 0), (.int 4 0), (.int 0 0), (.int 0 0), (.int 3 0), (.ref 457), (.bool true), (.int 181 0), (.ref 458), .none, .none, .none, (.ref 459), (.int 760 0), (.int 270 0), (.str "/claim/cut.py" 761)]), #[]⟩),
(461, (fu "_law_sought" "_law_sought" [19] (.str "law_rh0007_01" 731) 460)),
(467, (co "_law_laid" "_law_laid" 763 276 3 462 772)),
(468, (fu "_law_laid" "_law_laid" [20] (.str "law_rh0007_01" 731) 467)),
(472, ⟨(.type "code"), none, (.fields #[(.str "_law_is_right" 775), (.str "_law_is_right" 776), (.str "/claim/cut.py" 777), (.int 286 0), (.int 6 0), (.int 0 0), (.int 0 0), (.int 3 0), (.ref 469), (.bool true), (.int 181 0), (.ref 470), .none, .none, .none, (.ref 471), (.int 778 0), (.int 286 0), (.str "/claim/cut.py" 779)]), #[]⟩),
(473, (fu "_law_is_right" "_law_is_right" [21] (.str "law_rh0007_01" 731) 472)),
(477, ⟨(.type "code"), none, (.fields #[(.str "law" 781), (.str "law" 782), (.str "/claim/cut.py" 783), (.int 298 0), (.int 1 0), (.int 0 0), (.int 0 0), (.int 3 0), (.ref 474), (.bool true), (.int 181 0), (.ref 475), .none, .none, .none, (.ref 476), (.int 784 0), (.int 298 0), (.str "/claim/cut.py" 785)]), #[]⟩)]
end Mine
namespace Mine
noncomputable def keepL : List Nat := [0, 2, 3, 5, 6, 7, 8, 10, 12, 14, 16, 17, 18, 19, 20, 21, 22]
noncomputable def vq : Program := view PySem.Challenge.pw_rh0007_01 keepL
theorem h2a : ∀ P : Params, (boot_heap P).isNs mainGlobals = true := fun P => by kernel_rfl
theorem h2b : ∀ P : Params, absHeap (growT (boot_heap P).objs.toList 0 .nil) (boot_heap P).objs.size (boot_heap P).life = boot_heap P := fun P => by kernel_rfl
noncomputable def kAs : List Addr := [3, 66, 67, 73, 74, 92, 93, 99, 100, 104, 105, 111, 112, 137, 138, 144, 145, 180, 181, 198, 199, 203, 204, 208, 209, 215, 216, 218, 219, 236, 237, 243, 244, 250, 251, 257, 258, 264, 265, 300, 301, 318, 319, 325, 326, 330, 331, 335, 336, 347, 348, 354, 355, 368, 369, 375, 376, 382, 383, 389, 390, 422, 423, 432, 433, 443, 444, 448, 449, 455, 456, 460, 461, 467, 468, 472, 473, 477]
theorem kAs_eq : ∀ P : Params, kAs = (hK P).map (·.1) := fun P => by kernel_rfl
noncomputable def hH : Hook := kHook hK kAs kAs_eq
end Mine
namespace Mine
noncomputable def tu (l : List Value) : Obj := ⟨(.type "tuple"), none, (.seq l.toArray 0), #[]⟩
noncomputable def tA (P : Params) : List Obj := [
(boot_o_0 P),
(boot_o_1 P),
⟨.none, none, (.dict #[(de P "type.__subclasses__.Exception.0" 230 (.int 47 0)), (de P "type.__subclasses__.Exception.n" 231 (.int 1 0))] 2), #[]⟩,
⟨(.type "dict"), none, (.dict #[(de P "__name__" 165 (.str "alikeheap.terms" 250)), (de P "__doc__" 166 .none), (de P "__package__" 167 .none), (de P "__loader__" 168 (.builtin "__main__.__loader__#opaque")), (de P "__spec__" 169 .none), (de P "__annotations__" 170 (.ref 6)), (de P "__builtins__" 171 (.ref 4)), (de P "__file__" 173 (.str "/claim/cut.py" 172)), (de P "__cached__" 174 .none), (de P "_wall" 193 (.ref 21)), (de P "HeapError" 233 (.ref 47)), (de P "TermFault" 249 (.ref 60)), (de P "is_op" 257 (.ref 67)), (de P "is_variable" 264 (.ref 74)), (de P "parts" 270 (.ref 79)), (de P "Bank" 401 (.ref 181))] 16), #[]⟩,
(boot_o_4 P),
(boot_o_5 P),
(boot_o_6 P),
(boot_o_7 P),
(boot_o_8 P),
(boot_o_9 P),
(boot_o_10 P),
(tu []),
⟨.none, none, (.fields #[(.int 1 0), (.int 0 0), (.ref 20), (.int 5 0), (.int 0 0), (.ref 28), (.int 13 0), (.int 0 0), (.ref 56), (.int 16 0), (.int 0 0), (.ref 66), (.int 18 0), (.int 0 0), (.ref 73), (.int 20 0), (.int 0 0), (.ref 78), (.int 25 0), (.int 0 0), (.ref 85)]), #[]⟩,
⟨(.type "code"), none, (.fields #[(.str "<module>" 182), (.str "<module>" 183), (.str "/claim/cut.py" 184), (.int 1 0), (.int 0 0), (.int 0 0), (.int 0 0), (.int 0 0), (.ref 11), (.bool false), (.int 181 0), (.ref 12), .none, .none, .none, .none, (.int 185 0), (.int 1 0), (.str "/claim/cut.py" 186)]), #[]⟩,
⟨(.type "frame"), none, .plain, #[(some (.ref 13)), (some (.ref 3)), (some (.ref 3)), none, (some (.str "__main__" 164)), none, (some (.ref 0))]⟩,
(tu []),
em,
(tu [(.str "k" 190)]),
(tu []),
(fz "_wall" "_wall" [0]),
(co "_wall" "_wall" 187 1 1 15 191),
(fu "_wall" "_wall" [0] (.str "__main__" 164) 20),
(tu [(.type "Exception")]),
⟨(.type "builtin_function_or_method"), none, (.fields #[(.builtin "type.__prepare__"), (.type "type")]), #[]⟩,
⟨(.type "dict"), none, (.dict #[(de P "__module__" 203 (.str "alikeheap.errors" 194)), (de P "__qualname__" 205 (.str "HeapError" 204)), (de P "__firstlineno__" 207 (.int 5 206)), (de P "__init__" 216 (.ref 37)), (de P "told" 223 (.ref 44)), (de P "__static_attributes__" 225 (.ref 45)), (de P "__classcell__" 226 (.ref 25))] 7), #[]⟩,
⟨(.type "cell"), none, (.cell (some (.ref 47))), #[]⟩,
(tu []),
⟨.none, none, (.fields #[(.int 7 0), (.int 4 0), (.ref 36), (.int 11 0), (.int 4 0), (.ref 43)]), #[]⟩,
⟨(.type "code"), none, (.fields #[(.str "HeapError" 198), (.str "HeapError" 199), (.str "/claim/cut.py" 200), (.int 5 0), (.int 0 0), (.int 0 0), (.int 0 0), (.int 0 0), (.ref 26), (.bool false), (.int 181 0), (.ref 27), .none, .none, .none, .none, (.int 201 0), (.int 5 0), (.str "/claim/cut.py" 202)]), #[]⟩,
⟨(.type "frame"), none, .plain, #[(some (.ref 28)), (some (.ref 3)), (some (.ref 24)), none, (some (.str "alikeheap.errors" 194)), none, (some (.ref 0))]⟩,
(tu [(.ref 25)]),
(tu [(.str "__class__" 211)]),
em,
(tu [(.str "self" 212), (.str "what" 213)]),
(tu []),
(fz "__init__" "HeapError.__init__" [2, 0]),
(co "__init__" "HeapError.__init__" 208 7 2 31 214),
⟨(.type "function"), none, (.func ⟨"__init__", "HeapError.__init__", (ag [2, 0]), (.stmts (bd [2, 0])), (sc [2, 0]), 3, [("__class__", 25)], .none, .none, .none, (.str "alikeheap.errors" 194), none, (.ref 36), (.ref 30), 0⟩), #[]⟩,
(tu []),
em,
(tu [(.str "self" 220)]),
(tu []),
(fz "told" "HeapError.told" [2, 1]),
(co "told" "HeapError.told" 217 11 1 38 221),
(fu "told" "HeapError.told" [2, 1] (.str "alikeheap.errors" 194) 43),
(tu [(.str "what" 224)]),
⟨(.type "dict"), none, (.dict #[(de P "__module__" 203 (.str "alikeheap.errors" 194)), (de P "__firstlineno__" 207 (.int 5 206)), (de P "__init__" 216 (.ref 37)), (de P "told" 223 (.ref 44)), (de P "__static_attributes__" 225 (.ref 45)), (de P "__weakref__" 228 (.ref 48)), (de P "__doc__" 229 .none)] 4), #[]⟩,
⟨(.type "type"), none, (.cls ⟨"HeapError", [(.type "Exception")], [(.ref 47), (.type "Exception"), (.type "BaseException"), (.type "object")], 46, "HeapError", true, [], [(.ref 60)], false, none, false⟩), #[(some (.ref 22)), none, (some (.str "HeapError" 196)), (some (.str "HeapError" 204)), (some (.builtin "Exception.__new__")), (some (.bool true))]⟩,
⟨(.type "getset_descriptor"), none, (.fields #[(.str "__weakref__" 227), (.ref 47), (.builtin "ExceptionGroup.__weakref__"), .none]), #[]⟩,
⟨(.type "super"), none, (.fields #[(.ref 47), (.ref 47), (.ref 47)]), #[]⟩,
⟨(.type "builtin_function_or_method"), none, (.fields #[(.builtin "object.__init_subclass__"), (.ref 47)]), #[]⟩,
(tu [(.ref 47)]),
⟨(.type "builtin_function_or_method"), none, (.fields #[(.builtin "type.__prepare__"), (.type "type")]), #[]⟩,
⟨(.type "dict"), none, (.dict #[(de P "__module__" 241 (.str "alikeheap.errors" 194)), (de P "__qualname__" 243 (.str "TermFault" 242)), (de P "__firstlineno__" 245 (.int 13 244)), (de P "__static_attributes__" 246 (.ref 58))] 4), #[]⟩,
(tu []),
em,
⟨(.type "code"), none, (.fields #[(.str "TermFault" 236), (.str "TermFault" 237), (.str "/claim/cut.py" 238), (.int 13 0), (.int 0 0), (.int 0 0), (.int 0 0), (.int 0 0), (.ref 54), (.bool false), (.int 181 0), (.ref 55), .none, .none, .none, .none, (.int 239 0), (.int 13 0), (.str "/claim/cut.py" 240)]), #[]⟩,
⟨(.type "frame"), none, .plain, #[(some (.ref 56)), (some (.ref 3)), (some (.ref 53)), none, (some (.str "alikeheap.errors" 194)), none, (some (.ref 0))]⟩,
(tu []),
⟨(.type "dict"), none, (.dict #[(de P "__module__" 241 (.str "alikeheap.errors" 194)), (de P "__firstlineno__" 245 (.int 13 244)), (de P "__static_attributes__" 246 (.ref 58)), (de P "__doc__" 247 .none)] 2), #[]⟩,
⟨(.type "type"), none, (.cls ⟨"TermFault", [(.ref 47)], [(.ref 60), (.ref 47), (.type "Exception"), (.type "BaseException"), (.type "object")], 59, "TermFault", true, [], [], false, none, false⟩), #[(some (.ref 51)), none, (some (.str "TermFault" 234)), (some (.str "TermFault" 242)), (some (.builtin "Exception.__new__")), (some (.bool true))]⟩,
⟨(.type "super"), none, (.fields #[(.ref 60), (.ref 60), (.ref 60)]), #[]⟩,
⟨(.type "builtin_function_or_method"), none, (.fields #[(.builtin "object.__init_subclass__"), (.ref 60)]), #[]⟩,
(tu []),
em,
(fz "is_op" "is_op" [5]),
⟨(.type "code"), none, (.fields #[(.str "is_op" 252), (.str "is_op" 253), (.str "/claim/cut.py" 254), (.int 16 0), (.int 1 0), (.int 0 0), (.int 0 0), (.int 3 0), (.ref 63), (.bool true), (.int 181 0), (.ref 64), .none, .none, .none, (.ref 65), (.int 255 0), (.int 16 0), (.str "/claim/cut.py" 256)]), #[]⟩,
(fu "is_op" "is_op" [5] (.str "alikeheap.terms" 250) 66),
(tu []),
em,
(tu [(.str "t" 261)]),
(tu []),
(fz "is_variable" "is_variable" [6]),
(co "is_variable" "is_variable" 258 18 1 68 262),
(fu "is_variable" "is_variable" [6] (.str "alikeheap.terms" 250) 73),
(tu []),
em,
(fz "parts" "parts" [7]),
⟨(.type "code"), none, (.fields #[(.str "parts" 265), (.str "parts" 266), (.str "/claim/cut.py" 267), (.int 20 0), (.int 1 0), (.int 0 0), (.int 0 0), (.int 3 0), (.ref 75), (.bool true), (.int 181 0), (.ref 76), .none, .none, .none, (.ref 77), (.int 268 0), (.int 20 0), (.str "/claim/cut.py" 269)]), #[]⟩,
(fu "parts" "parts" [7] (.str "alikeheap.terms" 250) 78),
(tu []),
⟨(.type "builtin_function_or_method"), none, (.fields #[(.builtin "type.__prepare__"), (.type "type")]), #[]⟩,
⟨(.type "dict"), none, (.dict #[(de P "__module__" 278 (.str "alikeheap.terms" 250)), (de P "__qualname__" 280 (.str "Bank" 279)), (de P "__firstlineno__" 282 (.int 25 281)), (de P "__init__" 289 (.ref 93)), (de P "size" 296 (.ref 100)), (de P "take" 302 (.ref 105)), (de P "require" 310 (.ref 112)), (de P "put" 320 (.ref 119)), (de P "put_all" 326 (.ref 124)), (de P "cut" 334 (.ref 131)), (de P "op" 342 (.ref 138)), (de P "kids" 350 (.ref 145)), (de P "node" 358 (.ref 152)), (de P "term" 364 (.ref 157)), (de P "weight" 372 (.ref 164)), (de P "depth" 380 (.ref 171)), (de P "seek" 389 (.ref 178)), (de P "__static_attributes__" 394 (.ref 179))] 18), #[]⟩,
(tu []),
⟨.none, none, (.fields #[(.int 27 0), (.int 4 0), (.ref 92), (.int 33 0), (.int 4 0), (.ref 99), (.int 36 0), (.int 4 0), (.ref 104), (.int 50 0), (.int 4 0), (.ref 111), (.int 54 0), (.int 4 0), (.ref 118), (.int 59 0), (.int 4 0), (.ref 123), (.int 62 0), (.int 4 0), (.ref 130), (.int 65 0), (.int 4 0), (.ref 137), (.int 68 0), (.int 4 0), (.ref 144), (.int 71 0), (.int 4 0), (.ref 151), (.int 74 0), (.int 4 0), (.ref 156), (.int 86 0), (.int 4 0), (.ref 163), (.int 89 0), (.int 4 0), (.ref 170), (.int 92 0), (.int 4 0), (.ref 177)]), #[]⟩,
⟨(.type "code"), none, (.fields #[(.str "Bank" 273), (.str "Bank" 274), (.str "/claim/cut.py" 275), (.int 25 0), (.int 0 0), (.int 0 0), (.int 0 0), (.int 0 0), (.ref 83), (.bool false), (.int 181 0), (.ref 84), .none, .none, .none, .none, (.int 276 0), (.int 25 0), (.str "/claim/cut.py" 277)]), #[]⟩,
⟨(.type "frame"), none, .plain, #[(some (.ref 85)), (some (.ref 3)), (some (.ref 82)), none, (some (.str "alikeheap.terms" 250)), none, (some (.ref 0))]⟩,
(tu []),
em,
(tu [(.str "self" 286)]),
(tu []),
(fz "__init__" "Bank.__init__" [8, 0]),
(co "__init__" "Bank.__init__" 283 27 1 87 287),
(fu "__init__" "Bank.__init__" [8, 0] (.str "alikeheap.terms" 250) 92),
(tu []),
em,
(tu [(.str "self" 293)]),
(tu []),
(fz "size" "Bank.size" [8, 1]),
(co "size" "Bank.size" 290 33 1 94 294),
(fu "size" "Bank.size" [8, 1] (.str "alikeheap.terms" 250) 99),
(tu []),
em,
(fz "take" "Bank.take" [8, 2]),
⟨(.type "code"), none, (.fields #[(.str "take" 297), (.str "Bank.take" 298), (.str "/claim/cut.py" 299), (.int 36 0), (.int 3 0), (.int 0 0), (.int 0 0), (.int 3 0), (.ref 101), (.bool true), (.int 181 0), (.ref 102), .none, .none, .none, (.ref 103), (.int 300 0), (.int 36 0), (.str "/claim/cut.py" 301)]), #[]⟩,
(fu "take" "Bank.take" [8, 2] (.str "alikeheap.terms" 250) 104),
(tu []),
em,
(tu [(.str "self" 306), (.str "op" 307)]),
(tu []),
(fz "require" "Bank.require" [8, 3]),
(co "require" "Bank.require" 303 50 2 106 308),
(fu "require" "Bank.require" [8, 3] (.str "alikeheap.terms" 250) 111),
(tu []),
em,
(tu [(.str "self" 314), (.str "t" 315), (.str "path" 316), (.str "part" 317)]),
(tu []),
(fz "put" "Bank.put" [8, 4]),
(co "put" "Bank.put" 311 54 2 113 318),
(fu "put" "Bank.put" [8, 4] (.str "alikeheap.terms" 250) 118),
(tu []),
em,
(fz "put_all" "Bank.put_all" [8, 5]),
⟨(.type "code"), none, (.fields #[(.str "put_all" 321), (.str "Bank.put_all" 322), (.str "/claim/cut.py" 323), (.int 59 0), (.int 2 0), (.int 0 0), (.int 0 0), (.int 3 0), (.ref 120), (.bool true), (.int 181 0), (.ref 121), .none, .none, .none, (.ref 122), (.int 324 0), (.int 59 0), (.str "/claim/cut.py" 325)]), #[]⟩,
(fu "put_all" "Bank.put_all" [8, 5] (.str "alikeheap.terms" 250) 123),
(tu []),
em,
(tu [(.str "self" 330), (.str "many" 331)]),
(tu []),
(fz "cut" "Bank.cut" [8, 6]),
(co "cut" "Bank.cut" 327 62 2 125 332),
(fu "cut" "Bank.cut" [8, 6] (.str "alikeheap.terms" 250) 130),
(tu []),
em,
(tu [(.str "self" 338), (.str "n" 339)]),
(tu []),
(fz "op" "Bank.op" [8, 7]),
(co "op" "Bank.op" 335 65 2 132 340),
(fu "op" "Bank.op" [8, 7] (.str "alikeheap.terms" 250) 137),
(tu []),
em,
(tu [(.str "self" 346), (.str "n" 347)]),
(tu []),
(fz "kids" "Bank.kids" [8, 8]),
(co "kids" "Bank.kids" 343 68 2 139 348),
(fu "kids" "Bank.kids" [8, 8] (.str "alikeheap.terms" 250) 144),
(tu []),
em,
(tu [(.str "self" 354), (.str "n" 355)]),
(tu []),
(fz "node" "Bank.node" [8, 9]),
(co "node" "Bank.node" 351 71 2 146 356),
(fu "node" "Bank.node" [8, 9] (.str "alikeheap.terms" 250) 151),
(tu []),
em,
(fz "term" "Bank.term" [8, 10]),
⟨(.type "code"), none, (.fields #[(.str "term" 359), (.str "Bank.term" 360), (.str "/claim/cut.py" 361), (.int 74 0), (.int 2 0), (.int 0 0), (.int 0 0), (.int 3 0), (.ref 153), (.bool true), (.int 181 0), (.ref 154), .none, .none, .none, (.ref 155), (.int 362 0), (.int 74 0), (.str "/claim/cut.py" 363)]), #[]⟩,
(fu "term" "Bank.term" [8, 10] (.str "alikeheap.terms" 250) 156),
(tu []),
em,
(tu [(.str "self" 368), (.str "n" 369)]),
(tu []),
(fz "weight" "Bank.weight" [8, 11]),
(co "weight" "Bank.weight" 365 86 2 158 370),
(fu "weight" "Bank.weight" [8, 11] (.str "alikeheap.terms" 250) 163),
(tu []),
em,
(tu [(.str "self" 376), (.str "n" 377)]),
(tu []),
(fz "depth" "Bank.depth" [8, 12]),
(co "depth" "Bank.depth" 373 89 2 165 378),
(fu "depth" "Bank.depth" [8, 12] (.str "alikeheap.terms" 250) 170),
(tu []),
em,
(tu [(.str "self" 384), (.str "op" 385), (.str "kids" 386)]),
(tu []),
(fz "seek" "Bank.seek" [8, 13]),
(co "seek" "Bank.seek" 381 92 3 172 387),
(fu "seek" "Bank.seek" [8, 13] (.str "alikeheap.terms" 250) 177),
(tu [(.str "depths" 390), (.str "nodes" 391), (.str "numbers" 392), (.str "weights" 393)]),
⟨(.type "dict"), none, (.dict #[(de P "__module__" 278 (.str "alikeheap.terms" 250)), (de P "__firstlineno__" 282 (.int 25 281)), (de P "__init__" 289 (.ref 93)), (de P "size" 296 (.ref 100)), (de P "take" 302 (.ref 105)), (de P "require" 310 (.ref 112)), (de P "put" 320 (.ref 119)), (de P "put_all" 326 (.ref 124)), (de P "cut" 334 (.ref 131)), (de P "op" 342 (.ref 138)), (de P "kids" 350 (.ref 145)), (de P "node" 358 (.ref 152)), (de P "term" 364 (.ref 157)), (de P "weight" 372 (.ref 164)), (de P "depth" 380 (.ref 171)), (de P "seek" 389 (.ref 178)), (de P "__static_attributes__" 394 (.ref 179)), (de P "__dict__" 396 (.ref 182)), (de P "__weakref__" 398 (.ref 183)), (de P "__doc__" 399 .none)] 4), #[]⟩,
⟨(.type "type"), none, (.cls ⟨"Bank", [(.type "object")], [(.ref 181), (.type "object")], 180, "Bank", true, [], [], false, none, false⟩), #[none, none, (some (.str "Bank" 271)), (some (.str "Bank" 279)), (some (.builtin "object.__new__")), (some (.bool true))]⟩,
⟨(.type "getset_descriptor"), none, (.fields #[(.str "__dict__" 395), (.ref 181), (.builtin "function.__dict__"), (.builtin "function.__dict__#set")]), #[]⟩,
⟨(.type "getset_descriptor"), none, (.fields #[(.str "__weakref__" 397), (.ref 181), (.builtin "ExceptionGroup.__weakref__"), .none]), #[]⟩,
⟨(.type "super"), none, (.fields #[(.ref 181), (.ref 181), (.ref 181)]), #[]⟩,
⟨(.type "builtin_function_or_method"), none, (.fields #[(.builtin "object.__init_subclass__"), (.ref 181)]), #[]⟩]
noncomputable def tB (P : Params) : List Obj := (((tA P).set 3 ⟨(.type "dict"), none, (.dict #[(de P "__name__" 165 (.str "alikeheap.heap" 562)), (de P "__doc__" 166 .none), (de P "__package__" 167 .none), (de P "__loader__" 168 (.builtin "__main__.__loader__#opaque")), (de P "__spec__" 169 .none), (de P "__annotations__" 170 (.ref 6)), (de P "__builtins__" 171 (.ref 4)), (de P "__file__" 173 (.str "/claim/cut.py" 172)), (de P "__cached__" 174 .none), (de P "_wall" 193 (.ref 21)), (de P "HeapError" 233 (.ref 47)), (de P "TermFault" 249 (.ref 60)), (de P "is_op" 257 (.ref 67)), (de P "is_variable" 264 (.ref 74)), (de P "parts" 270 (.ref 79)), (de P "Bank" 401 (.ref 181)), (de P "Placer" 457 (.ref 219)), (de P "Unions" 561 (.ref 301))] 18), #[]⟩).set 12 ⟨.none, none, (.fields #[(.int 1 0), (.int 0 0), (.ref 20), (.int 5 0), (.int 0 0), (.ref 28), (.int 13 0), (.int 0 0), (.ref 56), (.int 16 0), (.int 0 0), (.ref 66), (.int 18 0), (.int 0 0), (.ref 73), (.int 20 0), (.int 0 0), (.ref 78), (.int 25 0), (.int 0 0), (.ref 85), (.int 95 0), (.int 0 0), (.ref 191), (.int 116 0), (.int 0 0), (.ref 229)]), #[]⟩) ++ [
(tu []),
⟨(.type "builtin_function_or_method"), none, (.fields #[(.builtin "type.__prepare__"), (.type "type")]), #[]⟩,
⟨(.type "dict"), none, (.dict #[(de P "__module__" 411 (.str "alikeheap.rules" 402)), (de P "__qualname__" 413 (.str "Placer" 412)), (de P "__firstlineno__" 415 (.int 95 414)), (de P "__init__" 423 (.ref 199)), (de P "put" 429 (.ref 204)), (de P "class_of" 435 (.ref 209)), (de P "holds" 448 (.ref 216)), (de P "__static_attributes__" 450 (.ref 217))] 8), #[]⟩,
(tu []),
⟨.none, none, (.fields #[(.int 97 0), (.int 4 0), (.ref 198), (.int 100 0), (.int 4 0), (.ref 203), (.int 105 0), (.int 4 0), (.ref 208), (.int 111 0), (.int 4 0), (.ref 215)]), #[]⟩,
⟨(.type "code"), none, (.fields #[(.str "Placer" 406), (.str "Placer" 407), (.str "/claim/cut.py" 408), (.int 95 0), (.int 0 0), (.int 0 0), (.int 0 0), (.int 0 0), (.ref 189), (.bool false), (.int 181 0), (.ref 190), .none, .none, .none, .none, (.int 409 0), (.int 95 0), (.str "/claim/cut.py" 410)]), #[]⟩,
⟨(.type "frame"), none, .plain, #[(some (.ref 191)), (some (.ref 3)), (some (.ref 188)), none, (some (.str "alikeheap.rules" 402)), none, (some (.ref 0))]⟩,
(tu []),
em,
(tu [(.str "self" 419), (.str "heap" 420)]),
(tu []),
(fz "__init__" "Placer.__init__" [10, 0]),
(co "__init__" "Placer.__init__" 416 97 2 193 421),
(fu "__init__" "Placer.__init__" [10, 0] (.str "alikeheap.rules" 402) 198),
(tu []),
em,
(fz "put" "Placer.put" [10, 1]),
⟨(.type "code"), none, (.fields #[(.str "put" 424), (.str "Placer.put" 425), (.str "/claim/cut.py" 426), (.int 100 0), (.int 3 0), (.int 0 0), (.int 0 0), (.int 3 0), (.ref 200), (.bool true), (.int 181 0), (.ref 201), .none, .none, .none, (.ref 202), (.int 427 0), (.int 100 0), (.str "/claim/cut.py" 428)]), #[]⟩,
(fu "put" "Placer.put" [10, 1] (.str "alikeheap.rules" 402) 203),
(tu []),
em,
(fz "class_of" "Placer.class_of" [10, 2]),
⟨(.type "code"), none, (.fields #[(.str "class_of" 430), (.str "Placer.class_of" 431), (.str "/claim/cut.py" 432), (.int 105 0), (.int 3 0), (.int 0 0), (.int 0 0), (.int 3 0), (.ref 205), (.bool true), (.int 181 0), (.ref 206), .none, .none, .none, (.ref 207), (.int 433 0), (.int 105 0), (.str "/claim/cut.py" 434)]), #[]⟩,
(fu "class_of" "Placer.class_of" [10, 2] (.str "alikeheap.rules" 402) 208),
(tu []),
em,
(tu [(.str "self" 439), (.str "need" 440), (.str "table" 441), (.str "kind" 442), (.str "one" 443), (.str "other" 444), (.str "here" 445)]),
(tu []),
(fz "holds" "Placer.holds" [10, 3]),
(co "holds" "Placer.holds" 436 111 3 210 446),
(fu "holds" "Placer.holds" [10, 3] (.str "alikeheap.rules" 402) 215),
(tu [(.str "heap" 449)]),
⟨(.type "dict"), none, (.dict #[(de P "__module__" 411 (.str "alikeheap.rules" 402)), (de P "__firstlineno__" 415 (.int 95 414)), (de P "__init__" 423 (.ref 199)), (de P "put" 429 (.ref 204)), (de P "class_of" 435 (.ref 209)), (de P "holds" 448 (.ref 216)), (de P "__static_attributes__" 450 (.ref 217)), (de P "__dict__" 452 (.ref 220)), (de P "__weakref__" 454 (.ref 221)), (de P "__doc__" 455 .none)] 4), #[]⟩,
⟨(.type "type"), none, (.cls ⟨"Placer", [(.type "object")], [(.ref 219), (.type "object")], 218, "Placer", true, [], [], false, none, false⟩), #[none, none, (some (.str "Placer" 404)), (some (.str "Placer" 412)), (some (.builtin "object.__new__")), (some (.bool true))]⟩,
⟨(.type "getset_descriptor"), none, (.fields #[(.str "__dict__" 451), (.ref 219), (.builtin "function.__dict__"), (.builtin "function.__dict__#set")]), #[]⟩,
⟨(.type "getset_descriptor"), none, (.fields #[(.str "__weakref__" 453), (.ref 219), (.builtin "ExceptionGroup.__weakref__"), .none]), #[]⟩,
⟨(.type "super"), none, (.fields #[(.ref 219), (.ref 219), (.ref 219)]), #[]⟩,
⟨(.type "builtin_function_or_method"), none, (.fields #[(.builtin "object.__init_subclass__"), (.ref 219)]), #[]⟩,
(tu []),
⟨(.type "builtin_function_or_method"), none, (.fields #[(.builtin "type.__prepare__"), (.type "type")]), #[]⟩,
⟨(.type "dict"), none, (.dict #[(de P "__module__" 467 (.str "alikeheap.unions" 458)), (de P "__qualname__" 469 (.str "Unions" 468)), (de P "__firstlineno__" 471 (.int 116 470)), (de P "__init__" 478 (.ref 237)), (de P "make" 485 (.ref 244)), (de P "size" 492 (.ref 251)), (de P "find" 500 (.ref 258)), (de P "merge" 511 (.ref 265)), (de P "members" 519 (.ref 272)), (de P "classes" 525 (.ref 277)), (de P "log" 532 (.ref 284)), (de P "back" 542 (.ref 291)), (de P "cut" 550 (.ref 298)), (de P "__static_attributes__" 554 (.ref 299))] 14), #[]⟩,
(tu []),
⟨.none, none, (.fields #[(.int 118 0), (.int 4 0), (.ref 236), (.int 123 0), (.int 4 0), (.ref 243), (.int 128 0), (.int 4 0), (.ref 250), (.int 131 0), (.int 4 0), (.ref 257), (.int 136 0), (.int 4 0), (.ref 264), (.int 145 0), (.int 4 0), (.ref 271), (.int 148 0), (.int 4 0), (.ref 276), (.int 151 0), (.int 4 0), (.ref 283), (.int 154 0), (.int 4 0), (.ref 290), (.int 160 0), (.int 4 0), (.ref 297)]), #[]⟩,
⟨(.type "code"), none, (.fields #[(.str "Unions" 462), (.str "Unions" 463), (.str "/claim/cut.py" 464), (.int 116 0), (.int 0 0), (.int 0 0), (.int 0 0), (.int 0 0), (.ref 227), (.bool false), (.int 181 0), (.ref 228), .none, .none, .none, .none, (.int 465 0), (.int 116 0), (.str "/claim/cut.py" 466)]), #[]⟩,
⟨(.type "frame"), none, .plain, #[(some (.ref 229)), (some (.ref 3)), (some (.ref 226)), none, (some (.str "alikeheap.unions" 458)), none, (some (.ref 0))]⟩,
(tu []),
em,
(tu [(.str "self" 475)]),
(tu []),
(fz "__init__" "Unions.__init__" [12, 0]),
(co "__init__" "Unions.__init__" 472 118 1 231 476),
(fu "__init__" "Unions.__init__" [12, 0] (.str "alikeheap.unions" 458) 236),
(tu []),
em,
(tu [(.str "self" 482)]),
(tu []),
(fz "make" "Unions.make" [12, 1]),
(co "make" "Unions.make" 479 123 1 238 483),
(fu "make" "Unions.make" [12, 1] (.str "alikeheap.unions" 458) 243),
(tu []),
em,
(tu [(.str "self" 489)]),
(tu []),
(fz "size" "Unions.size" [12, 2]),
(co "size" "Unions.size" 486 128 1 245 490),
(fu "size" "Unions.size" [12, 2] (.str "alikeheap.unions" 458) 250),
(tu []),
em,
(tu [(.str "self" 496), (.str "a" 497)]),
(tu []),
(fz "find" "Unions.find" [12, 3]),
(co "find" "Unions.find" 493 131 2 252 498),
(fu "find" "Unions.find" [12, 3] (.str "alikeheap.unions" 458) 257),
(tu []),
em,
(tu [(.str "self" 504), (.str "a" 505), (.str "b" 506), (.str "kept" 507), (.str "gone" 508)]),
(tu []),
(fz "merge" "Unions.merge" [12, 4]),
(co "merge" "Unions.merge" 501 136 3 259 509),
(fu "merge" "Unions.merge" [12, 4] (.str "alikeheap.unions" 458) 264),
(tu []),
em,
(tu [(.str "self" 515), (.str "a" 516)]),
(tu []),
(fz "members" "Unions.members" [12, 5]),
(co "members" "Unions.members" 512 145 2 266 517),
(fu "members" "Unions.members" [12, 5] (.str "alikeheap.unions" 458) 271),
(tu []),
em,
(fz "classes" "Unions.classes" [12, 6]),
⟨(.type "code"), none, (.fields #[(.str "classes" 520), (.str "Unions.classes" 521), (.str "/claim/cut.py" 522), (.int 148 0), (.int 1 0), (.int 0 0), (.int 0 0), (.int 3 0), (.ref 273), (.bool true), (.int 181 0), (.ref 274), .none, .none, .none, (.ref 275), (.int 523 0), (.int 148 0), (.str "/claim/cut.py" 524)]), #[]⟩,
(fu "classes" "Unions.classes" [12, 6] (.str "alikeheap.unions" 458) 276),
(tu []),
em,
(tu [(.str "self" 529)]),
(tu []),
(fz "log" "Unions.log" [12, 7]),
(co "log" "Unions.log" 526 151 1 278 530),
(fu "log" "Unions.log" [12, 7] (.str "alikeheap.unions" 458) 283),
(tu []),
em,
(tu [(.str "self" 536), (.str "many" 537), (.str "kept" 538), (.str "gone" 539)]),
(tu []),
(fz "back" "Unions.back" [12, 8]),
(co "back" "Unions.back" 533 154 2 285 540),
(fu "back" "Unions.back" [12, 8] (.str "alikeheap.unions" 458) 290),
(tu []),
em,
(tu [(.str "self" 546), (.str "many" 547)]),
(tu []),
(fz "cut" "Unions.cut" [12, 9]),
(co "cut" "Unions.cut" 543 160 2 292 548),
(fu "cut" "Unions.cut" [12, 9] (.str "alikeheap.unions" 458) 297),
(tu [(.str "above" 551), (.str "lots" 552), (.str "merged" 553)]),
⟨(.type "dict"), none, (.dict #[(de P "__module__" 467 (.str "alikeheap.unions" 458)), (de P "__firstlineno__" 471 (.int 116 470)), (de P "__init__" 478 (.ref 237)), (de P "make" 485 (.ref 244)), (de P "size" 492 (.ref 251)), (de P "find" 500 (.ref 258)), (de P "merge" 511 (.ref 265)), (de P "members" 519 (.ref 272)), (de P "classes" 525 (.ref 277)), (de P "log" 532 (.ref 284)), (de P "back" 542 (.ref 291)), (de P "cut" 550 (.ref 298)), (de P "__static_attributes__" 554 (.ref 299)), (de P "__dict__" 556 (.ref 302)), (de P "__weakref__" 558 (.ref 303)), (de P "__doc__" 559 .none)] 4), #[]⟩,
⟨(.type "type"), none, (.cls ⟨"Unions", [(.type "object")], [(.ref 301), (.type "object")], 300, "Unions", true, [], [], false, none, false⟩), #[none, none, (some (.str "Unions" 460)), (some (.str "Unions" 468)), (some (.builtin "object.__new__")), (some (.bool true))]⟩,
⟨(.type "getset_descriptor"), none, (.fields #[(.str "__dict__" 555), (.ref 301), (.builtin "function.__dict__"), (.builtin "function.__dict__#set")]), #[]⟩,
⟨(.type "getset_descriptor"), none, (.fields #[(.str "__weakref__" 557), (.ref 301), (.builtin "ExceptionGroup.__weakref__"), .none]), #[]⟩,
⟨(.type "super"), none, (.fields #[(.ref 301), (.ref 301), (.ref 301)]), #[]⟩,
⟨(.type "builtin_function_or_method"), none, (.fields #[(.builtin "object.__init_subclass__"), (.ref 301)]), #[]⟩]
noncomputable def tC (P : Params) : List Obj := (((tB P).set 3 ⟨(.type "dict"), none, (.dict #[(de P "__name__" 165 (.str "alikeheap.heap" 562)), (de P "__doc__" 166 .none), (de P "__package__" 167 .none), (de P "__loader__" 168 (.builtin "__main__.__loader__#opaque")), (de P "__spec__" 169 .none), (de P "__annotations__" 170 (.ref 6)), (de P "__builtins__" 171 (.ref 4)), (de P "__file__" 173 (.str "/claim/cut.py" 172)), (de P "__cached__" 174 .none), (de P "_wall" 193 (.ref 21)), (de P "HeapError" 233 (.ref 47)), (de P "TermFault" 249 (.ref 60)), (de P "is_op" 257 (.ref 67)), (de P "is_variable" 264 (.ref 74)), (de P "parts" 270 (.ref 79)), (de P "Bank" 401 (.ref 181)), (de P "Placer" 457 (.ref 219)), (de P "Unions" 561 (.ref 301)), (de P "Heap" 730 (.ref 433))] 19), #[]⟩).set 12 ⟨.none, none, (.fields #[(.int 1 0), (.int 0 0), (.ref 20), (.int 5 0), (.int 0 0), (.ref 28), (.int 13 0), (.int 0 0), (.ref 56), (.int 16 0), (.int 0 0), (.ref 66), (.int 18 0), (.int 0 0), (.ref 73), (.int 20 0), (.int 0 0), (.ref 78), (.int 25 0), (.int 0 0), (.ref 85), (.int 95 0), (.int 0 0), (.ref 191), (.int 116 0), (.int 0 0), (.ref 229), (.int 163 0), (.int 0 0), (.ref 311)]), #[]⟩) ++ [
(tu []),
⟨(.type "builtin_function_or_method"), none, (.fields #[(.builtin "type.__prepare__"), (.type "type")]), #[]⟩,
⟨(.type "dict"), none, (.dict #[(de P "__module__" 571 (.str "alikeheap.heap" 562)), (de P "__qualname__" 573 (.str "Heap" 572)), (de P "__firstlineno__" 575 (.int 163 574)), (de P "__init__" 582 (.ref 319)), (de P "size" 589 (.ref 326)), (de P "node" 595 (.ref 331)), (de P "add" 601 (.ref 336)), (de P "put" 607 (.ref 341)), (de P "look_at" 616 (.ref 348)), (de P "find" 624 (.ref 355)), (de P "are_like" 633 (.ref 362)), (de P "merge" 643 (.ref 369)), (de P "join" 656 (.ref 376)), (de P "settle" 663 (.ref 383)), (de P "is_settled" 670 (.ref 390)), (de P "classes" 677 (.ref 397)), (de P "members" 685 (.ref 404)), (de P "nodes_of" 693 (.ref 411)), (de P "many_nodes" 700 (.ref 418)), (de P "seek" 706 (.ref 423)), (de P "users" 714 (.ref 430)), (de P "__static_attributes__" 723 (.ref 431))] 22), #[]⟩,
(tu []),
⟨.none, none, (.fields #[(.int 165 0), (.int 4 0), (.ref 318), (.int 175 0), (.int 4 0), (.ref 325), (.int 178 0), (.int 4 0), (.ref 330), (.int 181 0), (.int 4 0), (.ref 335), (.int 192 0), (.int 4 0), (.ref 340), (.int 195 0), (.int 4 0), (.ref 347), (.int 200 0), (.int 4 0), (.ref 354), (.int 203 0), (.int 4 0), (.ref 361), (.int 206 0), (.int 4 0), (.ref 368), (.int 209 0), (.int 4 0), (.ref 375), (.int 220 0), (.int 4 0), (.ref 382), (.int 224 0), (.int 4 0), (.ref 389), (.int 227 0), (.int 4 0), (.ref 396), (.int 230 0), (.int 4 0), (.ref 403), (.int 233 0), (.int 4 0), (.ref 410), (.int 236 0), (.int 4 0), (.ref 417), (.int 239 0), (.int 4 0), (.ref 422), (.int 243 0), (.int 4 0), (.ref 429)]), #[]⟩,
⟨(.type "code"), none, (.fields #[(.str "Heap" 566), (.str "Heap" 567), (.str "/claim/cut.py" 568), (.int 163 0), (.int 0 0), (.int 0 0), (.int 0 0), (.int 0 0), (.ref 309), (.bool false), (.int 181 0), (.ref 310), .none, .none, .none, .none, (.int 569 0), (.int 163 0), (.str "/claim/cut.py" 570)]), #[]⟩,
⟨(.type "frame"), none, .plain, #[(some (.ref 311)), (some (.ref 3)), (some (.ref 308)), none, (some (.str "alikeheap.heap" 562)), none, (some (.ref 0))]⟩,
(tu []),
em,
(tu [(.str "self" 579)]),
(tu []),
(fz "__init__" "Heap.__init__" [14, 0]),
(co "__init__" "Heap.__init__" 576 165 1 313 580),
(fu "__init__" "Heap.__init__" [14, 0] (.str "alikeheap.heap" 562) 318),
(tu []),
em,
(tu [(.str "self" 586)]),
(tu []),
(fz "size" "Heap.size" [14, 1]),
(co "size" "Heap.size" 583 175 1 320 587),
(fu "size" "Heap.size" [14, 1] (.str "alikeheap.heap" 562) 325),
(tu []),
em,
(fz "node" "Heap.node" [14, 2]),
⟨(.type "code"), none, (.fields #[(.str "node" 590), (.str "Heap.node" 591), (.str "/claim/cut.py" 592), (.int 178 0), (.int 2 0), (.int 0 0), (.int 0 0), (.int 3 0), (.ref 327), (.bool true), (.int 181 0), (.ref 328), .none, .none, .none, (.ref 329), (.int 593 0), (.int 178 0), (.str "/claim/cut.py" 594)]), #[]⟩,
(fu "node" "Heap.node" [14, 2] (.str "alikeheap.heap" 562) 330),
(tu []),
em,
(fz "add" "Heap.add" [14, 3]),
⟨(.type "code"), none, (.fields #[(.str "add" 596), (.str "Heap.add" 597), (.str "/claim/cut.py" 598), (.int 181 0), (.int 3 0), (.int 0 0), (.int 0 0), (.int 3 0), (.ref 332), (.bool true), (.int 181 0), (.ref 333), .none, .none, .none, (.ref 334), (.int 599 0), (.int 181 0), (.str "/claim/cut.py" 600)]), #[]⟩,
(fu "add" "Heap.add" [14, 3] (.str "alikeheap.heap" 562) 335),
(tu []),
em,
(fz "put" "Heap.put" [14, 4]),
⟨(.type "code"), none, (.fields #[(.str "put" 602), (.str "Heap.put" 603), (.str "/claim/cut.py" 604), (.int 192 0), (.int 2 0), (.int 0 0), (.int 0 0), (.int 3 0), (.ref 337), (.bool true), (.int 181 0), (.ref 338), .none, .none, .none, (.ref 339), (.int 605 0), (.int 192 0), (.str "/claim/cut.py" 606)]), #[]⟩,
(fu "put" "Heap.put" [14, 4] (.str "alikeheap.heap" 562) 340),
(tu []),
em,
(tu [(.str "self" 611), (.str "n" 612), (.str "other" 613)]),
(tu []),
(fz "look_at" "Heap.look_at" [14, 5]),
(co "look_at" "Heap.look_at" 608 195 2 342 614),
(fu "look_at" "Heap.look_at" [14, 5] (.str "alikeheap.heap" 562) 347),
(tu []),
em,
(tu [(.str "self" 620), (.str "n" 621)]),
(tu []),
(fz "find" "Heap.find" [14, 6]),
(co "find" "Heap.find" 617 200 2 349 622),
(fu "find" "Heap.find" [14, 6] (.str "alikeheap.heap" 562) 354),
(tu []),
em,
(tu [(.str "self" 628), (.str "a" 629), (.str "b" 630)]),
(tu []),
(fz "are_like" "Heap.are_like" [14, 7]),
(co "are_like" "Heap.are_like" 625 203 3 356 631),
(fu "are_like" "Heap.are_like" [14, 7] (.str "alikeheap.heap" 562) 361),
(tu []),
em,
(tu [(.str "self" 637), (.str "a" 638), (.str "b" 639), (.str "reason" 640)]),
(tu []),
(fz "merge" "Heap.merge" [14, 8]),
(co "merge" "Heap.merge" 634 206 4 363 641),
(fu "merge" "Heap.merge" [14, 8] (.str "alikeheap.heap" 562) 368),
(tu []),
em,
(tu [(.str "self" 647), (.str "a" 648), (.str "b" 649), (.str "reason" 650), (.str "merged" 651), (.str "kept" 652), (.str "gone" 653)]),
(tu []),
(fz "join" "Heap.join" [14, 9]),
(co "join" "Heap.join" 644 209 4 370 654),
(fu "join" "Heap.join" [14, 9] (.str "alikeheap.heap" 562) 375),
(tu []),
em,
(tu [(.str "self" 660)]),
(tu []),
(fz "settle" "Heap.settle" [14, 10]),
(co "settle" "Heap.settle" 657 220 1 377 661),
(fu "settle" "Heap.settle" [14, 10] (.str "alikeheap.heap" 562) 382),
(tu []),
em,
(tu [(.str "self" 667)]),
(tu []),
(fz "is_settled" "Heap.is_settled" [14, 11]),
(co "is_settled" "Heap.is_settled" 664 224 1 384 668),
(fu "is_settled" "Heap.is_settled" [14, 11] (.str "alikeheap.heap" 562) 389),
(tu []),
em,
(tu [(.str "self" 674)]),
(tu []),
(fz "classes" "Heap.classes" [14, 12]),
(co "classes" "Heap.classes" 671 227 1 391 675),
(fu "classes" "Heap.classes" [14, 12] (.str "alikeheap.heap" 562) 396),
(tu []),
em,
(tu [(.str "self" 681), (.str "c" 682)]),
(tu []),
(fz "members" "Heap.members" [14, 13]),
(co "members" "Heap.members" 678 230 2 398 683),
(fu "members" "Heap.members" [14, 13] (.str "alikeheap.heap" 562) 403),
(tu []),
em,
(tu [(.str "self" 689), (.str "c" 690)]),
(tu []),
(fz "nodes_of" "Heap.nodes_of" [14, 14]),
(co "nodes_of" "Heap.nodes_of" 686 233 2 405 691),
(fu "nodes_of" "Heap.nodes_of" [14, 14] (.str "alikeheap.heap" 562) 410),
(tu []),
em,
(tu [(.str "self" 697)]),
(tu []),
(fz "many_nodes" "Heap.many_nodes" [14, 15]),
(co "many_nodes" "Heap.many_nodes" 694 236 1 412 698),
(fu "many_nodes" "Heap.many_nodes" [14, 15] (.str "alikeheap.heap" 562) 417),
(tu []),
em,
(fz "seek" "Heap.seek" [14, 16]),
⟨(.type "code"), none, (.fields #[(.str "seek" 701), (.str "Heap.seek" 702), (.str "/claim/cut.py" 703), (.int 239 0), (.int 3 0), (.int 0 0), (.int 0 0), (.int 3 0), (.ref 419), (.bool true), (.int 181 0), (.ref 420), .none, .none, .none, (.ref 421), (.int 704 0), (.int 239 0), (.str "/claim/cut.py" 705)]), #[]⟩,
(fu "seek" "Heap.seek" [14, 16] (.str "alikeheap.heap" 562) 422),
(tu []),
em,
(tu [(.str "self" 710), (.str "c" 711)]),
(tu []),
(fz "users" "Heap.users" [14, 17]),
(co "users" "Heap.users" 707 243 2 424 712),
(fu "users" "Heap.users" [14, 17] (.str "alikeheap.heap" 562) 429),
(tu [(.str "above" 715), (.str "backs" 716), (.str "bank" 717), (.str "edges" 718), (.str "forest" 719), (.str "known" 720), (.str "unions" 721), (.str "waiting" 722)]),
⟨(.type "dict"), none, (.dict #[(de P "__module__" 571 (.str "alikeheap.heap" 562)), (de P "__firstlineno__" 575 (.int 163 574)), (de P "__init__" 582 (.ref 319)), (de P "size" 589 (.ref 326)), (de P "node" 595 (.ref 331)), (de P "add" 601 (.ref 336)), (de P "put" 607 (.ref 341)), (de P "look_at" 616 (.ref 348)), (de P "find" 624 (.ref 355)), (de P "are_like" 633 (.ref 362)), (de P "merge" 643 (.ref 369)), (de P "join" 656 (.ref 376)), (de P "settle" 663 (.ref 383)), (de P "is_settled" 670 (.ref 390)), (de P "classes" 677 (.ref 397)), (de P "members" 685 (.ref 404)), (de P "nodes_of" 693 (.ref 411)), (de P "many_nodes" 700 (.ref 418)), (de P "seek" 706 (.ref 423)), (de P "users" 714 (.ref 430)), (de P "__static_attributes__" 723 (.ref 431)), (de P "__dict__" 725 (.ref 434)), (de P "__weakref__" 727 (.ref 435)), (de P "__doc__" 728 .none)] 4), #[]⟩,
⟨(.type "type"), none, (.cls ⟨"Heap", [(.type "object")], [(.ref 433), (.type "object")], 432, "Heap", true, [], [], false, none, false⟩), #[none, none, (some (.str "Heap" 564)), (some (.str "Heap" 572)), (some (.builtin "object.__new__")), (some (.bool true))]⟩,
⟨(.type "getset_descriptor"), none, (.fields #[(.str "__dict__" 724), (.ref 433), (.builtin "function.__dict__"), (.builtin "function.__dict__#set")]), #[]⟩,
⟨(.type "getset_descriptor"), none, (.fields #[(.str "__weakref__" 726), (.ref 433), (.builtin "ExceptionGroup.__weakref__"), .none]), #[]⟩,
⟨(.type "super"), none, (.fields #[(.ref 433), (.ref 433), (.ref 433)]), #[]⟩,
⟨(.type "builtin_function_or_method"), none, (.fields #[(.builtin "object.__init_subclass__"), (.ref 433)]), #[]⟩]
noncomputable def envM : Env := { scope := PySem.Challenge.pw_rh0007_01.main.scope, locals := mainNs, globals := mainNs, cells := [], code := .ref 13, frame := some 14 }
noncomputable def restM (k : Nat) (q : Pos) : Thread := restOf (PySem.Challenge.pw_rh0007_01.main.body.drop k) envM (.body PySem.Challenge.pw_rh0007_01.main.body envM) q [topFrame ⟨0, 0, 0, 0⟩]
noncomputable def run12 (w : World) (os : OsState) : Option (SharedT × Thread) := topGoT treeTable PySem.Challenge.pw_rh0007_01 w (boot_heap w.params).objs.size ((boot_heap w.params).nsMap mainGlobals "__annotations__") 12 (bootS w.params os) (topStub PySem.Challenge.pw_rh0007_01)
noncomputable def S12 (w : World) (os : OsState) : SharedT := match run12 w os with | some r => r.1 | none => bootS w.params os
theorem ch0 : ∀ (w : World) (os : OsState), run12 w os = some (S12 w os, ⟨denote treeTable (.body PySem.Challenge.pw_rh0007_01.main.body envM), .body PySem.Challenge.pw_rh0007_01.main.body envM, ⟨0, 0, 0, 0⟩, [topFrame ⟨0, 0, 0, 0⟩]⟩) := fun w os => by kernel_rfl
theorem ch0' (w : World) (os : OsState) : run12 w os = some (S12 w os, restM 0 ⟨0, 0, 0, 0⟩) := by
  rw [ch0, body_wrap]
  kernel_rfl
noncomputable def sA (w : World) (os : OsState) : SharedT := ⟨growT (tA w.params) 0 .nil, 186, {}, #[], {}, 402, os⟩
noncomputable def sB (w : World) (os : OsState) : SharedT := ⟨growT (tB w.params) 0 .nil, 306, {}, #[], {}, 564, os⟩
theorem ch1 : ∀ (w : World) (os : OsState), topGoT treeTable PySem.Challenge.pw_rh0007_01 w (boot_heap w.params).objs.size ((boot_heap w.params).nsMap mainGlobals "__annotations__") 1246 (S12 w os) (restM 0 ⟨0, 0, 0, 0⟩) = some (sA w os, restM 9 ⟨25, 0, 93, 56⟩) := fun w os => by kernel_rfl
theorem ch2 : ∀ (w : World) (os : OsState), topGoT treeTable PySem.Challenge.pw_rh0007_01 w (boot_heap w.params).objs.size ((boot_heap w.params).nsMap mainGlobals "__annotations__") 851 (sA w os) (restM 9 ⟨25, 0, 93, 56⟩) = some (sB w os, restM 14 ⟨162, 0, 162, 8⟩) := fun w os => by kernel_rfl
noncomputable def sC (w : World) (os : OsState) : SharedT := ⟨growT (tC w.params) 0 .nil, 438, {}, #[], {}, 731, os⟩
theorem ch3 : ∀ (w : World) (os : OsState), topGoT treeTable PySem.Challenge.pw_rh0007_01 w (boot_heap w.params).objs.size ((boot_heap w.params).nsMap mainGlobals "__annotations__") 760 (sB w os) (restM 14 ⟨162, 0, 162, 8⟩) = some (sC w os, restM 15 ⟨163, 0, 244, 17⟩) := fun w os => by kernel_rfl
theorem ch4 : ∀ (w : World) (os : OsState), ((topGoT treeTable PySem.Challenge.pw_rh0007_01 w (boot_heap w.params).objs.size ((boot_heap w.params).nsMap mainGlobals "__annotations__") 210 (sC w os) (restM 15 ⟨163, 0, 244, 17⟩)).map (fun r => (through r.2, staticsOk (importedModules PySem.Challenge.pw_rh0007_01.main.body) (boot_heap w.params) r.1.abs.heap && namesBound PySem.Challenge.pw_rh0007_01 r.1.abs.heap && gensDone r.1.abs && laidKept (boot_heap w.params) r.1.abs.heap,
      openSeen vq [] (importedModules PySem.Challenge.pw_rh0007_01.main.body) (fun s => xlAt vq [] s && recOk [] s) true r.1.abs, kAs.map r.1.abs.heap.get?))) = some (true, true, openGood vq [], (hK w.params).map fun p => some p.2) := fun w os => by kernel_rfl
theorem h3d (w : World) (os : OsState) : ∃ (s' : SharedT) (t' : Thread), (∀ m, topRun treeTable PySem.Challenge.pw_rh0007_01 w (boot_heap w.params).objs.size ((boot_heap w.params).nsMap mainGlobals "__annotations__") (3079 + m) (bootS w.params os).abs (topStub PySem.Challenge.pw_rh0007_01) = topRun treeTable PySem.Challenge.pw_rh0007_01 w (boot_heap w.params).objs.size ((boot_heap w.params).nsMap mainGlobals "__annotations__") m s'.abs t') ∧ (through t', staticsOk (importedModules PySem.Challenge.pw_rh0007_01.main.body) (boot_heap w.params) s'.abs.heap && namesBound PySem.Challenge.pw_rh0007_01 s'.abs.heap && gensDone s'.abs && laidKept (boot_heap w.params) s'.abs.heap,
      openSeen vq [] (importedModules PySem.Challenge.pw_rh0007_01.main.body) (fun s => xlAt vq [] s && recOk [] s) true s'.abs, kAs.map s'.abs.heap.get?) = (true, true, openGood vq [], (hK w.params).map fun p => some p.2) := by
  obtain ⟨⟨s₁, t₁⟩, g, e⟩ := Option.map_eq_some_iff.mp (ch4 w os)
  refine ⟨s₁, t₁, fun m => ?_, e⟩
  rw [show 3079 + m = 12 + (1246 + (851 + (760 + (210 + m)))) by omega, topGo_run 12 (ch0' w os), topGo_run 1246 (ch1 w os), topGo_run 851 (ch2 w os), topGo_run 760 (ch3 w os), topGo_run 210 g]
theorem h3e : LeftO PySem.Challenge.pw_rh0007_01 vq [] (fun s => xlAt vq [] s && recOk [] s) (Hook.obs hH) (Hook.val hH) 6258 true :=
  left_of rfl (by decide) (fun s => rfl) (by decide) h2a h2b h3d
end Mine
namespace Mine
noncomputable def tab (led : Bool) (ps : Array Nat) : SetTable := { SetTable.fresh 0 0 led with place := ps }
noncomputable def freeAt (led : Bool) (ps : Array Nat) (n : Nat) : Nat := ((tab led ps).freeSlot (hashInt (n : Int))).elim 0 (·.1)
theorem put0 : ∀ (led : Bool) (n : Nat), n < 32 → (tab led #[]).freeSlot (hashInt (n : Int)) = some (n % 8, false) ∧ (tab led #[]).put (n % 8) = (tab led #[n % 8], 0) := by decide +kernel
theorem put1 : ∀ (led : Bool) (a : Nat), a < 32 → ∀ b : Nat, b < 32 → (tab led #[a % 8]).freeSlot (hashInt (b : Int)) = some (freeAt led #[a % 8] b, false) ∧ freeAt led #[a % 8] b < 8 ∧
   ((a % 8 < freeAt led #[a % 8] b ∧ (tab led #[a % 8]).put (freeAt led #[a % 8] b) = (tab led #[a % 8, freeAt led #[a % 8] b], 1)) ∨ (freeAt led #[a % 8] b < a % 8 ∧ (tab led #[a % 8]).put (freeAt led #[a % 8] b) = (tab led #[freeAt led #[a % 8] b, a % 8], 0))) := by decide +kernel
end Mine
namespace Mine
noncomputable def bt (w : World) : Bool := w.params.followText "set-order"
noncomputable def elt (n : Nat) (t : Tok) : Int × Value := (hashInt (n : Int), .int (n : Int) t)
inductive Sh : Array (Int × Value) → Array Nat → List Nat → Prop
  | nil : Sh #[] #[] []
  | one (x : Nat) (t : Tok) : x < 32 → Sh #[elt x t] #[x % 8] [x]
  | two (x y : Nat) (tx ty : Tok) (p q : Nat) : p < q → q < 8 → x ≠ y → Sh #[elt x tx, elt y ty] #[p, q] [x, y]
noncomputable def setO (w : World) (es : Array (Int × Value)) (ep : Nat) (ps : Array Nat) : Obj := { cls := .type "set", dict := none, data := .set es ep (tab (!bt w) ps) }
noncomputable def SetIs (w : World) (h : Heap) (a : Addr) (ns : List Nat) : Prop := ∃ es ps ep, h.get? a = some (setO w es ep ps) ∧ Sh es ps ns
section
variable {prog : Program} {w : World} {A : Around} {E : Value → Shared → Prop} {s : Shared}
theorem Sh.elems {es : Array (Int × Value)} {ps : Array Nat} {ns : List Nat} (h : Sh es ps ns) : ElemsOf (intKind prog w) es.toList := by
  have one : ∀ n t, (∃ k, (intKind prog w).is k (elt n t).2 = true ∧ (elt n t).1 = (intKind prog w).hash k) ∧ (elt n t).2.scannable = true := fun n t => ⟨⟨(n : Int), by show Value.isInt (n : Int) (.int (n : Int) t) = true; simp [Value.isInt], rfl⟩, rfl⟩
  intro e he
  cases h with
  | nil => simp at he
  | one x t _ => simp at he; subst he; exact one x t
  | two x y tx ty p q _ => simp at he; rcases he with rfl | rfl; exact one _ _; exact one _ _
theorem Sh.fits {es : Array (Int × Value)} {ps : Array Nat} {ns : List Nat} {led : Bool} (h : Sh es ps ns) : (tab led ps).fits es.size = true := by
  cases h with
  | nil => cases led <;> decide
  | one x t _ => simp [SetTable.fits, tab, SetTable.fill, SetTable.fresh]
  | two x y tx ty p q _ => simp [SetTable.fits, tab, SetTable.fill, SetTable.fresh]
theorem Sh.size {es : Array (Int × Value)} {ps : Array Nat} {ns : List Nat} (h : Sh es ps ns) : es.size = ns.length := by cases h <;> rfl
theorem store_set {a : Addr} {es es' : Array (Int × Value)} {ep : Nat} {ps ps' : Array Nat} {ns : List Nat} {Q : Unit → Shared → Prop} (ho : s.heap.get? a = some (setO w es ep ps)) (hs : Sh es' ps' ns)
    (h : ∀ h', Heap.SameBut a s.heap h' → SetIs w h' a ns → Q () { s with heap := h' }) : wpAny (model prog w) A (storeSet a es' (tab (!bt w) ps')) Q E s := by
  refine wpAny_storeSet_of ho rfl (h _ (Heap.SameBut.update ..) ⟨es', ps', ep + 1, ?_, hs⟩) ?_
  · exact Heap.get?_update_self _ ho rfl
  · rw [sizeLine_eq, hs.size]
    cases hs <;> simp
noncomputable def added (ns : List Nat) (n : Nat) (ns' : List Nat) : Prop := if n ∈ ns then ns' = ns else ns'.Perm (n :: ns)
theorem lay0 {led : Bool} {n : Nat} {x : Value} (hn : n < 32) : layNew (tab led #[]) #[] (hashInt (n : Int)) x = (#[(hashInt (n : Int), x)], tab led #[n % 8], false, false) := by
  obtain ⟨h1, h2⟩ := put0 led n hn
  unfold layNew
  rw [h1]
  simp only [h2]
  have hf : (tab led #[n % 8]).fits 1 = true := by simp [SetTable.fits, tab, SetTable.fill, SetTable.fresh]
  have e : SetTable.insertAt #[] 0 (hashInt (n : Int), x) = #[(hashInt (n : Int), x)] := by rfl
  rw [e]
  show (_, SetTable.orStandIn _ 1, _, !(SetTable.fits _ 1)) = _
  unfold SetTable.orStandIn
  rw [hf]; rfl
theorem lay1 {led : Bool} {a n : Nat} {u x : Value} (ha : a < 32) (hn : n < 32) : ∃ j, j < 8 ∧ ((a % 8 < j ∧ layNew (tab led #[a % 8]) #[(hashInt (a : Int), u)] (hashInt (n : Int)) x = (#[(hashInt (a : Int), u), (hashInt (n : Int), x)], tab led #[a % 8, j], false, false)) ∨
    (j < a % 8 ∧ layNew (tab led #[a % 8]) #[(hashInt (a : Int), u)] (hashInt (n : Int)) x = (#[(hashInt (n : Int), x), (hashInt (a : Int), u)], tab led #[j, a % 8], false, false))) := by
  obtain ⟨h1, hj, h2⟩ := put1 led a ha n hn
  refine ⟨_, hj, ?_⟩
  generalize freeAt led #[a % 8] n = j at h1 h2 hj
  have hf : ∀ p q : Nat, (tab led #[p, q]).fits 2 = true := fun p q => by simp [SetTable.fits, tab, SetTable.fill, SetTable.fresh]
  rcases h2 with ⟨h2, h3⟩ | ⟨h2, h3⟩
  · refine .inl ⟨h2, ?_⟩
    unfold layNew
    rw [h1]
    simp only [h3]
    have e : SetTable.insertAt #[(hashInt (a : Int), u)] 1 (hashInt (n : Int), x) = #[(hashInt (a : Int), u), (hashInt (n : Int), x)] := by rfl
    rw [e]
    show (_, SetTable.orStandIn _ 2, _, !(SetTable.fits _ 2)) = _
    unfold SetTable.orStandIn
    rw [hf]; rfl
  · refine .inr ⟨h2, ?_⟩
    unfold layNew
    rw [h1]
    simp only [h3]
    have e : SetTable.insertAt #[(hashInt (a : Int), u)] 0 (hashInt (n : Int), x) = #[(hashInt (n : Int), x), (hashInt (a : Int), u)] := by rfl
    rw [e]
    show (_, SetTable.orStandIn _ 2, _, !(SetTable.fits _ 2)) = _
    unfold SetTable.orStandIn
    rw [hf]; rfl
theorem add_W {a : Addr} {ns : List Nat} {n : Nat} {t : Tok} {Q : Bool → Shared → Prop} (hS : SetIs w s.heap a ns) (hn : n < 32) (hl : ns.length ≤ 1)
    (h : ∀ b h' tk ns', Heap.SameBut a s.heap h' → SetIs w h' a ns' → added ns n ns' → Q b { s with heap := h', toks := tk }) : wpAny (model prog w) A (setAdd a (.int (n : Int) t)) Q E s := by
  unfold setAdd
  refine wpAny_holding (wpAny_bind ((intKind prog w).pyHash (k := (n : Int)) (by show Value.isInt (n : Int) (.int (n : Int) t) = true; simp [Value.isInt]) ?_))
  obtain ⟨es, ps, ep, ho, hsh⟩ := hS
  have hel := hsh.elems (prog := prog) (w := w)
  have hf := hsh.fits (led := !bt w)
  unfold setAddHashed setAddHashedIn
  refine wpAny_holding (wpAny_bind (wpAny_setState_of ho rfl hf ?_))
  dsimp only
  rw [byScan_of (knd := intKind prog w) (x := .int (n : Int) t) rfl (by rw [hsh.size]; unfold scanBound; omega) hel]
  simp only [↓reduceIte]
  unfold setAddByScan
  refine wpAny_bind ?_
  refine wpAny_bind (wpAny_rule ?_)
  refine wpAny_bind (wpAny_setScan_of (knd := intKind prog w) (k := (n : Int)) (by show Value.isInt (n : Int) (.int (n : Int) t) = true; simp [Value.isInt]) ho rfl hf hel ?_)
  have isn : ∀ (m : Nat) (u : Tok), (intKind prog w).is (n : Int) (elt m u).2 = decide (m = n) := fun m u => by
    show Value.isInt (n : Int) (.int (m : Int) u) = _
    rw [Bool.eq_iff_iff]
    simp [Value.isInt]
    omega
  have same : ∀ {b : Bool} , n ∈ ns → Q b { s with toks := s.toks + 1 } := fun hin => h _ s.heap _ ns (Heap.SameBut.refl ..) ⟨es, ps, ep, ho, hsh⟩ (by unfold added; rw [if_pos hin])
  cases hsh with
  | nil =>
    dsimp only [List.findIdx?_nil]
    rw [show (intKind prog w).hash (n : Int) = hashInt (n : Int) from rfl, lay0 hn]
    dsimp only
    refine wpAny_bind (wpAny_pure ?_)
    have hsh' := (Sh.one n t hn)
    have hpl : ∀ ps, (tab (!bt w) ps).plain = true := fun _ => rfl
    rw [if_pos (hpl _), hashByValue_scannable 8 (x := .int (n : Int) t) rfl]
    refine wpAny_bind (wpAny_pure ?_)
    have hk : plainKind (.int (n : Int) t) = true := rfl
    simp only [hk, if_true]
    refine wpAny_bind (store_set ho hsh' fun h' hs' hS' => ?_)
    rw [if_neg (by simp [SetTable.tooFull, tab, SetTable.fill, SetTable.fresh])]
    exact wpAny_pure (wpAny_pure (h _ h' _ [n] hs' hS' (by unfold added; simp)))
  | one x u hx =>
    by_cases hxn : x = n
    · subst hxn
      have e1 : List.findIdx? (fun e => (intKind prog w).is (x : Int) e.2) [elt x u] = some 0 := by simp [List.findIdx?_cons, isn]
      rw [show (#[elt x u] : Array (Int × Value)).toList = [elt x u] from rfl, e1]
      exact wpAny_pure (wpAny_pure (same (by simp)))
    · have e1 : List.findIdx? (fun e => (intKind prog w).is (n : Int) e.2) [elt x u] = none := by simp [List.findIdx?_cons, isn, hxn]
      rw [show (#[elt x u] : Array (Int × Value)).toList = [elt x u] from rfl, e1]
      obtain ⟨j, hj, ⟨hlt, hlay⟩ | ⟨hlt, hlay⟩⟩ := lay1 (led := !bt w) (u := .int (x : Int) u) (x := .int (n : Int) t) hx hn
      · have hlay' : layNew (tab (!bt w) #[x % 8]) #[elt x u] (hashInt (n : Int)) (.int (n : Int) t) = _ := hlay
        dsimp only
        rw [show (intKind prog w).hash (n : Int) = hashInt (n : Int) from rfl, hlay']
        dsimp only
        refine wpAny_bind (wpAny_pure ?_)
        have hsh' := (Sh.two x n u t _ _ hlt hj hxn)
        have hpl : ∀ ps, (tab (!bt w) ps).plain = true := fun _ => rfl
        rw [if_pos (hpl _), hashByValue_scannable 8 (x := .int (n : Int) t) rfl]
        refine wpAny_bind (wpAny_pure ?_)
        have hk : plainKind (.int (n : Int) t) = true := rfl
        simp only [hk, if_true]
        refine wpAny_bind (store_set ho hsh' fun h' hs' hS' => ?_)
        rw [if_neg (by simp [SetTable.tooFull, tab, SetTable.fill, SetTable.fresh])]
        exact wpAny_pure (wpAny_pure (h _ h' _ [x, n] hs' hS' (by unfold added; rw [if_neg (by simp; omega)]; exact List.Perm.swap ..)))
      · have hlay' : layNew (tab (!bt w) #[x % 8]) #[elt x u] (hashInt (n : Int)) (.int (n : Int) t) = _ := hlay
        dsimp only
        rw [show (intKind prog w).hash (n : Int) = hashInt (n : Int) from rfl, hlay']
        dsimp only
        refine wpAny_bind (wpAny_pure ?_)
        have hsh' := (Sh.two n x t u _ _ hlt (Nat.mod_lt _ (by decide)) (Ne.symm hxn))
        have hpl : ∀ ps, (tab (!bt w) ps).plain = true := fun _ => rfl
        rw [if_pos (hpl _), hashByValue_scannable 8 (x := .int (n : Int) t) rfl]
        refine wpAny_bind (wpAny_pure ?_)
        have hk : plainKind (.int (n : Int) t) = true := rfl
        simp only [hk, if_true]
        refine wpAny_bind (store_set ho hsh' fun h' hs' hS' => ?_)
        rw [if_neg (by simp [SetTable.tooFull, tab, SetTable.fill, SetTable.fresh])]
        exact wpAny_pure (wpAny_pure (h _ h' _ [n, x] hs' hS' (by unfold added; rw [if_neg (by simp; omega)])))
  | two x y tx ty p q hpq hq hxy => simp at hl
end
end Mine
namespace Mine
section
variable {prog : Program} {w : World} {A : Around} {E : Value → Shared → Prop} {s : Shared}
theorem SetIs.ext {h h' : Heap} {a : Addr} {ns : List Nat} (x : SetIs w h a ns) (e : ∀ o, h.get? a = some o → h'.get? a = some o) : SetIs w h' a ns := let ⟨es, ps, ep, ho, r⟩ := x; ⟨es, ps, ep, e _ ho, r⟩
theorem added_mem {ns ns' : List Nat} {n : Nat} (h : added ns n ns') (hn : ns.Nodup) : ns'.Nodup ∧ (∀ x, x ∈ ns' ↔ (x = n ∨ x ∈ ns)) ∧ ns'.length ≤ ns.length + 1 := by
  unfold added at h
  split at h
  · rename_i hin
    subst h
    exact ⟨hn, fun x => ⟨.inr, fun q => q.elim (fun q => q ▸ hin) id⟩, Nat.le_succ _⟩
  · rename_i hin
    exact ⟨h.nodup_iff.mpr (List.nodup_cons.mpr ⟨hin, hn⟩), fun x => by rw [h.mem_iff, List.mem_cons], by rw [h.length_eq]; exact Nat.le_refl _⟩
theorem update_loop_W {I l S : Addr} {items : Array Value} {ns : List Nat} {R : Result → Shared → Prop} (hh : A.handled = none) (hi : ∀ (i n : Nat), ns[i]? = some n → ∃ t : Tok, items[i]? = some (Value.int (n : Int) t)) (hz : items.size = ns.length) (h32 : ∀ n ∈ ns, n < 32) (h2 : ns.length ≤ 2) (hlI : l ≠ I) (hSI : S ≠ I) (hSl : S ≠ l) :
    ∀ (k i : Nat) (s : Shared) (fs : List Nat), ns.length - i = k → i ≤ ns.length → s.heap.IsListIter I l i → s.heap.IsList l items → SetIs w s.heap S fs → fs.length ≤ i → fs.Nodup → (∀ x, x ∈ fs ↔ x ∈ ns.take i) →
      (∀ h' tk fs', SetIs w h' S fs' → fs'.Nodup → (∀ x, x ∈ fs' ↔ x ∈ ns) → (∀ b o, b ≠ S → b ≠ I → s.heap.get? b = some o → h'.get? b = some o) → R (.ok (.ret .none)) { s with heap := h', toks := tk }) →
      codeAny (model prog w) A (.builtin "set.update.loop" ⟨[.ref S, .ref I], []⟩) R s := by
  intro k
  induction k with
  | zero =>
    intro i s fs hk hin hI hl hS hfl hnd hmem hR
    refine codeAny_builtin PyProof.Rows.F.entry_set_update_loop ?_
    rw [Around.under_plainId PyProof.Rows.F.plain_set_update_loop _]
    show wpAny _ A.in1 (pyNext (.ref I) >>= _) _ _ s
    refine wpAny_bind (wpAny_pyNext_list_end (A := A.in1) hh hI hl (Array.getElem?_eq_none (by omega)) fun h' he => ?_)
    show wpAny _ A.in1 (ret Value.none) _ _ _
    refine wpAny_pure (hR h' s.toks fs (hS.ext fun o e => he S o hSI e) hnd (fun x => by rw [hmem x, List.take_of_length_le (by omega)]) fun b o _ hb e => he b o hb e)
  | succ k ih =>
    intro i s fs hk hin hI hl hS hfl hnd hmem hR
    have hlt : i < ns.length := by omega
    obtain ⟨t, ht⟩ := hi i ns[i] (List.getElem?_eq_getElem hlt)
    refine codeAny_builtin PyProof.Rows.F.entry_set_update_loop ?_
    rw [Around.under_plainId PyProof.Rows.F.plain_set_update_loop _]
    show wpAny _ A.in1 (pyNext (.ref I) >>= _) _ _ s
    refine wpAny_bind (wpAny_pyNext_list_item hI hl ht fun h₁ hI₁ hs₁ => ?_)
    show wpAny _ A.in1 (holding [Value.int (ns[i] : Int) t] (setAdd S (.int (ns[i] : Int) t)) >>= _) _ _ _
    refine wpAny_bind (wpAny_holding (add_W (hS.ext fun o e => (hs₁.2 S hSI).trans e) (h32 _ (List.getElem_mem hlt)) (by omega) fun b h₂ tk₂ fs₂ hs₂ hS₂ ha => ?_))
    obtain ⟨a1, a2, a3⟩ := added_mem ha hnd
    refine wpAny_pure ⟨plainId_quiet PyProof.Rows.F.plain_set_update_loop _, ih (i + 1) _ fs₂ (by omega) hlt ?_ ?_ hS₂ (by omega) a1 (fun x => ?_) fun h' tk fs' q1 q2 q3 q4 => hR h' tk fs' q1 q2 q3 fun b' o hb hb' e => q4 b' o hb hb' ?_⟩
    · obtain ⟨o, e, r⟩ := hI₁
      exact ⟨o, (hs₂.2 I (Ne.symm hSI)).trans e, r⟩
    · exact (hl.extBut hs₁.extBut hlI).extBut hs₂.extBut (Ne.symm hSl)
    · rw [a2, hmem, List.take_add_one, List.getElem?_eq_getElem hlt, List.mem_append, Option.toList_some, List.mem_singleton, or_comm]
    · exact (hs₂.2 b' hb).trans ((hs₁.2 b' hb').trans e)
theorem set_new_W (a : Value) {Q₁ : Value → Shared → Prop} (h : Q₁ (.ref s.heap.objs.size) { s with heap := s.heap.push (setO w #[] 0 #[]) }) :
    codeAny (model prog w) A (.call (.builtin "set.__new__") ⟨[.type "set", a], []⟩) (wants Q₁ E) s := by
  refine codeAny_of_tree ?_
  show wpAny _ A.in1 (do checkBuiltinCall "set.__new__" ⟨[.type "set", a], []⟩; again (.builtin "set.__new__" ⟨[.type "set", a], []⟩)) _ _ s
  refine wpAny_bind (wpAny_of_eq (PySem.F.newCall_set_1 a) (wpAny_pure ⟨plainId_quiet PySem.F.plain_set_new _, codeAny_builtin PySem.F.entry_set_new ?_⟩))
  rw [Around.under_plainId PySem.F.plain_set_new _]
  unfold Builtin.«set.__new__» Builtin.Frozenset.newClass
  have hsub := sub_set_self
  obtain ⟨hp, g, d, tk, os⟩ := s
  dsimp only at h ⊢
  wp_walk
  refine wpAny_askSetting (wpAny_pure ?_)
  dsimp only
  simp only [newObj]
  refine wpAny_bind (wpAny_alloc (wpAny_pure ?_))
  exact wpAny_pure h
theorem set_of_list {l : Addr} {items : Array Value} {ns : List Nat} {Q : Value → Shared → Prop} (hh : A.handled = none) (hl : s.heap.IsList l items) (hi : ∀ (i n : Nat), ns[i]? = some n → ∃ t : Tok, items[i]? = some (Value.int (n : Int) t)) (hz : items.size = ns.length)
    (h32 : ∀ n ∈ ns, n < 32) (h2 : ns.length ≤ 2)
    (h : ∀ h' tk fs, SetIs w h' s.heap.objs.size fs → fs.Nodup → (∀ x, x ∈ fs ↔ x ∈ ns) → (∀ b o, b < s.heap.objs.size → s.heap.get? b = some o → h'.get? b = some o) → Q (.ref s.heap.objs.size) { s with heap := h', toks := tk }) :
    wpAny (model prog w) A (call (.type "set") [.ref l]) Q E s := by
  obtain ⟨c, tl, hmro⟩ := PySem.F.called_set.mro
  have hmade := PySem.F.called_set.made
  have hsub := PySem.F.called_set.sub
  refine wpAny_call (codeAny_of_tree ?_)
  show wpAny _ _ (callAny (.type "set") _) _ _ _
  refine wpAny_pure ⟨Code.quiet_builtin _ (by decide +kernel), codeAny_builtin PySem.F.entry_type_call ?_⟩
  rw [Around.under_plain (weight_type_call_type "set" [.ref l] []) rfl]
  have h1 := PySem.F.called_set.notType
  have hcan := PySem.F.called_set.canCreate
  have hct := PySem.F.typeCall_set_1 (.ref l)
  repeat (any_goals (first | assumption | wp_step))
  refine codeAny_mono (set_new_W (.ref l) (E := E) (Q₁ := fun obj s₁ => obj = .ref s.heap.objs.size ∧ s₁ = { s with heap := s.heap.push (setO w #[] 0 #[]) }) ⟨rfl, rfl⟩) fun r s₁ hr => ?_
  cases r with
  | error e => exact hr
  | ok fl =>
    cases fl with
    | ret obj =>
      obtain ⟨rfl, rfl⟩ := hr
      have hS : (s.heap.push (setO w #[] 0 #[])).get? s.heap.objs.size = some (setO w #[] 0 #[]) := Heap.get?_push_size _ rfl
      have hT : Shared.TypeIs { s with heap := s.heap.push (setO w #[] 0 #[]) } (.ref s.heap.objs.size) "set" := ⟨_, hS, rfl⟩
      have hli := PySem.F.called_set.init.lookup
      have hbi := PySem.F.called_set.init.bind (.ref s.heap.objs.size)
      repeat (any_goals (first | assumption | wp_step))
      refine codeAny_mono (codeAny_call_builtin (R := wants (fun r s₂ => r = .none ∧ ∃ h' tk fs, s₂ = { s with heap := h', toks := tk } ∧ SetIs w h' s.heap.objs.size fs ∧ fs.Nodup ∧ (∀ x, x ∈ fs ↔ x ∈ ns) ∧
          (∀ b o, b < s.heap.objs.size → s.heap.get? b = some o → h'.get? b = some o)) E) PySem.F.called_set.init.plain PySem.F.entry_set_init (check_set_init_1 hT ?_)) fun r₂ s₂ hr₂ => ?_
      · obtain ⟨ol, hol, hcl, nl, hdl⟩ := hl
        obtain ⟨ocls, odict, odata, oslots⟩ := ol
        simp only at hcl hdl
        subst hcl; subst hdl
        have hol' : (s.heap.push (setO w #[] 0 #[])).get? l = some { cls := .type "list", dict := odict, data := .seq items nl, slots := oslots } := Heap.get?_push_of_some _ hol
        have hsls := PySem.F.sub_list_set
        have hslf := PySem.F.sub_list_frozenset
        have hne : (Value.type "list" == Value.type "dict") = false := by decide
        have hl1 : (s.heap.push (setO w #[] 0 #[])).IsList l items := ⟨_, hol', rfl, nl, rfl⟩
        unfold Builtin.«set.__init__» noKeywords Builtin.Frozenset.updateFrom
        generalize hPI : pyIter = PI
        wp_walk
        subst hPI
        refine wpAny_pyIter_list hl1 ?_
        refine wpAny_bind (wpAny_runValue ?_)
        have hlS : l < s.heap.objs.size := Heap.lt_size hol
        have hh3 : A.in1.in1.handled = none := by simp [hh]
        have hI : ∀ {x : Nat}, x ≤ s.heap.objs.size → x ≠ (s.heap.push (setO w #[] 0 #[])).objs.size := fun hx => by rw [Heap.size_push]; omega
        have hget : ((s.heap.push (setO w #[] 0 #[])).push { cls := .type "list_iterator", data := .fields #[.ref l, .int 0 0] }).get? s.heap.objs.size = some (setO w #[] 0 #[]) := Heap.get?_push_of_some _ hS
        refine update_loop_W (ns := ns) (items := items) (l := l) hh3 hi hz h32 h2 (hI (Nat.le_of_lt hlS)) (hI (Nat.le_refl _)) (Nat.ne_of_gt hlS) ns.length 0 _ [] rfl (Nat.zero_le _) ?hI0 ?hl0 ?hS0 (Nat.le_refl _) List.nodup_nil (by simp) ?_
        case hS0 => exact ⟨#[], #[], 0, hget, .nil⟩
        case hI0 => exact ⟨_, Heap.get?_push_size _ rfl, rfl, rfl⟩
        case hl0 => exact hl1.push _
        intro h' tk' fs' hS' hnd hmem hk
        show wpAny _ _ _ _ _ _
        refine wpAny_pure ?_
        show wpAny _ _ (ret Value.none) _ _ _
        refine wpAny_pure ⟨rfl, h', tk', fs', rfl, hS', hnd, hmem, fun b o hb e => hk b o (Nat.ne_of_lt hb) (hI (Nat.le_of_lt hb)) (Heap.get?_push_of_some _ (Heap.get?_push_of_some _ e))⟩
      · cases r₂ with
        | error e => exact hr₂
        | ok fl₂ =>
          cases fl₂ with
          | ret r =>
            obtain ⟨rfl, h', tk, fs, rfl, q1, q2, q3, q4⟩ := hr₂
            repeat (any_goals (first | assumption | wp_step))
            exact h _ _ fs q1 q2 q3 q4
          | _ => exact hr₂.elim
    | _ => exact hr.elim
end
end Mine
namespace Mine
namespace SF
theorem slot_iter : Slot "set" "__iter__" "set.__iter__" :=
  .of (owner := "set") (n := "__iter__") (by rw [typeLookup_type, builtinLookup_eq_fast]; kernel_rfl) (by decide +kernel) (by decide +kernel) (by decide +kernel)
    (by first | exact .inl (by decide +kernel) | exact .inr (by decide +kernel)) (by rw [isSubtype_type]; kernel_rfl)
theorem entry_iter : entryFor table "set.__iter__" = some Builtin.«frozenset.__iter__» :=
  entryFor_alias (id' := "frozenset.__iter__") (by kernel_rfl) rfl (by decide +kernel) (by kernel_rfl)
theorem owner_set : Manifest.owners.lookup (String.ofList ['t', 'e', 's'].reverse) = some Manifest.sig_set := by kernel_rfl
theorem args_iter (a : Value) : argsOk "set.__iter__" ⟨[a], []⟩ := by
  unfold argsOk; rw [signature?_of (id := "set.__iter__") (n := ['_', '_', 'r', 'e', 't', 'i', '_', '_']) (o := ['t', 'e', 's']) (by kernel_rfl) owner_set]; kernel_rfl
theorem slot_next : Slot "set_iterator" "__next__" "set_iterator.__next__" :=
  .of (owner := "set_iterator") (n := "__next__") (by rw [typeLookup_type, builtinLookup_eq_fast]; kernel_rfl) (by decide +kernel) (by decide +kernel) (by decide +kernel)
    (by first | exact .inl (by decide +kernel) | exact .inr (by decide +kernel)) (by rw [isSubtype_type]; kernel_rfl)
theorem entry_next : entryFor table "set_iterator.__next__" = some Builtin.«set_iterator.__next__» := entryFor_of_tree (by kernel_rfl)
theorem owner_it : Manifest.owners.lookup (String.ofList ['r', 'o', 't', 'a', 'r', 'e', 't', 'i', '_', 't', 'e', 's'].reverse) = some Manifest.sig_set_iterator := by kernel_rfl
theorem args_next (a : Value) : argsOk "set_iterator.__next__" ⟨[a], []⟩ := by
  unfold argsOk; rw [signature?_of (id := "set_iterator.__next__") (n := ['_', '_', 't', 'x', 'e', 'n', '_', '_']) (o := ['r', 'o', 't', 'a', 'r', 'e', 't', 'i', '_', 't', 'e', 's']) (by kernel_rfl) owner_it]; kernel_rfl
theorem slot_self : Slot "set_iterator" "__iter__" "set_iterator.__iter__" :=
  .of (owner := "set_iterator") (n := "__iter__") (by rw [typeLookup_type, builtinLookup_eq_fast]; kernel_rfl) (by decide +kernel) (by decide +kernel) (by decide +kernel)
    (by first | exact .inl (by decide +kernel) | exact .inr (by decide +kernel)) (by rw [isSubtype_type]; kernel_rfl)
theorem entry_self : entryFor table "set_iterator.__iter__" = some Builtin.«dict_keyiterator.__iter__» :=
  entryFor_alias (id' := "dict_keyiterator.__iter__") (by kernel_rfl) rfl (by decide +kernel) (by kernel_rfl)
theorem args_self (a : Value) : argsOk "set_iterator.__iter__" ⟨[a], []⟩ := by
  unfold argsOk; rw [signature?_of (id := "set_iterator.__iter__") (n := ['_', '_', 'r', 'e', 't', 'i', '_', '_']) (o := ['r', 'o', 't', 'a', 'r', 'e', 't', 'i', '_', 't', 'e', 's']) (by kernel_rfl) owner_it]; kernel_rfl
theorem slot_len : Slot "set" "__len__" "set.__len__" :=
  .of (owner := "set") (n := "__len__") (by rw [typeLookup_type, builtinLookup_eq_fast]; kernel_rfl) (by decide +kernel) (by decide +kernel) (by decide +kernel)
    (by first | exact .inl (by decide +kernel) | exact .inr (by decide +kernel)) (by rw [isSubtype_type]; kernel_rfl)
end SF
section
variable {prog : Program} {w : World} {A : Around} {E : Value → Shared → Prop} {s : Shared}
theorem hint_set {r : Addr} {Q : Bool → Shared → Prop} (hT : s.TypeIs (.ref r) "set") (h : Q false s) : wpAny (model prog w) A (Builtin.List.listLengthHint (.ref r)) Q E s := by
  unfold Builtin.List.listLengthHint
  refine wpAny_bind (wpAny_specialOf hT SF.slot_len.lookup ?_)
  generalize hid : ("set.__len__" : String) = id0
  wp_delta
  rw [show splitId id0 = some ("set", "__len__") from by subst hid; decide +kernel]
  subst hid
  refine wpAny_bind (wpAny_isInstance (T := "set") (b := true) hT (by rw [isSubtype_type]; kernel_rfl) ?_)
  refine wpAny_ite_split (fun hab => absurd hab (by decide)) (fun _ => ?_)
  refine wpAny_ite_split (fun _ => ?_) (fun hab => absurd (by decide +kernel) hab)
  refine wpAny_bind (wpAny_typeOf hT ?_)
  exact wpAny_pure h
noncomputable def ord (w : World) (a : Addr) (ep : Nat) (es : Array (Int × Value)) : Array (Int × Value) := if bt w then pickOrder (w.params.setOrder a ep) es else es
noncomputable def slotAt (w : World) (ps : Array Nat) (i : Nat) : Nat := if bt w = true then 0 else if i = 0 then 0 else ps.getD (i - 1) 0 + 1
theorem ord_perm {es : Array (Int × Value)} {ps : Array Nat} {ns : List Nat} {a : Addr} {ep : Nat} (h : Sh es ps ns) : (ord w a ep es).toList.Perm es.toList := by
  unfold ord
  split
  · cases h with
    | nil => exact List.Perm.refl _
    | one x t _ => simp [pickOrder, pickOrder.go, Nat.mod_one]
    | two x y tx ty p q _ _ _ =>
      have hm : w.params.setOrder a ep 0 % 2 = 0 ∨ w.params.setOrder a ep 0 % 2 = 1 := by omega
      rcases hm with hm | hm
      · simp [pickOrder, pickOrder.go, hm, Nat.mod_one]
      · simp [pickOrder, pickOrder.go, hm, Nat.mod_one]; exact List.Perm.swap ..
  · exact List.Perm.refl _
theorem byText_W {Q : Bool → Shared → Prop} (h : Q (bt w) s) : wpAny (model prog w) A setsByText Q E s := by
  unfold setsByText
  exact wpAny_bind (wpAny_askSetting (wpAny_pure h))
theorem setWalk_text {a : Addr} {es : Array (Int × Value)} {ep : Nat} {ps : Array Nat} {ns : List Nat} {Q : Array (Int × Value) → Shared → Prop} (ho : s.heap.get? a = some (setO w es ep ps)) (hs : Sh es ps ns) (hb : bt w = true) (h : Q (ord w a ep es) s) :
    wpAny (model prog w) A (setWalk a) Q E s := by
  unfold setWalk
  refine wpAny_bind (wpAny_setState_of ho rfl (hs.fits) ?_)
  dsimp only
  refine wpAny_bind (byText_W ?_)
  rw [hb]
  simp only [if_true]
  refine wpAny_bind (wpAny_askSetting (wpAny_pure ?_))
  unfold ord at h
  rw [if_pos hb] at h
  exact h
theorem setNext_W {a : Addr} {es : Array (Int × Value)} {ep i : Nat} {ps : Array Nat} {ns : List Nat} {Q : Option (Value × Nat) → Shared → Prop} (ho : s.heap.get? a = some (setO w es ep ps)) (hs : Sh es ps ns) (hi : i ≤ ns.length)
    (h : Q (((ord w a ep es)[i]?).map fun e => (e.2, slotAt w ps (i + 1))) s) : wpAny (model prog w) A (setNext a (slotAt w ps i) i ep) Q E s := by
  unfold setNext
  refine wpAny_bind (wpAny_setState_of ho rfl (hs.fits) ?_)
  dsimp only
  refine wpAny_bind (byText_W ?_)
  cases hb : bt w with
  | true =>
    simp only [if_true]
    rw [if_neg (by simp)]
    refine wpAny_bind (setWalk_text ho hs hb (wpAny_pure ?_))
    have e0 : slotAt w ps i = 0 := by simp [slotAt, hb]
    have e1 : slotAt w ps (i + 1) = 0 := by simp [slotAt, hb]
    rw [e1] at h; rw [e0]; exact h
  | false =>
    simp only [Bool.false_eq_true, if_false]
    have eo : ord w a ep es = es := by simp [ord, hb]
    rw [eo] at h
    refine wpAny_ite_split (fun hab => absurd (show false = true from hab) (by decide)) (fun _ => ?_)
    refine wpAny_bind (m := (if (!(tab (!false) ps).led && !es.isEmpty) = true then unsupported "set:maker-not-led" else pure () : Sem Unit)) ?_
    rw [if_neg (by simp [tab, SetTable.fresh])]
    refine wpAny_pure (wpAny_pure ?_)
    have hp : (tab (!false) ps).place = ps := rfl
    rw [hp]
    cases hs with
    | nil =>
      have : i = 0 := by simpa using hi
      subst this
      exact h
    | one x t _ =>
      have : i = 0 ∨ i = 1 := by have : i ≤ 1 := hi; omega
      rcases this with rfl | rfl
      · simpa [slotAt, hb, SetTable.below, SetTable.below.go] using h
      · simpa [slotAt, hb, SetTable.below, SetTable.below.go] using h
    | two x y tx ty p q hpq _ _ =>
      have : i = 0 ∨ i = 1 ∨ i = 2 := by have : i ≤ 2 := hi; omega
      have h1 : ¬ q < p + 1 := by omega
      rcases this with rfl | rfl | rfl
      · simpa [slotAt, hb, SetTable.below, SetTable.below.go] using h
      · simpa [slotAt, hb, SetTable.below, SetTable.below.go, h1] using h
      · simpa [slotAt, hb, SetTable.below, SetTable.below.go] using h
end
end Mine
namespace Mine
noncomputable def setItO (w : World) (a n i ep : Nat) (ps : Array Nat) : Obj := { cls := .type "set_iterator", data := .fields #[rawInt (slotAt w ps i : Nat), rawInt (i : Nat), .ref a, rawInt (n : Nat), rawInt (ep : Nat)] }
section
variable {prog : Program} {w : World} {A : Around} {E : Value → Shared → Prop} {s : Shared}
theorem iter_set {a : Addr} {es : Array (Int × Value)} {ep : Nat} {ps : Array Nat} {ns : List Nat} {Q : Value → Shared → Prop} (ho : s.heap.get? a = some (setO w es ep ps)) (hs : Sh es ps ns)
    (h : Q (.ref s.heap.objs.size) { s with heap := s.heap.push (setItO w a ns.length 0 ep ps) }) : wpAny (model prog w) A (pyIter (.ref a)) Q E s := by
  have hT : s.TypeIs (.ref a) "set" := ⟨_, ho, rfl⟩
  refine wpAny_pyIter_slot hT SF.slot_iter (wpAny_call_entry SF.slot_iter hT SF.entry_iter ?_ (SF.args_iter _))
  unfold Builtin.«frozenset.__iter__»
  refine wpAny_bind (m := Builtin.Frozenset.slot0 _ _) (wpAny_pure ?_)
  unfold Builtin.Frozenset.sizeOf
  refine wpAny_bind (wpAny_bind (wpAny_setEntries_of ho rfl hs.fits (wpAny_pure ?_)))
  unfold setDrawn
  refine wpAny_bind ?_
  refine wpAny_bind (wpAny_setState_of ho rfl hs.fits ?_)
  dsimp only
  refine wpAny_bind (byText_W (wpAny_pure ?_))
  have hd : ∀ (b : Bool), (!b && false) = false := fun b => by cases b <;> rfl
  refine wpAny_ite_split (fun hab => ?_) (fun _ => ?_)
  · exact absurd (show (!bt w && false) = true from hab) (by rw [hd]; decide)
  refine wpAny_bind (wpAny_pure ?_)
  refine wpAny_bind (wpAny_setEpoch_of ho rfl hs.fits ?_)
  refine wpAny_bind (wpAny_newObj_type (wpAny_pure ⟨_, rfl, "set_iterator", _, ⟨_, Heap.get?_push_size _ rfl, rfl⟩, SF.slot_next.lookup, ?_⟩))
  have e0 : slotAt w ps 0 = 0 := by unfold slotAt; split <;> simp
  unfold setItO at h
  rw [e0] at h
  rw [hs.size]
  exact h
theorem next_set {I a : Addr} {es : Array (Int × Value)} {ep i : Nat} {ps : Array Nat} {ns : List Nat} {e : Int × Value} {Q : Option Value → Shared → Prop} (hI : s.heap.get? I = some (setItO w a ns.length i ep ps)) (ho : s.heap.get? a = some (setO w es ep ps)) (hs : Sh es ps ns) (hi : i < ns.length) (he : (ord w a ep es)[i]? = some e)
    (h : ∀ h', h'.get? I = some (setItO w a ns.length (i + 1) ep ps) → Heap.SameBut I s.heap h' → Q (some e.2) { s with heap := h' }) : wpAny (model prog w) A (pyNext (.ref I)) Q E s := by
  have hT : s.TypeIs (.ref I) "set_iterator" := ⟨_, hI, rfl⟩
  unfold pyNext
  refine wpAny_bind (wpAny_attempt (wpAny_callSpecial?_slot (name := Str.ofString "__next__") hT SF.slot_next (wpAny_call_entry SF.slot_next hT SF.entry_next ?_ (SF.args_next _))))
  unfold Builtin.«set_iterator.__next__»
  show wpAny _ _ (fieldsOf (.ref I) >>= _) _ _ s
  refine wpAny_bind (wpAny_fieldsOf hI rfl ?_)
  dsimp only [rawInt]
  refine wpAny_bind (wpAny_setEntries_of ho rfl hs.fits ?_)
  rw [if_neg (by rw [hs.size]; simp)]
  simp only [Int.toNat_natCast]
  refine wpAny_bind (setNext_W ho hs (Nat.le_of_lt hi) ?_)
  rw [he]
  dsimp only [Option.map_some]
  refine wpAny_bind (wpAny_setField_rec hI (by simp) fun h₁ hI₁ hs₁ => ?_)
  refine wpAny_bind (wpAny_setField_rec hI₁ (by simp) fun h₂ hI₂ hs₂ => ?_)
  refine wpAny_pure ⟨_, rfl, ?_⟩
  exact wpAny_pure (h h₂ hI₂ (hs₁.trans hs₂))
theorem end_set {I a : Addr} {es : Array (Int × Value)} {ep : Nat} {ps : Array Nat} {ns : List Nat} {Q : Option Value → Shared → Prop} (hh : A.handled = none) (hI : s.heap.get? I = some (setItO w a ns.length ns.length ep ps)) (ho : s.heap.get? a = some (setO w es ep ps)) (hs : Sh es ps ns)
    (h : ∀ h', Heap.ExtBut I s.heap h' → Q none { s with heap := h' }) : wpAny (model prog w) A (pyNext (.ref I)) Q E s := by
  have hT : s.TypeIs (.ref I) "set_iterator" := ⟨_, hI, rfl⟩
  unfold pyNext
  refine wpAny_bind (wpAny_attempt (wpAny_callSpecial?_slot (name := Str.ofString "__next__") hT SF.slot_next (wpAny_call_entry SF.slot_next hT SF.entry_next ?_ (SF.args_next _))))
  unfold Builtin.«set_iterator.__next__»
  show wpAny _ _ (fieldsOf (.ref I) >>= _) _ _ s
  refine wpAny_bind (wpAny_fieldsOf hI rfl ?_)
  dsimp only [rawInt]
  refine wpAny_bind (wpAny_setEntries_of ho rfl hs.fits ?_)
  rw [if_neg (by rw [hs.size]; simp)]
  simp only [Int.toNat_natCast]
  refine wpAny_bind (setNext_W ho hs (Nat.le_refl _) ?_)
  have hnone : (ord w a ep es)[ns.length]? = none := by
    apply Array.getElem?_eq_none
    rw [← Array.length_toList, (ord_perm hs).length_eq, Array.length_toList, hs.size]
    exact Nat.le_refl _
  rw [hnone]
  dsimp only [Option.map_none]
  refine wpAny_bind (wpAny_setField_rec hI (by simp) fun h₁ hI₁ hs₁ => ?_)
  show wpAny _ _ (newExc (.type "StopIteration") [] >>= _) _ _ _
  refine wpAny_bind ?_
  simp only [newExc, newTuple]
  refine wpAny_bind (wpAny_newObj_type ?_ (by size_fits))
  refine wpAny_bind (m := firstArgMember _ _) (wpAny_of_eq (a := Value.none) (by first | rfl | (simp only [firstArgMember]; rfl)) ?_)
  refine wpAny_newObj_type ?_ (by size_fits)
  simp only [raiseNew]
  refine wpAny_bind (wpAny_handled ?_)
  rw [show A.in1.handled = none from hh]
  refine wpAny_bind (wpAny_pure (wpAny_throw ?_))
  refine wpAny_bind (wpAny_isInstance (T := "StopIteration") (b := true) ⟨_, Heap.get?_push_size _ rfl, rfl⟩ isSubtype_stop ?_)
  exact wpAny_pure (h _ ((hs₁.extBut.push _).push _))
theorem self_set {I a n i ep : Nat} {ps : Array Nat} {Q : Value → Shared → Prop} (hI : s.heap.get? I = some (setItO w a n i ep ps)) (h : Q (.ref I) s) : wpAny (model prog w) A (pyIter (.ref I)) Q E s := by
  have hT : s.TypeIs (.ref I) "set_iterator" := ⟨_, hI, rfl⟩
  refine wpAny_pyIter_slot hT SF.slot_self (wpAny_call_entry SF.slot_self hT SF.entry_self ?_ (SF.args_self _))
  show wpAny _ _ (ret (.ref I)) _ _ s
  exact wpAny_pure ⟨_, rfl, "set_iterator", _, hT, SF.slot_next.lookup, h⟩
end
section
variable {prog : Program} {w : World} {A : Around} {E : Value → Shared → Prop} {s : Shared}
noncomputable def setP (w : World) (a ep : Nat) (es : Array (Int × Value)) (i : Nat) (v : Value) : Prop := ((ord w a ep es)[i]?).map (·.2) = some v
theorem set_walks {I a : Addr} {es : Array (Int × Value)} {ep : Nat} {ps : Array Nat} {ns : List Nat} (hh : A.handled = none) (hne : a ≠ I) (hs : Sh es ps ns) :
    Walks prog w A I [I, a] [I] ns.length (setP w a ep es) (fun i h => h.get? I = some (setItO w a ns.length i ep ps) ∧ h.get? a = some (setO w es ep ps)) where
  sub := fun b hb => by rw [List.mem_singleton.mp hb]; exact List.mem_cons_self
  frame := fun i h h' st hk => ⟨hk I List.mem_cons_self _ st.1, hk a (List.mem_cons_of_mem _ List.mem_cons_self) _ st.2⟩
  item := fun i s Q E hi st hQ => by
    have hlen : i < (ord w a ep es).size := by rw [← Array.length_toList, (ord_perm hs).length_eq, Array.length_toList, hs.size]; exact hi
    have he : (ord w a ep es)[i]? = some (ord w a ep es)[i] := Array.getElem?_eq_getElem hlen
    refine next_set st.1 st.2 hs hi he fun h' hI' hs' => ?_
    exact hQ _ h' s.toks (by unfold setP; rw [he]; rfl) ⟨hI', (hs'.2 a hne).trans st.2⟩ fun b o hb e => (hs'.2 b (fun q => hb (List.mem_singleton.mpr q))).trans e
  done := fun s Q E st hQ => end_set hh st.1 st.2 hs fun h' he => hQ h' s.toks fun b o hb e => he b o (fun q => hb (List.mem_singleton.mpr q)) e
  self := fun i s Q E st hQ => self_set st.1 hQ
theorem kdl_set {a : Addr} {es : Array (Int × Value)} {ep : Nat} {ps : Array Nat} {ns : List Nat} (hs : Sh es ps ns) : KdlSrc prog w "set" a a ns.length (setP w a ep es) (fun h => h.get? a = some (setO w es ep ps)) where
  type := fun _ hm => ⟨_, hm, rfl⟩
  there := fun _ hm => ⟨Heap.lt_size hm, Heap.lt_size hm⟩
  keep := fun _ _ hm hk => hk a (.inl rfl) _ hm
  notList := by decide
  notTuple := by decide
  hint := fun _ _ _ _ hm hq => hint_set ⟨_, hm, rfl⟩ hq
  iter := fun A s hh hm => ⟨_, _, (fun _ _ hq => iter_set hm hs hq), set_walks hh (Nat.ne_of_lt (Heap.lt_size hm)) hs, ⟨Heap.get?_push_size _ rfl, Heap.get?_push_of_some _ hm⟩⟩
noncomputable def intOf : Value → Int
  | .int i _ => i
  | _ => 0
theorem intsOf_of {vs : List Value} {zs : List Int} (h : IntsAre vs zs) : (∀ v ∈ vs, ∃ i t, v = Value.int i t) ∧ zs = vs.map intOf := by
  induction h with
  | nil => exact ⟨fun v hv => by simp at hv, rfl⟩
  | cons n t h ih =>
    refine ⟨fun v hv => ?_, by rw [List.map_cons, ← ih.2]; rfl⟩
    rcases List.mem_cons.mp hv with rfl | hv
    · exact ⟨n, t, rfl⟩
    · exact ih.1 v hv
theorem intsOf_to : ∀ {vs : List Value}, (∀ v ∈ vs, ∃ i t, v = Value.int i t) → IntsAre vs (vs.map intOf)
  | [], _ => .nil
  | v :: r, h => by
    obtain ⟨i, t, rfl⟩ := h v List.mem_cons_self
    exact .cons i t (intsOf_to fun u hu => h u (List.mem_cons_of_mem _ hu))
theorem sorted_set {a : Addr} {h₀ : Heap} {L : Addr} {m : Str → Option Value} {news : List (Addr × Obj)} {ns : List Nat} {Q : Value → Shared → Prop} (hh : A.handled = none) (F : Fr h₀ L s.heap m) (N : News h₀ L s.heap news) (hS : SetIs w s.heap a ns)
    (h : ∀ b vs' c h' tk (ls : List Int), Fr h₀ L h' m → News h₀ L h' ((b, PySem.W.listOf vs'.toArray c) :: news) → (∀ q ∈ news, q.1 < b) → IntsAre vs' ls → ls.Perm (ns.map Int.ofNat) → ls.Pairwise (· ≤ ·) → Q (.ref b) { s with heap := h', toks := tk }) :
    wpAny (model prog w) A (call (.builtin "sorted") [.ref a]) Q E s := by
  obtain ⟨es, ps, ep, ho, hs⟩ := hS
  refine kdu_sorted (kdl_set (ep := ep) hs) hh F N ho (by rw [sizeLine_eq]; cases hs <;> simp) fun b h' tk vs F' N' lt hlen hv => ?_
  have hol : (ord w a ep es).toList.length = ns.length := by rw [(ord_perm hs).length_eq, Array.length_toList, hs.size]
  have hvs : vs = (ord w a ep es).toList.map (·.2) := by
    refine List.ext_getElem? fun j => ?_
    rcases Nat.lt_or_ge j vs.length with q | q
    · have h1 : vs[j]? = some vs[j] := List.getElem?_eq_getElem q
      have h2 := hv j _ h1
      unfold setP at h2
      rw [h1, List.getElem?_map, Array.getElem?_toList, h2]
    · rw [List.getElem?_eq_none q, List.getElem?_eq_none (by rw [List.length_map, hol, ← hlen]; exact q)]
  have key : ∀ (l l' : List (Int × Value)) (zs : List Int), l'.Perm l → IntsAre (l.map (·.2)) zs → ∃ zs', IntsAre (l'.map (·.2)) zs' ∧ zs'.Perm zs := fun l l' zs hp => by
    intro h
    obtain ⟨h1, h2⟩ := intsOf_of h
    refine ⟨(l'.map (·.2)).map intOf, intsOf_to fun v hv => h1 v ((hp.map _).mem_iff.mp hv), ?_⟩
    rw [h2]
    exact (hp.map _).map _
  have hes : IntsAre (es.toList.map (·.2)) (ns.map Int.ofNat) := by
    cases hs with
    | nil => exact .nil
    | one x t _ => exact .cons _ _ .nil
    | two x y tx ty p q _ _ _ => exact .cons _ _ (.cons _ _ .nil)
  obtain ⟨zs, hzs, hpz⟩ := key _ _ _ (ord_perm (w := w) (a := a) (ep := ep) hs) hes
  rw [← hvs] at hzs
  have hb : h'.get? b = some (seqObj "list" vs.toArray 0) := (N' _ List.mem_cons_self).1
  have h64 : vs.length < 64 := by rw [hlen]; cases hs <;> simp
  refine wpAny_call_entry slot_list_sort ⟨_, hb, rfl⟩ entry_list_sort (list_sort_tree hb hzs h64 fun out ls a1 a2 a3 => ⟨_, rfl, ?_⟩) (args_list_sort _)
  obtain ⟨c, hc⟩ := sortedHeap_at (out := out) hb
  have hbl := (N' _ List.mem_cons_self).2
  have old : ∀ d o, d ≠ b → h'.get? d = some o → (sortedHeap h' b vs out).get? d = some o := fun d o hd e => (sortedHeap_old hd (Heap.lt_size e)).trans e
  refine h b out.toList c _ tk ls ⟨F'.ns.at' fun o e => old L o (Ne.symm hbl.1) e, fun d o e => old d o (fun q => by rw [q] at e; rw [hbl.2] at e; cases e) (F'.keep d o e), F'.above⟩ (fun p hp => ?_) lt a1 (a2.trans hpz) a3
  rcases List.mem_cons.mp hp with rfl | hp
  · rw [Array.toArray_toList]; exact ⟨hc, hbl⟩
  · exact ⟨old _ _ (Nat.ne_of_lt (lt p hp)) (N' p (List.mem_cons_of_mem _ hp)).1, (N' p (List.mem_cons_of_mem _ hp)).2⟩
end
end Mine
namespace Mine
inductive V where
  | none | bool (b : Bool) | int (i : Int) | str (x : Str) | ref (a : Addr) | oth (v : Value)
  deriving DecidableEq
noncomputable def er : Value → V
  | .none => .none
  | .bool b => .bool b
  | .int i _ => .int i
  | .str x _ => .str x
  | .ref a => .ref a
  | v => .oth v
theorem er_none {v : Value} (h : er v = .none) : v = .none := by cases v <;> simp_all [er]
theorem er_bool {v : Value} {b : Bool} (h : er v = .bool b) : v = .bool b := by cases v <;> simp_all [er]
theorem er_int {v : Value} {i : Int} (h : er v = .int i) : ∃ t, v = .int i t := by cases v <;> simp_all [er]
theorem er_str {v : Value} {x : Str} (h : er v = .str x) : ∃ t, v = .str x t := by cases v <;> simp_all [er]
theorem er_ref {v : Value} {a : Addr} (h : er v = .ref a) : v = .ref a := by cases v <;> simp_all [er]
theorem er_oth {v u : Value} (h : er v = .oth u) : v = u := by cases v <;> simp_all [er]
inductive Ky where
  | s (x : Str) | i (n : Int)
  deriving DecidableEq
noncomputable def Ky.v : Ky → V
  | .s x => .str x
  | .i n => .int n
inductive MO where
  | tup (vs : List V)
  | lst (g : Nat × Nat) (vs : List V)
  | inst (C : Addr) (fs : List (Str × V))
  | dS (g : Nat × Nat) (f : Str → Option V) (n : Nat)
  | dI (g : Nat × Nat) (f : Int → Option V) (n : Nat)
  | dT (g : Nat × Nat) (f : List Ky → Option V) (n : Nat)
  | sI (is : List Nat)
  | rng (a b : Int)
  | enm (l : Addr)
noncomputable def MO.reg : MO → Nat
  | .lst g _ => g.1
  | .dS g _ _ => g.1
  | .dI g _ _ => g.1
  | .dT g _ _ => g.1
  | _ => 0
noncomputable def MO.fixed : MO → Bool
  | .tup _ => true
  | _ => false
noncomputable abbrev Led := List (Addr × Obj)
noncomputable abbrev MH := Addr → Option MO
noncomputable def upd (H : MH) (a : Addr) (o : MO) : MH := fun x => if x = a then some o else H x
theorem upd_self (H : MH) (a : Addr) (o : MO) : upd H a o a = some o := by simp [upd]
theorem upd_ne {H : MH} {a b : Addr} {o : MO} (h : b ≠ a) : upd H a o b = H b := by simp [upd, h]
noncomputable def Le (H H' : MH) : Prop := ∀ a o, H a = some o → H' a = some o
theorem Le.refl (H : MH) : Le H H := fun _ _ h => h
theorem Le.trans {H₁ H₂ H₃ : MH} (x : Le H₁ H₂) (y : Le H₂ H₃) : Le H₁ H₃ := fun a o h => y a o (x a o h)
theorem le_upd {H : MH} {a : Addr} {o : MO} (h : H a = none) : Le H (upd H a o) := fun b o' e => by
  by_cases hb : b = a
  · rw [hb, h] at e; cases e
  · rw [upd_ne hb]; exact e
structure Wd where
  prog : Program
  w : World
  K : Frag
  p : Program
  loose : List Str
  mean : ExcName → Option Value
  mg : Str → Option Value
  mb : Str → Option Value
  bl : Option (Addr × Array Value) := none
noncomputable abbrev Wd.M (D : Wd) : Model := model D.prog D.w
noncomputable def lk (fs : List (Str × V)) (x : Str) : Option V := match fs with
  | [] => none
  | (k, v) :: r => if x = k then some v else lk r x
noncomputable def FsAre (es : List DictEntry) (fs : List (Str × V)) : Prop := es.length ≤ fs.length ∧ ∀ name, ∃ r, getL name es = some r ∧ r.map er = lk fs name
noncomputable def tupAt (news : Led) (a : Addr) (its : Array Value) : Prop := ∃ o n, (a, o) ∈ news ∧ o.cls = .type "tuple" ∧ o.data = .seq its n
noncomputable def kyIs : Ky → Value → Bool
  | .s x, v => Value.isStrOf x v
  | .i n, v => Value.isInt n v
theorem kyIs_er {k : Ky} {v : Value} (h : kyIs k v = true) : er v = k.v := by
  cases k with
  | s x => obtain ⟨t, rfl⟩ := Value.isStrOf_shape h; rfl
  | i n => obtain ⟨t, rfl⟩ := Value.isInt_shape h; rfl
theorem kyIs_of_er {k : Ky} {v : Value} (h : er v = k.v) : kyIs k v = true := by
  cases k with
  | s x => obtain ⟨t, rfl⟩ := er_str h; simp [kyIs, Value.isStrOf]
  | i n => obtain ⟨t, rfl⟩ := er_int h; simp [kyIs, Value.isInt]
theorem Ky.v_inj {a b : Ky} (h : a.v = b.v) : a = b := by cases a <;> cases b <;> simp_all [Ky.v]
section
variable {prog : Program} {w : World} {A : Around} {E : Value → Shared → Prop} {s : Shared}
theorem eqBool_mixed_si {x : Str} {t : Tok} {n : Int} {u : Tok} {Q : Bool → Shared → Prop} (h : Q false s) : wpAny (model prog w) A (eqBool (.str x t) (.int n u)) Q E s := by
  unfold eqBool
  try with_reducible refine wpAny_holding ?_
  show wpAny _ _ (if (Value.str x t == Value.int n u) = true then _ else _) Q E s
  rw [if_neg (by simp)]
  exact wpAny_bind (EqMixed.eq_str_int (wpAny_truthy_bool h))
theorem eqBool_mixed_is {x : Str} {t : Tok} {n : Int} {u : Tok} {Q : Bool → Shared → Prop} (h : Q false s) : wpAny (model prog w) A (eqBool (.int n u) (.str x t)) Q E s := by
  unfold eqBool
  try with_reducible refine wpAny_holding ?_
  show wpAny _ _ (if (Value.int n u == Value.str x t) = true then _ else _) Q E s
  rw [if_neg (by simp)]
  exact wpAny_bind (EqMixed.eq_int_str (wpAny_truthy_bool h))
end
noncomputable def kyHash (w : World) : Ky → Int
  | .s x => hashStr w x
  | .i n => hashInt n
noncomputable def kyKind (prog : Program) (w : World) : KeyKind prog w Ky where
  is := kyIs
  hash := kyHash w
  inj := fun v a b ha hb => Ky.v_inj ((kyIs_er ha).symm.trans (kyIs_er hb))
  byValue := fun k v h => by
    cases k with
    | s x => obtain ⟨t, rfl⟩ := Value.isStrOf_shape h; rfl
    | i n => obtain ⟨t, rfl⟩ := Value.isInt_shape h; rfl
  pyHash := fun {A E s k v Q} hv h => by
    cases k with
    | s x => exact (strKind prog w).pyHash hv h
    | i n => exact (intKind prog w).pyHash hv h
  eqBool := fun {A E s a b u v Q} hu hv h => by
    cases a with
    | s x =>
      cases b with
      | s y => exact (strKind prog w).eqBool hu hv (by simpa using h)
      | i n =>
        obtain ⟨t, rfl⟩ := Value.isStrOf_shape hu
        obtain ⟨t', rfl⟩ := Value.isInt_shape hv
        exact eqBool_mixed_si (by simpa using h)
    | i m =>
      cases b with
      | s y =>
        obtain ⟨t, rfl⟩ := Value.isInt_shape hu
        obtain ⟨t', rfl⟩ := Value.isStrOf_shape hv
        exact eqBool_mixed_is (by simpa using h)
      | i n => exact (intKind prog w).eqBool hu hv (by simpa using h)
  «strs» := fun k x t v h => by
    cases k with
    | s y => exact (strKind prog w).«strs» y x t v h
    | i n => simp [kyIs, Value.isInt] at h
noncomputable abbrev TK (prog : Program) (w : World) : HeapKind prog w (List Ky) := tupleKind (kyKind prog w)
noncomputable def HO (D : Wd) (news : Led) (H : MH) (a : Addr) : MO → Prop
  | .tup vs => ∃ its, tupAt news a its ∧ its.toList.map er = vs
  | .lst g vs => ∃ its n, (a, listOf its n) ∈ news ∧ its.toList.map er = vs
  | .inst C fs => ∃ d es n, (a, instObj C d) ∈ news ∧ (d, dictOf es n) ∈ news ∧ H d = none ∧ d + 1 = a ∧ FsAre es fs
  | .dS g f k => ∃ (o : Obj) (kvs : List (Str × Value)), (a, o) ∈ news ∧ o.IsDictOf (strKind D.prog D.w) kvs ∧ (∀ x, (valueAt kvs x).map er = f x) ∧ kvs.length ≤ k ∧ (a == sysModules) = false
  | .dI g f k => ∃ (o : Obj) (kvs : List (Int × Value)), (a, o) ∈ news ∧ o.IsDictOf (intKind D.prog D.w) kvs ∧ (∀ x, (valueAt kvs x).map er = f x) ∧ kvs.length ≤ k ∧ (a == sysModules) = false
  | .dT g f k => ∃ (o : Obj) (es : Array DictEntry) (ep : Nat) (xs : List (List Ky × Addr × Value)), (a, o) ∈ news ∧ o.ExactDict ∧ o.data = .dict es ep ∧ es.toList = xs.map (entryOfKey (TK D.prog D.w)) ∧
      (∀ x ∈ xs, (∃ its, tupAt news x.2.1 its ∧ its.toList.map er = x.1.map Ky.v) ∧ (H x.2.1 = none ∨ ∃ vs, H x.2.1 = some (.tup vs))) ∧ (xs.map (·.1)).Nodup ∧ (∀ x, (atKey xs x).map (fun p => er p.2) = f x) ∧ xs.length ≤ k ∧ (a == sysModules) = false
  | .sI is => True ∧ ∃ (o : Obj) (es : Array (Int × Value)) (ep : Nat) (t : Array Nat), (a, o) ∈ news ∧ o = setO D.w es ep t ∧ Sh es t is
  | .rng x y => ∃ o t u v, (a, o) ∈ news ∧ o = { cls := .type "range", data := .fields #[.int x t, .int y u, .int 1 v] }
  | .enm l => ∃ o, (a, o) ∈ news ∧ o.cls = .type "enumerate"
theorem tupAt.mono {news news' : Led} {a : Addr} {its : Array Value} (h : tupAt news a its) (hs : ∀ p ∈ news, p ∈ news') : tupAt news' a its := let ⟨o, n, h1, r⟩ := h; ⟨o, n, hs _ h1, r⟩
theorem HO.mono {D : Wd} {news news' : Led} {H : MH} {a : Addr} {o : MO} (h : HO D news H a o) (hs : ∀ p ∈ news, p ∈ news') : HO D news' H a o := by
  cases o with
  | tup vs => obtain ⟨its, h1, h2⟩ := h; exact ⟨its, h1.mono hs, h2⟩
  | lst g vs => obtain ⟨its, n, h1, h2⟩ := h; exact ⟨its, n, hs _ h1, h2⟩
  | inst C fs => obtain ⟨d, es, n, h1, h2, h3⟩ := h; exact ⟨d, es, n, hs _ h1, hs _ h2, h3⟩
  | dS g f k => obtain ⟨o, kvs, h1, r⟩ := h; exact ⟨o, kvs, hs _ h1, r⟩
  | dI g f k => obtain ⟨o, kvs, h1, r⟩ := h; exact ⟨o, kvs, hs _ h1, r⟩
  | dT g f k =>
    obtain ⟨o, es, ep, xs, h1, h2, h3, h4, h5, h6⟩ := h
    exact ⟨o, es, ep, xs, hs _ h1, h2, h3, h4, fun x hx => ⟨let ⟨its, a, b⟩ := (h5 x hx).1; ⟨its, a.mono hs, b⟩, (h5 x hx).2⟩, h6⟩
  | sI is => obtain ⟨h0, o, es, ep, t, h1, r⟩ := h; exact ⟨h0, o, es, ep, t, hs _ h1, r⟩
  | rng x y => obtain ⟨o, t, u, v, h1, r⟩ := h; exact ⟨o, t, u, v, hs _ h1, r⟩
  | enm l => obtain ⟨o, h1, r⟩ := h; exact ⟨o, hs _ h1, r⟩
noncomputable def updL (news : Led) (a : Addr) (o : Obj) : Led := news.map fun p => if p.1 = a then (a, o) else p
theorem updL_ne {news : Led} {a : Addr} {o : Obj} {p : Addr × Obj} (h : p ∈ news) (hn : p.1 ≠ a) : p ∈ updL news a o := List.mem_map.mpr ⟨p, h, by rw [if_neg hn]⟩
theorem updL_self {news : Led} {a : Addr} {o o' : Obj} (h : (a, o') ∈ news) : (a, o) ∈ updL news a o := List.mem_map.mpr ⟨_, h, by simp⟩
theorem updL_news {h₀ h h' : Heap} {L a : Addr} {news : Led} {o o' : Obj} (N : News h₀ L h news) (hm : (a, o) ∈ news) (hs : Heap.SameBut a h h') (ho : h'.get? a = some o') : News h₀ L h' (updL news a o') := by
  intro p hp
  obtain ⟨q, hq, rfl⟩ := List.mem_map.mp hp
  by_cases e : q.1 = a
  · rw [if_pos e]; exact ⟨ho, (N _ hm).2⟩
  · rw [if_neg e]; exact ⟨(hs.2 _ e).trans (N q hq).1, (N q hq).2⟩
theorem HO.upd {D : Wd} {news : Led} {H : MH} {a b : Addr} {o m m' : MO} {ob : Obj} (h : HO D news H b o) (hb : b ≠ a) (ha : H a = some m) (hf : m.fixed = false) : HO D (updL news a ob) (upd H a m') b o := by
  have key : ∀ {d : Addr}, H d = none → d ≠ a := fun hd e => by rw [e, ha] at hd; cases hd
  have tup : ∀ {c : Addr} {its : Array Value}, c ≠ a → tupAt news c its → tupAt (updL news a ob) c its := fun hc ⟨o, n, h1, r⟩ => ⟨o, n, updL_ne h1 hc, r⟩
  cases o with
  | tup vs => obtain ⟨its, h1, h2⟩ := h; exact ⟨its, tup hb h1, h2⟩
  | lst g vs => obtain ⟨its, n, h1, h2⟩ := h; exact ⟨its, n, updL_ne h1 hb, h2⟩
  | inst C fs => obtain ⟨d, es, n, h1, h2, h3, h4⟩ := h; exact ⟨d, es, n, updL_ne h1 hb, updL_ne h2 (key h3), (upd_ne (key h3)).trans h3, h4⟩
  | dS g f k => obtain ⟨o, kvs, h1, r⟩ := h; exact ⟨o, kvs, updL_ne h1 hb, r⟩
  | dI g f k => obtain ⟨o, kvs, h1, r⟩ := h; exact ⟨o, kvs, updL_ne h1 hb, r⟩
  | dT g f k =>
    obtain ⟨o, es, ep, xs, h1, h2, h3, h4, h5, h6⟩ := h
    refine ⟨o, es, ep, xs, updL_ne h1 hb, h2, h3, h4, fun x hx => ?_, h6⟩
    obtain ⟨⟨its, a1, a2⟩, hn⟩ := h5 x hx
    have hne : x.2.1 ≠ a := by
      rcases hn with e | ⟨vs, e⟩
      · exact key e
      · intro q; rw [q, ha] at e; cases e; cases hf
    exact ⟨⟨its, tup hne a1, a2⟩, by rw [upd_ne hne]; exact hn⟩
  | sI is => obtain ⟨h0, o, es, ep, t, h1, r⟩ := h; exact ⟨h0, o, es, ep, t, updL_ne h1 hb, r⟩
  | rng x y => obtain ⟨o, t, u, v, h1, r⟩ := h; exact ⟨o, t, u, v, updL_ne h1 hb, r⟩
  | enm l => obtain ⟨o, h1, r⟩ := h; exact ⟨o, updL_ne h1 hb, r⟩
theorem mem_updL {news : Led} {a : Addr} {o : Obj} {p : Addr × Obj} (h : p ∈ updL news a o) : p = (a, o) ∨ (p ∈ news ∧ p.1 ≠ a) := by
  obtain ⟨q, hq, rfl⟩ := List.mem_map.mp h
  by_cases e : q.1 = a
  · rw [if_pos e]; exact .inl rfl
  · rw [if_neg e]; exact .inr ⟨hq, e⟩
noncomputable def NoD (news : Led) (H : MH) (b : Addr) : Prop := ∀ a C, (a, instObj C b) ∈ news → H a = none
theorem HO.instOf {D : Wd} {h₀ h : Heap} {L : Addr} {news : Led} {H : MH} {a C b : Addr} {o : MO} (N : News h₀ L h news) (x : HO D news H a o) (hi : (a, instObj C b) ∈ news) : (∃ C fs, o = .inst C fs) ∧ H b = none ∧ ∃ ob, (b, ob) ∈ news := by
  have same : ∀ {ob : Obj}, (a, ob) ∈ news → ob = instObj C b := fun hm => by
    have e1 := (N _ hm).1; have e2 := (N _ hi).1
    rw [e1] at e2; exact Option.some.inj e2
  cases o with
  | tup vs => obtain ⟨its, ⟨o, n, h1, h2, h3⟩, _⟩ := x; rw [same h1] at h2; cases h2
  | lst g vs => obtain ⟨its, n, h1, h2⟩ := x; cases same h1
  | inst C' fs => obtain ⟨d, es, n, h1, h2, h3, h4⟩ := x; have := same h1; cases this; exact ⟨⟨_, _, rfl⟩, h3, _, h2⟩
  | dS g f k => obtain ⟨o, kvs, h1, ⟨_, _, h2, _⟩, _⟩ := x; have := h2.1; rw [same h1] at this; cases this
  | dI g f k => obtain ⟨o, kvs, h1, ⟨_, _, h2, _⟩, _⟩ := x; have := h2.1; rw [same h1] at this; cases this
  | dT g f k => obtain ⟨o, es, ep, xs, h1, h2, _⟩ := x; have := h2.1; rw [same h1] at this; cases this
  | sI is => obtain ⟨h0, o, es, ep, t, h1, h2, _⟩ := x; rw [same h1] at h2; cases h2
  | rng x' y => obtain ⟨o, t, u, v, h1, h2⟩ := x; rw [same h1] at h2; cases h2
  | enm l => obtain ⟨o, h1, h2⟩ := x; rw [same h1] at h2; cases h2
noncomputable def Hp (D : Wd) (h₀ : Heap) (L : Addr) (h : Heap) (H : MH) (hid : Led) : Prop :=
  ∃ news, News h₀ L h news ∧ (∀ p ∈ hid, p ∈ news ∧ H p.1 = none ∧ NoD news H p.1) ∧ ∀ a o, H a = some o → HO D news H a o
section
variable {D : Wd} {h₀ h h' : Heap} {L a : Addr} {H H' : MH} {hid : Led} {m : Str → Option Value}
theorem Hp.hidSub {hid' : Led} (x : Hp D h₀ L h H hid) (hs : ∀ p ∈ hid', p ∈ hid) : Hp D h₀ L h H hid' := by
  obtain ⟨news, N, h1, h2⟩ := x
  exact ⟨news, N, fun p hp => h1 p (hs p hp), h2⟩
theorem Hp.get (x : Hp D h₀ L h H hid) {p : Addr × Obj} (hp : p ∈ hid) : h.get? p.1 = some p.2 := by
  obtain ⟨news, N, h1, _⟩ := x
  exact (N _ (h1 p hp).1).1
theorem Hp.lt (x : Hp D h₀ L h H hid) {o : MO} (ha : H a = some o) : a < h.objs.size := by
  obtain ⟨news, N, h1, h2⟩ := x
  have hin : ∀ {ob : Obj}, (a, ob) ∈ news → a < h.objs.size := fun hm => Heap.lt_size (N _ hm).1
  have z := h2 a o ha
  cases o with
  | tup vs => obtain ⟨its, ⟨o, n, q, _⟩, _⟩ := z; exact hin q
  | lst g vs => obtain ⟨its, n, q, _⟩ := z; exact hin q
  | inst C fs => obtain ⟨d, es, n, q, _⟩ := z; exact hin q
  | dS g f k => obtain ⟨o, kvs, q, _⟩ := z; exact hin q
  | dI g f k => obtain ⟨o, kvs, q, _⟩ := z; exact hin q
  | dT g f k => obtain ⟨o, es, ep, xs, q, _⟩ := z; exact hin q
  | sI is => obtain ⟨h0, o, es, ep, t, q, _⟩ := z; exact hin q
  | rng x y => obtain ⟨o, t, u, v, q, _⟩ := z; exact hin q
  | enm l => obtain ⟨o, q, _⟩ := z; exact hin q
theorem Hp.fresh (x : Hp D h₀ L h H hid) (hb : h.objs.size ≤ a) : H a = none := by
  cases q : H a with
  | none => rfl
  | some o => exact absurd (x.lt q) (Nat.not_lt.mpr hb)
theorem Hp.moved {h₁ : Heap} {L₁ : Addr} (x : Hp D h₀ L h H hid) (hk : ∀ news, News h₀ L h news → News h₁ L₁ h' news) : Hp D h₁ L₁ h' H hid := by
  obtain ⟨news, N, r⟩ := x
  exact ⟨news, hk news N, r⟩
theorem Hp.sameBut (x : Hp D h₀ L h H hid) (hs : Heap.SameBut L h h') : Hp D h₀ L h' H hid := x.moved fun _ N => N.set hs
theorem Hp.push (x : Hp D h₀ L h H hid) (F : Fr h₀ L h m) (o : Obj) (hf : o.isFreed = false) : Hp D h₀ L (h.push o) H hid := x.moved fun _ N p hp => News.push F N o hf p (List.mem_cons_of_mem _ hp)
theorem HO.at {D : Wd} {news : Led} {H : MH} {a : Addr} {o : MO} (h : HO D news H a o) : ∃ ob, (a, ob) ∈ news := by
  cases o with
  | tup vs => obtain ⟨its, ⟨o, n, q, _⟩, _⟩ := h; exact ⟨_, q⟩
  | lst g vs => obtain ⟨its, n, q, _⟩ := h; exact ⟨_, q⟩
  | inst C fs => obtain ⟨d, es, n, q, _⟩ := h; exact ⟨_, q⟩
  | dS g f k => obtain ⟨o, kvs, q, _⟩ := h; exact ⟨_, q⟩
  | dI g f k => obtain ⟨o, kvs, q, _⟩ := h; exact ⟨_, q⟩
  | dT g f k => obtain ⟨o, es, ep, xs, q, _⟩ := h; exact ⟨_, q⟩
  | sI is => obtain ⟨h0, o, es, ep, t, q, _⟩ := h; exact ⟨_, q⟩
  | rng x y => obtain ⟨o, t, u, v, q, _⟩ := h; exact ⟨_, q⟩
  | enm l => obtain ⟨o, q, _⟩ := h; exact ⟨_, q⟩
theorem Hp.none_of {news : Led} (h2 : ∀ a o, H a = some o → HO D news H a o) {b : Addr} (hb : ∀ p ∈ news, p.1 ≠ b) : H b = none := by
  cases q : H b with
  | none => rfl
  | some o => obtain ⟨ob, hm⟩ := (h2 b o q).at; exact absurd rfl (hb _ hm)
theorem Hp.newOf {o : Obj} {mo : MO} {news : Led} {b : Addr} (hmi : ∀ C fs, mo ≠ .inst C fs) (hb : ∀ p ∈ news, p.1 ≠ b) (h1 : ∀ p ∈ hid, p ∈ news ∧ H p.1 = none ∧ NoD news H p.1) (h2 : ∀ a o, H a = some o → HO D news H a o) (N' : News h₀ L h' ((b, o) :: news))
    (hm : HO D ((b, o) :: news) (upd H b mo) b mo) : Hp D h₀ L h' (upd H b mo) hid := by
  refine ⟨(b, o) :: news, N', fun p hp => ⟨List.mem_cons_of_mem _ (h1 p hp).1, ?_, fun a C hm' => ?_⟩, fun a ob ha => ?_⟩
  · rw [upd_ne (hb _ (h1 p hp).1)]; exact (h1 p hp).2.1
  · rcases List.mem_cons.mp hm' with q | q
    · cases q
      obtain ⟨⟨C', fs, q⟩, _⟩ := hm.instOf N' hm'
      exact absurd q (hmi _ _)
    · rw [upd_ne (hb _ q)]; exact (h1 p hp).2.2 a C q
  · by_cases q : a = b
    · subst q; rw [upd_self] at ha; cases ha; exact hm
    · rw [upd_ne q] at ha
      have z := (h2 a ob ha).mono (news' := (b, o) :: news) fun p hp => List.mem_cons_of_mem _ hp
      cases ob with
      | inst C fs =>
        obtain ⟨d, es, n, z1, z2, z3, z4⟩ := h2 a _ ha
        exact ⟨d, es, n, List.mem_cons_of_mem _ z1, List.mem_cons_of_mem _ z2, (upd_ne (hb _ z2)).trans z3, z4⟩
      | dT g f k =>
        obtain ⟨o', es, ep, xs, z1, z2, z3, z4, z5, z6⟩ := h2 a _ ha
        refine ⟨o', es, ep, xs, List.mem_cons_of_mem _ z1, z2, z3, z4, fun y hy => ?_, z6⟩
        obtain ⟨⟨its, a1, a2⟩, hn'⟩ := z5 y hy
        have hne : y.2.1 ≠ b := by obtain ⟨_, _, q1, _⟩ := a1; exact hb _ q1
        exact ⟨⟨its, a1.mono fun p hp => List.mem_cons_of_mem _ hp, a2⟩, by rw [upd_ne hne]; exact hn'⟩
      | _ => exact z
theorem News.ne_size {news : Led} (N : News h₀ L h news) : ∀ p ∈ news, p.1 ≠ h.objs.size := fun p hp => Nat.ne_of_lt (Heap.lt_size (N p hp).1)
theorem Hp.new {o : Obj} {mo : MO} (x : Hp D h₀ L h H hid) (F : Fr h₀ L h m) (hf : o.isFreed = false) (hmi : ∀ C fs, mo ≠ .inst C fs)
    (hm : ∀ news, News h₀ L h news → HO D ((h.objs.size, o) :: news) (upd H h.objs.size mo) h.objs.size mo) : Hp D h₀ L (h.push o) (upd H h.objs.size mo) hid := by
  obtain ⟨news, N, h1, h2⟩ := x
  exact Hp.newOf hmi (News.ne_size N) h1 h2 (News.push F N o hf) (hm news N)
theorem Hp.set {o ob : Obj} {mo mo' : MO} {news : Led} (hmi : ∀ C fs, mo' ≠ .inst C fs) (N : News h₀ L h news) (h1 : ∀ p ∈ hid, p ∈ news ∧ H p.1 = none ∧ NoD news H p.1) (h2 : ∀ a o, H a = some o → HO D news H a o)
    (ha : H a = some mo) (hf : mo.fixed = false) (hm : (a, o) ∈ news) (hs : Heap.SameBut a h h') (ho : h'.get? a = some ob) (hn : HO D (updL news a ob) (upd H a mo') a mo') :
    Hp D h₀ L h' (upd H a mo') hid := by
  have key : ∀ {d : Addr}, H d = none → d ≠ a := fun hd e => by rw [e, ha] at hd; cases hd
  refine ⟨updL news a ob, updL_news N hm hs ho, fun p hp => ⟨updL_ne (h1 p hp).1 (key (h1 p hp).2.1), (upd_ne (key (h1 p hp).2.1)).trans (h1 p hp).2.1, fun b C hm' => ?_⟩, fun b o' hb => ?_⟩
  · rcases mem_updL hm' with q | ⟨q, q'⟩
    · cases q
      obtain ⟨⟨C', fs, q⟩, _⟩ := hn.instOf (updL_news N hm hs ho) hm'
      exact absurd q (hmi _ _)
    · rw [upd_ne q']; exact (h1 p hp).2.2 b C q
  by_cases q : b = a
  · subst q; rw [upd_self] at hb; cases hb; exact hn
  · rw [upd_ne q] at hb; exact (h2 b o' hb).upd q ha hf
end
noncomputable def Amb (D : Wd) (A : Around) (d : Nat) (h₀ : Heap) (L : Addr) : Prop :=
  D.K.In h₀ ∧ Top D.p D.loose D.mean D.mg D.mb h₀ ∧ A.handled = none ∧ A.depth + d < recursionLimit ∧ A.units + 8 * d + 100 < cLine ∧
  ∃ (fe : Env) (outer : List Env) (A₀ : Around) (base : Heap), Below A₀ base outer h₀ ∧ A.frames = some (fe :: outer) ∧ fe.frame = some L ∧ fe.scope.kind = .function ∧ ∀ l its, D.bl = some (l, its) → h₀.IsList l its
noncomputable def VarAt (e : Env) (L : Addr) (m : Str → Option Value) (hid : Led) (x : Str) (v : V) : Prop := ∃ val, er val = v ∧
  ((e.locals = L ∧ e.kindOf x = some .local ∧ m x = some val) ∨
   (∃ c o, (e.kindOf x = some .cell ∨ (e.kindOf x = some .free ∧ (x == ("__classdict__" : Str)) = false)) ∧ e.cells.lookup x = some c ∧ (c, o) ∈ hid ∧ o.data = .cell (some val)) ∨
   (e.kindOf x = some .local ∧ ∃ oC m₂, (e.locals, oC) ∈ hid ∧ LCg.NsObj oC m₂ ∧ m₂ x = some val))
noncomputable def Vr (e : Env) (L : Addr) (m : Str → Option Value) (hid : Led) (ρ : List (Str × V)) : Prop := ∀ x v, lk ρ x = some v → VarAt e L m hid x v
noncomputable def WE (D : Wd) (d : Nat) (e : Env) (ρ : List (Str × V)) (H : MH) {α : Type} (t : Sem α) (P : α → MH → Prop) : Prop :=
  ∀ (A : Around) (h₀ : Heap) (L : Addr) (m : Str → Option Value) (hid : Led) (s : Shared) (Q : α → Shared → Prop), Amb D A d h₀ L → Vr e L m hid ρ → Fr h₀ L s.heap m → Hp D h₀ L s.heap H hid →
    (∀ a H' h' tk', P a H' → Fr h₀ L h' m → Hp D h₀ L h' H' hid → Q a { s with heap := h', toks := tk' }) →
    wpAny (model D.prog D.w) A t Q (fun _ _ => False) s
section
variable {D : Wd} {d : Nat} {e : Env} {ρ : List (Str × V)} {H : MH} {α β : Type}
theorem WE.pure {a : α} {P : α → MH → Prop} (h : P a H) : WE D d e ρ H (Pure.pure a) P :=
  fun _ _ _ _ _ s _ _ _ F X k => wpAny_pure (k a H s.heap s.toks h F X)
theorem WE.mono {t : Sem α} {P P' : α → MH → Prop} (h : WE D d e ρ H t P) (hp : ∀ a H', P a H' → P' a H') : WE D d e ρ H t P' :=
  fun A h₀ L m hid s Q hA hV F X k => h A h₀ L m hid s Q hA hV F X fun a H' h' tk' q => k a H' h' tk' (hp a H' q)
end
noncomputable def EV (D : Wd) (d : Nat) (e : Env) (ρ : List (Str × V)) (H : MH) (x : Expr) (P : V → MH → Prop) : Prop := WE D d e ρ H (eval x e) fun v H' => P (er v) H'
end Mine
namespace Mine
noncomputable def WT (D : Wd) (d : Nat) (H : MH) {α : Type} (t : Sem α) (P : α → MH → Prop) : Prop := WE D d default [] H t P
section
variable {D : Wd} {d : Nat} {e : Env} {ρ : List (Str × V)} {H : MH} {α β : Type}
theorem vr_nil {e : Env} {L : Addr} {m : Str → Option Value} {hid : Led} : Vr e L m hid [] := fun x v h => by simp [lk] at h
theorem WT.we {t : Sem α} {P : α → MH → Prop} (h : WT D d H t P) : WE D d e ρ H t P :=
  fun A h₀ L m hid s Q hA hV F X k => h A h₀ L m hid s Q hA vr_nil F X k
theorem WT.mono {t : Sem α} {P P' : α → MH → Prop} (h : WT D d H t P) (hp : ∀ a H', P a H' → P' a H') : WT D d H t P' := WE.mono h hp
theorem WT.pure {a : α} {P : α → MH → Prop} (h : P a H) : WT D d H (Pure.pure a) P := WE.pure h
theorem WT.toks {t : Sem α} {P : α → MH → Prop} (h : ∀ {A : Around} {s : Shared} {Q : α → Shared → Prop}, A.units < cLine → (∀ a tk, P a H → Q a { s with toks := tk }) → wpAny (model D.prog D.w) A t Q (fun _ _ => False) s) : WT D d H t P :=
  fun A h₀ L m hid s Q hA _ F X k => h (by have := hA.2.2.2.2.1; omega) fun a tk hp => k a H _ tk hp F X
noncomputable def VV (D : Wd) (d : Nat) (H : MH) (t : Sem Value) (P : V → MH → Prop) : Prop := WT D d H t fun v H' => P (er v) H'
noncomputable def BO (D : Wd) (d : Nat) (H : MH) (op : Operator) (a b : V) (P : V → MH → Prop) : Prop := ∀ u v, er u = a → er v = b → VV D d H (binaryOp op u v) P
noncomputable def CO (D : Wd) (d : Nat) (H : MH) (op : CmpOp) (a b : V) (P : V → MH → Prop) : Prop := ∀ u v, er u = a → er v = b → VV D d H (compareOp op u v) P
noncomputable def UO (D : Wd) (d : Nat) (H : MH) (op : UnaryOp) (a : V) (P : V → MH → Prop) : Prop := ∀ u, er u = a → VV D d H (unaryOp op u) P
noncomputable def TR (D : Wd) (d : Nat) (H : MH) (a : V) (P : Bool → MH → Prop) : Prop := ∀ u, er u = a → WT D d H (truthy u) P
noncomputable def GA (D : Wd) (d : Nat) (H : MH) (a : V) (name : Str) (P : V → MH → Prop) : Prop := ∀ u, er u = a → VV D d H (getAttr u name true) P
noncomputable def GM (D : Wd) (d : Nat) (H : MH) (a : V) (name : Str) (P : V → List V → MH → Prop) : Prop := ∀ u pl, er u = a → WT D d H (getMethod u name pl) fun fx H' => P (er fx.1) (fx.2.map er) H'
noncomputable def GI (D : Wd) (d : Nat) (H : MH) (a b : V) (P : V → MH → Prop) : Prop := ∀ u v, er u = a → er v = b → VV D d H (getItem u v) P
noncomputable def SI (D : Wd) (d : Nat) (H : MH) (a b c : V) (P : MH → Prop) : Prop := ∀ u v z, er u = a → er v = b → er z = c → WT D d H (setItem u v z) fun _ H' => P H'
noncomputable def CL (D : Wd) (d : Nat) (H : MH) (f : V) (args : List V) (P : V → MH → Prop) : Prop := ∀ uf us, er uf = f → us.map er = args → VV D d H (call uf us) P
theorem EV.name {x : Str} {pos : Pos} {v : V} {P : V → MH → Prop} (hv : lk ρ x = some v) (h : P v H) (hk : e.scope.kind = .function) (hd : (x == ("__debug__" : Str)) = false) :
    EV D d e ρ H (.Name x pos) P := fun A h₀ L m hid s Q hA hV F X k => by
  obtain ⟨val, hval, hc⟩ := hV x v hv
  have fin : Q val s := k val H s.heap s.toks (by show P (er val) H; rw [hval]; exact h) F X
  rcases hc with ⟨hl, hkd, hm⟩ | ⟨c, o, hkd, hlk, hin, hcell⟩ | ⟨hkd, oC, m₂, hin, hns, hm⟩
  · exact wpAny_Name (wpAny_loadName_local hk hkd (hl ▸ F.ns) hm fin) hd
  · rcases hkd with hkd | ⟨hkd, hcd⟩
    · exact wpAny_Name (wpAny_loadName_cell hk hkd hlk ⟨o, X.get hin, hcell⟩ fin) hd
    · exact wpAny_Name (wpAny_loadName_free hk hkd hlk ⟨o, X.get hin, hcell⟩ fin hcd) hd
  · exact wpAny_Name (wpAny_loadName_local hk hkd (hns.ns (X.get hin)) hm fin) hd
theorem EV.global {x : Str} {pos : Pos} {v : Value} {P : V → MH → Prop} (hn : nsIn D.K mainGlobals x = some (some v)) (h : P (er v) H) (hk : e.scope.kind = .function) (hx : e.kindOf x = some .globalImplicit) (hg : e.globals = mainGlobals)
    (hd : (x == ("__debug__" : Str)) = false) : EV D d e ρ H (.Name x pos) P := fun A h₀ L m hid s Q hA hV F X k =>
  Name_function_global hk hx (loadGlobal_global (by rw [hg]; exact hA.2.1.g.keeps F.keep) (mg_of hA.1 hA.2.1.g hn) (k v H s.heap s.toks h F X)) hd
theorem EV.builtin {x : Str} {pos : Pos} {v : Value} {P : V → MH → Prop} (hn : nsIn D.K mainGlobals x = some none) (hv : bootBuiltins x = some v) (h : P (er v) H) (hk : e.scope.kind = .function) (hx : e.kindOf x = some .globalImplicit) (hg : e.globals = mainGlobals)
    (hb : e.builtins = builtinsNs) (hd : (x == ("__debug__" : Str)) = false) (hm : x ≠ "__name__") : EV D d e ρ H (.Name x pos) P := fun A h₀ L m hid s Q hA hV F X k =>
  Name_function_global hk hx (loadGlobal_builtin (by rw [hg]; exact hA.2.1.g.keeps F.keep) (mg_none_of hA.1 hA.2.1.g hn) (by rw [hb]; exact hA.2.1.b.keeps F.keep) ((hA.2.1.builtins x hm).trans hv) (k v H s.heap s.toks h F X)) hd
theorem EV.cInt {i : Int} {n : Nat} {pos : Pos} {P : V → MH → Prop} (h : P (.int i) H) : EV D d e ρ H (.Constant (.int i) n pos) P :=
  fun A h₀ L m hid s Q hA hV F X k => wpAny_Constant_int (k _ H s.heap _ h F X)
theorem EV.cStr {x : Str} {n : Nat} {pos : Pos} {P : V → MH → Prop} (h : P (.str x) H) : EV D d e ρ H (.Constant (.str x) n pos) P :=
  fun A h₀ L m hid s Q hA hV F X k => by
    rw [eval_Constant]
    exact fun Γ p hΓ => (Sem.wp_cmd_mkText _ _ _ p s x _).mpr (k (.str x s.toks) H s.heap (s.toks + 1) h F X)
theorem EV.cBool {b : Bool} {n : Nat} {pos : Pos} {P : V → MH → Prop} (h : P (.bool b) H) : EV D d e ρ H (.Constant (.bool b) n pos) P :=
  fun A h₀ L m hid s Q hA hV F X k => by rw [eval_Constant]; exact wpAny_pure (k (.bool b) H s.heap s.toks h F X)
theorem EV.cNone {n : Nat} {pos : Pos} {P : V → MH → Prop} (h : P .none H) : EV D d e ρ H (.Constant .none n pos) P :=
  fun A h₀ L m hid s Q hA hV F X k => by rw [eval_Constant]; exact wpAny_pure (k .none H s.heap s.toks h F X)
theorem EV.mono {x : Expr} {P P' : V → MH → Prop} (h : EV D d e ρ H x P) (hp : ∀ v H', P v H' → P' v H') : EV D d e ρ H x P' := WE.mono h fun a H' => hp (er a) H'
noncomputable def EVL (D : Wd) (d : Nat) (e : Env) (ρ : List (Str × V)) : MH → List Expr → (List V → MH → Prop) → Prop
  | H, [], P => P [] H
  | H, x :: r, P => EV D d e ρ H x fun v H' => EVL D d e ρ H' r fun vs H'' => P (v :: vs) H''
theorem EVL.mono : ∀ {es : List Expr} {H : MH} {P P' : List V → MH → Prop}, EVL D d e ρ H es P → (∀ vs H', P vs H' → P' vs H') → EVL D d e ρ H es P'
  | [], _, _, _, h, hp => hp _ _ h
  | _ :: _, _, _, _, h, hp => EV.mono h fun _ _ h' => EVL.mono h' fun _ _ h'' => hp _ _ h''
theorem EVL.len : ∀ {es : List Expr} {H : MH} {P : List V → MH → Prop}, EVL D d e ρ H es P → EVL D d e ρ H es fun vs H' => vs.length = es.length ∧ P vs H'
  | [], _, _, h => ⟨rfl, h⟩
  | _ :: _, _, _, h => EV.mono h fun _ _ h' => (EVL.len h').mono fun _ _ h'' => ⟨by simp [h''.1], h''.2⟩
noncomputable def plainX : Expr → Bool
  | .Starred .. => false
  | _ => true
theorem starEach_plain {x : Expr} {r : List Expr} {env : Env} (h : plainX x = true) : starEach (x :: r) env = (false, eval x env) :: starEach r env := by
  cases x <;> first | rfl | cases h
theorem backTo_plain {pos : Pos} {env : Env} : ∀ {es : List Expr}, (es.all plainX) = true → (backTo pos (starEach es env)).any (·.1) = false
  | [], _ => rfl
  | x :: r, h => by
    have h' := Bool.and_eq_true_iff.mp (by simpa only [List.all_cons] using h)
    rw [starEach_plain h'.1]
    show (false || (backTo pos (starEach r env)).any (·.1)) = false
    rw [backTo_plain h'.2]; rfl
theorem EVL.spliced : ∀ {es : List Expr} {H : MH} {P : List V → MH → Prop} {pos : Pos}, (es.all plainX) = true → EVL D d e ρ H es P → WE D d e ρ H (spliced (backTo pos (starEach es e))) fun vs H' => P (vs.map er) H'
  | [], H, P, pos, _, h => fun A h₀ L m hid s Q hA hV F X k => spliced_none (k [] H s.heap s.toks h F X)
  | x :: r, H, P, pos, hp, h => fun A h₀ L m hid s Q hA hV F X k => by
    have h' := Bool.and_eq_true_iff.mp (by simpa only [List.all_cons] using hp)
    refine spliced_more ?_ (starEach_plain h'.1)
    exact h A h₀ L m hid s _ hA hV F X fun v H' h₁ tk₁ q F₁ X₁ => EVL.spliced h'.2 q A h₀ L m hid _ _ hA hV F₁ X₁ fun vs H'' h₂ tk₂ q₂ F₂ X₂ => k (v :: vs) H'' h₂ tk₂ q₂ F₂ X₂
theorem len_map_er {vs : List Value} {us : List V} (h : vs.map er = us) : vs.length = us.length := by rw [← h, List.length_map]
theorem newTuple_W {vs : List Value} {P : V → MH → Prop} (hsz : vs.length ≤ sizeLine) (h : ∀ a, H a = none → P (.ref a) (upd H a (.tup (vs.map er)))) : VV D d H (newTuple vs) P := fun A h₀ L m hid s Q hA hV F X k =>
  wpAny_newObj_type (k (.ref s.heap.objs.size) _ _ _ (h _ (X.fresh (Nat.le_refl _))) (F.push _) (X.new (mo := .tup (vs.map er)) F rfl (by intro _ _ q; cases q) fun news N => ⟨vs.toArray, ⟨_, _, List.mem_cons_self, rfl, rfl⟩, rfl⟩))
    (by show vs.toArray.size ≤ sizeLine; rw [List.size_toArray]; exact hsz)
theorem newList_W (g : Nat × Nat) {vs : List Value} {P : V → MH → Prop} (hsz : vs.length ≤ sizeLine) (h : ∀ a, H a = none → P (.ref a) (upd H a (.lst g (vs.map er)))) : VV D d H (newList vs) P := fun A h₀ L m hid s Q hA hV F X k =>
  wpAny_newObj_type (k (.ref s.heap.objs.size) _ _ _ (h _ (X.fresh (Nat.le_refl _))) (F.push _) (X.new (mo := .lst g (vs.map er)) F rfl (by intro _ _ q; cases q) fun news N => ⟨vs.toArray, 0, List.mem_cons_self, rfl⟩))
    (by show vs.toArray.size ≤ sizeLine; rw [List.size_toArray]; exact hsz)
theorem EV.tuple {es : List Expr} {n : Nat} {pos : Pos} {P : V → MH → Prop} (h : EVL D d e ρ H es fun vs H' => ∀ a, H' a = none → P (.ref a) (upd H' a (.tup vs))) (hp : (es.all plainX) = true) (hz : es.length ≤ 1000) : EV D d e ρ H (.Tuple es n pos) P :=
  fun A h₀ L m hid s Q hA hV F X k => Tuple_ (EVL.spliced hp h.len A h₀ L m hid s _ hA hV F X fun vs H' h' tk' q F' X' =>
    (newTuple_W (by have := q.1; rw [List.length_map] at this; rw [sizeLine_eq]; omega) q.2).we A h₀ L m hid _ Q hA hV F' X' k)
theorem EV.list (g : Nat × Nat) {es : List Expr} {pos : Pos} {P : V → MH → Prop} (h : EVL D d e ρ H es fun vs H' => ∀ a, H' a = none → P (.ref a) (upd H' a (.lst g vs))) (hp : (es.all plainX) = true) (hz : es.length ≤ 1000) : EV D d e ρ H (.List es pos) P :=
  fun A h₀ L m hid s Q hA hV F X k => List_ (EVL.spliced hp h.len A h₀ L m hid s _ hA hV F X fun vs H' h' tk' q F' X' =>
    (newList_W g (by have := q.1; rw [List.length_map] at this; rw [sizeLine_eq]; omega) q.2).we A h₀ L m hid _ Q hA hV F' X' k)
theorem EV.bin {l r : Expr} {op : Operator} {pos : Pos} {P : V → MH → Prop} (h : EV D d e ρ H l fun a H₁ => EV D d e ρ H₁ r fun b H₂ => BO D d H₂ op a b P) : EV D d e ρ H (.BinOp l op r pos) P :=
  fun A h₀ L m hid s Q hA hV F X k => wpAny_BinOp (h A h₀ L m hid s _ hA hV F X fun u H₁ h₁ tk₁ q₁ F₁ X₁ => q₁ A h₀ L m hid _ _ hA hV F₁ X₁ fun v H₂ h₂ tk₂ q₂ F₂ X₂ => (q₂ u v rfl rfl).we A h₀ L m hid _ Q hA hV F₂ X₂ k)
theorem EV.cmp {l r : Expr} {op : CmpOp} {pos : Pos} {P : V → MH → Prop} (h : EV D d e ρ H l fun a H₁ => EV D d e ρ H₁ r fun b H₂ => CO D d H₂ op a b P) (hm : behindInMarks op r = false) : EV D d e ρ H (.Compare l [op] [r] pos) P :=
  fun A h₀ L m hid s Q hA hV F X k => wpAny_Compare1 (h A h₀ L m hid s _ hA hV F X fun u H₁ h₁ tk₁ q₁ F₁ X₁ => q₁ A h₀ L m hid _ _ hA hV F₁ X₁ fun v H₂ h₂ tk₂ q₂ F₂ X₂ => (q₂ u v rfl rfl).we A h₀ L m hid _ Q hA hV F₂ X₂ k) hm
theorem EV.un {x : Expr} {op : UnaryOp} {pos : Pos} {P : V → MH → Prop} (h : EV D d e ρ H x fun a H₁ => UO D d H₁ op a P) : EV D d e ρ H (.UnaryOp op x pos) P :=
  fun A h₀ L m hid s Q hA hV F X k => wpAny_UnaryOp (h A h₀ L m hid s _ hA hV F X fun u H₁ h₁ tk₁ q₁ F₁ X₁ => (q₁ u rfl).we A h₀ L m hid _ Q hA hV F₁ X₁ k)
theorem BO.add {a b : Int} {P : V → MH → Prop} (h : P (.int (a + b)) H) : BO D d H .Add (.int a) (.int b) P := fun u v hu hv => by
  obtain ⟨t, rfl⟩ := er_int hu; obtain ⟨t', rfl⟩ := er_int hv
  exact WT.toks fun _ k => add_int (k _ _ h)
theorem BO.sub {a b : Int} {P : V → MH → Prop} (h : P (.int (a - b)) H) : BO D d H .Sub (.int a) (.int b) P := fun u v hu hv => by
  obtain ⟨t, rfl⟩ := er_int hu; obtain ⟨t', rfl⟩ := er_int hv
  exact WT.toks fun _ k => sub_int (k _ _ h)
theorem BO.mod {a b : Int} {P : V → MH → Prop} (hb : b ≠ 0) (h : P (.int (Int.fmod a b)) H) : BO D d H .Mod (.int a) (.int b) P := fun u v hu hv => by
  obtain ⟨t, rfl⟩ := er_int hu; obtain ⟨t', rfl⟩ := er_int hv
  exact WT.toks fun _ k => mod_int' hb (k _ _ h)
theorem BO.mul {a b : Int} {P : V → MH → Prop} (hab : IntMulOk a b) (h : P (.int (a * b)) H) : BO D d H .Mult (.int a) (.int b) P := fun u v hu hv => by
  obtain ⟨t, rfl⟩ := er_int hu; obtain ⟨t', rfl⟩ := er_int hv
  exact WT.toks fun _ k => mul_int (k _ _ h) hab
theorem UO.neg {a : Int} {P : V → MH → Prop} (h : P (.int (-a)) H) : UO D d H .USub (.int a) P := fun u hu => by
  obtain ⟨t, rfl⟩ := er_int hu
  exact WT.toks fun _ k => neg_int (k _ _ h)
theorem CO.eqInt {a b : Int} {P : V → MH → Prop} (h : P (.bool (a == b)) H) : CO D d H .Eq (.int a) (.int b) P := fun u v hu hv => by
  obtain ⟨t, rfl⟩ := er_int hu; obtain ⟨t', rfl⟩ := er_int hv
  exact WT.toks fun _ k => eq_int (k _ _ h)
theorem CO.neInt {a b : Int} {P : V → MH → Prop} (h : P (.bool (a != b)) H) : CO D d H .NotEq (.int a) (.int b) P := fun u v hu hv => by
  obtain ⟨t, rfl⟩ := er_int hu; obtain ⟨t', rfl⟩ := er_int hv
  exact WT.toks fun _ k => ne_int (k _ _ h)
theorem CO.ltInt {a b : Int} {P : V → MH → Prop} (h : P (.bool (decide (a < b))) H) : CO D d H .Lt (.int a) (.int b) P := fun u v hu hv => by
  obtain ⟨t, rfl⟩ := er_int hu; obtain ⟨t', rfl⟩ := er_int hv
  exact WT.toks fun _ k => lt_int (k _ _ h)
theorem CO.leInt {a b : Int} {P : V → MH → Prop} (h : P (.bool (decide (a ≤ b))) H) : CO D d H .LtE (.int a) (.int b) P := fun u v hu hv => by
  obtain ⟨t, rfl⟩ := er_int hu; obtain ⟨t', rfl⟩ := er_int hv
  exact WT.toks fun _ k => le_int (k _ _ h)
theorem CO.gtInt {a b : Int} {P : V → MH → Prop} (h : P (.bool (decide (b < a))) H) : CO D d H .Gt (.int a) (.int b) P := fun u v hu hv => by
  obtain ⟨t, rfl⟩ := er_int hu; obtain ⟨t', rfl⟩ := er_int hv
  exact WT.toks fun _ k => gt_int (k _ _ h)
theorem CO.geInt {a b : Int} {P : V → MH → Prop} (h : P (.bool (decide (b ≤ a))) H) : CO D d H .GtE (.int a) (.int b) P := fun u v hu hv => by
  obtain ⟨t, rfl⟩ := er_int hu; obtain ⟨t', rfl⟩ := er_int hv
  exact WT.toks fun _ k => ge_int (k _ _ h)
theorem CO.eqStr {a b : Str} {P : V → MH → Prop} (h : P (.bool (a == b)) H) : CO D d H .Eq (.str a) (.str b) P := fun u v hu hv => by
  obtain ⟨t, rfl⟩ := er_str hu; obtain ⟨t', rfl⟩ := er_str hv
  exact WT.toks fun _ k => eq_str (k _ _ h)
theorem CO.eqBool {a b : Bool} {P : V → MH → Prop} (h : P (.bool (a == b)) H) : CO D d H .Eq (.bool a) (.bool b) P := fun u v hu hv => by
  have := er_bool hu; subst this; have := er_bool hv; subst this
  exact WT.toks fun _ k => eq_bool (k _ _ h)
theorem CO.neBool {a b : Bool} {P : V → MH → Prop} (h : P (.bool (a != b)) H) : CO D d H .NotEq (.bool a) (.bool b) P := fun u v hu hv => by
  have := er_bool hu; subst this; have := er_bool hv; subst this
  exact WT.toks fun _ k => ne_bool (k _ _ h)
theorem TR.bool {b : Bool} {P : Bool → MH → Prop} (h : P b H) : TR D d H (.bool b) P := fun u hu => by
  have := er_bool hu; subst this
  exact WT.toks fun _ k => wpAny_truthy_bool (k b _ h)
noncomputable def TS (D : Wd) (d : Nat) (e : Env) (ρ : List (Str × V)) (H : MH) (x : Expr) (P : Bool → MH → Prop) : Prop := ∀ whole, whole = eval x e → WE D d e ρ H (isTrue x e whole) P
theorem TS.plain {x : Expr} {P : Bool → MH → Prop} (h : EV D d e ρ H x fun v H' => TR D d H' v P) (hp : isTrue x e (eval x e) = (do let v ← eval x e; standAt x.pos; holding [v] (truthy v))) : TS D d e ρ H x P :=
  fun whole hw A h₀ L m hid s Q hA hV F X k => by
    subst hw
    exact isTrue_plain (h A h₀ L m hid s _ hA hV F X fun v H' h' tk' q F' X' => (q v rfl).we A h₀ L m hid _ Q hA hV F' X' k) hp
theorem TS.cmp {l r : Expr} {op : CmpOp} {pos : Pos} {P : Bool → MH → Prop} (h : EV D d e ρ H l fun a H₁ => EV D d e ρ H₁ r fun b H₂ => CO D d H₂ op a b fun c H₃ => TR D d H₃ c P) (hm : behindInMarks op r = false) : TS D d e ρ H (.Compare l [op] [r] pos) P :=
  fun whole hw A h₀ L m hid s Q hA hV F X k => wpAny_isTrue_Compare1 (h A h₀ L m hid s _ hA hV F X fun u H₁ h₁ tk₁ q₁ F₁ X₁ => q₁ A h₀ L m hid _ _ hA hV F₁ X₁ fun v H₂ h₂ tk₂ q₂ F₂ X₂ =>
    (q₂ u v rfl rfl).we A h₀ L m hid _ _ hA hV F₂ X₂ fun c H₃ h₃ tk₃ q₃ F₃ X₃ => (q₃ c rfl).we A h₀ L m hid _ Q hA hV F₃ X₃ k) hm
theorem TS.not {x : Expr} {pos : Pos} {P : Bool → MH → Prop} (h : TS D d e ρ H x fun b H' => P (!b) H') : TS D d e ρ H (.UnaryOp .Not x pos) P :=
  fun whole hw A h₀ L m hid s Q hA hV F X k => isTrue_not (h _ rfl A h₀ L m hid s _ hA hV F X fun b H' h' tk' q F' X' => k (!b) H' h' tk' q F' X')
theorem TS.orCons {x : Expr} {rest : List Expr} {pos : Pos} {P : Bool → MH → Prop} (h : TS D d e ρ H x fun b H' => if b then P true H' else TS D d e ρ H' (.BoolOp .Or rest pos) P) : TS D d e ρ H (.BoolOp .Or (x :: rest) pos) P :=
  fun whole hw A h₀ L m hid s Q hA hV F X k => by
    refine wpAny_isTrue_BoolOp (wpAny_allTrue_Or_cons (h _ rfl A h₀ L m hid s _ hA hV F X fun b H' h' tk' q F' X' => ?_))
    cases b with
    | true => exact k true H' h' tk' q F' X'
    | false =>
      have q' := q _ rfl A h₀ L m hid { s with heap := h', toks := tk' } Q hA hV F' X' k
      exact q'
theorem TS.orNil {pos : Pos} {P : Bool → MH → Prop} (h : P false H) : TS D d e ρ H (.BoolOp .Or [] pos) P :=
  fun whole hw A h₀ L m hid s Q hA hV F X k => isTrue_or_nil (k false H _ _ h F X)
theorem EV.ifx {t a b : Expr} {pos : Pos} {P : V → MH → Prop} (h : TS D d e ρ H t fun c H' => if c then EV D d e ρ H' a P else EV D d e ρ H' b P) : EV D d e ρ H (.IfExp t a b pos) P :=
  fun A h₀ L m hid s Q hA hV F X k => by
    refine wpAny_IfExp (h _ rfl A h₀ L m hid s _ hA hV F X fun c H' h' tk' q F' X' => ?_)
    cases c with
    | true => exact q A h₀ L m hid _ Q hA hV F' X' k
    | false => exact q A h₀ L m hid _ Q hA hV F' X' k
theorem EV.and2 {a b : Expr} {pos : Pos} {P : V → MH → Prop} (h : EV D d e ρ H a fun v H₁ => TR D d H₁ v fun c H₂ => if c then EV D d e ρ H₂ b P else P v H₂) : EV D d e ρ H (.BoolOp .And [a, b] pos) P :=
  fun A h₀ L m hid s Q hA hV F X k => by
    refine BoolOp_and (h A h₀ L m hid s _ hA hV F X fun v H₁ h₁ tk₁ q F₁ X₁ => (q v rfl).we A h₀ L m hid _ _ hA hV F₁ X₁ fun c H₂ h₂ tk₂ q₂ F₂ X₂ => ?_)
    cases c with
    | true => exact BoolOp_one (q₂ A h₀ L m hid _ Q hA hV F₂ X₂ k)
    | false => exact k v H₂ h₂ tk₂ q₂ F₂ X₂
theorem EV.attr {x : Expr} {name : Str} {pos : Pos} {P : V → MH → Prop} (h : EV D d e ρ H x fun v H' => GA D d H' v name P)
    (he : eval (.Attribute x name pos) e = (do let o ← eval x e; standAt pos.atName; let r ← holding [o] (getAttr o name true); letTemporaryGo x o r; pure r)) : EV D d e ρ H (.Attribute x name pos) P :=
  fun A h₀ L m hid s Q hA hV F X k => Attribute_any_ (h A h₀ L m hid s _ hA hV F X fun v H' h' tk' q F' X' => (q v rfl).we A h₀ L m hid _ Q hA hV F' X' k) he
noncomputable def Fld (D : Wd) (C : Addr) (name : Str) : Prop := plainGet D.K C name = true ∧ hasDictIn D.K C = true ∧ ∃ attr, findIn D.K (.ref C) name = some attr ∧ noGet D.K attr = true
theorem handed_of {v : Value} {x : V} (h : er v = x) (hx : ∀ u, x ≠ .oth u) : handedIn v = true := by
  cases v with
  | builtin i => exact absurd h.symm (hx _)
  | _ => rfl
theorem InstAt.of_hp {h₀ h : Heap} {L a C : Addr} {fs : List (Str × V)} {hid : Led} (X : Hp D h₀ L h H hid) (ha : H a = some (.inst C fs)) : ∃ dd es n, InstAt h a (instObj C dd) C (some (dictOf es n)) ∧ FsAre es fs := by
  obtain ⟨news, N, _, h2⟩ := X
  obtain ⟨dd, es, n, h3, h4, _, h5⟩ := h2 a _ ha
  exact ⟨dd, es, n, ⟨(N _ h3).1, rfl, rfl, (N _ h4).1⟩, h5.2⟩
theorem GA.inst {a C : Addr} {fs : List (Str × V)} {name : Str} {v : V} {P : V → MH → Prop} (ha : H a = some (.inst C fs)) (hc : Fld D C name) (hl : lk fs name = some v) (hv : ∀ u, v ≠ .oth u) (h : P v H) : GA D d H (.ref a) name P := fun u hu => by
  have := er_ref hu; subst this
  exact fun A h₀ L m hid s Q hA hV F X k => by
    obtain ⟨dd, es, n, I, hf⟩ := InstAt.of_hp X ha
    obtain ⟨r, hr, hr'⟩ := hf.2 name
    rw [hl] at hr'
    obtain ⟨val, rfl, hval⟩ : ∃ val, r = some val ∧ er val = v := by cases r with | none => cases hr' | some val => exact ⟨val, rfl, Option.some.inj hr'⟩
    obtain ⟨h1, h2, attr, h3, h4⟩ := hc
    exact get_own F hA.1 I h1 h2 h3 h4 hr (handed_of hval hv) (k val H s.heap _ (by show P (er val) H; rw [hval]; exact h) F X)
noncomputable def okF (D : Wd) : V → Prop
  | .ref a => keepIn D.K (.ref a) = true
  | .oth (.builtin _) => True
  | .oth (.type _) => True
  | _ => False
theorem WE.callWith {uf : Value} {first : List Value} {args : List Expr} {pos : Pos} {P : V → MH → Prop} (ok : okF D (er uf)) (hp : (args.all plainX) = true)
    (h : EVL D d e ρ H args fun vs H' => CL D d H' (er uf) (first.map er ++ vs) P) : WE D d e ρ H (callWith pos uf first (backTo pos (starEach args e)) []) fun v H' => P (er v) H' := fun A h₀ L m hid s Q hA hV F X k => by
  have go : ∀ {args' : List Expr}, args' = args → wpAny (model D.prog D.w) A (spliced (backTo pos (starEach args' e))) (fun vs s₁ => D.K.In s₁.heap ∧ wpAny (model D.prog D.w) A (call uf (first ++ vs)) Q (fun _ _ => False) s₁) (fun _ _ => False) s := fun q => by
    subst q
    exact EVL.spliced hp h A h₀ L m hid s _ hA hV F X fun vs H' h' tk' q F' X' => ⟨hA.1.keeps F'.keep, (q uf (first ++ vs) rfl (by rw [List.map_append])).we A h₀ L m hid _ Q hA hV F' X' k⟩
  have pl : ∀ {x : Expr} {r : List Expr}, args = x :: r → starEach (x :: r) e = (false, eval x e) :: starEach r e ∧ (backTo pos (starEach r e)).any (·.1) = false := fun q => by
    rw [q, List.all_cons, Bool.and_eq_true] at hp
    exact ⟨starEach_plain hp.1, backTo_plain hp.2⟩
  have nil : args = [] → wpAny (model D.prog D.w) A (call uf (first ++ [])) Q (fun _ _ => False) s := fun q => by
    rw [q] at h
    exact (h uf (first ++ []) rfl (by simp)).we A h₀ L m hid s Q hA hV F X k
  cases uf with
  | ref a =>
    cases args with
    | nil => exact callWith_K0 (hA.1.keeps F.keep) ok (nil rfl)
    | cons x r => exact callWith_K (h₀ := h₀) hA.1 ok (go rfl) (pl rfl).1 (pl rfl).2
  | builtin id =>
    cases args with
    | nil => exact callWith_method0 (by simpa using nil rfl)
    | cons x r => exact callWith_method1 (wpAny_mono (go rfl) (fun _ _ q => q.2) fun _ _ q => q) (pl rfl).1 (pl rfl).2
  | type T =>
    cases args with
    | nil => exact PyProof.Rows.callWith_type rfl (evalArgs_nil3 (by simpa using nil rfl))
    | cons x r =>
      rw [(pl rfl).1]
      have g := go rfl
      rw [(pl rfl).1] at g
      exact PyProof.Rows.callWith_type (by show (false || (backTo pos (starEach r e)).any (·.1)) = false; rw [(pl rfl).2]; rfl) (evalArgs_plain (wpAny_mono g (fun _ _ q => q.2) fun _ _ q => q))
  | _ => exact ok.elim
theorem EV.call {f : Expr} {args : List Expr} {pos : Pos} {P : V → MH → Prop} (h : EV D d e ρ H f fun fv H₁ => okF D fv ∧ EVL D d e ρ H₁ args fun vs H₂ => CL D d H₂ fv vs P) (hp : (args.all plainX) = true)
    (he : eval (.Call f args [] pos) e = (do callWith pos (← eval f e) [] (backTo pos (starEach args e)) (backToKw pos (keywordEach [] e)))) : EV D d e ρ H (.Call f args [] pos) P :=
  fun A h₀ L m hid s Q hA hV F X k => Call_ (h A h₀ L m hid s _ hA hV F X fun fv H₁ h₁ tk₁ q F₁ X₁ => WE.callWith (first := []) q.1 hp q.2 A h₀ L m hid _ Q hA hV F₁ X₁ k) he
theorem EV.meth {o : Expr} {name : Str} {apos pos : Pos} {args : List Expr} {P : V → MH → Prop} (h : EV D d e ρ H o fun ov H₁ => GM D d H₁ ov name fun f first H₂ => okF D f ∧ EVL D d e ρ H₂ args fun vs H₃ => CL D d H₃ f (first ++ vs) P) (hp : (args.all plainX) = true) {pl : Sem Bool}
    (he : ∃ pl, eval (.Call (.Attribute o name apos) args [] pos) e = (do let ov ← eval o e; standAt apos.atName; let (f, first) ← holding [ov] (getMethod ov name pl); callWith pos f first (backTo pos (starEach args e)) (backToKw pos (keywordEach [] e)))) : EV D d e ρ H (.Call (.Attribute o name apos) args [] pos) P :=
  fun A h₀ L m hid s Q hA hV F X k => by
    obtain ⟨pl, he⟩ := he
    exact methodCall_KW (pl := pl) (h A h₀ L m hid s _ hA hV F X fun ov H₁ h₁ tk₁ q F₁ X₁ => (q ov pl rfl).we A h₀ L m hid _ _ hA hV F₁ X₁ fun fx H₂ h₂ tk₂ q₂ F₂ X₂ =>
      WE.callWith q₂.1 hp q₂.2 A h₀ L m hid _ Q hA hV F₂ X₂ k) he
noncomputable def Mth (D : Wd) (C : Addr) (name : Str) (f : Addr) : Prop := plainGet D.K C name = true ∧ findIn D.K (.ref C) name = some (some (.ref f)) ∧ isFn D.K (.ref f) = true
theorem GM.inst {a C f : Addr} {fs : List (Str × V)} {name : Str} {P : V → List V → MH → Prop} (ha : H a = some (.inst C fs)) (hc : Mth D C name f) (hl : lk fs name = none) (h : P (.ref f) [.ref a] H) : GM D d H (.ref a) name P := fun u pl hu => by
  have := er_ref hu; subst this
  exact fun A h₀ L m hid s Q hA hV F X k => by
    obtain ⟨dd, es, n, I, hf⟩ := InstAt.of_hp X ha
    obtain ⟨r, hr, hr'⟩ := hf.2 name
    rw [hl] at hr'
    obtain rfl : r = none := by cases r with | none => rfl | some val => cases hr'
    exact method_inst F hA.1 I hc.1 hc.2.1 hc.2.2 hr (k (.ref f, [.ref a]) H s.heap s.toks h F X)
end
end Mine
namespace Mine
inductive FV where
  | next | brk | cont | ret (v : V)
noncomputable def fl : Flow → FV
  | .next => .next
  | .brk => .brk
  | .cont => .cont
  | .ret v => .ret (er v)
noncomputable def CsOk (e : Env) (cs hid : Led) : Prop := cs.map (·.1) = e.cells.map (·.2) ∧ (e.cells.map (·.2)).Nodup ∧ (e.cells.map (·.1)).Nodup ∧ (∀ p ∈ hid, p.1 ∉ e.cells.map (·.2)) ∧ ∀ p ∈ cs, ∃ v, p.2.data = .cell v
noncomputable def WG (D : Wd) (d : Nat) (e : Env) (ρ : List (Str × V)) (H : MH) {α : Type} (t : Sem α) (P : α → List (Str × V) → MH → Prop) : Prop :=
  ∀ (A : Around) (h₀ : Heap) (m : Str → Option Value) (cs hid : Led) (s : Shared) (Q : α → Shared → Prop), Amb D A d h₀ e.locals → CsOk e cs hid → Vr e e.locals m cs ρ → Fr h₀ e.locals s.heap m → Hp D h₀ e.locals s.heap H (cs ++ hid) →
    (∀ a m' cs' ρ' H' h' tk', P a ρ' H' → CsOk e cs' hid → Vr e e.locals m' cs' ρ' → Fr h₀ e.locals h' m' → Hp D h₀ e.locals h' H' (cs' ++ hid) → Q a { s with heap := h', toks := tk' }) →
    wpAny (model D.prog D.w) A t Q (fun _ _ => False) s
section
variable {D : Wd} {d : Nat} {e : Env} {ρ : List (Str × V)} {H : MH} {α β : Type}
theorem VarAt.mono {L : Addr} {m : Str → Option Value} {hid hid' : Led} {x : Str} {v : V} (h : VarAt e L m hid x v) (hs : ∀ p ∈ hid, p ∈ hid') : VarAt e L m hid' x v := by
  obtain ⟨val, h1, h2⟩ := h
  refine ⟨val, h1, ?_⟩
  rcases h2 with q | ⟨c, o, q1, q2, q3, q4⟩ | ⟨q1, oC, m₂, q2, q3⟩
  · exact .inl q
  · exact .inr (.inl ⟨c, o, q1, q2, hs _ q3, q4⟩)
  · exact .inr (.inr ⟨q1, oC, m₂, hs _ q2, q3⟩)
theorem WE.wg {t : Sem α} {P : α → List (Str × V) → MH → Prop} (h : WE D d e ρ H t fun a H' => P a ρ H') : WG D d e ρ H t P :=
  fun A h₀ m cs hid s Q hA hC hV F X k => h A h₀ e.locals m (cs ++ hid) s Q hA (fun x v hx => (hV x v hx).mono fun p hp => List.mem_append_left _ hp) F X fun a H' h' tk' q F' X' => k a m cs ρ H' h' tk' q hC hV F' X'
theorem WT.wg {t : Sem α} {P : α → List (Str × V) → MH → Prop} (h : WT D d H t fun a H' => P a ρ H') : WG D d e ρ H t P := WE.wg (WT.we h)
theorem WG.mono {t : Sem α} {P P' : α → List (Str × V) → MH → Prop} (h : WG D d e ρ H t P) (hp : ∀ a ρ' H', P a ρ' H' → P' a ρ' H') : WG D d e ρ H t P' :=
  fun A h₀ m cs hid s Q hA hC hV F X k => h A h₀ m cs hid s Q hA hC hV F X fun a m' cs' ρ' H' h' tk' q => k a m' cs' ρ' H' h' tk' (hp a ρ' H' q)
theorem WG.names {t : Sem α} {P : α → List (Str × V) → MH → Prop} {ρ₁ : List (Str × V)} (h : WG D d e ρ₁ H t P) (hl : ∀ x v, lk ρ₁ x = some v → lk ρ x = some v) : WG D d e ρ H t P :=
  fun A h₀ m cs hid s Q hA hC hV F X k => h A h₀ m cs hid s Q hA hC (fun x v hx => hV x v (hl x v hx)) F X k
theorem lookup_nodup {l : List (Str × Addr)} (hn : (l.map (·.2)).Nodup) {x y : Str} {c : Addr} (hx : l.lookup x = some c) (hy : l.lookup y = some c) : x = y := by
  induction l with
  | nil => simp at hx
  | cons p r ih =>
    obtain ⟨k, a⟩ := p
    rw [List.map_cons, List.nodup_cons] at hn
    have mem : ∀ {z : Str} {b : Addr}, r.lookup z = some b → b ∈ r.map (·.2) := fun {z b} hz => by
      obtain ⟨l₁, l₂, e, _⟩ := List.lookup_eq_some_iff.mp hz
      rw [e]; simp
    rw [List.lookup_cons] at hx hy
    by_cases hkx : (x == k) = true
    · rw [hkx] at hx
      by_cases hky : (y == k) = true
      · rw [eq_of_beq hkx, eq_of_beq hky]
      · simp only [hky] at hy
        cases hx
        exact absurd (mem hy) hn.1
    · simp only [hkx] at hx
      by_cases hky : (y == k) = true
      · rw [hky] at hy
        cases hy
        exact absurd (mem hx) hn.1
      · simp only [hky] at hy
        exact ih hn.2 hx hy
theorem updL_map {news : Led} {a : Addr} {o : Obj} : (updL news a o).map (·.1) = news.map (·.1) := by
  unfold updL
  rw [List.map_map]
  refine List.map_congr_left fun p _ => ?_
  show (if p.1 = a then (a, o) else p).1 = p.1
  split
  · rename_i h; exact h.symm
  · rfl
theorem storeName_G {x : Str} {val : Value} {P : Unit → List (Str × V) → MH → Prop} (h : P () ((x, er val) :: ρ) H) (hk : e.scope.kind = .function) (hx : e.kindOf x = some .local ∨ (e.kindOf x = some .cell ∧ (e.cells.lookup x).isSome = true)) :
    WG D d e ρ H (storeName e x val) P := fun A h₀ m cs hid s Q hA hC hV F X k => by
  rcases hx with hx | ⟨hx, hs⟩
  · refine wpAny_storeName_local hx F.ns (fun h' hn hs => ?_) (by show (e.scope.kind == .class || (e.scope.kind == .module && e.locals != e.globals)) = false; rw [hk]; rfl)
    refine k () _ cs _ H h' _ h hC (fun y v hy => ?_) (F.set hn hs) (X.sameBut hs)
    unfold lk at hy
    by_cases q : y = x
    · rw [if_pos q] at hy
      cases hy
      exact ⟨val, rfl, .inl ⟨rfl, q ▸ hx, if_pos q⟩⟩
    · rw [if_neg q] at hy
      obtain ⟨u, h1, h2⟩ := hV y v hy
      refine ⟨u, h1, ?_⟩
      rcases h2 with ⟨a, b, c⟩ | h2 | ⟨b, oC, m₂, h3, h4⟩
      · exact .inl ⟨a, b, (if_neg q).trans c⟩
      · exact .inr (.inl h2)
      · exact .inr (.inr ⟨b, oC, m₂, h3, h4⟩)
  · obtain ⟨c, hc⟩ := Option.isSome_iff_exists.mp hs
    obtain ⟨h1, h2, h3, h4, h5⟩ := hC
    have hcm : c ∈ e.cells.map (·.2) := by
      obtain ⟨l₁, l₂, q, _⟩ := List.lookup_eq_some_iff.mp hc
      rw [q]; simp
    obtain ⟨⟨c', o⟩, hin, rfl⟩ := List.mem_map.mp (h1 ▸ hcm)
    dsimp only at hc hcm hin
    obtain ⟨v₀, hv₀⟩ := h5 _ hin
    have X' := X
    obtain ⟨news, N, n1, n2⟩ := X'
    have hcn := n1 (c', o) (List.mem_append_left _ hin)
    refine wpAny_storeName_cell hk hx hc ⟨o, (N _ hcn.1).1, hv₀⟩ fun h' hv hs => ?_
    obtain ⟨o', ho', hd'⟩ := hv
    have hL : c' ≠ e.locals := (N _ hcn.1).2.1
    have hfr : Fr h₀ e.locals h' m := ⟨F.ns.sameBut hs (Ne.symm hL), fun b ob q => (hs.2 b (fun z => by rw [z, (N _ hcn.1).2.2] at q; cases q)).trans (F.keep b ob q), F.above⟩
    have nod : ∀ {b : Addr}, NoD news H b → NoD (updL news c' o') H b := fun hn a C hm => by
      rcases mem_updL hm with q | ⟨q, _⟩
      · cases q; exact hcn.2.1
      · exact hn a C q
    refine k () m (updL cs c' o') _ H h' _ h ⟨updL_map.trans h1, h2, h3, h4, fun p hp => ?_⟩ (fun y v hy => ?_) hfr ⟨updL news c' o', updL_news N hcn.1 hs ho', fun p hp => ?_, fun a ob ha => ?_⟩
    · rcases mem_updL hp with rfl | ⟨q, _⟩
      · exact ⟨_, hd'⟩
      · exact h5 p q
    · unfold lk at hy
      by_cases q : y = x
      · rw [if_pos q] at hy
        cases hy
        exact ⟨val, rfl, .inr (.inl ⟨c', o', .inl (q ▸ hx), q ▸ hc, updL_self hin, hd'⟩)⟩
      · rw [if_neg q] at hy
        obtain ⟨u, g1, g2⟩ := hV y v hy
        refine ⟨u, g1, ?_⟩
        rcases g2 with g2 | ⟨c₂, o₂, w1, w2, w3, w4⟩ | ⟨b, oC, m₂, w3, w4⟩
        · exact .inl g2
        · refine .inr (.inl ⟨c₂, o₂, w1, w2, updL_ne w3 fun z => q ?_, w4⟩)
          dsimp only at z
          rw [z] at w2
          exact lookup_nodup h2 w2 hc
        · refine .inr (.inr ⟨b, oC, m₂, updL_ne w3 fun z => ?_, w4⟩)
          exact hL z.symm
    · rcases List.mem_append.mp hp with hp | hp
      · rcases mem_updL hp with rfl | ⟨q1, q2⟩
        · exact ⟨updL_self hcn.1, hcn.2.1, nod hcn.2.2⟩
        · have z := n1 p (List.mem_append_left _ q1)
          exact ⟨updL_ne z.1 q2, z.2.1, nod z.2.2⟩
      · have z := n1 p (List.mem_append_right _ hp)
        exact ⟨updL_ne z.1 fun q => h4 p hp (q ▸ hcm), z.2.1, nod z.2.2⟩
    · have hne : ∀ {b : Addr} {mb : MO}, H b = some mb → b ≠ c' := fun hb q => by rw [q, hcn.2.1] at hb; cases hb
      have hcell : ∀ {b : Addr} {ob' : Obj}, (b, ob') ∈ news → ob'.data ≠ .cell v₀ → b ≠ c' := fun {b ob'} hb hd q => by
        subst q
        have := N.get hb; rw [N.get hcn.1] at this
        exact hd (by rw [← Option.some.inj this]; exact hv₀)
      have z := n2 a ob ha
      have tup : ∀ {b : Addr} {its : Array Value}, tupAt news b its → tupAt (updL news c' o') b its := fun ⟨o₂, n₂, q1, q2, q3⟩ => ⟨o₂, n₂, updL_ne q1 (hcell q1 (by rw [q3]; intro q; cases q)), q2, q3⟩
      cases ob with
      | tup vs => obtain ⟨its, q1, q2⟩ := z; exact ⟨its, tup q1, q2⟩
      | lst g vs => obtain ⟨its, n, q1, q2⟩ := z; exact ⟨its, n, updL_ne q1 (hne ha), q2⟩
      | inst C fs => obtain ⟨dd, es, n, q1, q2, q3⟩ := z; exact ⟨dd, es, n, updL_ne q1 (hne ha), updL_ne q2 (hcell q2 (by intro q; cases q)), q3⟩
      | dS g f n => obtain ⟨ob', kvs, q1, r⟩ := z; exact ⟨ob', kvs, updL_ne q1 (hne ha), r⟩
      | dI g f n => obtain ⟨ob', kvs, q1, r⟩ := z; exact ⟨ob', kvs, updL_ne q1 (hne ha), r⟩
      | dT g f n =>
        obtain ⟨ob', es, ep, xs, q1, q2, q3, q4, q5, q6⟩ := z
        exact ⟨ob', es, ep, xs, updL_ne q1 (hne ha), q2, q3, q4, fun y hy => ⟨let ⟨its, a1, a2⟩ := (q5 y hy).1; ⟨its, tup a1, a2⟩, (q5 y hy).2⟩, q6⟩
      | sI is => obtain ⟨g0, ob', es, ep, t, q1, r⟩ := z; exact ⟨g0, ob', es, ep, t, updL_ne q1 (hne ha), r⟩
      | rng x y => obtain ⟨ob', t, u, v, q1, r⟩ := z; exact ⟨ob', t, u, v, updL_ne q1 (hne ha), r⟩
      | enm l => obtain ⟨ob', q1, r⟩ := z; exact ⟨ob', updL_ne q1 (hne ha), r⟩
noncomputable def AT (D : Wd) (d : Nat) (e : Env) (ρ : List (Str × V)) (H : MH) (target : Expr) (v : V) (P : List (Str × V) → MH → Prop) : Prop := ∀ u, er u = v → WG D d e ρ H (assign target e u) fun _ => P
noncomputable def okN (e : Env) (x : Str) : Prop := e.kindOf x = some .local ∨ (e.kindOf x = some .cell ∧ (e.cells.lookup x).isSome = true)
theorem AT.name {x : Str} {pos : Pos} {v : V} {P : List (Str × V) → MH → Prop} (h : P ((x, v) :: ρ) H) (hk : e.scope.kind = .function) (hx : okN e x) : AT D d e ρ H (.Name x pos) v P := fun u hu A h₀ m cs hid s Q hA hC hV F X k =>
  PyProof.Rows.assign_Name (storeName_G (P := fun _ => P) (by rw [hu]; exact h) hk hx A h₀ m cs hid s Q hA hC hV F X k)
noncomputable def EX (D : Wd) (d : Nat) (e : Env) (ρ : List (Str × V)) (H : MH) (st : Stmt) (P : FV → List (Str × V) → MH → Prop) : Prop := WG D d e ρ H (exec st e) fun f => P (fl f)
noncomputable def EXS (D : Wd) (d : Nat) (e : Env) (ρ : List (Str × V)) (H : MH) (sts : List Stmt) (P : FV → List (Str × V) → MH → Prop) : Prop := WG D d e ρ H (execs sts e) fun f => P (fl f)
theorem EXS.nil {P : FV → List (Str × V) → MH → Prop} (h : P .next ρ H) : EXS D d e ρ H [] P := fun A h₀ m cs hid s Q hA hC hV F X k => wpAny_execs_nil (k .next m cs ρ H s.heap s.toks h hC hV F X)
@[reducible] noncomputable def seqK (D : Wd) (d : Nat) (e : Env) (rest : List Stmt) (P : FV → List (Str × V) → MH → Prop) : FV → List (Str × V) → MH → Prop := fun f ρ' H' => match f with | .next => EXS D d e ρ' H' rest P | f => P f ρ' H'
@[reducible] noncomputable def retK (P : V → MH → Prop) : FV → List (Str × V) → MH → Prop := fun fv _ H' => match fv with | .ret v => P v H' | _ => P .none H'
@[reducible] noncomputable def loopK (P : FV → List (Str × V) → MH → Prop) (I : List (Str × V) → MH → Prop) : FV → List (Str × V) → MH → Prop := fun f ρ' H' => match f with | .brk => P .next ρ' H' | .ret v => P (.ret v) ρ' H' | _ => I ρ' H'
theorem EXS.cons {st : Stmt} {rest : List Stmt} {P : FV → List (Str × V) → MH → Prop} (h : EX D d e ρ H st (seqK D d e rest P)) : EXS D d e ρ H (st :: rest) P := fun A h₀ m cs hid s Q hA hC hV F X k => by
  refine wpAny_execs_cons (h A h₀ m cs hid s _ hA hC hV F X fun f m' cs' ρ' H' h' tk' q hC' hV' F' X' => ?_)
  cases f with
  | next => exact q A h₀ m' cs' hid _ Q hA hC' hV' F' X' k
  | brk => exact k .brk m' cs' ρ' H' h' tk' q hC' hV' F' X'
  | cont => exact k .cont m' cs' ρ' H' h' tk' q hC' hV' F' X'
  | ret v => exact k (.ret v) m' cs' ρ' H' h' tk' q hC' hV' F' X'
theorem EX.ret {x : Expr} {pos : Pos} {P : FV → List (Str × V) → MH → Prop} (h : EV D d e ρ H x fun v H' => P (.ret v) ρ H') : EX D d e ρ H (.Return (some x) pos) P := fun A h₀ m cs hid s Q hA hC hV F X k =>
  wpAny_Return_some (WE.wg (P := fun (v : Value) ρ' H' => P (.ret (er v)) ρ' H') h A h₀ m cs hid s _ hA hC hV F X fun v => k (.ret v))
theorem EX.assignN {x : Str} {xpos pos : Pos} {value : Expr} {P : FV → List (Str × V) → MH → Prop} (h : EV D d e ρ H value fun v H' => P .next ((x, v) :: ρ) H') (hk : e.scope.kind = .function) (hx : okN e x) (hs : swapsWith value (some (.Name x xpos)) pos.line e = pure false) :
    EX D d e ρ H (.Assign [.Name x xpos] value pos) P := fun A h₀ m cs hid s Q hA hC hV F X k =>
  wpAny_Assign_Name (WE.wg (P := fun (v : Value) ρ' H' => P .next ((x, er v) :: ρ') H') h A h₀ m cs hid s _ hA hC hV F X fun v m' cs' ρ' H' h' tk' q hC' hV' F' X' =>
    storeName_G (P := fun _ => P .next) q hk hx A h₀ m' cs' hid _ _ hA hC' hV' F' X' fun _ => k .next) hs
theorem EX.assignTo {target : Expr} {pos : Pos} {value : Expr} {P : FV → List (Str × V) → MH → Prop} (h : EV D d e ρ H value fun v H' => AT D d e ρ H' target v (P .next))
    (hr : ∀ {M : Model} {A : Around} {E : Value → Shared → Prop} {s : Shared} {Q : Flow → Shared → Prop}, wpAny M A (eval value e) (fun v s₁ => wpAny M A (assign target e v) (fun _ => Q .next) E s₁) E s → wpAny M A (exec (.Assign [target] value pos) e) Q E s) :
    EX D d e ρ H (.Assign [target] value pos) P := fun A h₀ m cs hid s Q hA hC hV F X k =>
  hr (WE.wg (P := fun (v : Value) ρ' H' => AT D d e ρ' H' target (er v) (P .next)) h A h₀ m cs hid s _ hA hC hV F X fun v m' cs' ρ' H' h' tk' q hC' hV' F' X' => q v rfl A h₀ m' cs' hid _ _ hA hC' hV' F' X' fun _ => k .next)
theorem EX.assignSub {o i : Expr} {opos pos : Pos} {value : Expr} {P : FV → List (Str × V) → MH → Prop} (h : EV D d e ρ H value fun v H₁ => EV D d e ρ H₁ o fun ov H₂ => EV D d e ρ H₂ i fun iv H₃ => SI D d H₃ ov iv v fun H₄ => P .next ρ H₄)
    (hs : swapsWith value (some (.Subscript o i opos)) pos.line e = pure false) : EX D d e ρ H (.Assign [.Subscript o i opos] value pos) P := fun A h₀ m cs hid s Q hA hC hV F X k =>
  wpAny_Assign_Subscript (WE.wg (P := fun (v : Value) ρ' H₁ => EV D d e ρ' H₁ o fun ov H₂ => EV D d e ρ' H₂ i fun iv H₃ => SI D d H₃ ov iv (er v) fun H₄ => P .next ρ' H₄) h A h₀ m cs hid s _ hA hC hV F X fun v m₁ cs₁ ρ₁ H₁ h₁ tk₁ q₁ hC₁ hV₁ F₁ X₁ =>
    WE.wg (P := fun (ov : Value) ρ' H₂ => EV D d e ρ' H₂ i fun iv H₃ => SI D d H₃ (er ov) iv (er v) fun H₄ => P .next ρ' H₄) q₁ A h₀ m₁ cs₁ hid _ _ hA hC₁ hV₁ F₁ X₁ fun ov m₂ cs₂ ρ₂ H₂ h₂ tk₂ q₂ hC₂ hV₂ F₂ X₂ =>
      WE.wg (P := fun (iv : Value) ρ' H₃ => SI D d H₃ (er ov) (er iv) (er v) fun H₄ => P .next ρ' H₄) q₂ A h₀ m₂ cs₂ hid _ _ hA hC₂ hV₂ F₂ X₂ fun iv m₃ cs₃ ρ₃ H₃ h₃ tk₃ q₃ hC₃ hV₃ F₃ X₃ =>
        WT.wg (P := fun _ ρ' H₄ => P .next ρ' H₄) (q₃ ov iv v rfl rfl rfl) A h₀ m₃ cs₃ hid _ _ hA hC₃ hV₃ F₃ X₃ fun _ => k .next) hs
theorem EX.ifs {t : Expr} {body orelse : List Stmt} {pos : Pos} {P : FV → List (Str × V) → MH → Prop} (h : TS D d e ρ H t fun c H' => if c then EXS D d e ρ H' body P else EXS D d e ρ H' orelse P) : EX D d e ρ H (.If t body orelse pos) P := fun A h₀ m cs hid s Q hA hC hV F X k => by
  refine wpAny_If (WE.wg (P := fun (c : Bool) ρ' H' => if c then EXS D d e ρ' H' body P else EXS D d e ρ' H' orelse P) (h _ rfl) A h₀ m cs hid s _ hA hC hV F X fun c m' cs' ρ' H' h' tk' q hC' hV' F' X' => ?_)
  cases c with
  | true => exact q A h₀ m' cs' hid _ Q hA hC' hV' F' X' k
  | false => exact q A h₀ m' cs' hid _ Q hA hC' hV' F' X' k
theorem EX.expr {x : Expr} {pos : Pos} {P : FV → List (Str × V) → MH → Prop} (h : EV D d e ρ H x fun v H' => (∀ a, v ≠ .ref a) ∧ P .next ρ H') (hi : interactive e = false) (hs : swapsWith x none pos.line e = pure false) : EX D d e ρ H (.Expr x pos) P := fun A h₀ m cs hid s Q hA hC hV F X k => by
  refine wpAny_Expr (WE.wg (P := fun (v : Value) ρ' H' => (∀ a, er v ≠ .ref a) ∧ P .next ρ' H') h A h₀ m cs hid s _ hA hC hV F X fun v m' cs' ρ' H' h' tk' q hC' hV' F' X' => ?_) hi hs
  have := k .next m' cs' ρ' H' h' tk' q.2 hC' hV' F' X'
  cases v with
  | ref a => exact q.1 a rfl
  | _ => exact this
theorem notedFalse {M : Model} {A : Around} {env : Env} {α : Type} {t : Sem α} {Q : α → Shared → Prop} {E : Value → Shared → Prop} {s : Shared} (h : wpAny M A t Q (fun _ _ => False) s) : wpAny M A t Q E s := wpAny_mono h (fun _ _ x => x) fun _ _ x => x.elim
theorem EX.while {t : Expr} {body : List Stmt} {pos : Pos} {P : FV → List (Str × V) → MH → Prop} (I : Nat → List (Str × V) → MH → Prop) (n : Nat) (h0 : I n ρ H)
    (h : ∀ n ρ' H', I n ρ' H' → ∀ Q : FV → List (Str × V) → MH → Prop, (∀ f ρ₂ H₂, loopK P (fun ρ₃ H₃ => ∃ n', n' < n ∧ I n' ρ₃ H₃) f ρ₂ H₂ → Q f ρ₂ H₂) → TS D d e ρ' H' t fun c H₁ => if c then EXS D d e ρ' H₁ body Q else P .next ρ' H₁) :
    EX D d e ρ H (.While t body [] pos) P := fun A h₀ m cs hid s Q hA hC hV F X k => by
  refine wpAny_While (codeAny_whileLoop (fun n' s' => ∃ m' cs' ρ' H' h' tk', s' = { s with heap := h', toks := tk' } ∧ I n' ρ' H' ∧ CsOk e cs' hid ∧ Vr e e.locals m' cs' ρ' ∧ Fr h₀ e.locals h' m' ∧ Hp D h₀ e.locals h' H' (cs' ++ hid)) ?_ n ⟨m, cs, ρ, H, s.heap, s.toks, rfl, h0, hC, hV, F, X⟩)
  rintro n₁ s₁ ⟨m₁, cs₁, ρ₁, H₁, h₁, tk₁, rfl, i₁, hC₁, hV₁, F₁, X₁⟩
  refine notedFalse (env := e) (WE.wg (P := fun (c : Bool) ρ' H' => if c then EXS D d e ρ' H' body (loopK P fun ρ₃ H₃ => ∃ n', n' < n₁ ∧ I n' ρ₃ H₃) else P .next ρ' H')
    (h n₁ ρ₁ H₁ i₁ _ (fun _ _ _ z => z) _ rfl) A h₀ m₁ cs₁ hid _ _ hA hC₁ hV₁ F₁ X₁ fun c m₂ cs₂ ρ₂ H₂ h₂ tk₂ q₂ hC₂ hV₂ F₂ X₂ => ?_)
  cases c with
  | false => exact wpAny_execs_nil (k .next m₂ cs₂ ρ₂ H₂ h₂ tk₂ q₂ hC₂ hV₂ F₂ X₂)
  | true =>
    refine notedFalse (env := e) (q₂ A h₀ m₂ cs₂ hid _ _ hA hC₂ hV₂ F₂ X₂ fun f m₃ cs₃ ρ₃ H₃ h₃ tk₃ q₃ hC₃ hV₃ F₃ X₃ => ?_)
    cases f with
    | brk => exact k .next m₃ cs₃ ρ₃ H₃ h₃ tk₃ q₃ hC₃ hV₃ F₃ X₃
    | ret v => exact k (.ret v) m₃ cs₃ ρ₃ H₃ h₃ tk₃ q₃ hC₃ hV₃ F₃ X₃
    | next => obtain ⟨n', hn', i'⟩ := q₃; exact ⟨n', hn', m₃, cs₃, ρ₃, H₃, h₃, tk₃, rfl, i', hC₃, hV₃, F₃, X₃⟩
    | cont => obtain ⟨n', hn', i'⟩ := q₃; exact ⟨n', hn', m₃, cs₃, ρ₃, H₃, h₃, tk₃, rfl, i', hC₃, hV₃, F₃, X₃⟩
end
end Mine
namespace Mine
section
variable {D : Wd} {d : Nat} {H : MH}
theorem bindL_out {kindOf : Str → Option NameKind} {y : Str} : ∀ {binds : List (Str × Value)} {m : Str → Option Value}, y ∉ binds.map (·.1) → bindL kindOf binds m y = m y
  | [], _, _ => rfl
  | (n, v) :: r, m, h => by
    rw [List.map_cons, List.mem_cons, not_or] at h
    unfold bindL
    rw [bindL_out h.2]
    by_cases q : kindOf n = some .local
    · rw [if_pos q]; exact if_neg h.1
    · rw [if_neg q]
theorem bindC_out {kindOf : Str → Option NameKind} {y : Str} : ∀ {binds : List (Str × Value)} {m : Str → Option Value}, y ∉ binds.map (·.1) → bindC kindOf binds m y = m y
  | [], _, _ => rfl
  | (n, v) :: r, m, h => by
    rw [List.map_cons, List.mem_cons, not_or] at h
    unfold bindC
    rw [bindC_out h.2]
    by_cases q : kindOf n = some .local
    · rw [if_pos q]
    · rw [if_neg q]; exact if_neg h.1
theorem bindL_in {kindOf : Str → Option NameKind} {y : Str} {v : Value} : ∀ {binds : List (Str × Value)} {m : Str → Option Value}, (binds.map (·.1)).Nodup → (y, v) ∈ binds → kindOf y = some .local → bindL kindOf binds m y = some v
  | (n, u) :: r, m, hn, hm, hk => by
    rw [List.map_cons, List.nodup_cons] at hn
    unfold bindL
    rcases List.mem_cons.mp hm with q | q
    · cases q
      rw [bindL_out hn.1, if_pos hk]; exact if_pos rfl
    · exact bindL_in hn.2 q hk
theorem bindC_in {kindOf : Str → Option NameKind} {y : Str} {v : Value} : ∀ {binds : List (Str × Value)} {m : Str → Option Value}, (binds.map (·.1)).Nodup → (y, v) ∈ binds → kindOf y ≠ some .local → bindC kindOf binds m y = some v
  | (n, u) :: r, m, hn, hm, hk => by
    rw [List.map_cons, List.nodup_cons] at hn
    unfold bindC
    rcases List.mem_cons.mp hm with q | q
    · cases q
      rw [bindC_out hn.1, if_neg hk]; exact if_pos rfl
    · exact bindC_in hn.2 q hk
theorem cellsFrom_addrs : ∀ (names : List (Str × NameKind)) (n : Nat) (acc : List (Str × Addr)), (acc.map (·.2)).Nodup → (∀ c ∈ acc.map (·.2), c < n) → ∀ lo, (∀ c ∈ acc.map (·.2), lo ≤ c) → lo ≤ n →
    ((cellsFrom n names acc).map (·.2)).Nodup ∧ ∀ c ∈ (cellsFrom n names acc).map (·.2), lo ≤ c
  | [], n, acc, h1, h2, lo, h3, h4 => ⟨h1, h3⟩
  | (y, k) :: r, n, acc, h1, h2, lo, h3, h4 => by
    unfold cellsFrom
    by_cases hk : (k == .cell) = true
    · rw [if_pos hk]
      refine cellsFrom_addrs r (n + 1) ((y, n) :: acc) ?_ ?_ lo ?_ (Nat.le_succ_of_le h4)
      · rw [List.map_cons, List.nodup_cons]
        exact ⟨fun q => Nat.lt_irrefl _ (h2 n q), h1⟩
      · intro c hc
        rw [List.map_cons, List.mem_cons] at hc
        rcases hc with rfl | hc
        · exact Nat.lt_succ_self _
        · exact Nat.lt_succ_of_lt (h2 c hc)
      · intro c hc
        rw [List.map_cons, List.mem_cons] at hc
        rcases hc with rfl | hc
        · exact h4
        · exact h3 c hc
    · rw [if_neg hk]
      exact cellsFrom_addrs r n acc h1 h2 lo h3 h4
theorem cellsAre_map {cm : Str → Option Value} : ∀ {cl : List (Str × Addr)} {cells : Led}, CellsAre cm cl cells → cells.map (·.1) = cl.map (·.2)
  | _, _, .nil => rfl
  | _, _, .cons _ r => by rw [List.map_cons, List.map_cons, cellsAre_map r]
theorem cellsAre_cell {cm : Str → Option Value} {cl : List (Str × Addr)} {cells : Led} (h : CellsAre cm cl cells) : ∀ p ∈ cells, ∃ v, p.2.data = .cell v := by
  induction h with
  | nil => intro p hp; cases hp
  | @cons n c o cs cells h _ ih =>
    intro p hp
    rcases List.mem_cons.mp hp with q | q
    · rw [q]; exact ⟨_, h⟩
    · exact ih p q
theorem cellsAre_in {cm : Str → Option Value} {x : Str} {c : Addr} {cl : List (Str × Addr)} {cells : Led} (h : CellsAre cm cl cells) : cl.lookup x = some c → ∃ o, (c, o) ∈ cells ∧ o.data = .cell (cm x) := by
  induction h with
  | nil => intro h; simp at h
  | @cons n c' o cs cells h _ ih =>
    intro hl
    rw [List.lookup_cons] at hl
    by_cases q : (x == n) = true
    · rw [q] at hl
      cases hl
      exact ⟨o, List.mem_cons_self, by rw [eq_of_beq q]; exact h⟩
    · simp only [q] at hl
      obtain ⟨o', h1, h2⟩ := ih hl
      exact ⟨o', List.mem_cons_of_mem _ h1, h2⟩
theorem lk_zip {names : List Str} {x : Str} {v : V} : ∀ {us : List Value}, names.length = us.length → lk (names.zip (us.map er)) x = some v → ∃ u, (x, u) ∈ names.zip us ∧ er u = v := by
  induction names with
  | nil => intro us _ h; simp [lk] at h
  | cons n r ih =>
    intro us hl h
    cases us with
    | nil => simp [lk] at h
    | cons u us =>
      simp only [List.map_cons, List.zip_cons_cons, lk] at h
      by_cases q : x = n
      · rw [if_pos q] at h
        cases h
        exact ⟨u, by rw [q]; exact List.mem_cons_self, rfl⟩
      · rw [if_neg q] at h
        obtain ⟨u', h1, h2⟩ := ih (by simpa using hl) h
        exact ⟨u', List.mem_cons_of_mem _ h1, h2⟩
noncomputable def CC (D : Wd) (d : Nat) (H : MH) (f : V) (args : List V) (P : V → MH → Prop) : Prop := ∀ uf us, er uf = f → us.map er = args →
  ∀ (A : Around) (h₀ : Heap) (L : Addr) (m : Str → Option Value) (hid : Led) (s : Shared) (R : Result → Shared → Prop), Amb D A d h₀ L → Fr h₀ L s.heap m → Hp D h₀ L s.heap H hid →
    (∀ v H' h' tk', P (er v) H' → Fr h₀ L h' m → Hp D h₀ L h' H' hid → R (.ok (.ret v)) { s with heap := h', toks := tk' }) → codeAny (model D.prog D.w) A (.call uf ⟨us, []⟩) R s
theorem CC.cl {f : V} {args : List V} {P : V → MH → Prop} (h : CC D d H f args P) : CL D d H f args P := fun uf us huf hus A h₀ L m hid s Q hA hV F X k =>
  wpAny_call (h uf us huf hus A h₀ L m hid s _ hA F X k)
theorem CC.def {f : Addr} {name qual : Str} {params : Arguments} {body : List Stmt} {scope : Scope} {dV kV doc pm cdv ct oc : Value} {an od : Option Addr} {osl : Array (Option Value)} {args : List V} {P : V → MH → Prop}
    (ho : D.K.lookup f = some ⟨oc, od, .func (fnOf name qual params body scope dV kV doc pm an cdv ct), osl⟩) (hcd : codeIn D.K cdv qual = true) (names : List Str) (hln : names.length = args.length)
    (hbind : ∀ us : List Value, us.length = args.length → bindArgs (fnOf name qual params body scope dV kV doc pm an cdv ct) ⟨us, []⟩ = pure (names.zip us))
    (hkind : (names.all fun y => scope.names.lookup y == some .local || scope.names.lookup y == some .cell) = true) (hnn : names.Nodup)
    (hnd : ((cellsFrom 0 scope.names []).map (·.1)).Nodup) (hco : scope.isCoroutine = false) (hgen : scope.isGenerator = false) (hk : scope.kind = .function)
    (h : ∀ L, EXS D d (envOfC qual scope L f cdv) (names.zip args) H body (retK P)) : CC D (d + 1) H (.ref f) args P := fun uf us huf hus A h₀ L m hid s R hA F X k => by
  have := er_ref huf; subst this
  have hlen : us.length = args.length := len_map_er hus
  obtain ⟨X₀, T, hh, hdep, hun, fe, outer, A₀, base, B, hfr, hL, hfk, hbl⟩ := hA
  obtain ⟨news, N, n1, n2⟩ := X
  have hmn : (names.zip us).map (·.1) = names := by rw [List.map_fst_zip]; omega
  refine code_defC B F X₀ N T hfr hL hfk ho hcd (by omega) (BindsTo.of_eq (hbind us hlen)) ?_ hnd (fun g L' h₁ tk cells FG F' N' Y B' X' T' lt => ?_) hco hgen hk
  · rw [List.all_eq_true]
    intro y hy
    exact List.all_eq_true.mp hkind y.1 (by rw [← hmn]; exact List.mem_map_of_mem hy)
  · have ad := cellsFrom_addrs scope.names (L' + 1) [] List.nodup_nil (fun c hc => by simp at hc) (L' + 1) (fun c hc => by simp at hc) (Nat.le_refl _)
    have hC : CsOk (envOfC qual scope L' f cdv) cells hid := by
      refine ⟨cellsAre_map Y, ad.1, ?_, fun p hp q => ?_, cellsAre_cell Y⟩
      · show ((cellsFrom (L' + 1) scope.names []).map (·.1)).Nodup
        rw [cellsFrom_names scope.names (L' + 1) 0 [] [] rfl]; exact hnd
      · have h1 := lt p (n1 p hp).1
        have h2 := ad.2 _ q
        exact absurd (Nat.lt_of_lt_of_le h1 (Nat.le_of_succ_le h2)) (Nat.lt_irrefl _)
    have hV' : Vr (envOfC qual scope L' f cdv) L' (bindL (envOfC qual scope L' f cdv).kindOf (names.zip us) fun _ => none) cells (names.zip args) := fun x v hx => by
      rw [← hus] at hx
      obtain ⟨u, hu, hv⟩ := lk_zip (by omega) hx
      have hxn : x ∈ names := by rw [← hmn]; exact List.mem_map_of_mem (f := Prod.fst) hu
      have hnz : ((names.zip us).map (·.1)).Nodup := by rw [hmn]; exact hnn
      have hkx := List.all_eq_true.mp hkind x hxn
      refine ⟨u, hv, ?_⟩
      rcases Bool.or_eq_true_iff.mp hkx with q | q
      · have q0 : scope.names.lookup x = some .local := by simpa using q
        have q' : (envOfC qual scope L' f cdv).kindOf x = some .local := q0
        exact .inl ⟨rfl, q', bindL_in hnz hu q'⟩
      · have q2 : scope.names.lookup x = some .cell := by simpa using q
        have q' : (envOfC qual scope L' f cdv).kindOf x = some .cell := q2
        obtain ⟨c, hc⟩ := Option.isSome_iff_exists.mp (cellsFrom_some scope.names (L' + 1) [] (.inl q2))
        obtain ⟨o, h1, h2⟩ := cellsAre_in Y hc
        refine .inr (.inl ⟨c, o, .inl q', hc, h1, ?_⟩)
        rw [h2, bindC_in hnz hu (by rw [q']; intro z; cases z)]
    have hA' : Amb D (A.deeper (envOfC qual scope L' f cdv)) d g L' := by
      refine ⟨X', T', hh, ?_, ?_, envOfC qual scope L' f cdv, fe :: outer, A, base, B', ?_, rfl, hk, fun l its q => ?_⟩
      · show A.depth + 1 + d < recursionLimit; omega
      · show A.units + 3 + 8 * d + 100 < cLine; omega
      · show A.frames.map _ = _; rw [hfr]; rfl
      · obtain ⟨o, ho, r⟩ := hbl l its q
        exact ⟨o, FG.keep _ _ ho, r⟩
    have lo : ∀ p ∈ cells, ∀ {ob : Obj}, (p.1, ob) ∈ news → False := fun p hp ob hm => by
      have lo : L' + 1 ≤ p.1 := ad.2 _ (by rw [← cellsAre_map Y]; exact List.mem_map_of_mem hp)
      exact Nat.lt_irrefl _ (Nat.lt_of_lt_of_le (lt _ hm) (Nat.le_of_succ_le lo))
    have hcell : ∀ p ∈ cells, H p.1 = none := fun p hp => by
      cases q : H p.1 with
      | none => rfl
      | some o => obtain ⟨ob, hm⟩ := (n2 p.1 o q).at; exact (lo p hp hm).elim
    have hX : Hp D g L' h₁ H (cells ++ hid) := by
      refine ⟨cells ++ news, N', fun p hp => ?_, fun a o ha => (n2 a o ha).mono fun p hp => List.mem_append_right _ hp⟩
      rcases List.mem_append.mp hp with hp | hp
      · refine ⟨List.mem_append_left _ hp, hcell p hp, fun a C hm => ?_⟩
        rcases List.mem_append.mp hm with hm | hm
        · exact hcell _ hm
        · cases q : H a with
          | none => rfl
          | some o => obtain ⟨_, _, ob, hm'⟩ := (n2 a o q).instOf N hm; exact (lo p hp hm').elim
      · refine ⟨List.mem_append_right _ (n1 p hp).1, (n1 p hp).2.1, fun a C hm => ?_⟩
        rcases List.mem_append.mp hm with hm | hm
        · exact hcell _ hm
        · exact (n1 p hp).2.2 a C hm
    have fin : ∀ (v : Value) (m' : Str → Option Value) (cs' : Led) (H' : MH) (h' : Heap) (tk' : Nat), P (er v) H' → Fr g L' h' m' → Hp D g L' h' H' (cs' ++ hid) → LeaveK h₀ L m g R v { s with heap := h', toks := tk' } := fun v m' cs' H' h' tk' hp F₁ X₁ => by
      obtain ⟨news', N₁, a1, a2⟩ := X₁
      exact leaveK_ F₁ N₁ fun F₂ N₂ => k v H' h' tk' hp F₂ ⟨news', N₂, fun p hp => a1 p (List.mem_append_right _ hp), a2⟩
    refine notedFalse (env := envOfC qual scope L' f cdv) (h L' (A.deeper (envOfC qual scope L' f cdv)) g _ cells hid _ _ hA' hC hV' F' hX fun fw m' cs' ρ' H' h' tk' q hC' _ F₁ X₁ => ?_)
    cases fw with
    | ret v => exact fin v m' cs' H' h' tk' q F₁ X₁
    | next => exact fin .none m' cs' H' h' tk' q F₁ X₁
    | brk => exact fin .none m' cs' H' h' tk' q F₁ X₁
    | cont => exact fin .none m' cs' H' h' tk' q F₁ X₁
theorem all0 {G : List Value → Prop} (h : G []) (us : List Value) (hl : us.length = 0) : G us := by
  cases us with
  | nil => exact h
  | cons a r => cases hl
theorem allS {G : List Value → Prop} {n : Nat} (h : ∀ a, ∀ us : List Value, us.length = n → G (a :: us)) (us : List Value) (hl : us.length = n + 1) : G us := by
  cases us with
  | nil => cases hl
  | cons a r => exact h a r (Nat.succ.inj hl)
theorem all1 {G : List Value → Prop} (h : ∀ a, G [a]) : ∀ us : List Value, us.length = 1 → G us := allS fun a => all0 (h a)
theorem all2 {G : List Value → Prop} (h : ∀ a b, G [a, b]) : ∀ us : List Value, us.length = 2 → G us := allS fun a => all1 (h a)
theorem all3 {G : List Value → Prop} (h : ∀ a b c, G [a, b, c]) : ∀ us : List Value, us.length = 3 → G us := allS fun a => all2 (h a)
theorem all4 {G : List Value → Prop} (h : ∀ a b c d, G [a, b, c, d]) : ∀ us : List Value, us.length = 4 → G us := allS fun a => all3 (h a)
theorem all6 {G : List Value → Prop} (h : ∀ a b c d e f, G [a, b, c, d, e, f]) : ∀ us : List Value, us.length = 6 → G us := allS fun a => allS fun b => all4 (h a b)
noncomputable def okDef (scope : Scope) (names : List Str) : Bool := (names.all fun y => scope.names.lookup y == some .local || scope.names.lookup y == some .cell) && decide names.Nodup && decide ((cellsFrom 0 scope.names []).map (·.1)).Nodup && !scope.isCoroutine && !scope.isGenerator && decide (scope.kind = .function)
theorem CC.defB {f : Addr} {name qual : Str} {params : Arguments} {body : List Stmt} {scope : Scope} {dV kV doc pm cdv ct oc : Value} {an od : Option Addr} {osl : Array (Option Value)} {args : List V} {P : V → MH → Prop}
    (ho : D.K.lookup f = some ⟨oc, od, .func (fnOf name qual params body scope dV kV doc pm an cdv ct), osl⟩) (hcd : codeIn D.K cdv qual = true) (names : List Str) (hln : names.length = args.length)
    (hbind : ∀ us : List Value, us.length = args.length → bindArgs (fnOf name qual params body scope dV kV doc pm an cdv ct) ⟨us, []⟩ = pure (names.zip us))
    (hb : okDef scope names = true)
    (h : ∀ L, EXS D d (envOfC qual scope L f cdv) (names.zip args) H body (retK P)) : CC D (d + 1) H (.ref f) args P := by
  unfold okDef at hb
  simp only [Bool.and_eq_true, decide_eq_true_eq, Bool.not_eq_true'] at hb
  obtain ⟨⟨⟨⟨⟨b1, b2⟩, b3⟩, b4⟩, b5⟩, b6⟩ := hb
  exact CC.def ho hcd names hln hbind b1 b2 b3 b4 b5 b6 h
theorem CL.defB {f : Addr} {name qual : Str} {params : Arguments} {body : List Stmt} {scope : Scope} {dV kV doc pm cdv ct oc : Value} {an od : Option Addr} {osl : Array (Option Value)} {args : List V} {P : V → MH → Prop}
    (ho : D.K.lookup f = some ⟨oc, od, .func (fnOf name qual params body scope dV kV doc pm an cdv ct), osl⟩) (hcd : codeIn D.K cdv qual = true) (names : List Str) (hln : names.length = args.length)
    (hbind : ∀ us : List Value, us.length = args.length → bindArgs (fnOf name qual params body scope dV kV doc pm an cdv ct) ⟨us, []⟩ = pure (names.zip us))
    (hb : okDef scope names = true)
    (h : ∀ L, EXS D d (envOfC qual scope L f cdv) (names.zip args) H body (retK P)) : CL D (d + 1) H (.ref f) args P := (CC.defB ho hcd names hln hbind hb h).cl
end
end Mine
namespace Mine
section
variable {D : Wd} {d : Nat} {e : Env} {ρ : List (Str × V)} {H : MH} {h₀ h : Heap} {L : Addr} {hid : Led} {m : Str → Option Value}
theorem Hp.list {a : Addr} {g : Nat × Nat} {vs : List V} (X : Hp D h₀ L h H hid) (ha : H a = some (.lst g vs)) : ∃ its : Array Value, h.IsList a its ∧ its.toList.map er = vs := by
  obtain ⟨news, N, _, h2⟩ := X
  obtain ⟨its, n, h3, h4⟩ := h2 a _ ha
  exact ⟨its, ⟨_, (N _ h3).1, rfl, _, rfl⟩, h4⟩
theorem Hp.tup {a : Addr} {vs : List V} (X : Hp D h₀ L h H hid) (ha : H a = some (.tup vs)) : ∃ its : Array Value, IsTup h a its ∧ its.toList.map er = vs := by
  obtain ⟨news, N, _, h2⟩ := X
  obtain ⟨its, ⟨o, n, h3, h4, h5⟩, h6⟩ := h2 a _ ha
  exact ⟨its, ⟨_, (N _ h3).1, h4, _, h5⟩, h6⟩
theorem its_get {its : Array Value} {vs : List V} {k : Nat} {v : V} (h : its.toList.map er = vs) (hk : vs[k]? = some v) : ∃ u, its[k]? = some u ∧ er u = v := by
  subst h
  rw [List.getElem?_map] at hk
  rw [← Array.getElem?_toList]
  cases q : its.toList[k]? with
  | none => rw [q] at hk; cases hk
  | some u => rw [q] at hk; exact ⟨u, rfl, Option.some.inj hk⟩
theorem its_size {its : Array Value} {vs : List V} (h : its.toList.map er = vs) : its.size = vs.length := by rw [← h, List.length_map, Array.length_toList]
theorem GI.list {a : Addr} {g : Nat × Nat} {vs : List V} {k : Int} {v : V} {P : V → MH → Prop} (ha : H a = some (.lst g vs)) (h0 : 0 ≤ k) (hk : k < 2 ^ 63) (hv : vs[k.toNat]? = some v) (hp : P v H) : GI D d H (.ref a) (.int k) P := fun u w hu hw => by
  have := er_ref hu; subst this
  obtain ⟨t, rfl⟩ := er_int hw
  exact fun A h₀ L m hid s Q hA hV F X kk => by
    obtain ⟨its, hl, hi⟩ := X.list ha
    obtain ⟨y, hy, hyv⟩ := its_get hi hv
    exact wpAny_getItem_list hl h0 hk hy (kk y H s.heap s.toks (by show P (er y) H; rw [hyv]; exact hp) F X)
theorem GI.tup {a : Addr} {vs : List V} {k : Nat} {v : V} {P : V → MH → Prop} (ha : H a = some (.tup vs)) (hk : (k : Int) < 2 ^ 63) (hv : vs[k]? = some v) (hp : P v H) : GI D d H (.ref a) (.int (k : Int)) P := fun u w hu hw => by
  have := er_ref hu; subst this
  obtain ⟨t, rfl⟩ := er_int hw
  exact fun A h₀ L m hid s Q hA hV F X kk => by
    obtain ⟨its, hl, hi⟩ := X.tup ha
    obtain ⟨y, hy, hyv⟩ := its_get hi hv
    have hlt : k < its.size := by
      rcases Nat.lt_or_ge k its.size with q | q
      · exact q
      · rw [Array.getElem?_eq_none q] at hy; cases hy
    refine PyProof.Rows.getItem_tuple (j := k) hl (by omega) hk ?_ hy (kk y H s.heap s.toks (by show P (er y) H; rw [hyv]; exact hp) F X)
    unfold seqIndex?
    have e1 : ¬ ((k : Int) < 0) := by omega
    simp only [e1, if_false]
    rw [if_pos (by simp; omega)]
    rfl
noncomputable def SB (D : Wd) (d : Nat) (H : MH) (value slice : Expr) (a b : V) (P : V → MH → Prop) : Prop := ∀ u v, er u = a → er v = b → VV D d H (subscriptTail value slice u v) P
theorem EV.sub {value slice : Expr} {pos : Pos} {P : V → MH → Prop} (h : EV D d e ρ H value fun o H₁ => EV D d e ρ H₁ slice fun i H₂ => SB D d H₂ value slice o i P) : EV D d e ρ H (.Subscript value slice pos) P :=
  fun A h₀ L m hid s Q hA hV F X k => Subscript_ (h A h₀ L m hid s _ hA hV F X fun u H₁ h₁ tk₁ q₁ F₁ X₁ => q₁ A h₀ L m hid _ _ hA hV F₁ X₁ fun v H₂ h₂ tk₂ q₂ F₂ X₂ => (q₂ u v rfl rfl).we A h₀ L m hid _ Q hA hV F₂ X₂ k)
noncomputable def plainS : Expr → Bool
  | .Slice .. => false
  | _ => true
theorem subscripted_plain {slice : Expr} (h : plainS slice = true) (o i : Value) : subscripted slice false o i = operate [o, i] (getItem o i) := by cases slice <;> first | rfl | cases h
theorem SB.list {value slice : Expr} {a : Addr} {g : Nat × Nat} {vs : List V} {k : Int} {v : V} {P : V → MH → Prop} (ha : H a = some (.lst g vs)) (h0 : 0 ≤ k) (hk : k < 2 ^ 63) (hv : vs[k.toNat]? = some v) (hs : plainS slice = true) (hp : P v H) : SB D d H value slice (.ref a) (.int k) P := fun u w hu hw => by
  have := er_ref hu; subst this
  obtain ⟨t, rfl⟩ := er_int hw
  exact fun A h₀ L m hid s Q hA hV F X kk => by
    obtain ⟨its, hl, hi⟩ := X.list ha
    exact tail_any hl.typeIs slot_list_getitem.lookup (GI.list ha h0 hk hv hp (.ref a) (.int k t) rfl rfl A h₀ L m hid s Q hA hV F X kk) (subscripted_plain hs _ _)
theorem SB.tup {value slice : Expr} {a : Addr} {vs : List V} {k : Nat} {v : V} {P : V → MH → Prop} (ha : H a = some (.tup vs)) (hk : (k : Int) < 2 ^ 63) (hv : vs[k]? = some v) (hs : plainS slice = true) (hp : P v H) : SB D d H value slice (.ref a) (.int (k : Int)) P := fun u w hu hw => by
  have := er_ref hu; subst this
  obtain ⟨t, rfl⟩ := er_int hw
  exact fun A h₀ L m hid s Q hA hV F X kk => by
    obtain ⟨its, hl, hi⟩ := X.tup ha
    exact tail_any hl.typeIs slot_tuple_getitem.lookup (GI.tup ha hk hv hp (.ref a) (.int k t) rfl rfl A h₀ L m hid s Q hA hV F X kk) (subscripted_plain hs _ _)
theorem Hp.setList {a : Addr} {g : Nat × Nat} {vs : List V} (X : Hp D h₀ L h H hid) (F : Fr h₀ L h m) (ha : H a = some (.lst g vs)) : ∃ (its : Array Value) (n : Nat), h.get? a = some (listOf its n) ∧ its.toList.map er = vs ∧
    ∀ (its' : Array Value) (n' : Nat) (h' : Heap), Heap.SameBut a h h' → h'.get? a = some (listOf its' n') → Fr h₀ L h' m ∧ Hp D h₀ L h' (upd H a (.lst g (its'.toList.map er))) hid := by
  obtain ⟨news, N, h1, h2⟩ := X
  obtain ⟨its, n, h3, h4⟩ := h2 a _ ha
  refine ⟨its, n, (N _ h3).1, h4, fun its' n' h' hs ho => ⟨F.change hs (N _ h3).2.1 (N _ h3).2.2, ?_⟩⟩
  exact Hp.set (by intro _ _ q; cases q) N h1 h2 ha rfl h3 hs ho ⟨its', n', updL_self h3, rfl⟩
theorem len_of_er {its : Array Value} {vs : List V} (h : its.toList.map er = vs) : its.size = vs.length := its_size h
theorem okF_builtin {id : String} : okF D (.oth (.builtin id)) := True.intro
theorem okF_type {T : String} : okF D (.oth (.type T)) := True.intro
theorem GM.list {a : Addr} {g : Nat × Nat} {vs : List V} {name : Str} {id : String} {P : V → List V → MH → Prop} (ha : H a = some (.lst g vs)) (slot : Slot "list" name id) (hty : typeOf (.builtin id) = pure (.type "method_descriptor"))
    (hp : P (.oth (.builtin id)) [.ref a] H) : GM D d H (.ref a) name P := fun u pl hu => by
  have := er_ref hu; subst this
  exact fun A h₀ L m hid s Q hA hV F X k => by
    obtain ⟨its, n, ho, _⟩ := X.setList F ha
    exact getMethod_list_of slot hty ⟨_, ho, rfl, _, rfl⟩ (by show s.heap.NoDictAt (.ref a); exact ⟨_, ho, rfl⟩) (k (.builtin id, [.ref a]) H s.heap s.toks hp F X)
theorem CL.append {a : Addr} {g : Nat × Nat} {vs : List V} {v : V} {P : V → MH → Prop} (ha : H a = some (.lst g vs)) (hz : vs.length ≤ 100000) (hp : P .none (upd H a (.lst g (vs ++ [v])))) : CL D d H (.oth (.builtin "list.append")) [.ref a, v] P := fun uf us huf hus A h₀ L m hid s Q hA hV F X k => by
  have := er_oth huf; subst this
  obtain ⟨x, us', rfl, hx, h'⟩ := List.map_eq_cons_iff.mp hus
  obtain ⟨y, us'', rfl, hy, h''⟩ := List.map_eq_cons_iff.mp h'
  have := List.map_eq_nil_iff.mp h''; subst this
  have := er_ref hx; subst this
  obtain ⟨its, n, ho, hi, hn⟩ := X.setList F ha
  refine append_at ho (fun h' hs ho' => ?_) (by rw [len_of_er hi, sizeLine_eq]; omega)
  obtain ⟨F', X'⟩ := hn _ _ h' hs ho'
  refine k .none _ h' _ ?_ F' X'
  rw [Array.toList_push, List.map_append, hi]
  rw [List.map_cons, List.map_nil, hy]
  exact hp
theorem CL.pop {a : Addr} {g : Nat × Nat} {vs : List V} {v : V} {P : V → MH → Prop} (ha : H a = some (.lst g (vs ++ [v]))) (hz : vs.length ≤ 100000) (hp : P v (upd H a (.lst g vs))) : CL D d H (.oth (.builtin "list.pop")) [.ref a] P := fun uf us huf hus A h₀ L m hid s Q hA hV F X k => by
  have := er_oth huf; subst this
  obtain ⟨x, us', rfl, hx, h'⟩ := List.map_eq_cons_iff.mp hus
  have := List.map_eq_nil_iff.mp h'; subst this
  have := er_ref hx; subst this
  obtain ⟨its, n, ho, hi, hn⟩ := X.setList F ha
  have hsz : its.size = vs.length + 1 := by rw [len_of_er hi]; simp
  obtain ⟨y, hy, hyv⟩ := its_get (k := vs.length) hi (v := v) (by simp)
  have hl : its.toList.length = vs.length + 1 := by rw [Array.length_toList]; exact hsz
  have hit : its = (its.toList.take vs.length ++ [y]).toArray := by
    apply Array.toList_inj.mp
    rw [List.toList_toArray]
    have q : its.toList.take (vs.length + 1) = its.toList := List.take_of_length_le (Nat.le_of_eq hl)
    rw [← Array.getElem?_toList] at hy
    rw [List.take_add_one, hy] at q
    exact q.symm
  have her : its.eraseIdxIfInBounds (its.size - 1) = (its.toList.take vs.length).toArray := by
    have hl' : (its.toList.take vs.length).length = vs.length := by rw [List.length_take, hl]; exact Nat.min_eq_left (Nat.le_succ _)
    have := kl_erase (its.toList.take vs.length) [] y
    rw [hl', List.append_nil] at this
    rw [hsz, Nat.add_sub_cancel]
    conv => lhs; rw [hit]
    exact this
  refine call_meetsIn PySem.F.slot_list_pop ⟨_, ho, rfl⟩ PySem.F.entry_list_pop (PySem.F.args_list_pop_1 _) ((PySem.MeetsSeq.list_pop_last a its n y (by rw [hsz]; exact hy) (by rw [hsz, sizeLine_eq]; omega)).inModel _ _) ⟨ho, ?_⟩
  obtain ⟨F', X'⟩ := hn (its.eraseIdxIfInBounds (its.size - 1)) (n + 1) (s.heap.update a (Obj.mapSeq fun xs => xs.eraseIdxIfInBounds (its.size - 1))) (Heap.SameBut.update ..) (by
    rw [Heap.get?_update_self _ ho rfl]
    show some (Obj.mapSeq _ _) = _
    unfold Obj.mapSeq
    have hne : ((its.eraseIdxIfInBounds (its.size - 1)).size == its.size) = false := by
      rw [her, List.size_toArray, List.length_take, Array.length_toList]
      simp; omega
    simp only [hne, Bool.false_eq_true, if_false])
  refine k y _ _ _ ?_ F' X'
  rw [her]
  show P (er y) _
  rw [hyv, List.toList_toArray, List.map_take, hi, List.take_left]
  exact hp
theorem CL.extend {a b : Addr} {g g' : Nat × Nat} {vs ws : List V} {P : V → MH → Prop} (ha : H a = some (.lst g vs)) (hb : H b = some (.lst g' ws)) (hz : vs.length + ws.length ≤ 16000000) (hp : P .none (upd H a (.lst g (vs ++ ws)))) :
    CL D d H (.oth (.builtin "list.extend")) [.ref a, .ref b] P := fun uf us huf hus A h₀ L m hid s Q hA hV F X k => by
  have := er_oth huf; subst this
  obtain ⟨x, us', rfl, hx, h'⟩ := List.map_eq_cons_iff.mp hus
  obtain ⟨y, us'', rfl, hy, h''⟩ := List.map_eq_cons_iff.mp h'
  have := List.map_eq_nil_iff.mp h''; subst this
  have := er_ref hx; subst this
  have := er_ref hy; subst this
  obtain ⟨its, n, ho, hi, hn⟩ := X.setList F ha
  obtain ⟨its2, n2, ho2, hi2, _⟩ := X.setList F hb
  have s1 := len_of_er hi
  have s2 := len_of_er hi2
  have hlong : Builtin.List.listTooLong (its.size + its2.size) = false := by
    unfold Builtin.List.listTooLong
    rw [s1, s2, sizeLine_eq, decide_eq_false_iff_not]
    omega
  refine call_meetsIn PySem.F.slot_list_extend ⟨_, ho, rfl⟩ PySem.F.entry_list_extend (PySem.F.args_list_extend_2 _ _) ((PySem.AutoSeq1.list_extend_list_list_0 a its n b its2 n2 (by rw [hlong]; simp) (by rw [s1, sizeLine_eq]; omega) (by rw [s1, s2, sizeLine_eq]; omega)).inModel _ _) ⟨ho, ho2, ?_⟩
  obtain ⟨F', X'⟩ := hn (its ++ its2) (if (its ++ its2).size == its.size then n else n + 1) (s.heap.update a (Obj.mapSeq fun x => x ++ its2)) (Heap.SameBut.update ..) (by
    rw [Heap.get?_update_self _ ho rfl]; rfl)
  refine k .none _ _ _ ?_ F' X'
  rw [Array.toList_append, List.map_append, hi, hi2]
  exact hp
theorem BO.addList {a b : Addr} {g g' : Nat × Nat} (g₂ : Nat × Nat) {vs ws : List V} {P : V → MH → Prop} (ha : H a = some (.lst g vs)) (hb : H b = some (.lst g' ws)) (hz : vs.length + ws.length ≤ 100000) (hp : ∀ c, H c = none → P (.ref c) (upd H c (.lst g₂ (vs ++ ws)))) :
    BO D d H .Add (.ref a) (.ref b) P := fun u v hu hv A h₀ L m hid s Q hA hV F X k => by
  have := er_ref hu; subst this
  have := er_ref hv; subst this
  obtain ⟨its, n, ho, hi, _⟩ := X.setList F ha
  obtain ⟨its2, n2, ho2, hi2, _⟩ := X.setList F hb
  have s1 := len_of_er hi
  have s2 := len_of_er hi2
  obtain ⟨news, N, h1, h2⟩ := X
  refine add_lists (vs := its.toList) (ws := its2.toList) F N ⟨_, ho, rfl, n, rfl⟩ ⟨_, ho2, rfl, n2, rfl⟩ (fun h' F' N' => ?_) (by rw [Array.length_toList, Array.length_toList, s1, s2, sizeLine_eq]; omega)
  have X' := Hp.newOf (D := D) (mo := .lst g₂ (vs ++ ws)) (hid := hid) (by intro _ _ q; cases q) (News.ne_size N) h1 h2 N' ⟨_, 0, List.mem_cons_self, by rw [List.toList_toArray, List.map_append, hi, hi2]⟩
  exact k _ _ h' s.toks (hp _ (Hp.fresh ⟨news, N, h1, h2⟩ (Nat.le_refl _))) F' X'
theorem BO.addTup {a b : Addr} {vs ws : List V} {P : V → MH → Prop} (ha : H a = some (.tup vs)) (hb : H b = some (.tup ws)) (hz : vs.length + ws.length ≤ 100000) (hp : ∀ c H', Le H H' → H' c = some (.tup (vs ++ ws)) → P (.ref c) H') :
    BO D d H .Add (.ref a) (.ref b) P := fun u v hu hv A h₀ L m hid s Q hA hV F X k => by
  have := er_ref hu; subst this
  have := er_ref hv; subst this
  obtain ⟨its, hl, hi⟩ := X.tup ha
  obtain ⟨its2, hl2, hi2⟩ := X.tup hb
  have s1 := its_size hi
  have s2 := its_size hi2
  have X' := X
  obtain ⟨news, N, h1, h2⟩ := X'
  refine add_tuples (vs := its.toList) (ws := its2.toList) F N hl hl2 (fun e => ?_) (fun _ e => ?_) (fun _ _ h' F' N' => ?_) (by rw [Array.length_toList, Array.length_toList, s1, s2, sizeLine_eq]; omega)
  · have : vs = [] := by rw [← hi, e]; rfl
    subst this
    exact k (.ref b) H s.heap s.toks (hp b H (Le.refl H) hb) F X
  · have : ws = [] := by rw [← hi2, e]; rfl
    subst this
    exact k (.ref a) H s.heap s.toks (hp a H (Le.refl H) (by rw [List.append_nil]; exact ha)) F X
  · have hn := Hp.fresh X (Nat.le_refl _)
    have X' := Hp.newOf (D := D) (mo := .tup (vs ++ ws)) (hid := hid) (by intro _ _ q; cases q) (News.ne_size N) h1 h2 N' ⟨_, ⟨_, _, List.mem_cons_self, rfl, rfl⟩, by rw [List.toList_toArray, List.map_append, hi, hi2]⟩
    exact k _ _ h' s.toks (hp _ _ (le_upd hn) (upd_self ..)) F' X'
end
end Mine
namespace Mine
section
variable {D : Wd} {d : Nat} {e : Env} {ρ : List (Str × V)} {H : MH} {h₀ h : Heap} {L : Addr} {hid : Led} {m : Str → Option Value}
noncomputable def nts (l : List Nat) : List V := l.map fun (k : Nat) => V.int (k : Int)
theorem nts_length {l : List Nat} : (nts l).length = l.length := by simp [nts]
theorem nts_append {l r : List Nat} : nts (l ++ r) = nts l ++ nts r := by simp [nts]
theorem args1 {us : List Value} {a : V} (h : us.map er = [a]) : ∃ x, us = [x] ∧ er x = a := by
  obtain ⟨x, us', rfl, hx, h'⟩ := List.map_eq_cons_iff.mp h
  have := List.map_eq_nil_iff.mp h'; subst this
  exact ⟨x, rfl, hx⟩
theorem args2 {us : List Value} {a b : V} (h : us.map er = [a, b]) : ∃ x y, us = [x, y] ∧ er x = a ∧ er y = b := by
  obtain ⟨x, us', rfl, hx, h'⟩ := List.map_eq_cons_iff.mp h
  obtain ⟨y, rfl, hy⟩ := args1 h'
  exact ⟨x, y, rfl, hx, hy⟩
theorem args3 {us : List Value} {a b c : V} (h : us.map er = [a, b, c]) : ∃ x y z, us = [x, y, z] ∧ er x = a ∧ er y = b ∧ er z = c := by
  obtain ⟨x, us', rfl, hx, h'⟩ := List.map_eq_cons_iff.mp h
  obtain ⟨y, z, rfl, hy, hz⟩ := args2 h'
  exact ⟨x, y, z, rfl, hx, hy, hz⟩
theorem intsAre_of {its : List Value} : ∀ {is : List Int}, its.map er = is.map V.int → IntsAre its is := by
  induction its with
  | nil => intro is h; cases is with | nil => exact .nil | cons _ _ => cases h
  | cons v r ih =>
    intro is h
    cases is with
    | nil => cases h
    | cons i is =>
      simp only [List.map_cons, List.cons.injEq] at h
      obtain ⟨t, rfl⟩ := er_int h.1
      exact .cons i t (ih h.2)
theorem CL.lenList {a : Addr} {g : Nat × Nat} {vs : List V} {P : V → MH → Prop} (ha : H a = some (.lst g vs)) (hz : vs.length ≤ 100000) (hp : P (.int (vs.length : Int)) H) : CL D d H (.oth (.builtin "len")) [.ref a] P := fun uf us huf hus A h₀ L m hid s Q hA hV F X k => by
  have := er_oth huf; subst this
  obtain ⟨x, rfl, hx⟩ := args1 hus
  have := er_ref hx; subst this
  obtain ⟨its, hl, hi⟩ := X.list ha
  have hs := its_size hi
  refine PyProof.Rows.len_list hl (by rw [hs]; omega) (k _ H s.heap _ ?_ F X)
  show P (.int (its.size : Int)) H
  rw [hs]; exact hp
theorem CL.lenTup {a : Addr} {vs : List V} {P : V → MH → Prop} (ha : H a = some (.tup vs)) (hz : vs.length ≤ 100000) (hp : P (.int (vs.length : Int)) H) : CL D d H (.oth (.builtin "len")) [.ref a] P := fun uf us huf hus A h₀ L m hid s Q hA hV F X k => by
  have := er_oth huf; subst this
  obtain ⟨x, rfl, hx⟩ := args1 hus
  have := er_ref hx; subst this
  obtain ⟨its, hl, hi⟩ := X.tup ha
  have hs := its_size hi
  refine PyProof.Rows.len_tuple hl (by rw [hs]; omega) (k _ H s.heap _ ?_ F X)
  show P (.int (its.size : Int)) H
  rw [hs]; exact hp
theorem CO.eqInts {a b : Addr} {g g' : Nat × Nat} {is js : List Int} {P : V → MH → Prop} (ha : H a = some (.lst g (is.map V.int))) (hb : H b = some (.lst g' (js.map V.int))) (hp : P (.bool (decide (is = js))) H) : CO D d H .Eq (.ref a) (.ref b) P := fun u v hu hv A h₀ L m hid s Q hA hV F X k => by
  have := er_ref hu; subst this
  have := er_ref hv; subst this
  obtain ⟨its, hl, hi⟩ := X.list ha
  obtain ⟨its2, hl2, hi2⟩ := X.list hb
  have hun := hA.2.2.2.2.1
  exact eq_intsK (vs := its.toList) (us := its2.toList) hl (intsAre_of hi) hl2 (intsAre_of hi2) (by omega) (k _ H s.heap s.toks hp F X)
theorem CO.neInts {a b : Addr} {g g' : Nat × Nat} {is js : List Int} {P : V → MH → Prop} (ha : H a = some (.lst g (is.map V.int))) (hb : H b = some (.lst g' (js.map V.int))) (hp : P (.bool (decide (is ≠ js))) H) : CO D d H .NotEq (.ref a) (.ref b) P := fun u v hu hv A h₀ L m hid s Q hA hV F X k => by
  have := er_ref hu; subst this
  have := er_ref hv; subst this
  obtain ⟨its, hl, hi⟩ := X.list ha
  obtain ⟨its2, hl2, hi2⟩ := X.list hb
  have hun := hA.2.2.2.2.1
  exact ne_intsK (vs := its.toList) (us := its2.toList) hl (intsAre_of hi) hl2 (intsAre_of hi2) (by omega) (k _ H s.heap s.toks (by show P (.bool (!decide (is = js))) H; simpa using hp) F X)
theorem tupleKey_of {a : Addr} {ks : List Ky} (X : Hp D h₀ L h H hid) (ha : H a = some (.tup (ks.map Ky.v))) : IsTupleKey (kyKind D.prog D.w) h ks a := by
  obtain ⟨its, ⟨o, ho, hc, n, hd⟩, hi⟩ := X.tup ha
  refine ⟨o, its, n, ho, hc, hd, ?_⟩
  have : ∀ {l : List Value} {ks : List Ky}, l.map er = ks.map Ky.v → ItemsAre (kyKind D.prog D.w) ks l := by
    intro l
    induction l with
    | nil => intro ks h; cases ks with | nil => exact .nil | cons _ _ => cases h
    | cons v r ih =>
      intro ks h
      cases ks with
      | nil => cases h
      | cons k ks =>
        simp only [List.map_cons, List.cons.injEq] at h
        exact .cons (kyIs_of_er h.1) (ih h.2)
  exact this hi
theorem eqAt_flat {A : Around} {s : Shared} {u v : Value} {a b : Ky} (hu : er u = a.v) (hv : er v = b.v) : PySem.SeqAt.EqAt A s u v (decide (a = b)) :=
  fun prog w E Q hq => (kyKind prog w).eqBool (kyIs_of_er hu) (kyIs_of_er hv) hq
noncomputable def isI (i : Int) : Value → Bool
  | .int j _ => decide (j = i)
  | _ => false
theorem any_isI {i : Int} {l : List Value} {is : List Int} (hh : IntsAre l is) : l.any (isI i) = decide (i ∈ is) := by
  induction hh with
  | nil => simp
  | cons n t _ ih =>
    rw [List.any_cons, ih]
    show (decide (n = i) || _) = _
    rw [← Bool.decide_or]
    simp only [List.mem_cons, eq_comm]
theorem CO.inInts {a : Addr} {g : Nat × Nat} {is : List Int} {i : Int} {P : V → MH → Prop} (ha : H a = some (.lst g (is.map V.int))) (hp : P (.bool (decide (i ∈ is))) H) : CO D d H .In (.int i) (.ref a) P := fun u v hu hv A h₀ L m hid s Q hA hV F X k => by
  obtain ⟨t, rfl⟩ := er_int hu
  have := er_ref hv; subst this
  obtain ⟨its, hl, hi⟩ := X.list ha
  have he : its.any (isI i) = decide (i ∈ is) := by rw [← Array.any_toList]; exact any_isI (intsAre_of hi)
  refine PySem.SeqAt.in_listAt (isI i) hl (fun y hy => ?_) (k _ H s.heap s.toks (by rw [he]; exact hp) F X)
  have hm : er y ∈ is.map V.int := by rw [← hi]; exact List.mem_map_of_mem (Array.mem_toList_iff.mpr hy)
  obtain ⟨j, _, hj⟩ := List.mem_map.mp hm
  obtain ⟨t', rfl⟩ := er_int hj.symm
  have := eqAt_flat (A := A.in1) (s := s) (u := .int j t') (v := .int i t) (a := .i j) (b := .i i) rfl rfl
  have e2 : decide (Ky.i j = Ky.i i) = isI i (.int j t') := by unfold isI; simp
  rw [e2] at this
  exact this
noncomputable def kyOf? (l : List V) : Option (List Ky) := match l with
  | [] => some []
  | .str x :: r => (kyOf? r).map (.s x :: ·)
  | .int i :: r => (kyOf? r).map (.i i :: ·)
  | _ => none
theorem kyOf_map : ∀ ks : List Ky, kyOf? (ks.map Ky.v) = some ks
  | [] => rfl
  | .s x :: r => by show (kyOf? (r.map Ky.v)).map _ = _; rw [kyOf_map r]; rfl
  | .i n :: r => by show (kyOf? (r.map Ky.v)).map _ = _; rw [kyOf_map r]; rfl
noncomputable def Tups (H : MH) (refs : List Addr) (rows : List (List Ky)) : Prop := refs.length = rows.length ∧ ∀ (i : Nat) (a : Addr) (r : List Ky), refs[i]? = some a → rows[i]? = some r → H a = some (.tup (r.map Ky.v))
open Classical in
noncomputable def tupIs (H : MH) (r : List Ky) (v : Value) : Bool := match v with
  | .ref a => decide (H a = some (.tup (r.map Ky.v)))
  | _ => false
theorem mem_refs {its : Array Value} {refs : List Addr} (hi : its.toList.map er = refs.map V.ref) {y : Value} (hy : y ∈ its) : ∃ a ∈ refs, y = .ref a := by
  have : er y ∈ refs.map V.ref := by rw [← hi]; exact List.mem_map_of_mem (Array.mem_toList_iff.mpr hy)
  obtain ⟨a, ha, e⟩ := List.mem_map.mp this
  exact ⟨a, ha, er_ref e.symm⟩
theorem Tups.of_mem {refs : List Addr} {rows : List (List Ky)} (T : Tups H refs rows) {a : Addr} (ha : a ∈ refs) : ∃ r ∈ rows, H a = some (.tup (r.map Ky.v)) := by
  obtain ⟨i, hi⟩ := List.mem_iff_getElem?.mp ha
  have hlt : i < rows.length := by rw [← T.1]; exact (List.getElem?_eq_some_iff.mp hi).1
  exact ⟨rows[i], List.getElem_mem hlt, T.2 i a _ hi (List.getElem?_eq_getElem hlt)⟩
theorem map_v_inj {a b : List Ky} (h : a.map Ky.v = b.map Ky.v) : a = b := by
  have := kyOf_map a; rw [h, kyOf_map b] at this; exact (Option.some.inj this).symm
theorem tupIs_eq {a : Addr} {r r' : List Ky} (h : H a = some (.tup (r'.map Ky.v))) : tupIs H r (.ref a) = decide (r' = r) := by
  unfold tupIs
  rw [decide_eq_decide, h]
  constructor
  · intro q; exact map_v_inj (by simpa using q)
  · intro q; rw [q]
theorem itemsAre_any {prog prog' : Program} {w w' : World} {ks : List Ky} {l : List Value} (h : ItemsAre (kyKind prog w) ks l) : ItemsAre (kyKind prog' w') ks l := by
  induction h with
  | nil => exact .nil
  | cons q _ ih => exact .cons q ih
theorem eqAt_tup {A : Around} {s : Shared} (X : Hp D h₀ L s.heap H hid) (hu : A.units < cLine) {x y : Addr} {a b : List Ky} (hx : H x = some (.tup (a.map Ky.v))) (hy : H y = some (.tup (b.map Ky.v))) : PySem.SeqAt.EqAt A s (.ref x) (.ref y) (decide (a = b)) :=
  fun prog w E Q hq => wpAny_eqBool_tuple (knd := kyKind prog w) hu (tupleKey_of' X hx) (tupleKey_of' X hy) hq
where
  tupleKey_of' {prog : Program} {w : World} {D : Wd} {h : Heap} {a : Addr} {ks : List Ky} (X : Hp D h₀ L h H hid) (ha : H a = some (.tup (ks.map Ky.v))) : IsTupleKey (kyKind prog w) h ks a := by
    obtain ⟨o, items, n, h1, h2, h3, h4⟩ := tupleKey_of X ha
    exact ⟨o, items, n, h1, h2, h3, itemsAre_any h4⟩
theorem any_tupIs {r : List Ky} : ∀ {l : List Value} {refs : List Addr} {rows : List (List Ky)}, l.map er = refs.map V.ref → Tups H refs rows → l.any (tupIs H r) = decide (r ∈ rows)
  | [], [], [], _, _ => by simp
  | [], [], _ :: _, _, T => by have := T.1; simp at this
  | [], _ :: _, _, h, _ => by simp at h
  | _ :: _, [], _, h, _ => by simp at h
  | v :: l, a :: refs, [], h, T => by have := T.1; simp at this
  | v :: l, a :: refs, r' :: rows, h, T => by
    simp only [List.map_cons, List.cons.injEq] at h
    have := er_ref h.1; subst this
    have T' : Tups H refs rows := ⟨by simpa using T.1, fun i a r h1 h2 => T.2 (i + 1) a r (by simpa using h1) (by simpa using h2)⟩
    rw [List.any_cons, any_tupIs h.2 T', tupIs_eq (T.2 0 a r' rfl rfl), ← Bool.decide_or]
    simp only [List.mem_cons, eq_comm]
theorem CO.notInRows {a b : Addr} {g : Nat × Nat} {refs : List Addr} {rows : List (List Ky)} {r : List Ky} {P : V → MH → Prop} (ha : H a = some (.lst g (refs.map V.ref))) (T : Tups H refs rows) (hb : H b = some (.tup (r.map Ky.v))) (hp : P (.bool (!decide (r ∈ rows))) H) :
    CO D d H .NotIn (.ref b) (.ref a) P := fun u v hu hv A h₀ L m hid s Q hA hV F X k => by
  have := er_ref hu; subst this
  have := er_ref hv; subst this
  obtain ⟨its, hl, hi⟩ := X.list ha
  have he : its.any (tupIs H r) = decide (r ∈ rows) := by rw [← Array.any_toList]; exact any_tupIs hi T
  have hun := hA.2.2.2.2.1
  refine PySem.SeqAt.notIn_listAt (tupIs H r) hl (fun y hy => ?_) (k _ H s.heap s.toks (by rw [he]; exact hp) F X)
  obtain ⟨x, hx, rfl⟩ := mem_refs hi hy
  obtain ⟨r', _, hr'⟩ := T.of_mem hx
  rw [tupIs_eq hr']
  exact eqAt_tup X (by rw [Around.in1_units]; omega) hr' hb
theorem CL.indexRows {a b : Addr} {g : Nat × Nat} {refs : List Addr} {rows : List (List Ky)} {r : List Ky} {j : Nat} {P : V → MH → Prop} (ha : H a = some (.lst g (refs.map V.ref))) (T : Tups H refs rows) (hb : H b = some (.tup (r.map Ky.v)))
    (hj : rows[j]? = some r) (hno : ∀ i, i < j → rows[i]? ≠ some r) (hz : j < 100000) (hp : P (.int (j : Int)) H) : CL D d H (.oth (.builtin "list.index")) [.ref a, .ref b] P := fun uf us huf hus A h₀ L m hid s Q hA hV F X k => by
  have := er_oth huf; subst this
  obtain ⟨x, y, rfl, hx, hy⟩ := args2 hus
  have := er_ref hx; subst this
  have := er_ref hy; subst this
  obtain ⟨its, n, ho, hi, _⟩ := X.setList F ha
  have hun := hA.2.2.2.2.1
  have at_ : ∀ (i : Nat) (h : i < its.size), ∃ x r', its[i] = .ref x ∧ rows[i]? = some r' ∧ H x = some (.tup (r'.map Ky.v)) := fun i h => by
    have hlr : i < refs.length := by have := its_size hi; rw [List.length_map] at this; omega
    obtain ⟨u, hu, hu'⟩ := its_get (k := i) (v := .ref refs[i]) hi (by simp [hlr])
    rw [Array.getElem?_eq_getElem h] at hu
    have e1 := Option.some.inj hu
    have hrr : i < rows.length := by rw [← T.1]; exact hlr
    exact ⟨refs[i], rows[i], by rw [e1]; exact er_ref hu', List.getElem?_eq_getElem hrr, T.2 i _ _ (List.getElem?_eq_getElem hlr) (List.getElem?_eq_getElem hrr)⟩
  have hjs : j < its.size := by
    have := its_size hi; rw [List.length_map] at this
    have h2 := (List.getElem?_eq_some_iff.mp hj).1
    have h3 := T.1
    omega
  refine call_meetsIn PySem.F.slot_list_index ⟨_, ho, rfl⟩ PySem.F.entry_list_index (PySem.F.args_list_index_2 _ _) ((PySem.SeqAt.list_indexAt a its n none #[] (.ref b) (tupIs H r) j hjs (by omega) ?_ ?_).inModel _ _) ⟨ho, fun y hy => ?_, k _ H s.heap _ hp F X⟩
  · obtain ⟨x, r', e1, e2, e3⟩ := at_ j hjs
    rw [e1, tupIs_eq e3]
    rw [hj] at e2
    exact decide_eq_true (Option.some.inj e2).symm
  · intro i hi' hij
    obtain ⟨x, r', e1, e2, e3⟩ := at_ i hi'
    rw [e1, tupIs_eq e3]
    exact decide_eq_false fun q => hno i hij (by rw [e2, q])
  · obtain ⟨x, hx, rfl⟩ := mem_refs hi hy
    obtain ⟨r', _, hr'⟩ := T.of_mem hx
    rw [tupIs_eq hr']
    exact eqAt_tup X (by rw [Around.in1_units]; omega) hr' hb
theorem CL.tupleOf {a : Addr} {g : Nat × Nat} {vs : List V} {P : V → MH → Prop} (ha : H a = some (.lst g vs)) (hz : vs.length ≤ 1000) (hp : ∀ c, H c = none → P (.ref c) (upd H c (.tup vs))) : CL D d H (.oth (.type "tuple")) [.ref a] P := fun uf us huf hus A h₀ L m hid s Q hA hV F X k => by
  have := er_oth huf; subst this
  obtain ⟨x, rfl, hx⟩ := args1 hus
  have := er_ref hx; subst this
  obtain ⟨its, hl, hi⟩ := X.list ha
  have X' := X
  obtain ⟨news, N, h1, h2⟩ := X'
  refine kde_tupleOf (zs := its.toList) F N hl (by rw [its_size hi]; omega) rfl fun b h' F' N' lt => ?_
  have hb : ∀ p ∈ news, p.1 ≠ b := fun p hp => Nat.ne_of_lt (lt p hp)
  exact k _ _ h' s.toks (hp b (Hp.none_of h2 hb)) F' (Hp.newOf (mo := .tup vs) (by intro _ _ q; cases q) hb h1 h2 N' ⟨_, ⟨_, _, List.mem_cons_self, rfl, rfl⟩, by rw [List.toList_toArray]; exact hi⟩)
theorem CL.listOf {a : Addr} {g : Nat × Nat} (g' : Nat × Nat) {vs : List V} {P : V → MH → Prop} (ha : H a = some (.lst g vs)) (hz : vs.length ≤ 1000) (hp : ∀ c, H c = none → P (.ref c) (upd H c (.lst g' vs))) : CL D d H (.oth (.type "list")) [.ref a] P := fun uf us huf hus A h₀ L m hid s Q hA hV F X k => by
  have := er_oth huf; subst this
  obtain ⟨x, rfl, hx⟩ := args1 hus
  have := er_ref hx; subst this
  have X' := X
  obtain ⟨news, N, h1, h2⟩ := X'
  obtain ⟨its, n, hin, hi⟩ := h2 a _ ha
  refine kup_listOf (zs := its.toList) F N hin rfl (fun b c h' F' N' lt => ?_) (by rw [Array.length_toList, its_size hi, sizeLine_eq]; omega)
  have hb : ∀ p ∈ news, p.1 ≠ b := fun p hp => Nat.ne_of_lt (lt p hp)
  exact k _ _ h' s.toks (hp b (Hp.none_of h2 hb)) F' (Hp.newOf (mo := .lst g' vs) (by intro _ _ q; cases q) hb h1 h2 N' ⟨_, _, List.mem_cons_self, by rw [List.toList_toArray]; exact hi⟩)
theorem CL.range {n : Nat} {P : V → MH → Prop} (hp : ∀ c, H c = none → P (.ref c) (upd H c (.rng 0 n))) : CL D d H (.oth (.type "range")) [.int (n : Int)] P := fun uf us huf hus A h₀ L m hid s Q hA hV F X k => by
  have := er_oth huf; subst this
  obtain ⟨x, rfl, hx⟩ := args1 hus
  obtain ⟨t, rfl⟩ := er_int hx
  have X' := X
  obtain ⟨news, N, h1, h2⟩ := X'
  refine range1_rows F N fun h' tk t₁ u₁ v₁ hr F' N' kk => ?_
  have hb : ∀ p ∈ news, p.1 ≠ s.heap.objs.size := News.ne_size N
  refine k _ _ h' tk (hp _ (Hp.none_of h2 hb)) F' (Hp.newOf (mo := .rng 0 n) (o := { cls := .type "range", data := .fields #[.int 0 t₁, .int n u₁, .int 1 v₁] }) (by intro _ _ q; cases q) hb h1 h2 (fun p hp => ?_) ⟨_, t₁, u₁, v₁, List.mem_cons_self, rfl⟩)
  rcases List.mem_cons.mp hp with rfl | hp
  · refine ⟨hr, Nat.ne_of_gt F.ns.lt, ?_⟩
    cases q : h₀.get? s.heap.objs.size with
    | none => rfl
    | some o => exact absurd (Heap.lt_size (F.keep _ _ q)) (Nat.lt_irrefl _)
  · exact N' p hp
end
end Mine
namespace Mine
section
variable {D : Wd} {d : Nat} {e : Env} {ρ : List (Str × V)} {H : MH} {h₀ h : Heap} {L : Addr} {hid : Led} {m : Str → Option Value}
theorem Hp.dS {a : Addr} {g : Nat × Nat} {f : Str → Option V} {n : Nat} (X : Hp D h₀ L h H hid) (ha : H a = some (.dS g f n)) : ∃ kvs, h.DictOf (strKind D.prog D.w) a kvs ∧ (∀ x, (valueAt kvs x).map er = f x) ∧ kvs.length ≤ n ∧ (a == sysModules) = false := by
  obtain ⟨news, N, _, h2⟩ := X
  obtain ⟨o, kvs, h3, h4, h5⟩ := h2 a _ ha
  exact ⟨kvs, Heap.dictOf_iff.mpr ⟨o, (N _ h3).1, h4⟩, h5⟩
theorem Hp.dI {a : Addr} {g : Nat × Nat} {f : Int → Option V} {n : Nat} (X : Hp D h₀ L h H hid) (ha : H a = some (.dI g f n)) : ∃ kvs, h.DictOf (intKind D.prog D.w) a kvs ∧ (∀ x, (valueAt kvs x).map er = f x) ∧ kvs.length ≤ n ∧ (a == sysModules) = false := by
  obtain ⟨news, N, _, h2⟩ := X
  obtain ⟨o, kvs, h3, h4, h5⟩ := h2 a _ ha
  exact ⟨kvs, Heap.dictOf_iff.mpr ⟨o, (N _ h3).1, h4⟩, h5⟩
theorem some_er {r : Option Value} {v : V} (h : r.map er = some v) : ∃ u, r = some u ∧ er u = v := by cases r with | none => cases h | some u => exact ⟨u, rfl, Option.some.inj h⟩
theorem SB.dS {value slice : Expr} {a : Addr} {g : Nat × Nat} {f : Str → Option V} {n : Nat} {x : Str} {v : V} {P : V → MH → Prop} (ha : H a = some (.dS g f n)) (hv : f x = some v) (hs : plainS slice = true) (hp : P v H) : SB D d H value slice (.ref a) (.str x) P := fun u w hu hw A h₀ L m hid s Q hA hV F X k => by
  have := er_ref hu; subst this
  obtain ⟨t, rfl⟩ := er_str hw
  obtain ⟨kvs, hd, hf, _⟩ := X.dS ha
  obtain ⟨y, hy, hyv⟩ := some_er ((hf x).trans hv)
  exact tail_any hd.typeIs slot_dict_getitem.lookup (wpAny_getItem_of (strKind_is D.prog D.w x t) hd.mapOf hy (k y H s.heap _ (by show P (er y) H; rw [hyv]; exact hp) F X)) (subscripted_plain hs _ _)
theorem CO.inS {a : Addr} {g : Nat × Nat} {f : Str → Option V} {n : Nat} {x : Str} {P : V → MH → Prop} (ha : H a = some (.dS g f n)) (hp : P (.bool (f x).isSome) H) : CO D d H .In (.str x) (.ref a) P := fun u w hu hw A h₀ L m hid s Q hA hV F X k => by
  obtain ⟨t, rfl⟩ := er_str hu
  have := er_ref hw; subst this
  obtain ⟨kvs, hd, hf, _, hsm⟩ := X.dS ha
  refine wpAny_in_of (strKind_is D.prog D.w x t) hsm hd.mapOf (k (.bool _) H s.heap _ ?_ F X)
  show P (.bool (valueAt kvs x).isSome) H
  have : (valueAt kvs x).isSome = (f x).isSome := by rw [← hf x, Option.isSome_map]
  rw [this]; exact hp
theorem valueAt_stored {K : Type} [DecidableEq K] (kvs : List (K × Value)) (k x : K) (v : Value) : valueAt (stored kvs k v) x = if x = k then some v else valueAt kvs x := by
  unfold stored
  by_cases h : (kvs.any fun kv => decide (kv.1 = k)) = true
  · rw [if_pos h]
    induction kvs with
    | nil => simp at h
    | cons p r ih =>
      unfold valueAt at ih ⊢
      rw [List.map_cons, List.find?_cons, List.find?_cons]
      by_cases hp : p.1 = k
      · rw [if_pos hp]
        by_cases hx : p.1 = x
        · have : x = k := hx.symm.trans hp
          simp [hx, this]
        · have hxk : x ≠ k := fun q => hx (hp.trans q.symm)
          simp only [hx, decide_false, Bool.false_eq_true, if_false, if_neg hxk]
          by_cases hr : (r.any fun kv => decide (kv.1 = k)) = true
          · have := ih hr
            rw [if_neg hxk] at this
            exact this
          · have hnot : ∀ q ∈ r, q.1 ≠ k := fun q hq hqk => hr (List.any_eq_true.mpr ⟨q, hq, by simp [hqk]⟩)
            rw [List.map_congr_left (g := id) (fun q hq => by rw [if_neg (hnot q hq)]; rfl), List.map_id]
      · rw [if_neg hp]
        have hr : (r.any fun kv => decide (kv.1 = k)) = true := by simpa [hp] using h
        by_cases hx : p.1 = x
        · have hxk : x ≠ k := fun q => hp (hx.trans q)
          simp [hx, hxk]
        · simp only [hx, decide_false, Bool.false_eq_true, if_false]
          exact ih hr
  · rw [if_neg h]
    have hnot : ∀ q ∈ kvs, q.1 ≠ k := fun q hq hqk => h (List.any_eq_true.mpr ⟨q, hq, by simp [hqk]⟩)
    unfold valueAt
    rw [List.find?_append]
    by_cases hx : x = k
    · subst hx
      have : kvs.find? (fun kv => decide (kv.1 = x)) = none := List.find?_eq_none.mpr fun q hq => by simp [hnot q hq]
      simp [this]
    · rw [if_neg hx]
      cases kvs.find? (fun kv => decide (kv.1 = x)) with
      | some q => simp
      | none => simp [Ne.symm hx]
theorem valueAt_without {K : Type} [DecidableEq K] (kvs : List (K × Value)) (k x : K) : valueAt (without kvs k) x = if x = k then none else valueAt kvs x := by
  unfold without valueAt
  rw [List.find?_filter]
  by_cases hx : x = k
  · subst hx
    rw [if_pos rfl]
    have : kvs.find? (fun a => decide (decide (a.1 ≠ x) = true ∧ decide (a.1 = x) = true)) = none := List.find?_eq_none.mpr fun q hq => by simp
    simp only [this, Option.map_none]
  · rw [if_neg hx]
    congr 2
    funext a
    by_cases q : a.1 = x
    · simp [q, hx]
    · simp [q]
theorem Hp.setDS {a : Addr} {g : Nat × Nat} {f : Str → Option V} {n : Nat} (X : Hp D h₀ L h H hid) (F : Fr h₀ L h m) (ha : H a = some (.dS g f n)) : ∃ kvs, h.DictOf (strKind D.prog D.w) a kvs ∧ (∀ x, (valueAt kvs x).map er = f x) ∧ kvs.length ≤ n ∧
    ∀ (kvs' : List (Str × Value)) (f' : Str → Option V) (n' : Nat) (h' : Heap), Heap.SameBut a h h' → h'.DictOf (strKind D.prog D.w) a kvs' → (∀ x, (valueAt kvs' x).map er = f' x) → kvs'.length ≤ n' → Fr h₀ L h' m ∧ Hp D h₀ L h' (upd H a (.dS g f' n')) hid := by
  obtain ⟨news, N, h1, h2⟩ := X
  obtain ⟨o, kvs, h3, h4, h5, h6, h7⟩ := h2 a _ ha
  refine ⟨kvs, Heap.dictOf_iff.mpr ⟨o, (N _ h3).1, h4⟩, h5, h6, fun kvs' f' n' h' hs hd hf hz => ⟨F.change hs (N _ h3).2.1 (N _ h3).2.2, ?_⟩⟩
  obtain ⟨o', ho', hd'⟩ := Heap.dictOf_iff.mp hd
  exact Hp.set (by intro _ _ q; cases q) N h1 h2 ha rfl h3 hs ho' ⟨o', kvs', updL_self h3, hd', hf, hz, h7⟩
theorem Hp.setDI {a : Addr} {g : Nat × Nat} {f : Int → Option V} {n : Nat} (X : Hp D h₀ L h H hid) (F : Fr h₀ L h m) (ha : H a = some (.dI g f n)) : ∃ kvs, h.DictOf (intKind D.prog D.w) a kvs ∧ (∀ x, (valueAt kvs x).map er = f x) ∧ kvs.length ≤ n ∧
    ∀ (kvs' : List (Int × Value)) (f' : Int → Option V) (n' : Nat) (h' : Heap), Heap.SameBut a h h' → h'.DictOf (intKind D.prog D.w) a kvs' → (∀ x, (valueAt kvs' x).map er = f' x) → kvs'.length ≤ n' → Fr h₀ L h' m ∧ Hp D h₀ L h' (upd H a (.dI g f' n')) hid := by
  obtain ⟨news, N, h1, h2⟩ := X
  obtain ⟨o, kvs, h3, h4, h5, h6, h7⟩ := h2 a _ ha
  refine ⟨kvs, Heap.dictOf_iff.mpr ⟨o, (N _ h3).1, h4⟩, h5, h6, fun kvs' f' n' h' hs hd hf hz => ⟨F.change hs (N _ h3).2.1 (N _ h3).2.2, ?_⟩⟩
  obtain ⟨o', ho', hd'⟩ := Heap.dictOf_iff.mp hd
  exact Hp.set (by intro _ _ q; cases q) N h1 h2 ha rfl h3 hs ho' ⟨o', kvs', updL_self h3, hd', hf, hz, h7⟩
theorem SI.dS {a : Addr} {g : Nat × Nat} {f : Str → Option V} {n : Nat} {x : Str} {v : V} {P : MH → Prop} (ha : H a = some (.dS g f n)) (hz : n ≤ 1000) (hp : P (upd H a (.dS g (fun y => if y = x then some v else f y) (n + 1)))) : SI D d H (.ref a) (.str x) v P := fun u w z hu hw hzv A h₀ L m hid s Q hA hV F X k => by
  have := er_ref hu; subst this
  obtain ⟨t, rfl⟩ := er_str hw
  obtain ⟨kvs, hd, hf, hl, hn⟩ := X.setDS F ha
  refine wpAny_setItem_pairs (strKind_is D.prog D.w x t) hd (fun h' hd' hs => ?_) (by rw [sizeLine_eq]; omega)
  obtain ⟨F', X'⟩ := hn _ (fun y => if y = x then some v else f y) (n + 1) h' hs hd' (fun y => by rw [valueAt_stored]; by_cases q : y = x <;> simp [q, hzv, hf]) (Nat.le_trans (stored_length_le ..) (by omega))
  exact k () _ h' _ hp F' X'
theorem intKind_is' (prog : Program) (w : World) (k : Int) (t : Tok) : (intKind prog w).is k (.int k t) = true := by simp [intKind, Value.isInt]
theorem SB.dI {value slice : Expr} {a : Addr} {g : Nat × Nat} {f : Int → Option V} {n : Nat} {x : Int} {v : V} {P : V → MH → Prop} (ha : H a = some (.dI g f n)) (hv : f x = some v) (hs : plainS slice = true) (hp : P v H) : SB D d H value slice (.ref a) (.int x) P := fun u w hu hw A h₀ L m hid s Q hA hV F X k => by
  have := er_ref hu; subst this
  obtain ⟨t, rfl⟩ := er_int hw
  obtain ⟨kvs, hd, hf, _⟩ := X.dI ha
  obtain ⟨y, hy, hyv⟩ := some_er ((hf x).trans hv)
  exact tail_any hd.typeIs slot_dict_getitem.lookup (wpAny_getItem_of (intKind_is' D.prog D.w x t) hd.mapOf hy (k y H s.heap _ (by show P (er y) H; rw [hyv]; exact hp) F X)) (subscripted_plain hs _ _)
theorem SI.dI {a : Addr} {g : Nat × Nat} {f : Int → Option V} {n : Nat} {x : Int} {v : V} {P : MH → Prop} (ha : H a = some (.dI g f n)) (hz : n ≤ 1000) (hp : P (upd H a (.dI g (fun y => if y = x then some v else f y) (n + 1)))) : SI D d H (.ref a) (.int x) v P := fun u w z hu hw hzv A h₀ L m hid s Q hA hV F X k => by
  have := er_ref hu; subst this
  obtain ⟨t, rfl⟩ := er_int hw
  obtain ⟨kvs, hd, hf, hl, hn⟩ := X.setDI F ha
  refine wpAny_setItem_pairs (intKind_is' D.prog D.w x t) hd (fun h' hd' hs => ?_) (by rw [sizeLine_eq]; omega)
  obtain ⟨F', X'⟩ := hn _ (fun y => if y = x then some v else f y) (n + 1) h' hs hd' (fun y => by rw [valueAt_stored]; by_cases q : y = x <;> simp [q, hzv, hf]) (Nat.le_trans (stored_length_le ..) (by omega))
  exact k () _ h' _ hp F' X'
theorem GM.dict {a : Addr} {name : Str} {id : String} {P : V → List V → MH → Prop} (ha : (∃ g f n, H a = some (.dS g f n)) ∨ (∃ g f n, H a = some (.dI g f n)) ∨ (∃ g f n, H a = some (.dT g f n))) (slot : Slot "dict" name id) (hty : typeOf (.builtin id) = pure (.type "method_descriptor"))
    (hp : P (.oth (.builtin id)) [.ref a] H) : GM D d H (.ref a) name P := fun u pl hu A h₀ L m hid s Q hA hV F X k => by
  have := er_ref hu; subst this
  have X' := X
  obtain ⟨news, N, h1, h2⟩ := X'
  obtain ⟨o, ho, hc⟩ : ∃ o, s.heap.get? a = some o ∧ o.ExactDict := by
    rcases ha with ⟨g, f, n, ha⟩ | ⟨g, f, n, ha⟩ | ⟨g, f, n, ha⟩
    · obtain ⟨o, kvs, h3, ⟨_, _, h4, _⟩, _⟩ := h2 a _ ha; exact ⟨o, (N _ h3).1, h4⟩
    · obtain ⟨o, kvs, h3, ⟨_, _, h4, _⟩, _⟩ := h2 a _ ha; exact ⟨o, (N _ h3).1, h4⟩
    · obtain ⟨o, es, ep, xs, h3, h4, _⟩ := h2 a _ ha; exact ⟨o, (N _ h3).1, h4⟩
  exact getMethod_builtin ⟨o, ho, hc.1⟩ PySem.F.plainAttrs_dict slot hty (fun b q => by cases q; exact ⟨o, ho, hc.2.1⟩) (k (.builtin id, [.ref a]) H s.heap s.toks hp F X)
theorem CL.popI {a : Addr} {g : Nat × Nat} {f : Int → Option V} {n : Nat} {x : Int} {v : V} {P : V → MH → Prop} (ha : H a = some (.dI g f n)) (hz : n ≤ 1000) (hv : f x = some v) (hp : P v (upd H a (.dI g (fun y => if y = x then none else f y) n))) :
    CL D d H (.oth (.builtin "dict.pop")) [.ref a, .int x] P := fun uf us huf hus A h₀ L m hid s Q hA hV F X k => by
  have := er_oth huf; subst this
  obtain ⟨y, z, rfl, hy, hz'⟩ := args2 hus
  have := er_ref hy; subst this
  obtain ⟨t, rfl⟩ := er_int hz'
  obtain ⟨kvs, hd, hf, hl, hn⟩ := X.setDI F ha
  obtain ⟨q, hq, hqv⟩ := some_er ((hf x).trans hv)
  refine call_meetsIn PySem.F.slot_dict_pop hd.typeIs PySem.F.entry_dict_pop (PySem.F.args_dict_pop_2 _ _) (meets_dict_pop_there (knd := intKind D.prog D.w) (d := a) (k := x) (intKind_is' D.prog D.w x t) [] (.inl rfl) rfl) ⟨kvs, q, hd, by rw [sizeLine_eq]; omega, hq, fun h' hd' hs => ?_⟩
  obtain ⟨F', X'⟩ := hn _ (fun y => if y = x then none else f y) n h' hs hd' (fun y => by rw [valueAt_without]; by_cases q : y = x <;> simp [q, hf]) (Nat.le_trans (List.length_filter_le ..) hl)
  exact k q _ h' _ (by show P (er q) _; rw [hqv]; exact hp) F' X'
theorem putAt_fst {K : Type} [DecidableEq K] (k : K) (v : Value) (z : K × Addr × Value) : (putAt k v z).1 = z.1 := by unfold putAt; split <;> rfl
theorem atKey_map_putAt {K : Type} [DecidableEq K] (k y : K) (v : Value) : ∀ xs : List (K × Addr × Value), atKey (xs.map (putAt k v)) y = if y = k then (atKey xs k).map (fun p => (p.1, v)) else atKey xs y
  | [] => by simp [atKey]
  | z :: r => by
    have ih := atKey_map_putAt k y v r
    unfold atKey at ih ⊢
    rw [List.map_cons, List.find?_cons, List.find?_cons, putAt_fst]
    by_cases hz : z.1 = y
    · simp only [hz, decide_true, Option.map_some]
      by_cases hy : y = k
      · rw [if_pos hy]
        simp only [List.find?_cons, hz, hy, decide_true, Option.map_some, putAt, if_true]
      · rw [if_neg hy]
        simp only [List.find?_cons, putAt, hz, hy, if_false, decide_true, Option.map_some]
    · simp only [hz, decide_false]
      rw [ih]
      by_cases hy : y = k
      · rw [if_pos hy, if_pos hy]
        have : ¬ z.1 = k := fun q => hz (q.trans hy.symm)
        simp only [List.find?_cons, this, decide_false]
      · rw [if_neg hy, if_neg hy]
        simp only [List.find?_cons, hz, decide_false]
theorem atKey_storedH {K : Type} [DecidableEq K] (xs : List (K × Addr × Value)) (k y : K) (b : Addr) (v : Value) : atKey (storedH xs k b v) y = if y = k then some ((((atKey xs k).map (·.1)).getD b), v) else atKey xs y := by
  cases q : atKey xs k with
  | some p =>
    rw [storedH_old q, atKey_map_putAt, q]
    rfl
  | none =>
    rw [storedH_new q]
    unfold atKey at q ⊢
    rw [List.find?_append, Option.map_or]
    by_cases hy : y = k
    · subst hy
      rw [q, if_pos rfl]; simp
    · rw [if_neg hy]
      have : ([(k, b, v)] : List (K × Addr × Value)).find? (fun x => decide (x.1 = y)) = none := by simp [Ne.symm hy]
      rw [this]; simp
theorem its_er_inj {its its' : Array Value} {ks : List Ky} (h : its.toList.map er = ks.map Ky.v) : ItemsAre (kyKind D.prog D.w) ks its.toList := by
  have : ∀ {l : List Value} {ks : List Ky}, l.map er = ks.map Ky.v → ItemsAre (kyKind D.prog D.w) ks l := by
    intro l
    induction l with
    | nil => intro ks h; cases ks with | nil => exact .nil | cons _ _ => cases h
    | cons v r ih =>
      intro ks h
      cases ks with
      | nil => cases h
      | cons k ks =>
        simp only [List.map_cons, List.cons.injEq] at h
        exact .cons (kyIs_of_er h.1) (ih h.2)
  exact this h
theorem tupKey_at {news : Led} {a : Addr} {its : Array Value} {ks : List Ky} (N : News h₀ L h news) (ht : tupAt news a its) (hi : its.toList.map er = ks.map Ky.v) : (TK D.prog D.w).is h ks a := by
  obtain ⟨o, n, h1, h2, h3⟩ := ht
  exact ⟨o, its, n, (N _ h1).1, h2, h3, its_er_inj (its' := its) hi⟩
theorem Hp.dT {a : Addr} {g : Nat × Nat} {f : List Ky → Option V} {n : Nat} (X : Hp D h₀ L h H hid) (F : Fr h₀ L h m) (ha : H a = some (.dT g f n)) : ∃ xs, h.DictOfH (TK D.prog D.w) a xs ∧ (∀ x, (atKey xs x).map (fun p => er p.2) = f x) ∧ xs.length ≤ n ∧ (a == sysModules) = false ∧
    ∀ (k : List Ky) (b : Addr) (v : Value) (h' : Heap), H b = some (.tup (k.map Ky.v)) → Heap.SameBut a h h' → h'.DictOfH (TK D.prog D.w) a (storedH xs k b v) → Fr h₀ L h' m ∧ Hp D h₀ L h' (upd H a (.dT g (fun y => if y = k then some (er v) else f y) (n + 1))) hid := by
  obtain ⟨news, N, h1, h2⟩ := X
  obtain ⟨o, es, ep, xs, h3, h4, h5, h6, h7, h8, h9, h10, h11⟩ := h2 a _ ha
  refine ⟨xs, ⟨o, es, ep, (N _ h3).1, h4, h5, h6, fun x hx => ?_, h8⟩, h9, h10, h11, fun k b v h' hb hs hd => ⟨F.change hs (N _ h3).2.1 (N _ h3).2.2, ?_⟩⟩
  · obtain ⟨⟨its, t1, t2⟩, _⟩ := h7 x hx
    exact tupKey_at N t1 t2
  · obtain ⟨o', es', ep', g1, g2, g3, g4, g5, g6⟩ := hd
    obtain ⟨its, bt, bi⟩ := h2 b _ hb
    have hba : b ≠ a := fun q => by rw [q, ha] at hb; cases hb
    have up : ∀ {c : Addr} {its : Array Value}, c ≠ a → tupAt news c its → tupAt (updL news a o') c its := fun hc ⟨o, n, q1, r⟩ => ⟨o, n, updL_ne q1 hc, r⟩
    refine Hp.set (by intro _ _ q; cases q) N h1 h2 ha rfl h3 hs g1 ⟨o', es', ep', storedH xs k b v, updL_self h3, g2, g3, g4, fun x hx => ?_, g6, fun y => ?_, ?_, h11⟩
    · have old : ∀ y ∈ xs, (∃ its, tupAt (updL news a o') y.2.1 its ∧ its.toList.map er = y.1.map Ky.v) ∧ (upd H a (.dT g (fun y => if y = k then some (er v) else f y) (n + 1)) y.2.1 = none ∨ ∃ vs, upd H a (.dT g (fun y => if y = k then some (er v) else f y) (n + 1)) y.2.1 = some (.tup vs)) := fun y hy => by
        obtain ⟨⟨its, t1, t2⟩, t3⟩ := h7 y hy
        have hne : y.2.1 ≠ a := by
          rcases t3 with q | ⟨vs, q⟩
          · intro z; rw [z, ha] at q; cases q
          · intro z; rw [z, ha] at q; cases q
        exact ⟨⟨its, up hne t1, t2⟩, by rw [upd_ne hne]; exact t3⟩
      cases q : atKey xs k with
      | some p =>
        rw [storedH_old q] at hx
        obtain ⟨y, hy, rfl⟩ := List.mem_map.mp hx
        have := old y hy
        unfold putAt
        by_cases z : y.1 = k
        · rw [if_pos z]; exact this
        · rw [if_neg z]; exact this
      | none =>
        rw [storedH_new q] at hx
        rcases List.mem_append.mp hx with hx | hx
        · exact old x hx
        · rw [List.mem_singleton.mp hx]
          exact ⟨⟨its, up hba bt, bi⟩, .inr ⟨_, (upd_ne hba).trans hb⟩⟩
    · show (atKey (storedH xs k b v) y).map (fun p => er p.2) = if y = k then some (er v) else f y
      rw [atKey_storedH, ← h9 y]
      by_cases q : y = k
      · rw [if_pos q, if_pos q]; rfl
      · rw [if_neg q, if_neg q]
    · cases q : atKey xs k with
      | some p => rw [storedH_old q, List.length_map]; omega
      | none => rw [storedH_new q, List.length_append, List.length_singleton]; omega
theorem room_of {A : Around} {d : Nat} (hA : Amb D A d h₀ L) : A.units + 50 < cLine := by have := hA.2.2.2.2.1; omega
theorem CO.inT {a b : Addr} {g : Nat × Nat} {f : List Ky → Option V} {n : Nat} {ks : List Ky} {P : V → MH → Prop} (ha : H a = some (.dT g f n)) (hb : H b = some (.tup (ks.map Ky.v))) (hp : P (.bool (f ks).isSome) H) : CO D d H .In (.ref b) (.ref a) P := fun u w hu hw A h₀ L m hid s Q hA hV F X k => by
  have := er_ref hu; subst this
  have := er_ref hw; subst this
  obtain ⟨xs, hd, hf, _, hsm, _⟩ := X.dT F ha
  refine wpAny_in_heap (knd := TK D.prog D.w) (tupleKind_room_in1 (by have := room_of hA; omega)) (tupleKey_of X hb) hsm hd (k (.bool _) H s.heap _ ?_ F X)
  have : (atKey xs ks).isSome = (f ks).isSome := by rw [← hf ks, Option.isSome_map]
  show P (.bool (atKey xs ks).isSome) H
  rw [this]; exact hp
theorem entry_getitem_dict : True := trivial
theorem SB.dT {value slice : Expr} {a b : Addr} {g : Nat × Nat} {f : List Ky → Option V} {n : Nat} {ks : List Ky} {v : V} {P : V → MH → Prop} (ha : H a = some (.dT g f n)) (hb : H b = some (.tup (ks.map Ky.v))) (hv : f ks = some v) (hs : plainS slice = true) (hp : P v H) :
    SB D d H value slice (.ref a) (.ref b) P := fun u w hu hw A h₀ L m hid s Q hA hV F X k => by
  have := er_ref hu; subst this
  have := er_ref hw; subst this
  obtain ⟨xs, hd, hf, _, hsm, _⟩ := X.dT F ha
  obtain ⟨p, hp', hpv⟩ : ∃ p, atKey xs ks = some p ∧ er p.2 = v := by
    have := (hf ks).trans hv
    cases q : atKey xs ks with
    | none => rw [q] at this; cases this
    | some p => rw [q] at this; exact ⟨p, rfl, Option.some.inj this⟩
  exact tail_any hd.typeIs slot_dict_getitem.lookup (wpAny_getItem_heap (knd := TK D.prog D.w) (tupleKind_room_in1 (by have := room_of hA; omega)) (tupleKey_of X hb) hd hp' (k p.2 H s.heap _ (by show P (er p.2) H; rw [hpv]; exact hp) F X)) (subscripted_plain hs _ _)
theorem SI.dT {a b : Addr} {g : Nat × Nat} {f : List Ky → Option V} {n : Nat} {ks : List Ky} {v : V} {P : MH → Prop} (ha : H a = some (.dT g f n)) (hb : H b = some (.tup (ks.map Ky.v))) (hz : n ≤ 1000) (hp : P (upd H a (.dT g (fun y => if y = ks then some v else f y) (n + 1)))) :
    SI D d H (.ref a) (.ref b) v P := fun u w z hu hw hzv A h₀ L m hid s Q hA hV F X k => by
  have := er_ref hu; subst this
  have := er_ref hw; subst this
  obtain ⟨xs, hd, hf, hl, hsm, hn⟩ := X.dT F ha
  refine wpAny_setItem_heap (knd := TK D.prog D.w) (tupleKind_room_in1 (by have := room_of hA; omega)) (tupleKey_of X hb) hd (fun h' hd' hs => ?_) (by rw [sizeLine_eq]; omega)
  obtain ⟨F', X'⟩ := hn ks b z h' hb hs hd'
  rw [hzv] at X'
  exact k () _ h' _ hp F' X'
theorem CL.getT {a b : Addr} {g : Nat × Nat} {f : List Ky → Option V} {n : Nat} {ks : List Ky} {v : V} {P : V → MH → Prop} (ha : H a = some (.dT g f n)) (hb : H b = some (.tup (ks.map Ky.v))) (hp : P ((f ks).getD v) H) :
    CL D d H (.oth (.builtin "dict.get")) [.ref a, .ref b, v] P := fun uf us huf hus A h₀ L m hid s Q hA hV F X k => by
  have := er_oth huf; subst this
  obtain ⟨x, y, z, rfl, hx, hy, hz⟩ := args3 hus
  have := er_ref hx; subst this
  have := er_ref hy; subst this
  obtain ⟨xs, hd, hf, hl, hsm, hn⟩ := X.dT F ha
  refine call_meetsIn PySem.F.slot_dict_get hd.typeIs PySem.F.entry_dict_get (PySem.F.args_dict_get_3 _ _ _) (meetsH_dict_get_default (TK D.prog D.w) a b hsm z) ⟨tupleKind_room_in1 (by have := room_of hA; omega), ks, xs, tupleKey_of X hb, hd, k _ H s.heap _ ?_ F X⟩
  show P (er (((atKey xs ks).map (·.2)).getD z)) H
  have : er (((atKey xs ks).map (·.2)).getD z) = (f ks).getD v := by
    rw [← hf ks]
    cases atKey xs ks with
    | none => exact hz
    | some p => rfl
  rw [this]; exact hp
theorem wpAny_setDefault_H {prog : Program} {w : World} {K : Type} [DecidableEq K] {knd : HeapKind prog w K} {A : Around} {E : Value → Shared → Prop} {s : Shared} {d a : Addr} {xs : List (K × Addr × Value)} {k : K} {dflt : Value} {Q : Value → Shared → Prop} (hu : knd.room A) (hkey : knd.is s.heap k a) (hm : s.heap.DictOfH knd d xs)
    (hthere : ∀ p, atKey xs k = some p → Q p.2 { s with toks := s.toks + knd.draws k })
    (hnew : atKey xs k = none → ∀ h', h'.DictOfH knd d (storedH xs k a dflt) → Heap.SameBut d s.heap h' → Q dflt { s with heap := h', toks := s.toks + knd.draws k })
    (hsz : xs.length ≤ sizeLine) : wpAny (model prog w) A (dictSetDefault d (.ref a) dflt) Q E s := by
  obtain ⟨o, es, ep, ho, hc, hd, he, his, hn⟩ := hm
  unfold dictSetDefault
  try with_reducible refine wpAny_holding ?_
  refine wpAny_bind (knd.pyHash hu hkey (wpAny_bind (wpAny_dictFind_heap (s := { s with toks := s.toks + knd.draws k }) hu hkey ho hd he his hn ?_ ?_)))
  · intro hno
    have hnot : k ∉ xs.map (·.1) := not_mem_keys_of_get hno
    have hnone := atKey_none_of_get hno
    refine wpAny_bind (wpAny_rule (wpAny_bind (wpAny_updateDictKeys (hz := by have e := size_of_entries he; omega) (s := { s with toks := s.toks + knd.draws k }) ho hd (wpAny_pure (hnew hnone _ ⟨_, _, ep + 1, Heap.get?_update_self _ ho (Obj.isFreed_of_dict (Obj.data_mapDictKeys hd _)),
      hc.mapDictKeys _, Obj.data_mapDictKeys hd _, ?_, ?_, ?_⟩ (Heap.SameBut.update ..))))))
    · rw [storedH_new hnone]; simp [he, entryOfKey]
    · rw [storedH_new hnone]
      intro x hx
      rcases List.mem_append.mp hx with hx | hx
      · exact knd.keeps (his x hx) ho hd (Heap.SameBut.update ..)
      · rw [List.mem_singleton.mp hx]
        exact knd.keeps hkey ho hd (Heap.SameBut.update ..)
    · rw [storedH_new hnone, List.map_append, List.nodup_append]
      refine ⟨hn, by simp, ?_⟩
      intro x hx y hy
      simp only [List.map_cons, List.map_nil, List.mem_singleton] at hy
      subst hy
      exact fun e => hnot (e ▸ hx)
  · intro j p hj
    refine wpAny_bind (wpAny_dictEntries (s := { s with toks := s.toks + knd.draws k }) ho hd ?_)
    rw [entry_at he j, hj]
    exact wpAny_bind (wpAny_rule (wpAny_pure (hthere p (atKey_of_get hn hj))))
theorem CL.setdefaultT {a b : Addr} {g : Nat × Nat} {f : List Ky → Option V} {n : Nat} {ks : List Ky} {v : V} {P : V → MH → Prop} (ha : H a = some (.dT g f n)) (hb : H b = some (.tup (ks.map Ky.v))) (hz : n ≤ 1000)
    (h1 : ∀ u, f ks = some u → P u H) (h2 : f ks = none → P v (upd H a (.dT g (fun y => if y = ks then some v else f y) (n + 1)))) :
    CL D d H (.oth (.builtin "dict.setdefault")) [.ref a, .ref b, v] P := fun uf us huf hus A h₀ L m hid s Q hA hV F X k => by
  have := er_oth huf; subst this
  obtain ⟨x, y, z, rfl, hx, hy, hzv⟩ := args3 hus
  have := er_ref hx; subst this
  have := er_ref hy; subst this
  obtain ⟨xs, hd, hf, hl, hsm, hn⟩ := X.dT F ha
  refine wpAny_call_entry PySem.F.slot_dict_setdefault hd.typeIs PySem.F.entry_dict_setdefault ?_ (PySem.F.args_dict_setdefault_3 _ _ _)
  unfold Builtin.«dict.setdefault»
  refine wpAny_bind ?_
  unfold Builtin.Dict.keyAndDefault
  refine wpAny_bind (wpAny_notOrdered_dict hd.typeIs ?_)
  show wpAny _ _ (pure (a, Value.ref b, some z)) _ _ s
  refine wpAny_pure ?_
  show wpAny _ _ (if (a == sysModules) = true then _ else (dictSetDefault a (.ref b) z >>= _)) _ _ s
  rw [if_neg (by rw [hsm]; exact Bool.false_ne_true)]
  refine wpAny_bind (wpAny_setDefault_H (knd := TK D.prog D.w) (by show A.in1.units < cLine; rw [Around.in1_units]; have := room_of hA; omega) (tupleKey_of X hb) hd (fun p hp => ?_) (fun hnone h' hd' hs => ?_) (by rw [sizeLine_eq]; omega))
  · refine wpAny_pure ⟨p.2, rfl, k p.2 H s.heap _ (h1 _ ?_) F X⟩
    rw [← hf ks, hp]; rfl
  · obtain ⟨F', X'⟩ := hn ks b z h' hb hs hd'
    rw [hzv] at X'
    refine wpAny_pure ⟨z, rfl, k z _ h' _ ?_ F' X'⟩
    show P (er z) _
    rw [hzv]
    exact h2 (by rw [← hf ks, hnone]; rfl)
end
end Mine
namespace Mine
section
variable {D : Wd} {d : Nat} {e : Env} {ρ : List (Str × V)} {H : MH} {h₀ h h' : Heap} {L : Addr} {hid : Led} {m : Str → Option Value}
theorem HO.move {news news' : Led} {a : Addr} {o : MO} (x : HO D news H a o) (ha : H a = some o) (hs : ∀ p ∈ news, (H p.1 ≠ none ∨ (∃ a C, H a ≠ none ∧ (a, instObj C p.1) ∈ news) ∨ (p.2.cls = .type "tuple" ∧ ∃ its n, p.2.data = .seq its n)) → p ∈ news') : HO D news' H a o := by
  have hn : H a ≠ none := by rw [ha]; intro q; cases q
  have tup : ∀ {b : Addr} {its : Array Value}, tupAt news b its → tupAt news' b its := fun ⟨o, n, q1, q2, q3⟩ => ⟨o, n, hs _ q1 (.inr (.inr ⟨q2, _, _, q3⟩)), q2, q3⟩
  cases o with
  | tup vs => obtain ⟨its, h1, h2⟩ := x; exact ⟨its, tup h1, h2⟩
  | lst g vs => obtain ⟨its, n, h1, h2⟩ := x; exact ⟨its, n, hs _ h1 (.inl hn), h2⟩
  | inst C fs => obtain ⟨dd, es, n, h1, h2, h3⟩ := x; exact ⟨dd, es, n, hs _ h1 (.inl hn), hs _ h2 (.inr (.inl ⟨_, _, hn, h1⟩)), h3⟩
  | dS g f k => obtain ⟨o, kvs, h1, r⟩ := x; exact ⟨o, kvs, hs _ h1 (.inl hn), r⟩
  | dI g f k => obtain ⟨o, kvs, h1, r⟩ := x; exact ⟨o, kvs, hs _ h1 (.inl hn), r⟩
  | dT g f k =>
    obtain ⟨o, es, ep, xs, h1, h2, h3, h4, h5, h6⟩ := x
    exact ⟨o, es, ep, xs, hs _ h1 (.inl hn), h2, h3, h4, fun y hy => ⟨let ⟨its, a, b⟩ := (h5 y hy).1; ⟨its, tup a, b⟩, (h5 y hy).2⟩, h6⟩
  | sI is => obtain ⟨h0, o, es, ep, t, h1, r⟩ := x; exact ⟨h0, o, es, ep, t, hs _ h1 (.inl hn), r⟩
  | rng x' y => obtain ⟨o, t, u, v, h1, r⟩ := x; exact ⟨o, t, u, v, hs _ h1 (.inl hn), r⟩
  | enm l => obtain ⟨o, h1, r⟩ := x; exact ⟨o, hs _ h1 (.inl hn), r⟩
noncomputable def plainO (o : Obj) : Prop := o.cls ≠ .type "tuple" ∨ ∀ its n, o.data ≠ .seq its n
theorem Hp.turn0 {il il' : Led} (X : Hp D h₀ L h H (il ++ hid)) (hp : ∀ p ∈ il, plainO p.2) (hd : ∀ p ∈ hid, p.1 ∉ il.map (·.1)) (hm : ∀ p ∈ il', p.1 ∈ il.map (·.1)) (hk : ∀ b o, b ∉ il.map (·.1) → h.get? b = some o → h'.get? b = some o)
    (ho : ∀ p ∈ il', h'.get? p.1 = some p.2) :
    ∃ news, News h₀ L h' news ∧ (∀ p ∈ il' ++ hid, p ∈ news ∧ H p.1 = none ∧ NoD news H p.1) ∧ (∀ a o, H a = some o → HO D news H a o) ∧ ∀ p ∈ news, p.1 < h.objs.size := by
  obtain ⟨news, N, h1, h2⟩ := X
  have hil : ∀ {b : Addr}, b ∈ il.map (·.1) → ∃ o, (b, o) ∈ il ∧ (b, o) ∈ news ∧ H b = none ∧ NoD news H b ∧ plainO o := fun {b} hb => by
    obtain ⟨p, hp', rfl⟩ := List.mem_map.mp hb
    have := h1 p (List.mem_append_left _ hp')
    exact ⟨p.2, hp', this.1, this.2.1, this.2.2, hp p hp'⟩
  have nod : ∀ {b : Addr}, NoD news H b → NoD (il' ++ news.filter (fun p => decide (p.1 ∉ il.map (·.1)))) H b := fun hn a C hm' => by
    rcases List.mem_append.mp hm' with q | q
    · obtain ⟨o, _, _, q3, _⟩ := hil (hm _ q); exact q3
    · exact hn a C (List.mem_filter.mp q).1
  refine ⟨il' ++ news.filter (fun p => decide (p.1 ∉ il.map (·.1))), fun p hp' => ?_, fun p hp' => ?_, fun a o ha => (h2 a o ha).move ha fun p hp' hr => ?_, fun p hp' => ?_⟩
  · rcases List.mem_append.mp hp' with q | q
    · obtain ⟨o, _, q2, _⟩ := hil (hm p q)
      exact ⟨ho p q, (N _ q2).2⟩
    · have q' := List.mem_filter.mp q
      exact ⟨hk _ _ (by simpa using q'.2) (N p q'.1).1, (N p q'.1).2⟩
  · rcases List.mem_append.mp hp' with q | q
    · obtain ⟨o, _, _, q3, q4, _⟩ := hil (hm p q)
      exact ⟨List.mem_append_left _ q, q3, nod q4⟩
    · have z := h1 p (List.mem_append_right _ q)
      exact ⟨List.mem_append_right _ (List.mem_filter.mpr ⟨z.1, by simpa using hd p q⟩), z.2.1, nod z.2.2⟩
  · refine List.mem_append_right _ (List.mem_filter.mpr ⟨hp', ?_⟩)
    rw [decide_eq_true_eq]
    intro hb
    obtain ⟨o', _, q2, q3, q4, q5⟩ := hil hb
    rcases hr with z | ⟨a, C, z, z'⟩ | z
    · exact z q3
    · exact z (q4 a C z')
    · have e1 := N.get q2
      have e2 : h.get? p.1 = some p.2 := (N p hp').1
      rw [e1] at e2
      cases e2
      rcases q5 with q5 | q5
      · exact q5 z.1
      · obtain ⟨_, its, n, z⟩ := z; exact q5 _ _ z
  · rcases List.mem_append.mp hp' with q | q
    · obtain ⟨o, _, q2, _⟩ := hil (hm p q)
      exact Heap.lt_size (N _ q2).1
    · exact Heap.lt_size (N p (List.mem_filter.mp q).1).1
theorem Hp.turn {il il' : Led} (X : Hp D h₀ L h H (il ++ hid)) (hp : ∀ p ∈ il, plainO p.2) (hd : ∀ p ∈ hid, p.1 ∉ il.map (·.1)) (hm : ∀ p ∈ il', p.1 ∈ il.map (·.1)) (hk : ∀ b o, b ∉ il.map (·.1) → h.get? b = some o → h'.get? b = some o)
    (ho : ∀ p ∈ il', h'.get? p.1 = some p.2) : Hp D h₀ L h' H (il' ++ hid) :=
  let ⟨news, a, b, c, _⟩ := X.turn0 hp hd hm hk ho
  ⟨news, a, b, c⟩
structure Shp where
  n : Nat
  Src : MH → Prop
  item : Nat → V → MH → Prop
structure Itor extends Shp where
  I : Addr
  St : Nat → Led → Prop
noncomputable def NextOk (D : Wd) (tg : Expr) (T : Itor) : Prop :=
  ∀ (i : Nat) (A : Around) (h₀ : Heap) (L : Addr) (m : Str → Option Value) (il hid : Led) (s : Shared) (H : MH) (Q : Option Value → Shared → Prop), A.handled = none → T.St i il → (∀ p ∈ hid, p.1 ∉ il.map (·.1)) → T.Src H → Fr h₀ L s.heap m → Hp D h₀ L s.heap H (il ++ hid) →
    (i < T.n → ∀ v il' H' h' tk', T.item i (er v) H' → Le H H' → T.Src H' → T.St (i + 1) il' → il'.map (·.1) = il.map (·.1) → Fr h₀ L h' m → Hp D h₀ L h' H' (il' ++ hid) → Q (some v) { s with heap := h', toks := tk' }) →
    (i = T.n → ∀ h' tk', Fr h₀ L h' m → Hp D h₀ L h' H hid → Q none { s with heap := h', toks := tk' }) →
    i ≤ T.n → wpAny (model D.prog D.w) A (pyNext (.ref T.I)) (fun r s₁ => match r with
      | none => Q none s₁
      | some v => wpAny (model D.prog D.w) A (letOwnedTupleGo tg (.ref T.I) v) (fun _ s₂ => Q (some v) s₂) (fun _ _ => False) s₁) (fun _ _ => False) s
noncomputable def SelfOk (D : Wd) (T : Itor) : Prop := ∀ (i : Nat) (A : Around) (h₀ : Heap) (L : Addr) (il hid : Led) (s : Shared) (H : MH) (Q : Value → Shared → Prop) (E : Value → Shared → Prop), T.St i il → Hp D h₀ L s.heap H (il ++ hid) → Q (.ref T.I) s → wpAny (model D.prog D.w) A (pyIter (.ref T.I)) Q E s
noncomputable def ItOk (D : Wd) (tg : Expr) (T : Itor) : Prop := NextOk D tg T ∧ SelfOk D T
theorem letGo_plain {M : Model} {A : Around} {E : Value → Shared → Prop} {s : Shared} {tg : Expr} {I : Addr} {v : Value} {o : Obj} {n : String} {Q : Unit → Shared → Prop} (ho : s.heap.get? I = some o) (hc : o.cls = .type n)
    (hn : ["enumerate", "zip", "dict_itemiterator", "dict_reverseitemiterator", "odict_iterator", "itertools.zip_longest", "itertools.pairwise"].contains n = false) (hQ : Q () s) : wpAny M A (letOwnedTupleGo tg (.ref I) v) Q E s := by
  have go : ∀ {a : Addr}, wpAny M A (do
      let o ← load I
      match o.cls, o.data with
      | .type n, .fields vs =>
        if ["enumerate", "zip", "dict_itemiterator", "dict_reverseitemiterator", "odict_iterator", "itertools.zip_longest", "itertools.pairwise"].contains n && vs[0]? == some (rawInt a) then
          rule "for.unpacks-the-owned-tuple"
          updateField I 0 .none
      | _, _ => pure ()) Q E s := fun {a} => by
    refine wpAny_bind (wpAny_load ho ?_)
    obtain ⟨c, dd, dt, sl⟩ := o
    dsimp only at hc
    subst hc
    cases dt <;> try exact wpAny_pure hQ
    show wpAny M A (if (_ && _) = true then _ else _) Q E s
    rw [hn]
    exact wpAny_pure hQ
  cases tg <;> try exact wpAny_pure hQ
  all_goals (cases v <;> first | exact wpAny_pure hQ | exact go)
theorem fr_but1 {I : Addr} {il : Led} {h h' : Heap} (F : Fr h₀ L h m) (X : Hp D h₀ L h H (il ++ hid)) (hI : I ∈ il.map (·.1)) (hk : ∀ b o, b ≠ I → h.get? b = some o → h'.get? b = some o) : Fr h₀ L h' m := by
  obtain ⟨news, N, h1, _⟩ := X
  obtain ⟨p, hp, rfl⟩ := List.mem_map.mp hI
  have z := (N _ (h1 p (List.mem_append_left _ hp)).1)
  exact ⟨F.ns.at' fun o q => hk L o (Ne.symm z.2.1) q, fun b o q => hk b o (fun w => by rw [w, z.2.2] at q; cases q) (F.keep b o q), F.above⟩
noncomputable def listShp (l : Addr) (items : List V) : Shp := { n := items.length, Src := fun H => ∃ g, H l = some (.lst g items), item := fun i v _ => items[i]? = some v }
noncomputable def listItor (I l : Addr) (items : List V) : Itor := { listShp l items with I := I, St := fun i il => ∃ o, il = [(I, o)] ∧ o.cls = .type "list_iterator" ∧ o.data = .fields #[.ref l, .int i 0] }
theorem listItor_next {I l : Addr} {items : List V} (tg : Expr) : NextOk D tg (listItor I l items) := fun i A h₀ L m il hid s H Q hh hst hd hsrc F X hit hend hi => by
  obtain ⟨o, rfl, ho1, ho2⟩ := hst
  obtain ⟨g, hg⟩ := hsrc
  obtain ⟨its, hl, hi'⟩ := X.list hg
  have hI : s.heap.IsListIter I l i := ⟨o, X.get (List.mem_append_left _ List.mem_cons_self), ho1, ho2⟩
  have hpl : ∀ p ∈ [(I, o)], plainO p.2 := fun p hp => by
    rw [List.mem_singleton.mp hp]
    exact .inl (by rw [ho1]; decide)
  rcases Nat.lt_or_eq_of_le hi with hlt | heq
  · obtain ⟨y, hy, hyv⟩ := its_get (k := i) hi' (List.getElem?_eq_getElem hlt)
    refine wpAny_pyNext_list_item hI hl hy fun h' hit' hs => ?_
    obtain ⟨o', ho', q1, q2⟩ := hit'
    have hk : ∀ b ob, b ≠ I → s.heap.get? b = some ob → h'.get? b = some ob := fun b ob hb q => (hs.2 b hb).trans q
    refine letGo_plain (I := I) ho' q1 (by decide) ?_
    exact hit hlt y [(I, o')] H h' s.toks (by show items[i]? = some (er y); rw [hyv]; exact List.getElem?_eq_getElem hlt) (Le.refl H) ⟨g, hg⟩ ⟨o', rfl, q1, q2⟩ rfl (fr_but1 (I := I) F X (List.mem_singleton.mpr rfl) hk)
      (X.turn hpl hd (by simp) (fun b ob hb => hk b ob (fun q => hb (q ▸ List.mem_singleton.mpr rfl))) fun p hp => by rw [List.mem_singleton.mp hp]; exact ho')
  · have hnone : its[i]? = none := Array.getElem?_eq_none (by rw [its_size hi']; exact Nat.le_of_eq heq.symm)
    refine wpAny_pyNext_list_end hh hI hl hnone fun h' he => ?_
    have he' : ∀ b ob, b ≠ I → s.heap.get? b = some ob → h'.get? b = some ob := he
    exact hend heq h' s.toks (fr_but1 (I := I) F X (List.mem_singleton.mpr rfl) he') (by
      have := X.turn (il' := []) hpl hd (by simp) (fun b ob hb => he' b ob (fun q => hb (q ▸ List.mem_singleton.mpr rfl))) (by simp)
      simpa using this)
noncomputable def tupShp (t : Addr) (items : List V) : Shp := { n := items.length, Src := fun H => H t = some (.tup items), item := fun i v _ => items[i]? = some v }
noncomputable def tupItor (I t : Addr) (items : List V) : Itor := { tupShp t items with I := I, St := fun i il => ∃ o, il = [(I, o)] ∧ o.cls = .type "tuple_iterator" ∧ o.data = .fields #[.ref t, .int i 0] }
theorem tupItor_next {I t : Addr} {items : List V} (tg : Expr) : NextOk D tg (tupItor I t items) := fun i A h₀ L m il hid s H Q hh hst hd hsrc F X hit hend hi => by
  obtain ⟨o, rfl, ho1, ho2⟩ := hst
  obtain ⟨its, hl, hi'⟩ := X.tup hsrc
  have hI : s.heap.IsTupleIter I t i := ⟨o, X.get (List.mem_append_left _ List.mem_cons_self), ho1, ho2⟩
  have hpl : ∀ p ∈ [(I, o)], plainO p.2 := fun p hp => by
    rw [List.mem_singleton.mp hp]
    exact .inl (by rw [ho1]; decide)
  rcases Nat.lt_or_eq_of_le hi with hlt | heq
  · obtain ⟨y, hy, hyv⟩ := its_get (k := i) hi' (List.getElem?_eq_getElem hlt)
    refine wpAny_pyNext_tuple_item hI hl hy fun h' hit' hs => ?_
    obtain ⟨o', ho', q1, q2⟩ := hit'
    have hk : ∀ b ob, b ≠ I → s.heap.get? b = some ob → h'.get? b = some ob := fun b ob hb q => (hs.2 b hb).trans q
    refine letGo_plain (I := I) ho' q1 (by decide) ?_
    exact hit hlt y [(I, o')] H h' s.toks (by show items[i]? = some (er y); rw [hyv]; exact List.getElem?_eq_getElem hlt) (Le.refl H) hsrc ⟨o', rfl, q1, q2⟩ rfl (fr_but1 (I := I) F X (List.mem_singleton.mpr rfl) hk)
      (X.turn hpl hd (by simp) (fun b ob hb => hk b ob (fun q => hb (q ▸ List.mem_singleton.mpr rfl))) fun p hp => by rw [List.mem_singleton.mp hp]; exact ho')
  · have hnone : its[i]? = none := Array.getElem?_eq_none (by rw [its_size hi']; exact Nat.le_of_eq heq.symm)
    refine wpAny_pyNext_tuple_end hh hI hl hnone fun h' he => ?_
    have he' : ∀ b ob, b ≠ I → s.heap.get? b = some ob → h'.get? b = some ob := he
    exact hend heq h' s.toks (fr_but1 (I := I) F X (List.mem_singleton.mpr rfl) he') (by
      have := X.turn (il' := []) hpl hd (by simp) (fun b ob hb => he' b ob (fun q => hb (q ▸ List.mem_singleton.mpr rfl))) (by simp)
      simpa using this)
noncomputable def rngShp (n : Nat) : Shp := { n := n, Src := fun _ => True, item := fun i v _ => v = .int (i : Int) }
noncomputable def rngObj (i n : Int) : Obj := { cls := .type "range_iterator", data := .fields #[rawInt i, rawInt (n - i), rawInt 1] }
noncomputable def rngItor (I : Addr) (n : Nat) : Itor := { rngShp n with I := I, St := fun i il => il = [(I, rngObj (i : Int) (n : Int))] }
theorem rngItor_next {I : Addr} {n : Nat} (tg : Expr) : NextOk D tg (rngItor I n) := fun i A h₀ L m il hid s H Q hh hst hd hsrc F X hit hend hi => by
  have hst' : il = [(I, rngObj (i : Int) (n : Int))] := hst
  subst hst'
  have hI : IsRangeIter s.heap I (i : Int) ((n : Int) - (i : Int)) 1 := X.get (List.mem_append_left _ List.mem_cons_self)
  have hpl : ∀ p ∈ [(I, rngObj (i : Int) (n : Int))], plainO p.2 := fun p hp => by
    rw [List.mem_singleton.mp hp]
    exact .inl (by show Value.type "range_iterator" ≠ .type "tuple"; decide)
  have hi2 : i ≤ n := hi
  rcases Nat.lt_or_eq_of_le hi2 with hlt | heq
  · refine wpAny_pyNext_range_item hI (by omega) fun h' hit' hs => ?_
    have hk : ∀ b ob, b ≠ I → s.heap.get? b = some ob → h'.get? b = some ob := fun b ob hb q => (hs.2 b hb).trans q
    have hit2 : h'.get? I = some (rngObj ((i + 1 : Nat) : Int) (n : Int)) := by
      rw [show (n : Int) - (i : Int) - 1 = (n : Int) - ((i + 1 : Nat) : Int) by omega, show (i : Int) + 1 = ((i + 1 : Nat) : Int) by omega] at hit'
      exact hit'
    refine letGo_plain (I := I) (n := "range_iterator") hit2 rfl (by decide) ?_
    exact hit hlt (.int i s.toks) [(I, rngObj ((i + 1 : Nat) : Int) (n : Int))] H h' _ rfl (Le.refl H) trivial rfl rfl (fr_but1 (I := I) F X (List.mem_singleton.mpr rfl) hk)
      (X.turn hpl hd (by simp) (fun b ob hb => hk b ob (fun q => hb (q ▸ List.mem_singleton.mpr rfl))) fun p hp => by rw [List.mem_singleton.mp hp]; exact hit2)
  · refine wpAny_pyNext_range_end hh hI (by omega) fun h' he => ?_
    have he' : ∀ b ob, b ≠ I → s.heap.get? b = some ob → h'.get? b = some ob := he
    exact hend heq h' s.toks (fr_but1 (I := I) F X (List.mem_singleton.mpr rfl) he') (by
      have := X.turn (il' := []) hpl hd (by simp) (fun b ob hb => he' b ob (fun q => hb (q ▸ List.mem_singleton.mpr rfl))) (by simp)
      simpa using this)
noncomputable def enmShp (l : Addr) (items : List V) : Shp := { n := items.length, Src := fun H => ∃ g, H l = some (.lst g items), item := fun i v H => ∃ a x, v = .ref a ∧ H a = some (.tup [.int (i : Int), x]) ∧ items[i]? = some x }
noncomputable def enmObj (it : Addr) (i : Int) (old : Value) : Obj := { cls := .type "enumerate", data := .fields #[.none, .bool false, .ref it, rawInt i, .none, old] }
noncomputable def enmItor (e it l : Addr) (items : List V) : Itor := { enmShp l items with I := e, St := fun i il => e ≠ it ∧ ∃ o old, il = [(e, enmObj it i old), (it, o)] ∧ o.cls = .type "list_iterator" ∧ o.data = .fields #[.ref l, .int i 0] }
theorem fr_but2 {il : Led} {h h' : Heap} (F : Fr h₀ L h m) (X : Hp D h₀ L h H (il ++ hid)) (hk : ∀ b o, b ∉ il.map (·.1) → h.get? b = some o → h'.get? b = some o) : Fr h₀ L h' m := by
  obtain ⟨news, N, h1, _⟩ := X
  have z : ∀ b ∈ il.map (·.1), b ≠ L ∧ h₀.get? b = none := fun b hb => by
    obtain ⟨p, hp, rfl⟩ := List.mem_map.mp hb
    exact (N _ (h1 p (List.mem_append_left _ hp)).1).2
  exact ⟨F.ns.at' fun o q => hk L o (fun w => (z L w).1 rfl) q, fun b o q => hk b o (fun w => by rw [(z b w).2] at q; cases q) (F.keep b o q), F.above⟩
theorem enmItor_next {e it l : Addr} {items : List V} (elts : List Expr) (x1 : Nat) (pos : Pos) : NextOk D (.Tuple elts x1 pos) (enmItor e it l items) := fun i A h₀ L m il hid s H Q hh hst hd hsrc F X hit hend hi => by
  obtain ⟨hne, o, old, rfl, ho1, ho2⟩ := hst
  obtain ⟨g, hg⟩ := hsrc
  obtain ⟨its, hl, hi'⟩ := X.list hg
  have hE : IsEnum s.heap e it (i : Int) old := X.get (List.mem_append_left _ List.mem_cons_self)
  have hI : s.heap.IsListIter it l i := ⟨o, X.get (List.mem_append_left _ (List.mem_cons_of_mem _ List.mem_cons_self)), ho1, ho2⟩
  have hpl : ∀ p ∈ [(e, enmObj it (i : Int) old), (it, o)], plainO p.2 := fun p hp => by
    rcases List.mem_cons.mp hp with rfl | hp
    · exact .inl (by show Value.type "enumerate" ≠ .type "tuple"; decide)
    · rw [List.mem_singleton.mp hp]
      exact .inl (by rw [ho1]; decide)
  have off : ∀ {b : Addr}, b ∉ [(e, enmObj it (i : Int) old), (it, o)].map (·.1) → b ≠ e ∧ b ≠ it := fun hb => ⟨fun q => hb (by rw [q]; exact List.mem_cons_self), fun q => hb (by rw [q]; exact List.mem_cons_of_mem _ List.mem_cons_self)⟩
  rcases Nat.lt_or_eq_of_le hi with hlt | heq
  · obtain ⟨y, hy, hyv⟩ := its_get (k := i) hi' (List.getElem?_eq_getElem hlt)
    refine wpAny_pyNext_enum_item hE hI hl hy hne fun h₁ heo hit₁ ht₁ hz₁ hk₁ => ?_
    have hz : ∀ {b : Addr} {ob : Obj}, s.heap.get? b = some ob → b ≠ s.heap.objs.size := fun q => Nat.ne_of_lt (Heap.lt_size q)
    refine wpAny_letOwnedTupleGo_enum heo fun h₂ he₂ hs₂ => ?_
    replace hs₂ : Heap.SameBut e h₁ h₂ := hs₂
    have hk : ∀ b ob, b ∉ [(e, enmObj it (i : Int) old), (it, o)].map (·.1) → s.heap.get? b = some ob → h₂.get? b = some ob := fun b ob hb q => (hs₂.2 b (off hb).1).trans (hk₁ b ob (off hb).1 (off hb).2 q)
    obtain ⟨o', ho', q1, q2⟩ := hit₁
    have ho₂ : h₂.get? it = some o' := (hs₂.2 it (Ne.symm hne)).trans ho'
    have hez : s.heap.objs.size ≠ e := fun q => hz hE q.symm
    have ht₂ := (hs₂.2 _ hez).trans ht₁
    have hcast : (i : Int) + 1 = ((i + 1 : Nat) : Int) := by omega
    rw [hcast] at he₂
    obtain ⟨news, N, h1, h2, h3⟩ := X.turn0 (h' := h₂) (il' := [(e, enmObj it ((i + 1 : Nat) : Int) y), (it, o')]) hpl hd (fun p hp => by
      rcases List.mem_cons.mp hp with rfl | hp
      · exact List.mem_cons_self
      · rw [List.mem_singleton.mp hp]; exact List.mem_cons_of_mem _ List.mem_cons_self) hk (fun p hp => by
      rcases List.mem_cons.mp hp with rfl | hp
      · exact he₂
      · rw [List.mem_singleton.mp hp]; exact ho₂)
    have hb : ∀ p ∈ news, p.1 ≠ s.heap.objs.size := fun p hp => Nat.ne_of_lt (h3 p hp)
    have hfr : H s.heap.objs.size = none := X.fresh (Nat.le_refl _)
    have hL : s.heap.objs.size ≠ L := fun q => Nat.lt_irrefl _ (by have := F.ns.lt; rw [← q] at this; exact this)
    have hB : h₀.get? s.heap.objs.size = none := by
      cases q : h₀.get? s.heap.objs.size with
      | none => rfl
      | some ob => exact absurd rfl (hz (F.keep _ _ q))
    refine hit hlt (.ref s.heap.objs.size) [(e, enmObj it ((i + 1 : Nat) : Int) y), (it, o')] (upd H s.heap.objs.size (.tup [.int (i : Int), er y])) h₂ _ ⟨_, er y, rfl, upd_self .., by rw [hyv]; exact List.getElem?_eq_getElem hlt⟩ (le_upd hfr) ⟨g, le_upd hfr _ _ hg⟩
      ⟨hne, o', y, rfl, q1, q2⟩ rfl (fr_but2 F X hk) (Hp.newOf (o := { cls := .type "tuple", data := .seq #[.int i s.toks, y] }) (by intro _ _ q; cases q) hb h1 h2 (fun p hp => ?_) ⟨#[.int i s.toks, y], ⟨_, _, List.mem_cons_self, rfl, rfl⟩, rfl⟩)
    rcases List.mem_cons.mp hp with rfl | hp
    · exact ⟨ht₂, hL, hB⟩
    · exact N p hp
  · have hnone : its[i]? = none := Array.getElem?_eq_none (by rw [its_size hi']; exact Nat.le_of_eq heq.symm)
    refine wpAny_pyNext_enum_end hh hE hI hl hnone fun h' he => ?_
    have hk : ∀ b ob, b ∉ [(e, enmObj it (i : Int) old), (it, o)].map (·.1) → s.heap.get? b = some ob → h'.get? b = some ob := fun b ob hb q => he b ob (off hb).2 q
    exact hend heq h' s.toks (fr_but2 F X hk) (by
      have := X.turn (il' := []) hpl hd (by simp) hk (by simp)
      simpa using this)
theorem listItor_self {I l : Addr} {items : List V} : SelfOk D (listItor I l items) := fun i A h₀ L il hid s H Q E hst X h => by
  obtain ⟨o, rfl, ho1, ho2⟩ := hst
  exact wpAny_pyIter_listiter (l := l) (i := i) ⟨o, X.get (List.mem_append_left _ List.mem_cons_self), ho1, ho2⟩ h
theorem tupItor_self {I l : Addr} {items : List V} : SelfOk D (tupItor I l items) := fun i A h₀ L il hid s H Q E hst X h => by
  obtain ⟨o, rfl, ho1, ho2⟩ := hst
  exact wpAny_pyIter_tupleiter (t := l) (i := i) ⟨o, X.get (List.mem_append_left _ List.mem_cons_self), ho1, ho2⟩ h
theorem rngItor_self {I : Addr} {n : Nat} : SelfOk D (rngItor I n) := fun i A h₀ L il hid s H Q E hst X h => by
  have hst' : il = [(I, rngObj (i : Int) (n : Int))] := hst
  subst hst'
  exact wpAny_pyIter_rangeiter (x := (i : Int)) (left := (n : Int) - (i : Int)) (step := 1) (X.get (List.mem_append_left _ List.mem_cons_self)) h
theorem enmItor_self {e it l : Addr} {items : List V} : SelfOk D (enmItor e it l items) := fun i A h₀ L il hid s H Q E hst X h => by
  obtain ⟨hne, o, old, rfl, ho1, ho2⟩ := hst
  exact wpAny_pyIter_enum (it := it) (i := (i : Int)) (old := old) (X.get (List.mem_append_left _ List.mem_cons_self)) h
end
end Mine
namespace Mine
section
variable {D : Wd} {d : Nat} {e : Env} {ρ : List (Str × V)} {H : MH} {tg : Expr}
noncomputable def IE (D : Wd) (d : Nat) (e : Env) (ρ : List (Str × V)) (H : MH) (tg x : Expr) (P : Shp → MH → Prop) : Prop :=
  ∀ (A : Around) (h₀ : Heap) (L : Addr) (m : Str → Option Value) (hid : Led) (s : Shared) (Q : Value → Shared → Prop), Amb D A d h₀ L → Vr e L m hid ρ → Fr h₀ L s.heap m → Hp D h₀ L s.heap H hid →
    (∀ (T : Itor) H' il h' tk', P T.toShp H' → ItOk D tg T → T.St 0 il → (∀ p ∈ hid, p.1 ∉ il.map (·.1)) → Fr h₀ L h' m → Hp D h₀ L h' H' (il ++ hid) → Q (.ref T.I) { s with heap := h', toks := tk' }) →
    wpAny (model D.prog D.w) A (eval x e) (fun v s₁ => wpAny (model D.prog D.w) A (pyIter v) Q (fun _ _ => False) s₁) (fun _ _ => False) s
theorem Hp.hid_lt {h₀ h : Heap} {L : Addr} {hid : Led} (X : Hp D h₀ L h H hid) : ∀ p ∈ hid, p.1 < h.objs.size := fun p hp => Heap.lt_size (X.get hp)
theorem Hp.hideAll {h₀ h h' : Heap} {L : Addr} {hid : Led} (xs : Led) (X : Hp D h₀ L h H hid) (hk : ∀ c oc, h.get? c = some oc → h'.get? c = some oc) (hx : ∀ p ∈ xs, h.objs.size ≤ p.1 ∧ h'.get? p.1 = some p.2 ∧ p.1 ≠ L ∧ h₀.get? p.1 = none) : Hp D h₀ L h' H (xs ++ hid) := by
  have fr : ∀ p ∈ xs, H p.1 = none := fun p hp => X.fresh (hx p hp).1
  obtain ⟨news, N, h1, h2⟩ := X
  have nod : ∀ {b : Addr}, NoD news H b → NoD (xs ++ news) H b := fun hn a C hm => by
    rcases List.mem_append.mp hm with q | q
    · exact fr _ q
    · exact hn a C q
  refine ⟨xs ++ news, fun p hp => ?_, fun p hp => ?_, fun a ob ha => (h2 a ob ha).mono fun p hp => List.mem_append_right _ hp⟩
  · rcases List.mem_append.mp hp with hp | hp
    · exact (hx p hp).2
    · exact ⟨hk _ _ (N p hp).1, (N p hp).2⟩
  · rcases List.mem_append.mp hp with hp | hp
    · refine ⟨List.mem_append_left _ hp, fr p hp, nod fun a C hm => ?_⟩
      cases q : H a with
      | none => rfl
      | some o =>
        obtain ⟨_, _, ob, hm'⟩ := (h2 a o q).instOf N hm
        exact absurd (Heap.lt_size (N _ hm').1) (Nat.not_lt.mpr (hx p hp).1)
    · exact ⟨List.mem_append_right _ (h1 p hp).1, (h1 p hp).2.1, nod (h1 p hp).2.2⟩
theorem Hp.hideAt {h₀ h h' : Heap} {L : Addr} {hid : Led} {b : Addr} {o : Obj} (X : Hp D h₀ L h H hid) (hk : ∀ c oc, h.get? c = some oc → h'.get? c = some oc) (hb : h.objs.size ≤ b) (ho : h'.get? b = some o) (hL : b ≠ L) (h0 : h₀.get? b = none) : Hp D h₀ L h' H ((b, o) :: hid) :=
  X.hideAll [(b, o)] hk fun p hp => by rw [List.mem_singleton.mp hp]; exact ⟨hb, ho, hL, h0⟩
theorem fr_free {h₀ h : Heap} {L b : Addr} {m : Str → Option Value} (F : Fr h₀ L h m) (hb : h.objs.size ≤ b) : b ≠ L ∧ h₀.get? b = none := by
  refine ⟨fun q => Nat.lt_irrefl _ (Nat.lt_of_lt_of_le F.ns.lt (q ▸ hb)), ?_⟩
  cases q : h₀.get? b with
  | none => rfl
  | some ob => exact absurd (Heap.lt_size (F.keep _ _ q)) (Nat.not_lt.mpr hb)
theorem fr_more {h₀ h h' : Heap} {L : Addr} {m : Str → Option Value} (F : Fr h₀ L h m) (hk : ∀ c oc, h.get? c = some oc → h'.get? c = some oc) : Fr h₀ L h' m := ⟨F.ns.at' fun o q => hk L o q, fun b o q => hk b o (F.keep b o q), F.above⟩
theorem Hp.hide {h₀ h : Heap} {L : Addr} {hid : Led} {m : Str → Option Value} {o : Obj} (X : Hp D h₀ L h H hid) (F : Fr h₀ L h m) (hf : o.isFreed = false) : Hp D h₀ L (h.push o) H ((h.objs.size, o) :: hid) :=
  X.hideAt (fun c oc q => Heap.get?_push_of_some _ q) (Nat.le_refl _) (Heap.get?_push_size _ hf) (fr_free F (Nat.le_refl _)).1 (fr_free F (Nat.le_refl _)).2
theorem IE.list {x : Expr} {P : Shp → MH → Prop} (h : EV D d e ρ H x fun v H' => ∃ l g items, v = .ref l ∧ H' l = some (.lst g items) ∧ P (listShp l items) H') : IE D d e ρ H tg x P := fun A h₀ L m hid s Q hA hV F X k =>
  h A h₀ L m hid s _ hA hV F X fun v H' h' tk' q F' X' => by
    obtain ⟨l, g, items, hv, hl, hp⟩ := q
    have := er_ref hv; subst this
    obtain ⟨its, hl', hi'⟩ := X'.list hl
    refine wpAny_pyIter_list hl' (k (listItor h'.objs.size l items) H' [(h'.objs.size, _)] _ _ hp ⟨listItor_next tg, listItor_self⟩ ⟨_, rfl, rfl, rfl⟩ (fun p hp => ?_) (F'.push _) (X'.hide F' rfl))
    exact fun q => Nat.ne_of_lt (X'.hid_lt p hp) (List.mem_singleton.mp q)
theorem IE.tup {x : Expr} {P : Shp → MH → Prop} (h : EV D d e ρ H x fun v H' => ∃ l items, v = .ref l ∧ H' l = some (.tup items) ∧ P (tupShp l items) H') : IE D d e ρ H tg x P := fun A h₀ L m hid s Q hA hV F X k =>
  h A h₀ L m hid s _ hA hV F X fun v H' h' tk' q F' X' => by
    obtain ⟨l, items, hv, hl, hp⟩ := q
    have := er_ref hv; subst this
    obtain ⟨its, hl', hi'⟩ := X'.tup hl
    refine wpAny_pyIter_tuple hl' (k (tupItor h'.objs.size l items) H' [(h'.objs.size, _)] _ _ hp ⟨tupItor_next tg, tupItor_self⟩ ⟨_, rfl, rfl, rfl⟩ (fun p hp => ?_) (F'.push _) (X'.hide F' rfl))
    exact fun q => Nat.ne_of_lt (X'.hid_lt p hp) (List.mem_singleton.mp q)
theorem rangeSize01 {n : Nat} : Builtin.Range.rangeSize 0 (n : Int) 1 = (n : Int) := by
  simp only [Builtin.Range.rangeSize]
  split
  · split <;> omega
  · omega
theorem small01 {n : Nat} (hn : n ≤ 1000000) : Builtin.Range.small 0 (n : Int) 1 = true := small_one (by decide) (by decide) (by omega) (by omega)
theorem IE.range {x : Expr} {P : Shp → MH → Prop} (h : EV D d e ρ H x fun v H' => ∃ l, ∃ n : Nat, v = .ref l ∧ H' l = some (.rng 0 n) ∧ n ≤ 1000000 ∧ P (rngShp n) H') : IE D d e ρ H tg x P := fun A h₀ L m hid s Q hA hV F X k =>
  h A h₀ L m hid s _ hA hV F X fun v H' h' tk' q F' X' => by
    obtain ⟨l, n, hv, hl, hn, hp⟩ := q
    have := er_ref hv; subst this
    have X'' := X'
    obtain ⟨news, N, h1, h2⟩ := X''
    obtain ⟨o, t, u, v, q1, rfl⟩ := h2 l _ hl
    have hr : IsRange h' l 0 n 1 t u v := (N _ q1).1
    refine wpAny_pyIter_range hr (small01 hn) (k (rngItor h'.objs.size n) H' [(h'.objs.size, _)] _ _ hp ⟨rngItor_next tg, rngItor_self⟩ ?_ (fun p hp => ?_) (F'.push _) (X'.hide F' rfl))
    · show [_] = [_]
      rw [rangeSize01]; simp [rngObj]
    · exact fun q => Nat.ne_of_lt (X'.hid_lt p hp) (List.mem_singleton.mp q)
theorem IE.enum {y : Expr} {fp pos : Pos} {elts : List Expr} {x1 : Nat} {tpos : Pos} {P : Shp → MH → Prop} (h : EV D d e ρ H y fun v H' => ∃ l g items, v = .ref l ∧ H' l = some (.lst g items) ∧ P (enmShp l items) H')
    (hf : EV D d e ρ H (.Name "enumerate" fp) fun v H' => v = .oth (.type "enumerate") ∧ H' = H) (hp : plainX y = true)
    (he : eval (.Call (.Name "enumerate" fp) [y] [] pos) e = (do callWith pos (← eval (.Name "enumerate" fp) e) [] (backTo pos (starEach [y] e)) (backToKw pos (keywordEach [] e)))) :
    IE D d e ρ H (.Tuple elts x1 tpos) (.Call (.Name "enumerate" fp) [y] [] pos) P := fun A h₀ L m hid s Q hA hV F X k => by
  refine Call_ (hf A h₀ L m hid s _ hA hV F X fun fv H₁ h₁ tk₁ q F₁ X₁ => ?_) he
  obtain ⟨q, rfl⟩ := q
  have := er_oth q; subst this
  have hst : starEach [y] e = (false, eval y e) :: starEach [] e := starEach_plain hp
  have go : ∀ {Q : List Value → Shared → Prop} {s : Shared}, wpAny (model D.prog D.w) A (spliced (backTo pos (starEach [y] e))) Q (fun _ _ => False) s → wpAny (model D.prog D.w) A (spliced (backTo pos ((false, eval y e) :: starEach [] e))) Q (fun _ _ => False) s := fun h => hst ▸ h
  rw [hst]
  refine PyProof.Rows.callWith_type rfl (evalArgs_plain (go ?_))
  refine spliced_more ?_ hst
  refine h A h₀ L m hid _ _ hA hV F₁ X₁ fun v H' h' tk' q F' X' => spliced_none ?_
  obtain ⟨l, g, items, hv, hl, hp⟩ := q
  have := er_ref hv; subst this
  obtain ⟨its, hl', hi'⟩ := X'.list hl
  refine call_enumerate_list hl' fun h₂ hE hI hz hk => ?_
  refine wpAny_pyIter_enum hE ?_
  obtain ⟨o, ho, ho1, ho2⟩ := hI
  have f1 := fr_free F' (Nat.le_refl _)
  have f2 := fr_free F' (Nat.le_succ h'.objs.size)
  have hoff : ∀ p ∈ hid, p.1 < h'.objs.size := X'.hid_lt
  refine k (enmItor (h'.objs.size + 1) h'.objs.size l items) H' [(h'.objs.size + 1, enmObj h'.objs.size 0 .none), (h'.objs.size, o)] h₂ _ hp ⟨enmItor_next elts x1 tpos, enmItor_self⟩ ⟨Nat.succ_ne_self _, o, .none, rfl, ho1, ho2⟩ (fun p hp q => ?_) (fr_more F' hk) ?_
  · have z := hoff p hp
    rcases List.mem_cons.mp q with q | q
    · rw [q] at z; exact Nat.lt_irrefl _ (Nat.lt_of_succ_lt z)
    · rw [List.mem_singleton.mp q] at z; exact Nat.lt_irrefl _ z
  · refine X'.hideAll [(h'.objs.size + 1, enmObj h'.objs.size 0 .none), (h'.objs.size, o)] hk fun p hp => ?_
    rcases List.mem_cons.mp hp with rfl | hp
    · exact ⟨Nat.le_succ _, hE, f2⟩
    · rw [List.mem_singleton.mp hp]; exact ⟨Nat.le_refl _, ho, f1⟩
theorem CsOk.more {cs hid il : Led} (hC : CsOk e cs hid) (hd : ∀ p ∈ cs ++ hid, p.1 ∉ il.map (·.1)) : CsOk e cs (il ++ hid) := by
  obtain ⟨h1, h2, h3, h4, h5⟩ := hC
  refine ⟨h1, h2, h3, fun p hp => ?_, h5⟩
  rcases List.mem_append.mp hp with q | q
  · intro hm
    rw [← h1] at hm
    obtain ⟨p', hp', e'⟩ := List.mem_map.mp hm
    exact hd p' (List.mem_append_left _ hp') (e' ▸ List.mem_map_of_mem q)
  · exact h4 p q
theorem CsOk.less {cs hid il : Led} (hC : CsOk e cs (il ++ hid)) : CsOk e cs hid := ⟨hC.1, hC.2.1, hC.2.2.1, fun p hp => hC.2.2.2.1 p (List.mem_append_right _ hp), hC.2.2.2.2⟩
theorem CsOk.offs {cs hid il : Led} (hC : CsOk e cs (il ++ hid)) (hd : ∀ p ∈ hid, p.1 ∉ il.map (·.1)) : ∀ p ∈ cs ++ hid, p.1 ∉ il.map (·.1) := fun p hp => by
  rcases List.mem_append.mp hp with q | q
  · intro hm
    obtain ⟨p', hp', e'⟩ := List.mem_map.mp hm
    exact hC.2.2.2.1 p' (List.mem_append_left _ hp') (by rw [← hC.1]; rw [e']; exact List.mem_map_of_mem q)
  · exact hd p q
theorem CsOk.turn {cs hid il il' : Led} (hC : CsOk e cs (il ++ hid)) (h : il'.map (·.1) = il.map (·.1)) : CsOk e cs (il' ++ hid) := by
  refine ⟨hC.1, hC.2.1, hC.2.2.1, fun p hp => ?_, hC.2.2.2.2⟩
  rcases List.mem_append.mp hp with q | q
  · have : p.1 ∈ il.map (·.1) := h ▸ List.mem_map_of_mem q
    obtain ⟨p', hp', e'⟩ := List.mem_map.mp this
    rw [← e']; exact hC.2.2.2.1 p' (List.mem_append_left _ hp')
  · exact hC.2.2.2.1 p (List.mem_append_right _ q)
theorem Hp.perm {h₀ h : Heap} {L : Addr} {hid hid' : Led} (X : Hp D h₀ L h H hid) (hs : ∀ p ∈ hid', p ∈ hid) : Hp D h₀ L h H hid' := X.hidSub hs
noncomputable def ForQ (M : Model) (A : Around) (R : Result → Shared → Prop) (target : Expr) (body : List Stmt) (e : Env) (I : Shared → Prop) (r : Option Value) (s : Shared) : Prop := match r with
  | none => R (.ok .next) s
  | some v => wpAny M A (assign target e v) (fun _ s₂ => wpAny M A (execs body e) (fun f s₃ => match f with
      | .next | .cont => I s₃
      | .brk => R (.ok .next) s₃
      | .ret v => R (.ok (.ret v)) s₃) (fun _ _ => False) s₂) (fun _ _ => False) s
theorem forLoop_W {prog : Program} {w : World} {A : Around} {s : Shared} {R : Result → Shared → Prop} {target : Expr} {it : Value} {body : List Stmt} (I : Nat → Shared → Prop)
    (turn : ∀ n s, I n s → wpAny (model prog w) A (pyNext it) (fun r s₁ => match r with
      | none => ForQ (model prog w) A R target body e (fun s₃ => ∃ m, m < n ∧ I m s₃) none s₁
      | some v => wpAny (model prog w) A (letOwnedTupleGo target it v) (fun _ s₂ => ForQ (model prog w) A R target body e (fun s₃ => ∃ m, m < n ∧ I m s₃) (some v) s₂) (fun _ _ => False) s₁) (fun _ _ => False) s)
    (n : Nat) (h : I n s) : codeAny (model prog w) A (.forLoop target it body [] e) R s := by
  refine codeAny_forLoop_any I (fun n s hI => ?_) n h
  refine wpAny_mono (turn n s hI) (fun r s₁ h₁ => ?_) fun _ _ z => z.elim
  cases r with
  | none => exact wpAny_execs_nil h₁
  | some v => exact wpAny_mono h₁ (fun _ s₂ h₂ => wpAny_mono h₂ (fun _ s₃ h₃ => notedFalse (env := e) h₃) fun _ _ z => z.elim) fun _ _ z => z.elim
noncomputable def ForP (D : Wd) (d : Nat) (e : Env) (ρ : List (Str × V)) (target : Expr) (body : List Stmt) (P : FV → List (Str × V) → MH → Prop) (S : Shp) (H₁ : MH) : Prop :=
  ∃ I : Nat → List (Str × V) → MH → Prop, I 0 ρ H₁ ∧ (∀ i ρ' H', I i ρ' H' → S.Src H') ∧
      (∀ i ρ' H', i < S.n → I i ρ' H' → ∀ v H₂, S.item i v H₂ → Le H' H₂ → S.Src H₂ → ∀ Q : FV → List (Str × V) → MH → Prop, (∀ f ρ₄ H₄, loopK P (I (i + 1)) f ρ₄ H₄ → Q f ρ₄ H₄) → AT D d e ρ' H₂ target v fun ρ₃ H₃ => EXS D d e ρ₃ H₃ body Q) ∧
      ∀ ρ' H', I S.n ρ' H' → P .next ρ' H'
theorem ForP.mk {target : Expr} {body : List Stmt} {P : FV → List (Str × V) → MH → Prop} {S : Shp} {H₁ : MH} (I : Nat → List (Str × V) → MH → Prop) (h0 : I 0 ρ H₁) (hs : ∀ i ρ' H', I i ρ' H' → S.Src H')
    (hb : ∀ i ρ' H', i < S.n → I i ρ' H' → ∀ v H₂, S.item i v H₂ → Le H' H₂ → S.Src H₂ → ∀ Q : FV → List (Str × V) → MH → Prop, (∀ f ρ₄ H₄, loopK P (I (i + 1)) f ρ₄ H₄ → Q f ρ₄ H₄) → AT D d e ρ' H₂ target v fun ρ₃ H₃ => EXS D d e ρ₃ H₃ body Q)
    (he : ∀ ρ' H', I S.n ρ' H' → P .next ρ' H') : ForP D d e ρ target body P S H₁ := ⟨I, h0, hs, hb, he⟩
theorem EX.for {target it : Expr} {body : List Stmt} {pos : Pos} {P : FV → List (Str × V) → MH → Prop}
    (h : IE D d e ρ H target it (ForP D d e ρ target body P))
    (hs : ∀ x, foldedSetIterable it e x = pure x) : EX D d e ρ H (.For target it body [] pos) P := fun A h₀ m cs hid s Q hA hC hV F X k => by
  refine wpAny_For (h A h₀ e.locals m (cs ++ hid) s _ hA (fun x v hx => (hV x v hx).mono fun p hp => List.mem_append_left _ hp) F X ?_) hs
  rintro T H₁ il h₁ tk₁ ⟨I, i0, isrc, istep, iend⟩ hN hst hoff F₁ X₁
  have sw : ∀ {il cs : Led} {h : Heap} {H : MH}, Hp D h₀ e.locals h H (il ++ (cs ++ hid)) → Hp D h₀ e.locals h H (cs ++ (il ++ hid)) := fun X => X.hidSub fun p hp => (List.perm_append_comm_assoc _ _ _).mem_iff.mp hp
  have ws : ∀ {il cs : Led} {h : Heap} {H : MH}, Hp D h₀ e.locals h H (cs ++ (il ++ hid)) → Hp D h₀ e.locals h H (il ++ (cs ++ hid)) := fun X => X.hidSub fun p hp => (List.perm_append_comm_assoc _ _ _).mem_iff.mp hp
  refine forLoop_W (fun n' s' => ∃ i m' cs' il' ρ' H' h' tk', s' = { s with heap := h', toks := tk' } ∧ n' = T.n - i ∧ i ≤ T.n ∧ I i ρ' H' ∧ T.St i il' ∧ CsOk e cs' (il' ++ hid) ∧ (∀ p ∈ hid, p.1 ∉ il'.map (·.1)) ∧ Vr e e.locals m' cs' ρ' ∧ Fr h₀ e.locals h' m' ∧ Hp D h₀ e.locals h' H' (il' ++ (cs' ++ hid))) ?_ T.n
    ⟨0, m, cs, il, ρ, H₁, h₁, tk₁, rfl, rfl, Nat.zero_le _, i0, hst, hC.more hoff, fun p hp => hoff p (List.mem_append_right _ hp), hV, F₁, X₁⟩
  rintro n' s' ⟨i, m', cs', il', ρ', H', h', tk', rfl, rfl, hi, hI, hst', hC', hd', hV', F', X'⟩
  refine hN.1 i A h₀ e.locals m' il' (cs' ++ hid) _ H' _ hA.2.2.1 hst' (hC'.offs hd') (isrc i ρ' H' hI) F' X' (fun hlt v il₂ H₂ h₂ tk₂ hitem hle hsrc₂ hst₂ hmap F₂ X₂ => ?_) (fun heq h₂ tk₂ F₂ X₂ => ?_) hi
  · have hd₂ : ∀ p ∈ hid, p.1 ∉ il₂.map (·.1) := hmap ▸ hd'
    refine istep i ρ' H' hlt hI (er v) H₂ hitem hle hsrc₂ _ (fun _ _ _ z => z) v rfl A h₀ m' cs' (il₂ ++ hid) _ _ hA (hC'.turn hmap) hV' F₂ (sw X₂) fun _ m₃ cs₃ ρ₃ H₃ h₃ tk₃ q₃ hC₃ hV₃ F₃ X₃ => ?_
    refine q₃ A h₀ m₃ cs₃ (il₂ ++ hid) _ _ hA hC₃ hV₃ F₃ X₃ fun f m₄ cs₄ ρ₄ H₄ h₄ tk₄ q₄ hC₄ hV₄ F₄ X₄ => ?_
    cases f with
    | brk => exact k .next m₄ cs₄ ρ₄ H₄ h₄ tk₄ q₄ hC₄.less hV₄ F₄ ((ws X₄).hidSub fun p hp => List.mem_append_right _ hp)
    | ret v => exact k (.ret v) m₄ cs₄ ρ₄ H₄ h₄ tk₄ q₄ hC₄.less hV₄ F₄ ((ws X₄).hidSub fun p hp => List.mem_append_right _ hp)
    | next => exact ⟨T.n - (i + 1), Nat.sub_lt_sub_left hlt (Nat.lt_succ_self i), i + 1, m₄, cs₄, il₂, ρ₄, H₄, h₄, tk₄, rfl, rfl, hlt, q₄, hst₂, hC₄, hd₂, hV₄, F₄, ws X₄⟩
    | cont => exact ⟨T.n - (i + 1), Nat.sub_lt_sub_left hlt (Nat.lt_succ_self i), i + 1, m₄, cs₄, il₂, ρ₄, H₄, h₄, tk₄, rfl, rfl, hlt, q₄, hst₂, hC₄, hd₂, hV₄, F₄, ws X₄⟩
  · exact k .next m' cs' ρ' H' h₂ tk₂ (iend ρ' H' (heq ▸ hI)) hC'.less hV' F₂ X₂
end
end Mine
namespace Mine
section
variable {prog : Program} {w : World} {A : Around} {E : Value → Shared → Prop} {s : Shared}
theorem draw_list {it t : Addr} {items : Array Value} (hne : t ≠ it) : ∀ (n i : Nat) (s : Shared) (Q : List Value → Shared → Prop), s.heap.IsListIter it t i → s.heap.IsList t items → i + n ≤ items.size →
    (∀ h', h'.IsListIter it t (i + n) → Heap.SameBut it s.heap h' → Q ((items.toList.drop i).take n) { s with heap := h' }) → wpAny (model prog w) A (draw (.ref it) n) Q E s
  | 0, i, s, Q, hit, _, _, hQ => by
    show wpAny _ _ (pure []) Q E s
    exact wpAny_pure (by simpa using hQ s.heap hit (Heap.SameBut.refl ..))
  | n + 1, i, s, Q, hit, ht, hle, hQ => by
    have hlt : i < items.size := by omega
    show wpAny _ _ (pyNext (.ref it) >>= _) Q E s
    refine wpAny_bind (wpAny_pyNext_list_item hit ht (x := items[i]) (by simp [hlt]) fun h₁ hit₁ hs₁ => ?_)
    refine wpAny_bind (wpAny_holding (draw_list hne n (i + 1) _ _ hit₁ (ht.extBut hs₁.extBut hne) (by omega) fun h₂ hit₂ hs₂ => wpAny_pure ?_))
    have hd : items.toList.drop i = items[i] :: items.toList.drop (i + 1) := by simp [List.drop_eq_getElem_cons, hlt]
    have := hQ h₂ (by rw [show i + (n + 1) = i + 1 + n by omega]; exact hit₂) (hs₁.trans hs₂)
    rw [hd, List.take_succ_cons] at this
    exact this
theorem unpackItems_list {t : Addr} {items : Array Value} {Q : List Value → Shared → Prop} (hh : A.handled = none) (ht : s.heap.IsList t items)
    (hQ : ∀ h', Heap.ExtBut s.heap.objs.size s.heap h' → Q items.toList { s with heap := h' }) : wpAny (model prog w) A (unpackItems (.ref t) items.size none) Q E s := by
  have hlt : t ≠ s.heap.objs.size := by obtain ⟨o, ho, _⟩ := ht; exact Nat.ne_of_lt (Heap.lt_size ho)
  unfold unpackItems
  refine wpAny_bind ?_
  · unfold notIterableAtAll
    refine wpAny_bind (wpAny_specialOf ht.typeIs slot_list_iter.lookup ?_)
    refine wpAny_pure ?_
    simp only [Bool.false_eq_true, if_false]
    refine wpAny_bind (wpAny_holding (wpAny_pyIter_list ht ?_))
    refine wpAny_bind (wpAny_holding (draw_list hlt items.size 0 _ _ ⟨_, Heap.get?_push_size _ rfl, rfl, rfl⟩ (ht.push _) (by omega) fun h₁ hit₁ hs₁ => ?_))
    have hall : List.take items.size (List.drop 0 items.toList) = items.toList := by
      rw [List.drop_zero]; exact List.take_of_length_le (by simp)
    rw [hall]
    rw [if_neg (by simp)]
    have ht₁ : h₁.IsList t items := (ht.push _).extBut hs₁.extBut hlt
    refine wpAny_bind (wpAny_holding (wpAny_pyNext_list_end hh hit₁ ht₁ (by simp) fun h₂ he₂ => ?_))
    simp only [Option.isSome_none, Bool.false_eq_true, if_false]
    refine wpAny_pure (hQ h₂ fun b o hb e => he₂ b o hb (hs₁.extBut b o hb (Heap.get?_push_of_some _ e)))
end
section
variable {D : Wd} {d : Nat} {e : Env} {ρ : List (Str × V)} {H : MH}
noncomputable def UP (H : MH) (v : V) (vs : List V) : Prop := ∃ a, v = .ref a ∧ (H a = some (.tup vs) ∨ ∃ g, H a = some (.lst g vs))
theorem hp_ext {h₀ h h' : Heap} {L : Addr} {m : Str → Option Value} {hid : Led} (F : Fr h₀ L h m) (X : Hp D h₀ L h H hid) (he : Heap.ExtBut h.objs.size h h') : Fr h₀ L h' m ∧ Hp D h₀ L h' H hid :=
  ⟨F.extBut he (Nat.le_refl _), X.moved fun _ N => N.extBut he (Nat.le_refl _)⟩
theorem UP.items {v : V} {vs : List V} {n : Nat} {P : List Value → MH → Prop} (hu : UP H v vs) (hn : n = vs.length) (h : ∀ us, us.map er = vs → P us H) : ∀ u, er u = v → WT D d H (unpackItems u n none) P := fun u hv A h₀ L m hid s Q hA hV F X k => by
  obtain ⟨a, rfl, hu⟩ := hu
  have := er_ref hv; subst this
  rcases hu with ha | ⟨g, ha⟩
  · obtain ⟨its, hl, hi⟩ := X.tup ha
    have hz := its_size hi
    rw [show n = its.size by rw [hz, hn]]
    exact unpackItems_tuple hA.2.2.1 hl fun h' he => k _ H h' s.toks (h _ hi) (hp_ext F X he).1 (hp_ext F X he).2
  · obtain ⟨its, hl, hi⟩ := X.list ha
    have hz := its_size hi
    rw [show n = its.size by rw [hz, hn]]
    exact unpackItems_list hA.2.2.1 hl fun h' he => k _ H h' s.toks (h _ hi) (hp_ext F X he).1 (hp_ext F X he).2
noncomputable def ATS (D : Wd) (d : Nat) (e : Env) : List (Str × V) → MH → List Expr → List V → (List (Str × V) → MH → Prop) → Prop
  | ρ, H, [], [], P => P ρ H
  | ρ, H, x :: r, v :: vs, P => AT D d e ρ H x v fun ρ' H' => ATS D d e ρ' H' r vs P
  | _, _, _, _, _ => False
theorem assignEach_plain {x : Expr} {r : List Expr} {env : Env} (h : plainX x = true) : assignEach (x :: r) env = (false, assign x env) :: assignEach r env := by
  cases x <;> first | rfl | cases h
theorem assignEach_len : ∀ {es : List Expr}, (assignEach es e).length = es.length
  | [] => rfl
  | x :: r => by
    have := @assignEach_len r
    cases x <;> (show (assignEach r e).length + 1 = r.length + 1; rw [this])
theorem assignEach_star : ∀ {es : List Expr}, (es.all plainX) = true → (assignEach es e).findIdx? (·.1) = none
  | [], _ => rfl
  | x :: r, h => by
    have h' := Bool.and_eq_true_iff.mp (by simpa only [List.all_cons] using h)
    rw [assignEach_plain h'.1, List.findIdx?_cons]
    simp [assignEach_star h'.2]
theorem ATS.len : ∀ {es : List Expr} {vs : List V} {ρ : List (Str × V)} {H : MH} {P : List (Str × V) → MH → Prop}, ATS D d e ρ H es vs P → (∀ x ∈ es, True) → True := fun _ _ => trivial
theorem ATS.go : ∀ {es : List Expr} {us : List Value} {vs : List V} {ρ : List (Str × V)} {H : MH} {P : List (Str × V) → MH → Prop}, (es.all plainX) = true → us.map er = vs → ATS D d e ρ H es vs P → WG D d e ρ H (assignInOrder ((assignEach es e).map (·.2)) us) fun _ => P
  | [], us, [], ρ, H, P, _, hu, h => fun A h₀ m cs hid s Q hA hC hV F X k => by
    rw [List.map_eq_nil_iff.mp hu]
    exact assignInOrder_nil (k () m cs ρ H s.heap s.toks h hC hV F X)
  | x :: r, u :: us, v :: vs, ρ, H, P, hp, hu, h => fun A h₀ m cs hid s Q hA hC hV F X k => by
    have h' := Bool.and_eq_true_iff.mp (by simpa only [List.all_cons] using hp)
    rw [List.map_cons] at hu
    obtain ⟨hu1, hu2⟩ := List.cons.inj hu
    rw [assignEach_plain h'.1]
    refine assignInOrder_cons ?_
    have h2 : AT D d e ρ H x v fun ρ' H' => ATS D d e ρ' H' r vs P := h
    exact h2 u hu1 A h₀ m cs hid s _ hA hC hV F X fun _ m' cs' ρ' H' h₁ tk' q hC' hV' F' X' => ATS.go h'.2 hu2 q A h₀ m' cs' hid _ Q hA hC' hV' F' X' k
  | [], _, _ :: _, _, _, _, _, _, h => h.elim
  | _ :: _, _, [], _, _, _, _, _, h => h.elim
  | _ :: _, [], _ :: _, _, _, _, _, hu, _ => by cases hu
theorem AT.tuple {es : List Expr} {n : Nat} {pos : Pos} {v : V} {vs : List V} {P : List (Str × V) → MH → Prop} (hu : UP H v vs) (hn : es.length = vs.length) (hp : (es.all plainX) = true) (h : ATS D d e ρ H es vs P) : AT D d e ρ H (.Tuple es n pos) v P := fun u hv => by
  refine fun A h₀ m cs hid s Q hA hC hV F X k => ?_
  rw [assign_Tuple]
  refine wpAny_bind (wpAny_standAt ?_)
  unfold unpack
  rw [assignEach_star hp, assignEach_len]
  refine wpAny_bind (wpAny_holding ?_)
  exact WT.wg (ρ := ρ) (e := e) (P := fun us ρ' H' => us.map er = vs ∧ ρ' = ρ ∧ H' = H) (UP.items hu hn (fun us hus => ⟨hus, rfl, rfl⟩) u hv) A h₀ m cs hid s _ hA hC hV F X fun us m' cs' ρ' H' h' tk' q hC' hV' F' X' => by
    obtain ⟨q, rfl, rfl⟩ := q
    exact ATS.go hp q h A h₀ m' cs' hid _ Q hA hC' hV' F' X' k
theorem EX.assignT {es : List Expr} {n : Nat} {tpos pos : Pos} {value : Expr} {P : FV → List (Str × V) → MH → Prop} (h : EV D d e ρ H value fun v H' => AT D d e ρ H' (.Tuple es n tpos) v (P .next))
    (hs : swapsWithSole [.Tuple es n tpos] value pos.line e = pure false) (hw : swappedStores [.Tuple es n tpos] value e = pure none) : EX D d e ρ H (.Assign [.Tuple es n tpos] value pos) P :=
  EX.assignTo h fun h => Assign_Tuple h hs hw
theorem EX.assignSw {es : List Expr} {n : Nat} {tpos pos : Pos} {value : Expr} {names : List Str} {P : FV → List (Str × V) → MH → Prop}
    (h : EV D d e ρ H value fun v H' => ∃ vs, UP H' v vs ∧ names.length = vs.length ∧ ((∀ x ∈ names, okN e x) ∧ P .next ((names.zip vs) ++ ρ) H')) (hk : e.scope.kind = .function)
    (hs : swapsWithSole [.Tuple es n tpos] value pos.line e = pure false) (hw : swappedStores [.Tuple es n tpos] value e = pure (some names)) : EX D d e ρ H (.Assign [.Tuple es n tpos] value pos) P := fun A h₀ m cs hid s Q hA hC hV F X k => by
  refine Assign_Tuple_swapped ?_ hs hw
  refine WE.wg (P := fun (v : Value) ρ' H' => ρ' = ρ ∧ ∃ vs, UP H' (er v) vs ∧ names.length = vs.length ∧ ((∀ x ∈ names, okN e x) ∧ P .next ((names.zip vs) ++ ρ) H')) (WE.mono (show WE D d e ρ H (eval value e) _ from h) fun v H' q => ⟨rfl, q⟩) A h₀ m cs hid s _ hA hC hV F X fun v m' cs' ρ' H' h' tk' q hC' hV' F' X' => ?_
  obtain ⟨rfl, vs, hu, hn, hok, hp⟩ := q
  refine WT.wg (ρ := ρ') (e := e) (P := fun us ρ₁ H₁ => us.map er = vs ∧ ρ₁ = ρ' ∧ H₁ = H') (UP.items hu hn (fun us hus => ⟨hus, rfl, rfl⟩) v rfl) A h₀ m' cs' hid _ _ hA hC' hV' F' X' fun us m₁ cs₁ ρ₁ H₁ h₁ tk₁ q hC₁ hV₁ F₁ X₁ => ?_
  obtain ⟨hus, rfl, rfl⟩ := q
  have go : ∀ (ns : List Str) (us : List Value) (ρ₂ : List (Str × V)), ns.length = us.length → (∀ x ∈ ns, okN e x) → WG D d e ρ₂ H₁ (assignInOrder (ns.map fun n => bindName e n) us) fun _ ρ₃ H₃ => ρ₃ = (ns.zip (us.map er)).reverse ++ ρ₂ ∧ H₃ = H₁ := by
    intro ns
    induction ns with
    | nil =>
      intro us ρ₂ hl _ A h₀ m cs hid s Q hA hC hV F X k
      cases us with
      | nil => exact assignInOrder_nil (k () m cs ρ₂ H₁ s.heap s.toks ⟨rfl, rfl⟩ hC hV F X)
      | cons _ _ => cases hl
    | cons x ns ih =>
      intro us ρ₂ hl ho A h₀ m cs hid s Q hA hC hV F X k
      cases us with
      | nil => cases hl
      | cons u us =>
        refine assignInOrder_cons (bindName_ ?_)
        refine storeName_G (P := fun _ ρ₃ H₃ => ρ₃ = (x, er u) :: ρ₂ ∧ H₃ = H₁) ⟨rfl, rfl⟩ hk (ho x List.mem_cons_self) A h₀ m cs hid s _ hA hC hV F X fun _ m₃ cs₃ ρ₃ H₃ h₃ tk₃ q₃ hC₃ hV₃ F₃ X₃ => ?_
        obtain ⟨rfl, rfl⟩ := q₃
        refine ih us ((x, er u) :: ρ₂) (Nat.succ.inj hl) (fun y hy => ho y (List.mem_cons_of_mem _ hy)) A h₀ m₃ cs₃ hid _ Q hA hC₃ hV₃ F₃ X₃ fun a m₄ cs₄ ρ₄ H₄ h₄ tk₄ q₄ => k a m₄ cs₄ ρ₄ H₄ h₄ tk₄ ⟨?_, q₄.2⟩
        rw [q₄.1]; simp
  refine go names.reverse us.reverse ρ₁ (by rw [List.length_reverse, List.length_reverse, hn, ← hus, List.length_map]) (fun x hx => hok x (List.mem_reverse.mp hx)) A h₀ m₁ cs₁ hid _ _ hA hC₁ hV₁ F₁ X₁ fun _ m₂ cs₂ ρ₂ H₂ h₂ tk₂ q₂ hC₂ hV₂ F₂ X₂ => ?_
  obtain ⟨rfl, rfl⟩ := q₂
  refine k .next m₂ cs₂ _ H₂ h₂ tk₂ ?_ hC₂ hV₂ F₂ X₂
  have : (names.reverse.zip (us.reverse.map er)).reverse = names.zip vs := by
    rw [← hus, List.map_reverse, List.zip, ← List.reverse_zipWith (by rw [hn, ← hus]), List.reverse_reverse]
  rw [this]; exact hp
end
end Mine
namespace Mine
section
variable {D : Wd} {d : Nat} {e : Env} {ρ : List (Str × V)} {H : MH}
theorem Hp.reveal {h₀ h : Heap} {L : Addr} {hid : Led} {b : Addr} {o : Obj} {mo : MO} (X : Hp D h₀ L h H ((b, o) :: hid)) (hd : ∀ p ∈ hid, p.1 ≠ b) (hpl : plainO o) (hmi : ∀ C fs, mo ≠ .inst C fs)
    (hm : ∀ news, (b, o) ∈ news → HO D news (upd H b mo) b mo) : Hp D h₀ L h (upd H b mo) hid := by
  obtain ⟨news, N, h1, h2⟩ := X
  have hb := h1 (b, o) List.mem_cons_self
  refine ⟨news, N, fun p hp => ?_, fun a ob ha => ?_⟩
  · have z := h1 p (List.mem_cons_of_mem _ hp)
    refine ⟨z.1, (upd_ne (hd p hp)).trans z.2.1, fun a C hm' => ?_⟩
    by_cases q : a = b
    · subst q
      obtain ⟨⟨C', fs, q⟩, _⟩ := (hm news hb.1).instOf N hm'
      exact absurd q (hmi _ _)
    · rw [upd_ne q]; exact z.2.2 a C hm'
  · by_cases q : a = b
    · subst q; rw [upd_self] at ha; cases ha; exact hm news hb.1
    · rw [upd_ne q] at ha
      have z := h2 a ob ha
      have tupne : ∀ {c : Addr} {its : Array Value}, tupAt news c its → c ≠ b := fun ⟨o', n, q1, q2, q3⟩ w => by
        subst w
        have e1 := (N _ q1).1; have e2 := (N _ hb.1).1
        rw [e1] at e2; cases e2
        rcases hpl with w | w
        · exact w q2
        · exact w _ _ q3
      cases ob with
      | inst C fs =>
        obtain ⟨dd, es, n, z1, z2, z3, z4⟩ := z
        refine ⟨dd, es, n, z1, z2, (upd_ne fun w => ?_).trans z3, z4⟩
        subst w
        rw [hb.2.2 a C z1] at ha; cases ha
      | dT g f k =>
        obtain ⟨o', es, ep, xs, z1, z2, z3, z4, z5, z6⟩ := z
        exact ⟨o', es, ep, xs, z1, z2, z3, z4, fun y hy => ⟨(z5 y hy).1, by rw [upd_ne (let ⟨its, w, _⟩ := (z5 y hy).1; tupne w)]; exact (z5 y hy).2⟩, z6⟩
      | _ => exact z
noncomputable def AC (D : Wd) (d : Nat) (e : Env) (H : MH) (bs : List (Str × V)) (tg : Expr) (v : V) (bs' : List (Str × V)) : Prop :=
  ∀ (u : Value), er u = v → ∀ (A : Around) (h₀ : Heap) (L : Addr) (m : Str → Option Value) (hid : Led) (s : Shared) (Q : Unit → Shared → Prop) (oC : Obj) (m₂ : Str → Option Value), Amb D A d h₀ L → LCg.NsObj oC m₂ → (∀ y v, lk bs y = some v → ∃ val, m₂ y = some val ∧ er val = v) →
    Fr h₀ L s.heap m → (∀ p ∈ hid, p.1 ≠ e.locals) → Hp D h₀ L s.heap H ((e.locals, oC) :: hid) →
    (∀ h' tk' oC' m₂', LCg.NsObj oC' m₂' → (∀ y v, lk bs' y = some v → ∃ val, m₂' y = some val ∧ er val = v) → Fr h₀ L h' m → Hp D h₀ L h' H ((e.locals, oC') :: hid) → Q () { s with heap := h', toks := tk' }) →
    wpAny (model D.prog D.w) A (assign tg e u) Q (fun _ _ => False) s
theorem AC.name {bs : List (Str × V)} {x : Str} {pos : Pos} {v : V} (hx : e.kindOf x = some .local) (hk : e.scope.kind = .function) : AC D d e H bs (.Name x pos) v ((x, v) :: bs) := fun u hu A h₀ L m hid s Q oC m₂ hA hN hb F hd X k => by
  refine wpAny_assign_Name (wpAny_storeName_local hx (hN.ns (X.get List.mem_cons_self)) (fun h' hn hs => ?_) (by show (e.scope.kind == .class || (e.scope.kind == .module && e.locals != e.globals)) = false; rw [hk]; rfl))
  obtain ⟨oC', ho', hN'⟩ := LCg.ns_obj hn
  have hpl : ∀ p ∈ [(e.locals, oC)], plainO p.2 := fun p hp => by
    rw [List.mem_singleton.mp hp]
    obtain ⟨es, ep, hdd, _⟩ := hN
    exact .inr fun its n q => by rw [hdd] at q; cases q
  have hk' : ∀ b ob, b ≠ e.locals → s.heap.get? b = some ob → h'.get? b = some ob := fun b ob hb q => (hs.2 b hb).trans q
  refine k h' _ oC' _ hN' (fun y v' hy => ?_) (fr_but1 (I := e.locals) (il := [(e.locals, oC)]) F X (List.mem_singleton.mpr rfl) hk')
    (X.turn (il := [(e.locals, oC)]) (il' := [(e.locals, oC')]) hpl (fun p hp q => hd p hp (List.mem_singleton.mp q)) (by simp) (fun b ob hb => hk' b ob fun q => hb (q ▸ List.mem_singleton.mpr rfl)) fun p hp => by rw [List.mem_singleton.mp hp]; exact ho')
  unfold lk at hy
  by_cases q : y = x
  · rw [if_pos q] at hy; cases hy
    exact ⟨u, if_pos q, hu⟩
  · rw [if_neg q] at hy
    obtain ⟨val, h1, h2⟩ := hb y v' hy
    exact ⟨val, (if_neg q).trans h1, h2⟩
theorem AC.pair {x y : Str} {px py pos : Pos} {n : Nat} {v v₁ v₂ : V} (hu : UP H v [v₁, v₂]) (hx : e.kindOf x = some .local) (hy : e.kindOf y = some .local) (hk : e.scope.kind = .function) : AC D d e H [] (.Tuple [.Name x px, .Name y py] n pos) v [(y, v₂), (x, v₁)] :=
  fun u hv A h₀ L m hid s Q oC m₂ hA hN hb F hd X k => by
  rw [assign_Tuple]
  refine wpAny_bind (wpAny_standAt ?_)
  unfold unpack
  rw [assignEach_star rfl, assignEach_len]
  refine wpAny_bind (wpAny_holding ?_)
  refine UP.items (P := fun us H' => us.map er = [v₁, v₂] ∧ H' = H) hu rfl (fun us h => ⟨h, rfl⟩) u hv A h₀ L m ((e.locals, oC) :: hid) s _ hA vr_nil F X fun us H' h' tk' q F' X' => ?_
  obtain ⟨q, rfl⟩ := q
  cases us with
  | nil => cases q
  | cons u₁ us => cases us with
    | nil => cases q
    | cons u₂ us => cases us with
      | cons _ _ => cases q
      | nil =>
        have q1 : er u₁ = v₁ := (List.cons.inj q).1
        have q2 : er u₂ = v₂ := (List.cons.inj (List.cons.inj q).2).1
        refine assignInOrder_cons (AC.name hx hk u₁ q1 A h₀ L m hid _ _ oC m₂ hA hN hb F' hd X' fun h₁ tk₁ oC₁ m₁ hN₁ hb₁ F₁ X₁ => ?_)
        refine assignInOrder_cons (AC.name hy hk u₂ q2 A h₀ L m hid _ _ oC₁ m₁ hA hN₁ hb₁ F₁ hd X₁ fun h₂ tk₂ oC₂ m₂ hN₂ hb₂ F₂ X₂ => ?_)
        exact assignInOrder_nil (k h₂ tk₂ oC₂ m₂ hN₂ hb₂ F₂ X₂)
noncomputable def TSS (D : Wd) (d : Nat) (e : Env) (ρ : List (Str × V)) (H : MH) (ifs : List Expr) (P : Bool → MH → Prop) : Prop := match ifs with
  | [] => P true H
  | c :: _ => TS D d e ρ H c P
noncomputable def CAP (e : Env) (scope : Scope) (cl : List (Str × Addr)) (ρ : List (Str × V)) : List (Str × V) → Prop
  | [] => True
  | (x, v) :: r => lk ρ x = some v ∧ (e.kindOf x = some .cell ∨ (e.kindOf x = some .free ∧ (x == ("__classdict__" : Str)) = false)) ∧ ((relabel scope e).names.lookup x = some .cell ∨ ((relabel scope e).names.lookup x = some .free ∧ (x == ("__classdict__" : Str)) = false)) ∧ cl.lookup x = e.cells.lookup x ∧ CAP e scope cl ρ r
theorem CAP.vr {scope : Scope} {cl : List (Str × Addr)} {C L : Addr} {m : Str → Option Value} {hid : Led} : ∀ {ρc : List (Str × V)}, CAP e scope cl ρ ρc → Vr e L m hid ρ → Vr (compEnvC scope cl C e) L m hid ρc
  | [], _, _ => vr_nil
  | (x, v) :: r, hc, hV => fun y u hy => by
    obtain ⟨h1, h2, h3, h4, h5⟩ := hc
    unfold lk at hy
    by_cases q : y = x
    · rw [if_pos q] at hy; cases hy; subst q
      obtain ⟨val, hval, hcs⟩ := hV y v h1
      have hnl : e.kindOf y ≠ some .local := by rcases h2 with w | ⟨w, _⟩ <;> (rw [w]; intro z; cases z)
      rcases hcs with ⟨_, w, _⟩ | ⟨c, o, w1, w2, w3, w4⟩ | ⟨w, _⟩
      · exact absurd w hnl
      · refine ⟨val, hval, .inr (.inl ⟨c, o, ?_, ?_, w3, w4⟩)⟩
        · exact h3
        · show cl.lookup y = some c; rw [h4]; exact w2
      · exact absurd w hnl
    · rw [if_neg q] at hy
      exact CAP.vr h5 hV y u hy
theorem Vr.app {L : Addr} {m m₂ : Str → Option Value} {hid : Led} {oC : Obj} {cenv : Env} {bs ρc : List (Str × V)} (hin : (cenv.locals, oC) ∈ hid) (hN : LCg.NsObj oC m₂) (hb : ∀ y v, lk bs y = some v → ∃ val, m₂ y = some val ∧ er val = v)
    (hl : ∀ y v, lk bs y = some v → cenv.kindOf y = some .local) (hV : Vr cenv L m hid ρc) : Vr cenv L m hid (bs ++ ρc) := fun y v hy => by
  have key : ∀ (bs : List (Str × V)), lk (bs ++ ρc) y = some v → lk bs y = some v ∨ lk ρc y = some v := fun bs => by
    induction bs with
    | nil => exact .inr
    | cons p r ih =>
      obtain ⟨x, u⟩ := p
      intro h
      have h' : (if y = x then some u else lk (r ++ ρc) y) = some v := h
      by_cases q : y = x
      · rw [if_pos q] at h'; exact .inl ((if_pos q).trans h')
      · rw [if_neg q] at h'
        rcases ih h' with w | w
        · exact .inl ((if_neg q).trans w)
        · exact .inr w
  rcases key bs hy with w | w
  · obtain ⟨val, h1, h2⟩ := hb y v w
    exact ⟨val, h2, .inr (.inr ⟨hl y v w, oC, m₂, hin, hN, h1⟩)⟩
  · exact hV y v w
noncomputable def CompQ (M : Model) (A : Around) (R : Result → Shared → Prop) (elt target : Expr) (ifs : List Expr) (acc : Value) (env : Env) (I : Shared → Prop) (r : Option Value) (s : Shared) : Prop := match r with
  | none => R (.ok .next) s
  | some v => wpAny M A (assign target env v) (fun _ s₂ =>
      wpAny M A (forIn ifs true fun c r => if r = true then do let ok ← isTrue c env (eval c env); pure (ForInStep.yield ok) else pure (ForInStep.yield r)) (fun ok s₃ => if ok = true then wpAny M A (eval elt env) (fun x s₄ =>
        wpAny M A (call (.builtin "list.append") [acc, x]) (fun _ s₅ => I s₅) (fun _ _ => False) s₄) (fun _ _ => False) s₃
        else I s₃) (fun _ _ => False) s₂) (fun _ _ => False) s
theorem compLoop_W {prog : Program} {w : World} {A : Around} {s : Shared} {elt target iter : Expr} {ifs : List Expr} {scope : Scope} {pos : Pos} {it acc : Value} {env : Env} {R : Result → Shared → Prop} (I : Nat → Shared → Prop)
    (turn : ∀ n s, I n s → wpAny (model prog w) A (pyNext it) (fun r s₁ => match r with
      | none => CompQ (model prog w) A R elt target ifs acc env (fun s₅ => ∃ m, m < n ∧ I m s₅) none s₁
      | some v => wpAny (model prog w) A (letOwnedTupleGo target it v) (fun _ s₀ => CompQ (model prog w) A R elt target ifs acc env (fun s₅ => ∃ m, m < n ∧ I m s₅) (some v) s₀) (fun _ _ => False) s₁) (fun _ _ => False) s)
    (n : Nat) (h : I n s) : codeAny (model prog w) A (.compLoop (.ListComp elt [⟨target, iter, ifs, 0⟩] scope pos) 0 it acc env) R s := by
  refine codeAny_loop rfl I (fun n s hI => ?_) n h
  show wpAny _ A ((compTurn (.ListComp elt [⟨target, iter, ifs, 0⟩] scope pos) 0 it acc env).onRaise (fun x => do noteFrame x env; theTreesLotGoes x)) _ _ s
  refine wpAny_noted ?_
  rw [compTurn_list]
  refine wpAny_bind (wpAny_standAt (wpAny_bind (wpAny_mono (turn n s hI) (fun r s₁ h₁ => ?_) fun _ _ h' => h'.elim)))
  cases r with
  | none => exact wpAny_pure h₁
  | some v =>
    refine wpAny_bind (wpAny_mono h₁ (fun _ s₀ h₀' => ?_) fun _ _ h' => h'.elim)
    refine wpAny_bind (wpAny_mono h₀' (fun _ s₂ h₂ => ?_) fun _ _ h' => h'.elim)
    refine wpAny_bind (wpAny_mono h₂ (fun okb s₃ h₃ => ?_) fun _ _ h' => h'.elim)
    cases okb with
    | false => exact wpAny_pure ⟨rfl, h₃⟩
    | true => exact wpAny_bind (wpAny_bind (wpAny_mono h₃ (fun x s₄ h₄ => wpAny_bind (wpAny_mono h₄ (fun _ s₅ h₅ => wpAny_pure (wpAny_pure ⟨rfl, h₅⟩)) fun _ _ h' => h'.elim)) fun _ _ h' => h'.elim))
theorem TSS.go {M : Model} {A : Around} {s : Shared} {env : Env} {ifs : List Expr} {Q : Bool → Shared → Prop} {E : Value → Shared → Prop} (hl : ifs.length ≤ 1)
    (h0 : ifs = [] → Q true s) (h1 : ∀ c r, ifs = c :: r → wpAny M A (isTrue c env (eval c env)) Q E s) :
    wpAny M A (forIn ifs true fun c r => if r = true then do let ok ← isTrue c env (eval c env); pure (ForInStep.yield ok) else pure (ForInStep.yield r)) Q E s := by
  match ifs, hl with
  | [], _ => exact wpAny_pure (h0 rfl)
  | [c], _ =>
    simp only [List.forIn_cons, List.forIn_nil, if_true]
    exact wpAny_bind (wpAny_bind (wpAny_mono (h1 c [] rfl) (fun b s' hb => wpAny_pure (wpAny_pure hb)) fun _ _ x => x))
noncomputable def CompOk (D : Wd) (d : Nat) (e : Env) (ρc : List (Str × V)) (scope : Scope) (cl : List (Str × Addr)) (elt target : Expr) (ifs : List Expr) (S : Shp) (H₁ : MH) (P : List V → MH → Prop) : Prop :=
  ∃ I : Nat → List V → MH → Prop, I 0 [] H₁ ∧ S.n ≤ 100000 ∧ (∀ i ys H', I i ys H' → S.Src H') ∧
    (∀ i ys H', i < S.n → I i ys H' → ∀ v H₂, S.item i v H₂ → Le H' H₂ → S.Src H₂ → ∀ C, ∃ bs, AC D d (compEnvC scope cl C e) H₂ [] target v bs ∧ (∀ y v, lk bs y = some v → (relabel scope e).names.lookup y = some .local) ∧
      TSS D d (compEnvC scope cl C e) (bs ++ ρc) H₂ ifs fun ok H₃ => if ok then EV D d (compEnvC scope cl C e) (bs ++ ρc) H₃ elt fun y H₄ => I (i + 1) (ys ++ [y]) H₄ else I (i + 1) ys H₃) ∧
    ∀ ys H', I S.n ys H' → P ys H'
noncomputable def CompJ (D : Wd) (h₀ : Heap) (L : Addr) (m : Str → Option Value) (s : Shared) (T : Itor) (I : Nat → List V → MH → Prop) (il hid : Led) (C b : Addr) (n' : Nat) (s' : Shared) : Prop :=
  ∃ i ys us oC m₂ il' H' h' tk', s' = { s with heap := h', toks := tk' } ∧ n' = T.n - i ∧ i ≤ T.n ∧ us.map er = ys ∧ us.length ≤ i ∧ I i ys H' ∧ T.St i il' ∧ il'.map (·.1) = il.map (·.1) ∧ LCg.NsObj oC m₂ ∧ Fr h₀ L h' m ∧
      Hp D h₀ L h' H' (il' ++ ((C, oC) :: (b, LCg.lst us) :: hid))
theorem comp_core {h₀ : Heap} {L : Addr} {m : Str → Option Value} {A : Around} {hid il : Led} {s : Shared} {T : Itor} {elt target iter : Expr} {ifs : List Expr} {scope : Scope} {cl : List (Str × Addr)} {pos : Pos} {ρc : List (Str × V)} {g : Nat × Nat} {P : List V → MH → Prop}
    {RR : Value → Addr → Result → Shared → Prop} (hA : Amb D A d h₀ L) (hV : Vr e L m hid ρ) (hc : CAP e scope cl ρ ρc) (hl : ifs.length ≤ 1) (hcell : ∀ y ∈ scope.names, y.2 ≠ .cell) (hkind : scope.kind = .function)
    (hok : CompOk D d e ρc scope cl elt target ifs T.toShp H P) (hT : ItOk D target T) (hst : T.St 0 il) (hoff : ∀ p ∈ hid, p.1 ∉ il.map (·.1)) (F : Fr h₀ L s.heap m) (X : Hp D h₀ L s.heap H (il ++ hid))
    (k : ∀ ys H' b C oC m₂ h' tk', P ys H' → H' b = none → LCg.NsObj oC m₂ → Fr h₀ L h' m → Hp D h₀ L h' (upd H' b (.lst g ys)) ((C, oC) :: hid) → (∀ p ∈ hid, p.1 ≠ C) → RR (.ref b) C (.ok .next) { s with heap := h', toks := tk' }) :
    wpAny (model D.prog D.w) A (newList []) (fun acc s₃ => wpAny (model D.prog D.w) A (newFunctionEnv scope e.globals cl [] e.qual none .none (some e)) (fun cenv s₄ =>
      codeAny (model D.prog D.w) A (.compStart (.ListComp elt [⟨target, iter, ifs, 0⟩] scope pos) 0 (.ref T.I) acc { cenv with scope := relabel scope e }) (RR acc cenv.locals) s₄) (fun _ _ => False) s₃) (fun _ _ => False) s := by
  obtain ⟨I, i0, hn, isrc, istep, iend⟩ := hok
  refine wpAny_newObj_type (wpAny_newFunctionEnv hcell (by intro y hy; simp at hy) (fun h₁ hns₁ hsb₁ => ?_) hkind)
  dsimp only at hns₁ hsb₁ ⊢
  generalize hH2 : s.heap.push { cls := .type "list", dict := none, data := .seq ([] : List Value).toArray } = H2 at hns₁ hsb₁ ⊢
  have hC : H2.objs.size = s.heap.objs.size + 1 := by rw [← hH2, Heap.size_push]
  have hbC : s.heap.objs.size ≠ H2.objs.size := by rw [hC]; exact Nat.ne_of_lt (Nat.lt_succ_self _)
  have old : ∀ b o, s.heap.get? b = some o → h₁.get? b = some o := fun b o e => hsb₁.extBut b o (by rw [hC]; exact Nat.ne_of_lt (Nat.lt_succ_of_lt (Heap.lt_size e))) (Heap.get?_push_of_some _ (hH2 ▸ Heap.get?_push_of_some _ e))
  have hacc : h₁.get? s.heap.objs.size = some (LCg.lst []) := hsb₁.extBut _ _ hbC (Heap.get?_push_of_some _ (hH2 ▸ Heap.get?_push_size _ rfl))
  obtain ⟨oC₁, hoC₁, hNC₁⟩ := LCg.ns_obj hns₁
  have f1 := fr_free F (Nat.le_refl _)
  have f2 := fr_free F (Nat.le_succ s.heap.objs.size)
  have F₁ : Fr h₀ L h₁ m := fr_more F old
  have X₁ : Hp D h₀ L h₁ H ([(H2.objs.size, oC₁), (s.heap.objs.size, LCg.lst [])] ++ (il ++ hid)) := X.hideAll _ old fun p hp => by
    rcases List.mem_cons.mp hp with rfl | hp
    · exact ⟨by rw [hC]; exact Nat.le_succ _, hoC₁, by rw [hC]; exact f2⟩
    · rw [List.mem_singleton.mp hp]; exact ⟨Nat.le_refl _, hacc, f1⟩
  have below : ∀ p ∈ il ++ hid, p.1 < s.heap.objs.size := X.hid_lt
  have X₁' : Hp D h₀ L h₁ H (il ++ ((H2.objs.size, oC₁) :: (s.heap.objs.size, LCg.lst []) :: hid)) := X₁.hidSub fun p hp => (List.perm_middle.trans (List.perm_middle.cons _) : List.Perm (il ++ (H2.objs.size, oC₁) :: (s.heap.objs.size, LCg.lst []) :: hid) ((H2.objs.size, oC₁) :: (s.heap.objs.size, LCg.lst []) :: (il ++ hid))).mem_iff.mp hp
  have hCh : ∀ p ∈ hid, p.1 ≠ H2.objs.size := fun p hp q => by have := below p (List.mem_append_right _ hp); rw [q, hC] at this; exact Nat.lt_irrefl _ (Nat.lt_of_succ_lt this)
  have hbh : ∀ p ∈ hid, p.1 ≠ s.heap.objs.size := fun p hp q => by have := below p (List.mem_append_right _ hp); rw [q] at this; exact Nat.lt_irrefl _ this
  have hCil : H2.objs.size ∉ il.map (·.1) := fun q => by
    obtain ⟨p, hp, e'⟩ := List.mem_map.mp q
    have := below p (List.mem_append_left _ hp); rw [e', hC] at this; exact Nat.lt_irrefl _ (Nat.lt_of_succ_lt this)
  have hbil : s.heap.objs.size ∉ il.map (·.1) := fun q => by
    obtain ⟨p, hp, e'⟩ := List.mem_map.mp q
    have := below p (List.mem_append_left _ hp); rw [e'] at this; exact Nat.lt_irrefl _ this
  generalize s.heap.objs.size = b at hbC hacc hbh hbil X₁' ⊢
  generalize H2.objs.size = C at hbC hoC₁ hCh hCil X₁' ⊢
  clear X₁ below hsb₁ hns₁ f1 f2 old X F hacc hoC₁ hC hH2
  have loop : codeAny (model D.prog D.w) A (.compLoop (.ListComp elt [⟨target, iter, ifs, 0⟩] scope pos) 0 (.ref T.I) (.ref b) (compEnvC scope cl C e)) (RR (.ref b) C) { s with heap := h₁, toks := s.toks + ([] : List (Str × Value)).length } := by
    refine compLoop_W (CompJ D h₀ L m s T I il hid C b) ?_ T.n ⟨0, [], [], oC₁, _, il, H, h₁, _, rfl, rfl, Nat.zero_le _, rfl, Nat.le_refl _, i0, hst, rfl, hNC₁, F₁, X₁'⟩
    rintro n' s' ⟨i, ys, us, oC, m₂, il', H', h', tk', rfl, rfl, hi, hus, hul, hI, hst', hmap, hN, F', X'⟩
    refine hT.1 i A h₀ L m il' ((C, oC) :: (b, LCg.lst us) :: hid) _ H' _ hA.2.2.1 hst' (fun p hp => ?_) (isrc i ys H' hI) F' X' (fun hlt v il₂ H₂ h₂ tk₂ hitem hle hsrc₂ hst₂ hmap₂ F₂ X₂ => ?_) (fun heq h₂ tk₂ F₂ X₂ => ?_) hi
    · rw [hmap]
      rcases List.mem_cons.mp hp with rfl | hp
      · exact hCil
      · rcases List.mem_cons.mp hp with rfl | hp
        · exact hbil
        · exact hoff p hp
    · obtain ⟨bs, hac, hbs, hts⟩ := istep i ys H' hlt hI (er v) H₂ hitem hle hsrc₂ C
      have hmap' : il₂.map (·.1) = il.map (·.1) := hmap₂.trans hmap
      have X₂' : Hp D h₀ L h₂ H₂ ((C, oC) :: (il₂ ++ (b, LCg.lst us) :: hid)) := X₂.hidSub fun p hp => List.perm_middle.mem_iff.mpr hp
      have offC : ∀ p ∈ il₂ ++ (b, LCg.lst us) :: hid, p.1 ≠ C := fun p hp => by
        rcases List.mem_append.mp hp with q | q
        · intro w; exact hCil (by rw [← hmap', ← w]; exact List.mem_map_of_mem q)
        · rcases List.mem_cons.mp q with rfl | q
          · exact hbC
          · exact hCh p q
      show wpAny _ _ (assign target _ v) _ _ _
      refine hac v rfl A h₀ L m (il₂ ++ (b, LCg.lst us) :: hid) _ _ oC m₂ hA hN (fun y v h => by simp [lk] at h) F₂ offC X₂' fun h₃ tk₃ oC₃ m₃ hN₃ hb₃ F₃ X₃ => ?_
      have hVc : Vr (compEnvC scope cl C e) L m ((C, oC₃) :: (il₂ ++ (b, LCg.lst us) :: hid)) (bs ++ ρc) := Vr.app (oC := oC₃) (m₂ := m₃) List.mem_cons_self hN₃ hb₃ hbs (hc.vr fun x v hx => (hV x v hx).mono fun p hp => List.mem_cons_of_mem _ (List.mem_append_right _ (List.mem_cons_of_mem _ hp)))
      have fin : ∀ {H₅ : MH} {h₅ : Heap}, Hp D h₀ L h₅ H₅ ((C, oC₃) :: (il₂ ++ (b, LCg.lst us) :: hid)) → Hp D h₀ L h₅ H₅ (il₂ ++ ((C, oC₃) :: (b, LCg.lst us) :: hid)) := fun X => X.hidSub fun p hp => List.perm_middle.mem_iff.mp hp
      have yes : ∀ {H₃ : MH} {h₃ : Heap} {tk₃ : Nat}, Fr h₀ L h₃ m → Hp D h₀ L h₃ H₃ ((C, oC₃) :: (il₂ ++ (b, LCg.lst us) :: hid)) → (EV D d (compEnvC scope cl C e) (bs ++ ρc) H₃ elt fun y H₄ => I (i + 1) (ys ++ [y]) H₄) →
          wpAny (model D.prog D.w) A (eval elt (compEnvC scope cl C e)) (fun x s₄ => wpAny (model D.prog D.w) A (call (.builtin "list.append") [.ref b, x]) (fun _ s₅ => ∃ m', m' < T.n - i ∧ CompJ D h₀ L m s T I il hid C b m' s₅) (fun _ _ => False) s₄) (fun _ _ => False) { s with heap := h₃, toks := tk₃ } := fun F₃ X₃ hev => by
        refine hev A h₀ L m ((C, oC₃) :: (il₂ ++ (b, LCg.lst us) :: hid)) _ _ hA hVc F₃ X₃ fun x H₄ h₄ tk₄ q F₄ X₄ => ?_
        have hb4 : h₄.get? b = some (LCg.lst us) := X₄.get (p := (b, LCg.lst us)) (List.mem_cons_of_mem _ (List.mem_append_right _ List.mem_cons_self))
        refine append_at (hsz := by show us.toArray.size ≤ sizeLine; rw [List.size_toArray, sizeLine_eq]; have : T.n ≤ 100000 := hn; omega) hb4 fun h₅ hs₅ hD₅ => ?_
        have hD₅' : h₅.get? b = some (LCg.lst (us ++ [x])) := hD₅.trans (congrArg some (LCg.lst_snoc us x))
        have X₄' : Hp D h₀ L h₄ H₄ ([(b, LCg.lst us)] ++ (il₂ ++ (C, oC₃) :: hid)) := X₄.hidSub fun p hp => ((List.perm_middle.cons _).trans ((List.Perm.swap _ _ _).trans (List.perm_middle.symm.cons _))).mem_iff.mp hp
        have kk : ∀ c oc, c ≠ b → h₄.get? c = some oc → h₅.get? c = some oc := fun c oc hcb q => (hs₅.2 c hcb).trans q
        have F₅ := fr_but1 (I := b) (il := [(b, LCg.lst us)]) F₄ X₄' (List.mem_singleton.mpr rfl) kk
        have X₅ := X₄'.turn (il' := [(b, LCg.lst (us ++ [x]))]) (fun p hp => by rw [List.mem_singleton.mp hp]; exact .inl (by show Value.type "list" ≠ .type "tuple"; decide)) (fun p hp q => by
          have q' : p.1 = b := List.mem_singleton.mp q
          rcases List.mem_append.mp hp with w | w
          · exact hbil (by rw [← hmap', ← q']; exact List.mem_map_of_mem w)
          · rcases List.mem_cons.mp w with rfl | w
            · exact hbC q'.symm
            · exact hbh p w q') (by simp) (fun c oc hcb => kk c oc fun q => hcb (q ▸ List.mem_singleton.mpr rfl)) (fun p hp => by rw [List.mem_singleton.mp hp]; exact hD₅')
        refine ⟨T.n - (i + 1), Nat.sub_lt_sub_left hlt (Nat.lt_succ_self i), i + 1, ys ++ [er x], us ++ [x], oC₃, m₃, il₂, H₄, h₅, tk₄, rfl, rfl, hlt, by rw [List.map_append, hus]; rfl, by rw [List.length_append, List.length_singleton]; exact Nat.succ_le_succ hul, q, hst₂, hmap', hN₃, F₅, X₅.hidSub fun p hp => ?_⟩
        exact (((List.Perm.swap _ _ _).append_left _).trans List.perm_middle).mem_iff.mp hp
      have no : ∀ {H₃ : MH} {h₃ : Heap} {tk₃ : Nat}, Fr h₀ L h₃ m → Hp D h₀ L h₃ H₃ ((C, oC₃) :: (il₂ ++ (b, LCg.lst us) :: hid)) → I (i + 1) ys H₃ → ∃ m', m' < T.n - i ∧ CompJ D h₀ L m s T I il hid C b m' { s with heap := h₃, toks := tk₃ } := fun F₃ X₃ hi' =>
        ⟨T.n - (i + 1), Nat.sub_lt_sub_left hlt (Nat.lt_succ_self i), i + 1, ys, us, oC₃, m₃, il₂, _, _, _, rfl, rfl, hlt, hus, Nat.le_succ_of_le hul, hi', hst₂, hmap', hN₃, F₃, fin X₃⟩
      refine TSS.go hl (fun hnil => ?_) fun c r hcons => ?_
      · subst hnil
        have hts' : EV D d (compEnvC scope cl C e) (bs ++ ρc) H₂ elt fun y H₄ => I (i + 1) (ys ++ [y]) H₄ := hts
        show if true = true then _ else _
        rw [if_pos rfl]
        exact yes F₃ X₃ hts'
      · subst hcons
        refine hts _ rfl A h₀ L m ((C, oC₃) :: (il₂ ++ (b, LCg.lst us) :: hid)) _ _ hA hVc F₃ X₃ fun ok H₄ h₄ tk₄ q F₄ X₄ => ?_
        cases ok with
        | true => rw [if_pos rfl]; exact yes F₄ X₄ q
        | false => rw [if_neg (by decide)]; exact no F₄ X₄ q
    · subst heq
      have hfr : H' b = none := by
        obtain ⟨news, N, n1, n2⟩ := X₂
        exact (n1 (b, LCg.lst us) (List.mem_cons_of_mem _ List.mem_cons_self)).2.1
      refine k ys H' b C oC m₂ h₂ tk₂ (iend ys H' hI) hfr hN F₂ (Hp.reveal (b := b) (o := LCg.lst us) (mo := .lst g ys) (hid := (C, oC) :: hid) (X₂.hidSub fun p hp => ?_) (fun p hp => ?_) (.inl (by show Value.type "list" ≠ .type "tuple"; decide)) (by intro _ _ q; cases q) fun news hm => ⟨us.toArray, us.length, hm, hus⟩) hCh
      · simp only [List.mem_cons] at hp ⊢
        rcases hp with q | q | q
        · exact .inr (.inl q)
        · exact .inl q
        · exact .inr (.inr q)
      · rcases List.mem_cons.mp hp with rfl | hp
        · exact Ne.symm hbC
        · exact hbh p hp
  exact codeAny_compStart_list loop (hT.2 0 A h₀ L il _ _ H _ _ hst X₁' loop)
end
end Mine
namespace Mine
section
variable {D : Wd} {d : Nat} {e : Env} {ρ : List (Str × V)} {H : MH}
theorem Hp.drop {h₀ h h' : Heap} {L : Addr} {m : Str → Option Value} {hid : Led} {C : Addr} {oC : Obj} {m₂ : Str → Option Value} (X : Hp D h₀ L h H ((C, oC) :: hid)) (F : Fr h₀ L h m) (hN : LCg.NsObj oC m₂) (hd : ∀ p ∈ hid, p.1 ≠ C) (hs : Heap.SameBut C h h') : Fr h₀ L h' m ∧ Hp D h₀ L h' H hid := by
  have kk : ∀ c oc, c ≠ C → h.get? c = some oc → h'.get? c = some oc := fun c oc hcb q => (hs.2 c hcb).trans q
  refine ⟨fr_but1 (I := C) (il := [(C, oC)]) F X (List.mem_singleton.mpr rfl) kk, ?_⟩
  have := Hp.turn (il := [(C, oC)]) (il' := []) X (fun p hp => by
    rw [List.mem_singleton.mp hp]
    obtain ⟨es, ep, hdd, _⟩ := hN
    exact .inr fun its n q => by rw [hdd] at q; cases q) (fun p hp q => hd p hp (List.mem_singleton.mp q)) (by simp) (fun c oc hcb => kk c oc fun q => hcb (q ▸ List.mem_singleton.mpr rfl)) (by simp)
  simpa using this
structure ScopeOk (e : Env) (scope : Scope) (cl : List (Str × Addr)) (iter : Expr) (ifs : List Expr) : Prop where
  hs : ∀ x, foldedSetIterable iter e x = pure x
  hclos : closureFor scope e = pure cl
  hkind : scope.kind = .function
  hnames : ∀ x ∈ scope.names, x.2 = .local → scope.names.lookup x.1 = some .local
  hcell : ∀ y ∈ scope.names, y.2 ≠ .cell
  hl : ifs.length ≤ 1
theorem EV.comp (g : Nat × Nat) (ρc : List (Str × V)) {elt target iter : Expr} {ifs : List Expr} {scope : Scope} {cl : List (Str × Addr)} {pos : Pos} {P : V → MH → Prop} (so : ScopeOk e scope cl iter ifs) (hc : CAP e scope cl ρ ρc)
    (h : IE D d e ρ H target iter fun S H₁ => CompOk D d e ρc scope cl elt target ifs S H₁ fun ys H' => ∀ a, H' a = none → P (.ref a) (upd H' a (.lst g ys))) :
    EV D d e ρ H (.ListComp elt [⟨target, iter, ifs, 0⟩] scope pos) P := fun A h₀ L m hid s Q hA hV F X k => by
  rw [eval_ListComp]
  refine wpAny_comprehension_free (use := none) rfl so.hs so.hclos so.hkind so.hnames (h A h₀ L m hid s _ hA hV F X fun T H' il h' tk' hok hT hst hoff F' X' => ?_)
  refine comp_core (g := g) hA hV hc so.hl so.hcell so.hkind hok hT hst hoff F' X' fun ys H₂ b C oC m₂ h₂ tk₂ hp hb hN F₂ X₂ hCh => ?_
  exact ⟨m₂, hN.ns (X₂.get List.mem_cons_self), fun h₃ hs₃ => k _ _ h₃ tk₂ (hp b hb) (X₂.drop F₂ hN hCh hs₃).1 (X₂.drop F₂ hN hCh hs₃).2⟩
theorem EX.assignComp (g : Nat × Nat) (ρc : List (Str × V)) {x : Str} {xpos spos : Pos} {elt target iter : Expr} {ifs : List Expr} {scope : Scope} {cl : List (Str × Addr)} {pos : Pos} {P : FV → List (Str × V) → MH → Prop} (so : ScopeOk e scope cl iter ifs) (hc : CAP e scope cl ρ ρc) (hk : e.scope.kind = .function) (hx : okN e x)
    (hsw : swapsWith (.ListComp elt [⟨target, iter, ifs, 0⟩] scope pos) (some (.Name x xpos)) spos.line e = pure true)
    (h : IE D d e ρ H target iter fun S H₁ => CompOk D d e ρc scope cl elt target ifs S H₁ fun ys H' => ∀ a, H' a = none → P .next ((x, .ref a) :: ρ) (upd H' a (.lst g ys))) :
    EX D d e ρ H (.Assign [.Name x xpos] (.ListComp elt [⟨target, iter, ifs, 0⟩] scope pos) spos) P := fun A h₀ m cs hid s Q hA hC hV F X k => by
  rw [exec_Assign_Name_used _ _ _ _ hsw]
  refine wpAny_bind (wpAny_standAt (wpAny_bind ?_))
  show wpAny _ A (do let _ ← comprehension (.ListComp elt [⟨target, iter, ifs, 0⟩] scope pos) scope e _ (newList []) false (eval iter e) (some (assign (.Name x xpos) e))) _ _ s
  have hVh : Vr e e.locals m (cs ++ hid) ρ := fun x v hx => (hV x v hx).mono fun p hp => List.mem_append_left _ hp
  refine wpAny_bind (wpAny_mono (wpAny_comprehension_free (use := some (assign (.Name x xpos) e)) (Q := fun _ s' => Q .next s') rfl so.hs so.hclos so.hkind so.hnames
    (h A h₀ e.locals m (cs ++ hid) s _ hA hVh F X fun T H' il h' tk' hok hT hst hoff F' X' => ?_)) (fun _ s' hq => wpAny_pure (wpAny_pure hq)) fun _ _ q => q)
  refine comp_core (g := g) hA hVh hc so.hl so.hcell so.hkind hok hT hst hoff F' X' fun ys H₂ b C oC m₂ h₂ tk₂ hp hb hN F₂ X₂ hCh => ?_
  show wpAny _ A (assign (.Name x xpos) e (.ref b)) _ _ _
  have hC₂ : CsOk e cs ([(C, oC)] ++ hid) := hC.more (il := [(C, oC)]) fun p hp q => hCh p hp (List.mem_singleton.mp q)
  have sw : ∀ {cs : Led} {h : Heap} {H : MH}, Hp D h₀ e.locals h H ((C, oC) :: (cs ++ hid)) → Hp D h₀ e.locals h H (cs ++ ([(C, oC)] ++ hid)) := fun X => X.hidSub fun p hp => List.perm_middle.mem_iff.mp hp
  have ws : ∀ {cs : Led} {h : Heap} {H : MH}, Hp D h₀ e.locals h H (cs ++ ([(C, oC)] ++ hid)) → Hp D h₀ e.locals h H ((C, oC) :: (cs ++ hid)) := fun X => X.hidSub fun p hp => List.perm_middle.mem_iff.mpr hp
  refine PyProof.Rows.assign_Name (storeName_G (P := fun _ ρ' H' => P .next ρ' H') (hp b hb) hk hx A h₀ m cs ([(C, oC)] ++ hid) _ _ hA hC₂ hV F₂ (sw X₂) fun _ m₃ cs₃ ρ₃ H₃ h₃ tk₃ q₃ hC₃ hV₃ F₃ X₃ => ?_)
  have X₄ := ws X₃
  have off : ∀ p ∈ cs₃ ++ hid, p.1 ≠ C := fun p hp => by
    rcases List.mem_append.mp hp with q | q
    · intro w
      exact hC₃.2.2.2.1 (C, oC) (List.mem_append_left _ List.mem_cons_self) (by rw [← hC₃.1, show (C, oC).1 = p.1 from w.symm]; exact List.mem_map_of_mem q)
    · exact hCh p (List.mem_append_right _ q)
  exact ⟨m₂, hN.ns (X₄.get List.mem_cons_self), fun h₅ hs₅ => k .next m₃ cs₃ ρ₃ H₃ h₅ tk₃ q₃ hC₃.less hV₃ (X₄.drop F₃ hN off hs₅).1 (X₄.drop F₃ hN off hs₅).2⟩
theorem CompOk.pure {ρc : List (Str × V)} {scope : Scope} {cl : List (Str × Addr)} {elt : Expr} {x : Str} {xpos : Pos} {S : Shp} {H₁ : MH} {P : List V → MH → Prop} (vs : List V) (hn : S.n = vs.length) (hz : vs.length ≤ 100000) (hsrc : S.Src H₁) (hx : (relabel scope e).names.lookup x = some .local) (hk : scope.kind = .function)
    (hsle : ∀ H', Le H₁ H' → S.Src H') (f : V → V) (hit : ∀ i v H₂, S.item i v H₂ → vs[i]? = some v)
    (h : ∀ v ∈ vs, ∀ C H₂, Le H₁ H₂ → EV D d (compEnvC scope cl C e) ((x, v) :: ρc) H₂ elt fun y H₄ => y = f v ∧ Le H₂ H₄) (hp : ∀ H', Le H₁ H' → P (vs.map f) H') : CompOk D d e ρc scope cl elt (.Name x xpos) [] S H₁ P := by
  refine ⟨fun i ys H' => Le H₁ H' ∧ ys = (vs.take i).map f, ⟨Le.refl _, by simp⟩, by rw [hn]; exact hz, fun i ys H' q => hsle H' q.1, fun i ys H' hi q v H₂ hv hle hs₂ C => ⟨[(x, v)], AC.name (e := compEnvC scope cl C e) hx hk, fun y u hy => ?_, ?_⟩, fun ys H' q => ?_⟩
  · unfold lk at hy
    by_cases w : y = x
    · rw [w]; exact hx
    · rw [if_neg w] at hy; simp [lk] at hy
  · have hv' := hit i v H₂ hv
    show EV D d (compEnvC scope cl C e) ((x, v) :: ρc) H₂ elt fun y H₄ => Le H₁ H₄ ∧ ys ++ [y] = (vs.take (i + 1)).map f
    refine EV.mono (h v (List.mem_of_getElem? hv') C H₂ (q.1.trans hle)) fun y H₄ z => ⟨(q.1.trans hle).trans z.2, ?_⟩
    rw [List.take_add_one, hv', q.2, z.1]; simp
  · have := hp H' q.1
    rw [q.2, hn, List.take_length]; exact this
end
end Mine
namespace Mine
section
variable {prog : Program} {w : World} {A : Around} {E : Value → Shared → Prop} {s : Shared}
theorem adjust_upto (k n : Nat) (hk : k ≤ n) : Builtin.Slice.sliceAdjust none (some (k : Int)) 1 (n : Int) = ((0 : Int), (k : Int)) := by
  unfold Builtin.Slice.sliceAdjust
  have h1 : ¬ ((1 : Int) < 0) := by omega
  have h2 : ¬ ((k : Int) < 0) := by omega
  simp only [h1, h2, if_false]
  congr 1
  omega
theorem places_upto (k : Nat) : Builtin.Slice.slicePlaces (0 : Int) (k : Int) 1 = k := by
  unfold Builtin.Slice.slicePlaces
  have h1 : (1 : Int) > 0 := by omega
  simp only [h1, if_true, Int.ediv_one]
  split <;> omega
theorem sliceApplied_upto {sl : Addr} {k n : Nat} {u : Tok} {Q : Int × Int × Nat → Shared → Prop} (hs : s.heap.IsSliceOf sl .none (.int k u) .none) (hk : k ≤ n) (h : Q ((0 : Int), 1, k) s) :
    wpAny (model prog w) A (Builtin.Slice.sliceApplied (.ref sl) (pure (n : Int))) Q E s := by
  obtain ⟨os, hos, hcs, hds⟩ := id hs
  unfold Builtin.Slice.sliceApplied Builtin.Slice.sliceFields
  refine wpAny_bind (wpAny_bind (wpAny_field hos hds (x := .none) rfl (wpAny_bind (wpAny_field hos hds (x := .int k u) rfl (wpAny_bind (wpAny_field hos hds (x := .none) rfl (wpAny_pure ?_)))))))
  refine wpAny_bind (slicePart_none ?_)
  show wpAny _ _ (if ((1 : Int) == 0) = true then _ else _) _ _ s
  rw [if_neg (by decide)]
  refine wpAny_bind (slicePart_none (wpAny_bind (slicePart_int (wpAny_bind (wpAny_pure ?_)))))
  show wpAny _ _ (match Builtin.Slice.sliceAdjust none (some (k : Int)) 1 (n : Int) with | (lo, hi) => pure (lo, (1 : Int), Builtin.Slice.slicePlaces lo hi 1)) _ _ s
  rw [adjust_upto k n hk]
  show wpAny _ _ (pure ((0 : Int), (1 : Int), Builtin.Slice.slicePlaces (0 : Int) (k : Int) 1)) _ _ s
  rw [places_upto k]
  exact wpAny_pure h
theorem getItem_tuple_one {t sl : Addr} {items : Array Value} {x : Value} {u : Tok} {Q : Value → Shared → Prop} (ht : IsTup s.heap t items) (hs : s.heap.IsSliceOf sl .none (.int (1 : Nat) u) .none) (hx : items[0]? = some x)
    (h1 : items.size = 1 → Q (.ref t) s)
    (h : Q (.ref s.heap.objs.size) { s with heap := s.heap.push { cls := .type "tuple", data := .seq #[x] } }) : wpAny (model prog w) A (getItem (.ref t) (.ref sl)) Q E s := by
  have hlt : 0 < items.size := by
    rcases Nat.lt_or_ge 0 items.size with q | q
    · exact q
    · rw [Array.getElem?_eq_none q] at hx; cases hx
  obtain ⟨os, hos, hcs, hds⟩ := id hs
  have hTs : s.TypeIs (.ref sl) "slice" := ⟨os, hos, hcs⟩
  unfold getItem
  try with_reducible refine wpAny_holding ?_
  first | refine wpAny_bind (wpAny_pure ?_) | skip
  refine wpAny_bind (wpAny_sequenceKey ht.typeIs (by decide) ?_)
  refine wpAny_bind (wpAny_callSpecial?_slot (name := Str.ofString "__getitem__") ht.typeIs slot_tuple_getitem
    (wpAny_call_entry slot_tuple_getitem ht.typeIs entry_tuple_getitem ?_ (args_tuple_getitem _ _)))
  show wpAny _ _ (Builtin.Tuple.tupleItemsOf (.ref t) >>= _) _ _ s
  refine wpAny_bind (tupleItemsOf_ ht ?_)
  refine wpAny_bind (wpAny_typeOf hTs ?_)
  rw [if_pos (by decide)]
  refine wpAny_bind (sliceApplied_upto hs hlt ?_)
  show wpAny _ _ (if ((0 : Int) == 0 && (1 : Int) == 1 && (1 == items.size)) = true then _ else _) _ _ s
  by_cases hz : items.size = 1
  · rw [if_pos (by simp [hz])]
    refine wpAny_bind ?_
    unfold Builtin.Tuple.tupleIsExact
    refine wpAny_bind (wpAny_typeOf ht.typeIs (wpAny_pure ?_))
    rw [if_pos (by decide)]
    exact wpAny_bind (wpAny_rule (wpAny_pure ⟨_, rfl, wpAny_pure (h1 hz)⟩))
  · rw [if_neg (by simp; omega)]
    have e : ((List.range 1).filterMap fun (k : Nat) => items[((0 : Int) + (k : Int) * 1).toNat]?).toArray = #[x] := by
      show (([0] : List Nat).filterMap _).toArray = #[x]
      simp [hx]
    rw [e]
    first
    | exact wpAny_bind (m := Builtin.Tuple.tupleExact _) (wpAny_newObj_type (wpAny_pure ⟨_, rfl, wpAny_pure h⟩))
    | exact wpAny_bind (m := Builtin.Tuple.tupleExact _) (wpAny_newObj_type (wpAny_bind (wpAny_pure (wpAny_pure ⟨_, rfl, wpAny_pure h⟩))))
    | exact wpAny_bind (wpAny_bind (m := Builtin.Tuple.tupleExact _) (wpAny_newObj_type (wpAny_pure (wpAny_pure ⟨_, rfl, wpAny_pure h⟩))))
    | exact wpAny_bind (wpAny_bind (m := Builtin.Tuple.tupleExact _) (wpAny_newObj_type (wpAny_pure ⟨_, rfl, wpAny_pure h⟩)))
end
section
variable {D : Wd} {d : Nat} {e : Env} {ρ : List (Str × V)} {H : MH}
noncomputable def EP (D : Wd) (d : Nat) (e : Env) (ρ : List (Str × V)) (H : MH) : Option Expr → (V → MH → Prop) → Prop
  | none, P => P .none H
  | some x, P => EV D d e ρ H x P
theorem EP.go {x : Option Expr} {P : V → MH → Prop} (h : EP D d e ρ H x P) : WE D d e ρ H (evalPart x e) fun v H' => P (er v) H' := by
  cases x with
  | none => rw [evalPart_none]; exact WE.pure (show P (er .none) H from h)
  | some y => rw [evalPart_some]; exact h
noncomputable def SL (D : Wd) (d : Nat) (H : MH) (a lo hi : V) (P : V → MH → Prop) : Prop := ∀ (u vl vu : Value), er u = a → er vl = lo → er vu = hi →
  ∀ (A : Around) (h₀ : Heap) (L : Addr) (m : Str → Option Value) (hid : Led) (s : Shared) (Q : Value → Shared → Prop), Amb D A d h₀ L → Fr h₀ L s.heap m → Hp D h₀ L s.heap H hid →
    (∀ v H' h' tk', P (er v) H' → Fr h₀ L h' m → Hp D h₀ L h' H' hid → Q v { s with heap := h', toks := tk' }) →
    ∃ T id, s.TypeIs u T ∧ typeLookup (.type T) "__getitem__" = pure (some (.builtin id)) ∧
      wpAny (model D.prog D.w) A (getItem u (.ref s.heap.objs.size)) Q (fun _ _ => False) { s with heap := s.heap.push { cls := .type "slice", data := .fields #[vl, vu, .none] } }
theorem typeIs_push {s : Shared} {u : Value} {T : String} {o : Obj} (h : s.TypeIs u T) : Shared.TypeIs { s with heap := s.heap.push o } u T := by
  cases u with
  | ref a => obtain ⟨ob, h1, h2⟩ := h; exact ⟨ob, Heap.get?_push_of_some _ h1, h2⟩
  | _ => exact h
theorem EV.slice {value : Expr} {lower upper : Option Expr} {p pos : Pos} {P : V → MH → Prop} (h : EV D d e ρ H value fun o H₁ => EP D d e ρ H₁ lower fun lo H₂ => EP D d e ρ H₂ upper fun hi H₃ => SL D d H₃ o lo hi P) :
    EV D d e ρ H (.Subscript value (.Slice lower upper none p) pos) P := fun A h₀ L m hid s Q hA hV F X k =>
  Subscript_ (h A h₀ L m hid s _ hA hV F X fun u H₁ h₁ tk₁ q₁ F₁ X₁ => wpAny_Slice (EP.go q₁ A h₀ L m hid _ _ hA hV F₁ X₁ fun vl H₂ h₂ tk₂ q₂ F₂ X₂ => EP.go q₂ A h₀ L m hid _ _ hA hV F₂ X₂ fun vu H₃ h₃ tk₃ q₃ F₃ X₃ => by
    rw [evalPart_none]
    refine wpAny_pure ?_
    obtain ⟨T, id, hT, hl, hg⟩ := q₃ u vl vu rfl rfl rfl A h₀ L m hid { s with heap := h₃, toks := tk₃ } Q hA F₃ X₃ k
    exact tail_any (typeIs_push hT) hl hg rfl))
theorem SL.tupFrom {a : Addr} {vs : List V} {n : Nat} {P : V → MH → Prop} (ha : H a = some (.tup vs)) (h1 : 1 ≤ n) (hn : n ≤ vs.length) (hz : vs.length ≤ 1000) (hp : ∀ b, H b = none → P (.ref b) (upd H b (.tup (vs.drop n)))) : SL D d H (.ref a) (.int (n : Int)) .none P :=
  fun u vl vu hu hl hh A h₀ L m hid s Q hA F X k => by
  have := er_ref hu; subst this
  obtain ⟨t, rfl⟩ := er_int hl
  have := er_none hh; subst this
  obtain ⟨its, ht, hi⟩ := X.tup ha
  have hsz := its_size hi
  refine ⟨"tuple", _, ht.typeIs, slot_tuple_getitem.lookup, ?_⟩
  have F' := F.push { cls := .type "slice", data := .fields #[.int n t, .none, .none] }
  have X' := X.push F { cls := .type "slice", data := .fields #[.int n t, .none, .none] } rfl
  refine getItem_tuple_from (a := n) (u := t) (ht.keeps fun _ _ e => Heap.get?_push_of_some _ e) (Heap.IsSliceOf.new ..) h1 (by omega) ?_ (by rw [sizeLine_eq]; omega)
  refine k _ _ _ s.toks (hp _ (X'.fresh (Nat.le_refl _))) (F'.push _) (X'.new (mo := .tup (vs.drop n)) F' rfl (by intro _ _ q; cases q) fun news N => ⟨(its.toList.drop n).toArray, ⟨_, _, List.mem_cons_self, rfl, rfl⟩, ?_⟩)
  rw [List.toList_toArray, List.map_drop, hi]
theorem SL.tupOne {a : Addr} {v : V} {vs : List V} {P : V → MH → Prop} (ha : H a = some (.tup (v :: vs))) (h1 : vs = [] → P (.ref a) H) (hp : ∀ b, H b = none → P (.ref b) (upd H b (.tup [v]))) : SL D d H (.ref a) .none (.int 1) P :=
  fun u vl vu hu hl hh A h₀ L m hid s Q hA F X k => by
  have := er_ref hu; subst this
  obtain ⟨t, rfl⟩ := er_int hh
  have := er_none hl; subst this
  obtain ⟨its, ht, hi⟩ := X.tup ha
  have hsz := its_size hi
  obtain ⟨y, hy, hyv⟩ := its_get (k := 0) hi rfl
  refine ⟨"tuple", _, ht.typeIs, slot_tuple_getitem.lookup, ?_⟩
  have F' := F.push { cls := .type "slice", data := .fields #[.none, .int 1 t, .none] }
  have X' := X.push F { cls := .type "slice", data := .fields #[.none, .int 1 t, .none] } rfl
  refine getItem_tuple_one (u := t) (ht.keeps fun _ _ e => Heap.get?_push_of_some _ e) (Heap.IsSliceOf.new ..) hy (fun q => ?_) ?_
  · exact k _ _ _ s.toks (h1 (by rw [hsz] at q; simpa using q)) F' X'
  · exact k _ _ _ s.toks (hp _ (X'.fresh (Nat.le_refl _))) (F'.push _) (X'.new (mo := .tup [v]) F' rfl (by intro _ _ q; cases q) fun news N => ⟨#[y], ⟨_, _, List.mem_cons_self, rfl, rfl⟩, by show [er y] = [v]; rw [hyv]⟩)
theorem SL.strTo {x y : Str} {i : Int} {P : V → MH → Prop} (hx : ∀ t u, PySem.sliceMade x t none (some (i, u)) none = .str y ∨ (PySem.sliceMade x t none (some (i, u)) none = .val (.str x t) ∧ x = y)) (hz : y.length ≤ 1000) (hp : P (.str y) H) : SL D d H (.str x) .none (.int i) P :=
  fun u vl vu hu hl hh A h₀ L m hid s Q hA F X k => by
  obtain ⟨tx, rfl⟩ := er_str hu
  obtain ⟨t, rfl⟩ := er_int hh
  have := er_none hl; subst this
  refine ⟨"str", _, typeIs_str s x tx, PySem.F.slot_str_getitem.lookup, ?_⟩
  have F' := F.push { cls := .type "slice", data := .fields #[.none, .int i t, .none] }
  have X' := X.push F { cls := .type "slice", data := .fields #[.none, .int i t, .none] } rfl
  refine wpAny_getItem_str_slice (l := none) (u := some (i, t)) (st := none) ⟨_, Heap.get?_push_size _ rfl, rfl, rfl⟩ rfl ?_
  rcases hx tx t with q | ⟨q, rfl⟩
  · rw [q]; exact ⟨by rw [sizeLine_eq]; omega, k (.str y s.toks) H _ _ hp F' X'⟩
  · rw [q]; exact k (.str x tx) H _ _ hp F' X'
end
end Mine
namespace Mine
section
variable {D : Wd} {d : Nat} {e : Env} {ρ : List (Str × V)} {H : MH} {tg : Expr}
noncomputable def strShp (x : Str) : Shp := { n := x.cps.size, Src := fun _ => True, item := fun i v _ => ∃ c, x.cps[i]? = some c ∧ v = .str ⟨#[c]⟩ }
noncomputable def strItor (I : Addr) (x : Str) : Itor := { strShp x with I := I, St := fun i il => ∃ o t, il = [(I, o)] ∧ o.cls = .type "str_ascii_iterator" ∧ o.data = .fields #[.str x t, .int i 0] }
theorem strItor_self {I : Addr} {x : Str} : SelfOk D (strItor I x) := fun i A h₀ L il hid s H Q E hst X h => by
  obtain ⟨o, t, rfl, ho1, ho2⟩ := hst
  exact wpAny_pyIter_striter_ascii (x := x) (t := t) (i := i) ⟨o, X.get (List.mem_append_left _ List.mem_cons_self), ho1, ho2⟩ h
theorem strItor_next {I : Addr} {x : Str} (tg : Expr) : NextOk D tg (strItor I x) := fun i A h₀ L m il hid s H Q hh hst hd hsrc F X hit hend hi => by
  obtain ⟨o, t, rfl, ho1, ho2⟩ := hst
  have hI : s.heap.IsStrIter I "str_ascii_iterator" x t i := ⟨o, X.get (List.mem_append_left _ List.mem_cons_self), ho1, ho2⟩
  have hpl : ∀ p ∈ [(I, o)], plainO p.2 := fun p hp => by
    rw [List.mem_singleton.mp hp]
    exact .inl (by rw [ho1]; decide)
  have hi2 : i ≤ x.cps.size := hi
  rcases Nat.lt_or_eq_of_le hi2 with hlt | heq
  · have hc : x.cps[i]? = some x.cps[i] := Array.getElem?_eq_getElem hlt
    refine wpAny_pyNext_ascii_item hI hc fun h' hit' hs => ?_
    obtain ⟨o', ho', q1, q2⟩ := hit'
    have hk : ∀ b ob, b ≠ I → s.heap.get? b = some ob → h'.get? b = some ob := fun b ob hb q => (hs.2 b hb).trans q
    refine letGo_plain (I := I) ho' q1 (by decide) ?_
    exact hit hlt _ [(I, o')] H h' _ ⟨_, hc, rfl⟩ (Le.refl H) trivial ⟨o', t, rfl, q1, q2⟩ rfl (fr_but1 (I := I) F X (List.mem_singleton.mpr rfl) hk)
      (X.turn hpl hd (by simp) (fun b ob hb => hk b ob (fun q => hb (q ▸ List.mem_singleton.mpr rfl))) fun p hp => by rw [List.mem_singleton.mp hp]; exact ho')
  · refine wpAny_pyNext_ascii_end hh hI (Array.getElem?_eq_none (Nat.le_of_eq heq.symm)) fun h' he => ?_
    have he' : ∀ b ob, b ≠ I → s.heap.get? b = some ob → h'.get? b = some ob := he
    exact hend heq h' s.toks (fr_but1 (I := I) F X (List.mem_singleton.mpr rfl) he') (by
      have := X.turn (il' := []) hpl hd (by simp) (fun b ob hb => he' b ob (fun q => hb (q ▸ List.mem_singleton.mpr rfl))) (by simp)
      simpa using this)
theorem IE.str {x : Expr} {P : Shp → MH → Prop} (h : EV D d e ρ H x fun v H' => ∃ y, v = .str y ∧ y.cps.all (· < 128) = true ∧ P (strShp y) H') : IE D d e ρ H tg x P := fun A h₀ L m hid s Q hA hV F X k =>
  h A h₀ L m hid s _ hA hV F X fun v H' h' tk' q F' X' => by
    obtain ⟨y, hv, ha, hp⟩ := q
    obtain ⟨t, rfl⟩ := er_str hv
    refine wpAny_pyIter_ascii ha (k (strItor h'.objs.size y) H' [(h'.objs.size, _)] _ _ hp ⟨strItor_next tg, strItor_self⟩ ⟨_, t, rfl, rfl, rfl⟩ (fun p hp => ?_) (F'.push _) (X'.hide F' rfl))
    exact fun q => Nat.ne_of_lt (X'.hid_lt p hp) (List.mem_singleton.mp q)
theorem GM.isspace {x : Str} {P : V → List V → MH → Prop} (hp : P (.oth (.builtin "str.isspace")) [.str x] H) : GM D d H (.str x) "isspace" P := fun u pl hu A h₀ L m hid s Q hA hV F X k => by
  obtain ⟨t, rfl⟩ := er_str hu
  exact _root_.PySem.GM.isspace (k _ H s.heap s.toks hp F X)
theorem CL.isspace {x : Str} {P : V → MH → Prop} (hp : P (.bool (Txt.isspace x)) H) : CL D d H (.oth (.builtin "str.isspace")) [.str x] P := fun uf us huf hus A h₀ L m hid s Q hA hV F X k => by
  have := er_oth huf; subst this
  obtain ⟨u, rfl, hu⟩ := args1 hus
  obtain ⟨t, rfl⟩ := er_str hu
  exact SC.isspace (k _ H s.heap s.toks hp F X)
theorem CO.inStr {x y : Str} {P : V → MH → Prop} (h : P (.bool !(Builtin.Str.occurrences x y 0 x.length 1).isEmpty) H) : CO D d H .In (.str y) (.str x) P := fun u v hu hv => by
  obtain ⟨t, rfl⟩ := er_str hu; obtain ⟨t', rfl⟩ := er_str hv
  exact WT.toks fun _ k => PySem.P.in_str (k _ _ h)
theorem CO.neStr {x y : Str} {P : V → MH → Prop} (h : P (.bool (x.cps.toList != y.cps.toList)) H) : CO D d H .NotEq (.str x) (.str y) P := fun u v hu hv => by
  obtain ⟨t, rfl⟩ := er_str hu; obtain ⟨t', rfl⟩ := er_str hv
  exact WT.toks fun _ k => PySem.P.ne_str (k _ _ h)
theorem CO.isNone {a : V} {P : V → MH → Prop} (h : P (.bool (decide (a = .none))) H) : CO D d H .Is a .none P := fun u v hu hv => by
  have := er_none hv; subst this
  refine WT.toks fun _ k => is_none (k _ _ ?_)
  have : (u == Value.none) = decide (a = V.none) := by
    subst hu
    cases u <;> first | rfl | (symm; simp [er]; rfl) | simp [er]
  show P (.bool (u == Value.none)) H
  rw [this]; exact h
theorem SB.str {value slice : Expr} {x : Str} {k : Nat} {c : Nat} {P : V → MH → Prop} (hk : k < 1000) (hc : x.cps[k]? = some c) (hs : plainS slice = true) (hp : P (.str ⟨#[c]⟩) H) : SB D d H value slice (.str x) (.int (k : Int)) P := fun u w hu hw A h₀ L m hid s Q hA hV F X kk => by
  obtain ⟨t, rfl⟩ := er_str hu
  obtain ⟨t', rfl⟩ := er_int hw
  have hlt : k < x.cps.size := by
    rcases Nat.lt_or_ge k x.cps.size with q | q
    · exact q
    · rw [Array.getElem?_eq_none q] at hc; cases hc
  refine tail_any (typeIs_str s x t) PySem.F.slot_str_getitem.lookup (PySem.P.getItem_str (c := c) ?_ ?_ (kk (.str ⟨#[c]⟩ s.toks) H s.heap _ hp F X)) (subscripted_plain hs _ _)
  · rw [Bool.or_eq_false_iff, decide_eq_false_iff_not, decide_eq_false_iff_not]; omega
  · unfold seqIndex?
    have e1 : ¬ ((k : Int) < 0) := by omega
    have hl : x.length = x.cps.size := rfl
    simp only [e1, if_false]
    rw [if_pos (by simp; omega)]
    exact hc
theorem CL.int {i : Int} {P : V → MH → Prop} (hp : P (.int i) H) : CL D d H (.oth (.type "int")) [.int i] P := fun uf us huf hus A h₀ L m hid s Q hA hV F X k => by
  have := er_oth huf; subst this
  obtain ⟨u, rfl, hu⟩ := args1 hus
  obtain ⟨t, rfl⟩ := er_int hu
  exact call_int_int (k _ H s.heap s.toks hp F X)
theorem CL.min2 {a b : Int} {P : V → MH → Prop} (hp : P (.int (min a b)) H) : CL D d H (.oth (.builtin "min")) [.int a, .int b] P := fun uf us huf hus A h₀ L m hid s Q hA hV F X k => by
  have := er_oth huf; subst this
  obtain ⟨u, v, rfl, hu, hv⟩ := args2 hus
  obtain ⟨t, rfl⟩ := er_int hu; obtain ⟨t', rfl⟩ := er_int hv
  obtain ⟨news, N, h1, h2⟩ := X
  refine min_two_N hA.2.2.1 F N fun h' tk F' N' => k _ H h' tk ?_ F' ⟨news, N', h1, h2⟩
  show P (.int (if b < a then b else a)) H
  rwa [show (if b < a then b else a) = min a b by split <;> omega]
theorem CL.max2 {a b : Int} {P : V → MH → Prop} (hp : P (.int (max a b)) H) : CL D d H (.oth (.builtin "max")) [.int a, .int b] P := fun uf us huf hus A h₀ L m hid s Q hA hV F X k => by
  have := er_oth huf; subst this
  obtain ⟨u, v, rfl, hu, hv⟩ := args2 hus
  obtain ⟨t, rfl⟩ := er_int hu; obtain ⟨t', rfl⟩ := er_int hv
  obtain ⟨news, N, h1, h2⟩ := X
  refine max_two_N hA.2.2.1 F N fun h' tk F' N' => k _ H h' tk ?_ F' ⟨news, N', h1, h2⟩
  show P (.int (if b > a then b else a)) H
  rwa [show (if b > a then b else a) = max a b by split <;> omega]
noncomputable def zts (ns : List Int) : List V := ns.map .int
theorem intsAre_zts {vs : List Value} {ns : List Int} (h : vs.map er = zts ns) : IntsAre vs ns := by
  induction ns generalizing vs with
  | nil => rw [List.map_eq_nil_iff.mp h]; exact .nil
  | cons n r ih =>
    cases vs with
    | nil => cases h
    | cons v vs =>
      obtain ⟨h1, h2⟩ := List.cons.inj h
      obtain ⟨t, rfl⟩ := er_int h1
      exact .cons n t (ih h2)
theorem zts_of_intsAre {vs : List Value} {ns : List Int} (h : IntsAre vs ns) : vs.map er = zts ns := by
  induction h with
  | nil => rfl
  | cons n t h ih => show er _ :: _ = _; rw [ih]; rfl
theorem isList_of {h : Heap} {a : Addr} {its : Array Value} (hl : h.IsList a its) : h.IsList a its.toList.toArray := by rw [Array.toArray_toList]; exact hl
theorem CL.sum {a : Addr} {g : Nat × Nat} {ns : List Int} {P : V → MH → Prop} (ha : H a = some (.lst g (zts ns))) (hp : P (.int ns.sum) H) : CL D d H (.oth (.builtin "sum")) [.ref a] P := fun uf us huf hus A h₀ L m hid s Q hA hV F X k => by
  have := er_oth huf; subst this
  obtain ⟨u, rfl, hu⟩ := args1 hus
  have := er_ref hu; subst this
  obtain ⟨its, hl, hi⟩ := X.list ha
  obtain ⟨news, N, h1, h2⟩ := X
  exact sumK hA.2.2.1 F N (isList_of hl) (intsAre_zts hi) fun h' tk t' F' N' => k _ H h' tk hp F' ⟨news, N', h1, h2⟩
theorem CL.maxList {a : Addr} {g : Nat × Nat} {ns : List Int} {P : V → MH → Prop} (ha : H a = some (.lst g (zts ns))) (hn : 0 < ns.length) (hp : ∀ M, P (.int M) H) : CL D d H (.oth (.builtin "max")) [.ref a] P := fun uf us huf hus A h₀ L m hid s Q hA hV F X k => by
  have := er_oth huf; subst this
  obtain ⟨u, rfl, hu⟩ := args1 hus
  have := er_ref hu; subst this
  obtain ⟨its, hl, hi⟩ := X.list ha
  obtain ⟨news, N, h1, h2⟩ := X
  exact kso_max F N (isList_of hl) (intsAre_zts hi) hn hA.2.2.1 fun h' M t tk F' N' _ _ => k _ H h' tk (hp M) F' ⟨news, N', h1, h2⟩
theorem CL.sorted (g' : Nat × Nat) {a : Addr} {g : Nat × Nat} {ns : List Int} {P : V → MH → Prop} (ha : H a = some (.lst g (zts ns))) (hz : ns.length < 64) (hp : ∀ ns' c, ns'.Perm ns → ns'.Pairwise (· ≤ ·) → H c = none → P (.ref c) (upd H c (.lst g' (zts ns')))) : CL D d H (.oth (.builtin "sorted")) [.ref a] P :=
  fun uf us huf hus A h₀ L m hid s Q hA hV F X k => by
  have := er_oth huf; subst this
  obtain ⟨u, rfl, hu⟩ := args1 hus
  have := er_ref hu; subst this
  obtain ⟨its, hl, hi⟩ := X.list ha
  obtain ⟨news, N, h1, h2⟩ := X
  refine kso_sorted F N (isList_of hl) (intsAre_zts hi) hz fun b vs' ns' c h' F' N' hb hI _ hpm hpw _ => ?_
  have hb' : ∀ p ∈ news, p.1 ≠ b := fun p hp => Nat.ne_of_lt (hb p hp)
  exact k _ _ h' s.toks (hp ns' b hpm hpw (Hp.none_of h2 hb')) F' (Hp.newOf (mo := .lst g' (zts ns')) (by intro _ _ q; cases q) hb' h1 h2 N' ⟨_, _, List.mem_cons_self, by rw [List.toList_toArray]; exact zts_of_intsAre hI⟩)
theorem CL.listRange (g' : Nat × Nat) {a : Addr} {n : Nat} {P : V → MH → Prop} (ha : H a = some (.rng 0 n)) (hz : n ≤ 1000) (hp : ∀ c, H c = none → P (.ref c) (upd H c (.lst g' (nts (List.range n))))) : CL D d H (.oth (.type "list")) [.ref a] P :=
  fun uf us huf hus A h₀ L m hid s Q hA hV F X k => by
  have := er_oth huf; subst this
  obtain ⟨u, rfl, hu⟩ := args1 hus
  have := er_ref hu; subst this
  obtain ⟨news, N, h1, h2⟩ := X
  obtain ⟨o, t, u, v, q1, rfl⟩ := h2 a _ ha
  have hr : IsRange s.heap a 0 n 1 t u v := (N _ q1).1
  refine kll_range hA.2.2.1 F N hr (small01 (by omega)) rangeSize01 (by omega) fun b us' c h' tk F' N' hb hI => ?_
  have hb' : ∀ p ∈ news, p.1 ≠ b := fun p hp => Nat.ne_of_lt (hb p hp)
  refine k _ _ h' tk (hp b (Hp.none_of h2 hb')) F' (Hp.newOf (mo := .lst g' (nts (List.range n))) (by intro _ _ q; cases q) hb' h1 h2 N' ⟨_, _, List.mem_cons_self, ?_⟩)
  rw [List.toList_toArray, zts_of_intsAre hI]
  show ((rangeKs 0 n).map V.int) = (List.range n).map _
  unfold rangeKs
  simp
end
end Mine
namespace Mine
theorem getL_putL_self {name : Str} {h : Int} {tk : Tok} {v : Value} : ∀ {es : List DictEntry}, (getL name es).isSome = true → getL name (putL name h (.str name tk) v es) = some (some v)
  | [], _ => by simp [putL, getL, Value.isStr]
  | e :: r, hs => by
    unfold putL
    by_cases q : e.key.isStr name = true
    · rw [if_pos q]; simp [getL, q]
    · rw [if_neg q]
      have hs' : (getL name r).isSome = true := by
        simp only [getL, List.find?_cons, q, List.any_cons] at hs
        unfold getL
        cases hf : r.find? (fun x => x.key.isStr name) with
        | some x => rfl
        | none =>
          rw [hf] at hs
          by_cases w : e.refKey = true
          · simp [w] at hs
          · simp [w] at hs; simp; intro x hx; exact hs x hx
      have ih := getL_putL_self (h := h) (tk := tk) (v := v) hs'
      unfold getL at ih ⊢
      rw [List.find?_cons]
      simp only [q]
      cases hf : (putL name h (.str name tk) v r).find? (fun x => x.key.isStr name) with
      | some x => rw [hf] at ih; exact ih
      | none => rw [hf] at ih; simp at ih
theorem isStr_two {v : Value} {a b : Str} (h : v.isStr a = true) (hb : v.isStr b = true) : a = b := by
  cases v <;> simp_all [Value.isStr]
theorem getL_putL_ne {name name' : Str} {h : Int} {tk : Tok} {v : Value} (hne : name' ≠ name) : ∀ {es : List DictEntry}, getL name' (putL name h (.str name tk) v es) = getL name' es
  | [] => by
    have : (Value.str name tk).isStr name' = false := by
      cases q : (Value.str name tk).isStr name' with
      | false => rfl
      | true => simp [Value.isStr] at q; exact absurd q.symm hne
    simp [putL, getL, this, DictEntry.refKey]
  | e :: r => by
    unfold putL
    by_cases q : e.key.isStr name = true
    · rw [if_pos q]
      have q' : e.key.isStr name' = false := by
        cases w : e.key.isStr name' with
        | false => rfl
        | true => exact absurd (isStr_two w q) hne
      have hr : DictEntry.refKey ⟨e.hash, e.key, v⟩ = DictEntry.refKey e := rfl
      simp only [getL, List.find?_cons, q', List.any_cons, hr]
      rfl
    · rw [if_neg q]
      have ih := getL_putL_ne (name := name) (h := h) (tk := tk) (v := v) hne (es := r)
      unfold getL at ih ⊢
      rw [List.find?_cons, List.find?_cons]
      by_cases w : e.key.isStr name' = true
      · simp only [w]
      · simp only [w]
        simp only [List.any_cons]
        cases hf : (putL name h (.str name tk) v r).find? (fun x => x.key.isStr name') with
        | some x =>
          cases hg : r.find? (fun x => x.key.isStr name') with
          | some y => rw [hf, hg] at ih; exact ih
          | none => rw [hf, hg] at ih; dsimp only at ih; split at ih <;> cases ih
        | none =>
          cases hg : r.find? (fun x => x.key.isStr name') with
          | some y => rw [hf, hg] at ih; dsimp only at ih; split at ih <;> cases ih
          | none =>
            rw [hf, hg] at ih
            dsimp only at ih ⊢
            by_cases z : e.refKey = true
            · simp [z]
            · simp only [z, Bool.false_or]; exact ih
theorem putL_len {name : Str} {h : Int} {key v : Value} : ∀ {es : List DictEntry}, (putL name h key v es).length ≤ es.length + 1
  | [] => Nat.le_refl _
  | e :: r => by
    unfold putL
    split
    · exact Nat.le_succ _
    · exact Nat.succ_le_succ putL_len
section
variable {D : Wd} {d : Nat} {e : Env} {ρ : List (Str × V)} {H : MH}
noncomputable def Sta (D : Wd) (C : Addr) (name : Str) : Prop := findIn D.K (.ref C) "__setattr__" = some (some (.builtin "object.__setattr__")) ∧ plainOver D.K C = true ∧ takerIn D.K C name = some none ∧ hasDictIn D.K C = true
noncomputable def SA (D : Wd) (d : Nat) (H : MH) (a : V) (name : Str) (v : V) (P : MH → Prop) : Prop := ∀ u z, er u = a → er z = v → WT D d H (setAttr u name z) fun _ H' => P H'
theorem SA.inst {a C : Addr} {fs : List (Str × V)} {name : Str} {v : V} {P : MH → Prop} (ha : H a = some (.inst C fs)) (hc : Sta D C name) (hz : fs.length ≤ 900) (hp : P (upd H a (.inst C ((name, v) :: fs)))) : SA D d H (.ref a) name v P := fun u z hu hzv A h₀ L m hid s Q hA hV F X k => by
  have := er_ref hu; subst this
  obtain ⟨news, N, n1, n2⟩ := X
  obtain ⟨dd, es, n, h3, h4, h5, h6⟩ := n2 a _ ha
  obtain ⟨h7, h6⟩ := h6
  have I : InstAt s.heap a (instObj C dd) C (some (dictOf es n)) := ⟨(N _ h3).1, rfl, rfl, (N _ h4).1⟩
  obtain ⟨c1, c2, c3, c4⟩ := hc
  have hl : (getL name es).isSome = true := by obtain ⟨r, hr, _⟩ := h6.2 name; rw [hr]; rfl
  have hne : ∀ {b : Addr} {ob : Obj}, (b, ob) ∈ news → b ≠ dd → (b, ob) ∈ news.filter fun p => decide (p.1 ≠ dd) := fun hm hb => List.mem_filter.mpr ⟨hm, by simpa using hb⟩
  have Nf : News h₀ L s.heap ((dd, dictOf es n) :: news.filter fun p => decide (p.1 ≠ dd)) := fun p hp => by
    rcases List.mem_cons.mp hp with rfl | hp
    · exact N _ h4
    · exact N p (List.mem_filter.mp hp).1
  refine set_dict (v := z) F hA.1 Nf I rfl c1 c2 c3 c4 hl rfl (Upd.head fun p hp => by simpa using (List.mem_filter.mp hp).2) (Nat.le_trans putL_len (by have := h6.1; omega)) fun h' F' N' => ?_
  generalize hes : putL name (PyData.keyHash D.w.params name) (.str name (s.toks + 1)) z es = es' at N'
  generalize putN name es n = n' at N'
  have hda : dd ≠ a := fun q => by rw [q, ha] at h5; cases h5
  have hda2 : H dd = none := h5
  refine k () _ h' _ hp F' ⟨_, N', fun p hp => ?_, fun b ob hb => ?_⟩
  · have z := n1 p hp
    have hpd : p.1 ≠ dd := fun q => by
      have := z.2.2 a C (by rw [q]; exact h3)
      rw [ha] at this; cases this
    refine ⟨List.mem_cons_of_mem _ (hne z.1 hpd), ?_, fun b C' hm => ?_⟩
    · rw [upd_ne (fun q => by rw [q, ha] at z; exact absurd z.2.1 (by intro w; cases w))]; exact z.2.1
    · rcases List.mem_cons.mp hm with q | q
      · cases q
      · have := z.2.2 b C' (List.mem_filter.mp q).1
        rw [upd_ne (fun w => by rw [w, ha] at this; cases this)]; exact this
  · have tup : ∀ {c : Addr} {its : Array Value}, tupAt news c its → tupAt ((dd, dictOf es' n') :: news.filter fun p => decide (p.1 ≠ dd)) c its := fun {c its} ⟨o, k, q1, q2, q3⟩ => ⟨o, k, List.mem_cons_of_mem _ (hne q1 fun w => by
      subst w
      have e1 := (N _ q1).1; have e2 := (N _ h4).1
      rw [e1] at e2; have e3 : o = dictOf es n := Option.some.inj e2; rw [e3] at q2; exact absurd q2 (by show Value.type "dict" ≠ .type "tuple"; decide)), q2, q3⟩
    by_cases q : b = a
    · subst q; rw [upd_self] at hb; cases hb
      refine ⟨dd, es', n', List.mem_cons_of_mem _ (hne h3 (Ne.symm hda)), List.mem_cons_self, (upd_ne hda).trans h5, h7, by rw [← hes]; exact Nat.le_trans putL_len (Nat.succ_le_succ h6.1), fun nm => ?_⟩
      by_cases w : nm = name
      · subst w; exact ⟨some z, by rw [← hes]; exact getL_putL_self hl, by show some (er z) = _; rw [hzv]; exact (if_pos rfl).symm⟩
      · obtain ⟨r, hr, hr'⟩ := h6.2 nm
        exact ⟨r, by rw [← hes, getL_putL_ne w]; exact hr, hr'.trans (if_neg w).symm⟩
    · rw [upd_ne q] at hb
      have z := n2 b ob hb
      have nb : ∀ {o : Obj}, (b, o) ∈ news → b ≠ dd := fun hm w => by rw [w] at hb; rw [hda2] at hb; cases hb
      cases ob with
      | tup vs => obtain ⟨its, q1, q2⟩ := z; exact ⟨its, tup q1, q2⟩
      | lst g vs => obtain ⟨its, n, q1, q2⟩ := z; exact ⟨its, n, List.mem_cons_of_mem _ (hne q1 (nb q1)), q2⟩
      | inst C' fs' =>
        obtain ⟨d2, es2, n2', q1, q2, q3, q4⟩ := z
        have hd2 : d2 ≠ dd := fun w => by
          have h8 := q4.1
          rw [w, h7] at h8
          exact q h8.symm
        exact ⟨d2, es2, n2', List.mem_cons_of_mem _ (hne q1 (nb q1)), List.mem_cons_of_mem _ (hne q2 hd2), (upd_ne fun w => by rw [w, ha] at q3; cases q3).trans q3, q4⟩
      | dS g f n => obtain ⟨ob', kvs, q1, r⟩ := z; exact ⟨ob', kvs, List.mem_cons_of_mem _ (hne q1 (nb q1)), r⟩
      | dI g f n => obtain ⟨ob', kvs, q1, r⟩ := z; exact ⟨ob', kvs, List.mem_cons_of_mem _ (hne q1 (nb q1)), r⟩
      | dT g f n =>
        obtain ⟨ob', es, ep, xs, q1, q2, q3, q4, q5, q6⟩ := z
        refine ⟨ob', es, ep, xs, List.mem_cons_of_mem _ (hne q1 (nb q1)), q2, q3, q4, fun y hy => ⟨let ⟨its, a1, a2⟩ := (q5 y hy).1; ⟨its, tup a1, a2⟩, ?_⟩, q6⟩
        rcases (q5 y hy).2 with w | ⟨vs, w⟩
        · exact .inl ((upd_ne fun w' => by rw [w', ha] at w; cases w).trans w)
        · exact .inr ⟨vs, (upd_ne fun w' => by rw [w', ha] at w; cases w).trans w⟩
      | sI is => obtain ⟨g0, ob', es, ep, t, q1, r⟩ := z; exact ⟨g0, ob', es, ep, t, List.mem_cons_of_mem _ (hne q1 (nb q1)), r⟩
      | rng x y => obtain ⟨ob', t, u, v, q1, r⟩ := z; exact ⟨ob', t, u, v, List.mem_cons_of_mem _ (hne q1 (nb q1)), r⟩
      | enm l => obtain ⟨ob', q1, r⟩ := z; exact ⟨ob', List.mem_cons_of_mem _ (hne q1 (nb q1)), r⟩
theorem EX.assignAttr {o : Expr} {attr : Str} {apos pos : Pos} {value : Expr} {P : FV → List (Str × V) → MH → Prop} (h : EV D d e ρ H value fun v H₁ => EV D d e ρ H₁ o fun ov H₂ => SA D d H₂ ov attr v fun H₃ => P .next ρ H₃)
    (hs : swapsWith value (some (.Attribute o attr apos)) pos.line e = pure false) : EX D d e ρ H (.Assign [.Attribute o attr apos] value pos) P := fun A h₀ m cs hid s Q hA hC hV F X k =>
  plainObj_wpAny_Assign_Attribute (WE.wg (P := fun (v : Value) ρ' H₁ => EV D d e ρ' H₁ o fun ov H₂ => SA D d H₂ ov attr (er v) fun H₃ => P .next ρ' H₃) h A h₀ m cs hid s _ hA hC hV F X fun v m₁ cs₁ ρ₁ H₁ h₁ tk₁ q₁ hC₁ hV₁ F₁ X₁ =>
    WE.wg (P := fun (ov : Value) ρ' H₂ => SA D d H₂ (er ov) attr (er v) fun H₃ => P .next ρ' H₃) q₁ A h₀ m₁ cs₁ hid _ _ hA hC₁ hV₁ F₁ X₁ fun ov m₂ cs₂ ρ₂ H₂ h₂ tk₂ q₂ hC₂ hV₂ F₂ X₂ =>
      WT.wg (P := fun _ ρ' H₃ => P .next ρ' H₃) (q₂ ov v rfl rfl) A h₀ m₂ cs₂ hid _ _ hA hC₂ hV₂ F₂ X₂ fun _ => k .next) hs
theorem make_eq {prog : Program} {w : World} {A : Around} {K : Frag} {C : Addr} {s : Shared} {h₀ : Heap} {L : Addr} {m : Str → Option Value} {news : Led} {R : Result → Shared → Prop} {rest : List Value} {kw : List (Str × Value)} {fI : Addr} (F : Fr h₀ L s.heap m) (N : News h₀ L s.heap news) (X : K.In s.heap) (hm : makesIn K C = true)
    (hi : findIn K (.ref C) "__init__" = some (some (.ref fI))) (hf : typeIn K (.ref fI) = some (.type "function"))
    (h : ∀ h', Fr h₀ L h' m → News h₀ L h' ((s.heap.objs.size + 1, instObj C s.heap.objs.size) :: (s.heap.objs.size, emptyDict) :: news) →
      codeAny (model prog w) (A.under (.builtin "type.__call__" ⟨.ref C :: rest, kw⟩)) (.call (.ref fI) ⟨.ref (s.heap.objs.size + 1) :: rest, kw⟩) (InitBack (s.heap.objs.size + 1) R) { s with heap := h' }) :
    codeAny (model prog w) A (.call (.ref C) ⟨rest, kw⟩) R s := by
  obtain ⟨hh, g, d, t, os⟩ := s
  refine make_core (makes_of X hm) (looks_findIn X hi) (fun self => bind_fn X self hf) (.inl rfl) ?_
  refine h _ ((F.push _).push _) ?_
  have := (N.push F emptyDict).push (F.push _) (instObj C hh.objs.size)
  rwa [Heap.size_push] at this
theorem under_units {A : Around} {C : Addr} {us : List Value} : (A.under (.builtin "type.__call__" ⟨.ref C :: us, []⟩)).handled = A.handled := rfl
theorem CC.cls {C fI : Addr} {args : List V} {P : V → MH → Prop} (hm : makesIn D.K C = true) (hi : findIn D.K (.ref C) "__init__" = some (some (.ref fI))) (hf : typeIn D.K (.ref fI) = some (.type "function"))
    (h : ∀ a, H a = none → CC D d (upd H a (.inst C [])) (.ref fI) (.ref a :: args) fun v H' => v = .none ∧ P (.ref a) H') : CC D (d + 1) H (.ref C) args P := fun uf us huf hus A h₀ L m hid s R hA F X k => by
  have := er_ref huf; subst this
  have X' := X
  obtain ⟨news, N, n1, n2⟩ := X'
  refine make_eq F N (hA.1.keeps F.keep) hm hi hf fun h' F' N' => ?_
  have hb : ∀ p ∈ news, p.1 < s.heap.objs.size := fun p hp => Heap.lt_size (N p hp).1
  have hfr : H (s.heap.objs.size + 1) = none := X.fresh (Nat.le_succ _)
  have hfd : H s.heap.objs.size = none := X.fresh (Nat.le_refl _)
  have hX : Hp D h₀ L h' (upd H (s.heap.objs.size + 1) (.inst C [])) hid := by
    refine ⟨_, N', fun p hp => ?_, fun b ob hb' => ?_⟩
    · have z := n1 p hp
      have hlt := hb p z.1
      refine ⟨List.mem_cons_of_mem _ (List.mem_cons_of_mem _ z.1), (upd_ne (by intro q; rw [q] at hlt; exact Nat.lt_irrefl _ (Nat.lt_of_succ_lt hlt))).trans z.2.1, fun b C' hm' => ?_⟩
      rcases List.mem_cons.mp hm' with q | q
      · exfalso
        have w : instObj C' p.1 = instObj C s.heap.objs.size := (Prod.mk.inj q).2
        have : p.1 = s.heap.objs.size := Option.some.inj (congrArg Obj.dict w)
        rw [this] at hlt; exact Nat.lt_irrefl _ hlt
      · rcases List.mem_cons.mp q with q | q
        · cases q
        · have hlt' := hb _ q
          exact (upd_ne (by intro w; rw [show (b, instObj C' p.1).1 = b from rfl, w] at hlt'; exact Nat.lt_irrefl _ (Nat.lt_of_succ_lt hlt'))).trans (z.2.2 b C' q)
    · by_cases q : b = s.heap.objs.size + 1
      · subst q; rw [upd_self] at hb'; cases hb'
        refine ⟨s.heap.objs.size, [], 0, List.mem_cons_self, List.mem_cons_of_mem _ List.mem_cons_self, (upd_ne (Nat.ne_of_lt (Nat.lt_succ_self _))).trans hfd, rfl, Nat.le_refl _, fun nm => ⟨none, rfl, rfl⟩⟩
      · rw [upd_ne q] at hb'
        have z := n2 b ob hb'
        have up : ∀ p ∈ news, p ∈ (s.heap.objs.size + 1, instObj C s.heap.objs.size) :: (s.heap.objs.size, emptyDict) :: news := fun p hp => List.mem_cons_of_mem _ (List.mem_cons_of_mem _ hp)
        have nn : ∀ {c : Addr} {oc : Obj}, (c, oc) ∈ news → c ≠ s.heap.objs.size + 1 := fun hm w => by have := hb _ hm; rw [w] at this; exact Nat.lt_irrefl _ (Nat.lt_of_succ_lt this)
        cases ob with
        | inst C' fs' =>
          obtain ⟨d2, es2, n2', q1, q2, q3, q4⟩ := z
          exact ⟨d2, es2, n2', up _ q1, up _ q2, (upd_ne (nn q2)).trans q3, q4⟩
        | dT g f n =>
          obtain ⟨ob', es, ep, xs, q1, q2, q3, q4, q5, q6⟩ := z
          exact ⟨ob', es, ep, xs, up _ q1, q2, q3, q4, fun y hy => ⟨let ⟨its, a1, a2⟩ := (q5 y hy).1; ⟨its, a1.mono up, a2⟩, by
            obtain ⟨its, ⟨oc, _, w, _⟩, _⟩ := (q5 y hy).1
            rw [upd_ne (nn w)]; exact (q5 y hy).2⟩, q6⟩
        | _ => exact z.mono up
  have hA' : Amb D (A.under (.builtin "type.__call__" ⟨.ref C :: us, []⟩)) d h₀ L := by
    obtain ⟨a, b, c, e, f, g⟩ := hA
    exact ⟨a, b, c, by show A.depth + 1 + d < _; omega, by show A.units + 1 + 8 * d + 100 < cLine; omega, g⟩
  refine h _ hfr (.ref fI) (.ref (s.heap.objs.size + 1) :: us) rfl (by rw [List.map_cons, hus]; rfl) _ h₀ L m hid _ _ hA' F' hX fun v H' h₂ tk₂ q F₂ X₂ => ?_
  exact ⟨er_none q.1, k (.ref (s.heap.objs.size + 1)) H' h₂ tk₂ q.2 F₂ X₂⟩
theorem TS.chain {l r₁ r₂ : Expr} {op₁ op₂ : CmpOp} {pos : Pos} {P : Bool → MH → Prop} (h : EV D d e ρ H l fun a H₁ => EV D d e ρ H₁ r₁ fun b H₂ => CO D d H₂ op₁ a b fun c H₃ => TR D d H₃ c fun t H₄ => if t then EV D d e ρ H₄ r₂ fun b' H₅ => CO D d H₅ op₂ b b' fun c' H₆ => TR D d H₆ c' P else P false H₄)
    (hm : lastMarks [op₁, op₂] [r₁, r₂] = false) : TS D d e ρ H (.Compare l [op₁, op₂] [r₁, r₂] pos) P := fun whole hw A h₀ L m hid s Q hA hV F X k => by
  refine isTrue_chain (h A h₀ L m hid s _ hA hV F X fun a H₁ h₁ tk₁ q₁ F₁ X₁ => test_link (q₁ A h₀ L m hid _ _ hA hV F₁ X₁ fun b H₂ h₂ tk₂ q₂ F₂ X₂ => (q₂ a b rfl rfl).we A h₀ L m hid _ _ hA hV F₂ X₂ fun c H₃ h₃ tk₃ q₃ F₃ X₃ => (q₃ c rfl).we A h₀ L m hid _ _ hA hV F₃ X₃ fun t H₄ h₄ tk₄ q₄ F₄ X₄ => ?_)) hm
  cases t with
  | false => exact k false H₄ h₄ tk₄ q₄ F₄ X₄
  | true =>
    have q₄' : EV D d e ρ H₄ r₂ fun b' H₅ => CO D d H₅ op₂ (er b) b' fun c' H₆ => TR D d H₆ c' P := q₄
    exact test_last (q₄' A h₀ L m hid _ _ hA hV F₄ X₄ fun b' H₅ h₅ tk₅ q₅ F₅ X₅ => (q₅ b b' rfl rfl).we A h₀ L m hid _ _ hA hV F₅ X₅ fun c' H₆ h₆ tk₆ q₆ F₆ X₆ => (q₆ c' rfl).we A h₀ L m hid _ Q hA hV F₆ X₆ k)
end
end Mine
namespace Mine
section
variable {D : Wd} {d : Nat} {e : Env} {ρ : List (Str × V)} {H : MH}
theorem amb_big {A : Around} {h₀ h : Heap} {L : Addr} {m : Str → Option Value} (hA : Amb D A d h₀ L) (F : Fr h₀ L h m) : (h.objs.size == sysModules) = false := F.notModules (modules_low hA.2.1.nolimit)
theorem EV.dict0I (g : Nat × Nat) {pos : Pos} {P : V → MH → Prop} (h : ∀ a, H a = none → P (.ref a) (upd H a (.dI g (fun _ => none) 0))) : EV D d e ρ H (.Dict [] [] pos) P := fun A h₀ L m hid s Q hA hV F X k => by
  refine wpAny_Dict_empty (k _ _ _ _ (h _ (X.fresh (Nat.le_refl _))) (F.push _) (X.new (mo := .dI g (fun _ => none) 0) F rfl (by intro _ _ q; cases q) fun news N => ⟨_, [], List.mem_cons_self, ?_, fun x => rfl, Nat.le_refl _, amb_big hA F⟩))
  obtain ⟨o, ho, hd⟩ := Heap.dictOf_iff.mp (Heap.DictOf.new (knd := intKind D.prog D.w) s.heap)
  rw [Heap.get?_push_size _ rfl] at ho
  exact (Option.some.inj ho) ▸ hd
theorem EV.dict0T (g : Nat × Nat) {pos : Pos} {P : V → MH → Prop} (h : ∀ a, H a = none → P (.ref a) (upd H a (.dT g (fun _ => none) 0))) : EV D d e ρ H (.Dict [] [] pos) P := fun A h₀ L m hid s Q hA hV F X k => by
  refine wpAny_Dict_empty (k _ _ _ _ (h _ (X.fresh (Nat.le_refl _))) (F.push _) (X.new (mo := .dT g (fun _ => none) 0) F rfl (by intro _ _ q; cases q) fun news N => ⟨_, #[], 0, [], List.mem_cons_self, ⟨rfl, rfl, rfl⟩, rfl, rfl, fun x hx => by simp at hx, List.nodup_nil, fun x => rfl, Nat.le_refl _, amb_big hA F⟩))
theorem EV.dict2 (g : Nat × Nat) {ka kb : Str} {na nb : Nat} {pa pb pos : Pos} {x y : Expr} {P : V → MH → Prop} (hne : ka ≠ kb) (h : EV D d e ρ H x fun v H₁ => EV D d e ρ H₁ y fun u H₂ => ∀ a, H₂ a = none → P (.ref a) (upd H₂ a (.dS g (fun z => if z = kb then some u else if z = ka then some v else none) 2))) :
    EV D d e ρ H (.Dict [some (.Constant (.str ka) na pa), some (.Constant (.str kb) nb pb)] [x, y] pos) P := fun A h₀ L m hid s Q hA hV F X k => by
  refine wpAny_Dict_walk (knd := strKind D.prog D.w) rfl rfl (by intro q; cases q) (by show 2 ≤ 15; decide) ?_
  have X₁ := X.hide (o := { cls := .type "dict", data := .dict #[] }) F rfl
  have hlt : ∀ p ∈ hid, p.1 ≠ s.heap.objs.size := fun p hp => Nat.ne_of_lt (X.hid_lt p hp)
  have hsys := amb_big hA F
  have F₁ := F.push { cls := .type "dict", data := .dict #[] }
  have hV₁ : Vr e L m ((s.heap.objs.size, ({ cls := .type "dict", data := .dict #[] } : Obj)) :: hid) ρ := fun x v hx => (hV x v hx).mono fun p hp => List.mem_cons_of_mem _ hp
  have hsz : s.heap.objs.size = s.heap.objs.size := rfl
  have hD0 : ({ cls := .type "dict", data := .dict #[] } : Obj).IsDictOf (strKind D.prog D.w) [] := by
    obtain ⟨o, ho, hd⟩ := Heap.dictOf_iff.mp (Heap.DictOf.new (knd := strKind D.prog D.w) s.heap)
    rw [Heap.get?_push_size _ rfl] at ho
    exact (Option.some.inj ho) ▸ hd
  generalize s.heap.push { cls := .type "dict", data := .dict #[] } = g₁ at X₁ F₁ ⊢
  generalize s.heap.objs.size = b at X₁ hlt hsys hV₁ ⊢
  refine pairTrees_cons_walk ?_
  refine EV.cStr (D := D) (d := d) (e := e) (ρ := ρ) (H := H) (P := fun v H' => v = .str ka ∧ H' = H) ⟨rfl, rfl⟩ A h₀ L m _ _ _ hA hV₁ F₁ X₁ fun k1 H' h' tk' q F' X' => ?_
  obtain ⟨q, rfl⟩ := q
  obtain ⟨t1, rfl⟩ := er_str q
  refine h A h₀ L m _ _ _ hA hV₁ F' X' fun v1 H₁ h₁ tk₁ q₁ F₂ X₂ => ?_
  refine pairTrees_cons_walk ?_
  refine EV.cStr (D := D) (d := d) (e := e) (ρ := ρ) (H := H₁) (P := fun v H' => v = .str kb ∧ H' = H₁) ⟨rfl, rfl⟩ A h₀ L m _ _ _ hA hV₁ F₂ X₂ fun k2 H' h'' tk'' q' F'' X'' => ?_
  obtain ⟨q', rfl⟩ := q'
  obtain ⟨t2, rfl⟩ := er_str q'
  refine q₁ A h₀ L m _ _ _ hA hV₁ F'' X'' fun v2 H₂ h₂ tk₂ q₂ F₃ X₃ => ?_
  refine pairTrees_nil_walk ?_
  have hb : h₂.get? b = some { cls := .type "dict", data := .dict #[] } := X₃.get (p := (b, _)) List.mem_cons_self
  refine ⟨[(ka, v1), (kb, v2)], ⟨strKind_is _ _ ka t1, rfl, strKind_is _ _ kb t2, rfl, trivial⟩, Heap.dictOf_iff.mpr ⟨_, hb, hD0⟩, fun h₄ hd₄ hs₄ => ?_⟩
  have hfr : H₂ b = none := by
    obtain ⟨news, N, n1, n2⟩ := X₃
    exact (n1 (b, _) List.mem_cons_self).2.1
  obtain ⟨o', ho', hd'⟩ := Heap.dictOf_iff.mp hd₄
  have kk : ∀ c oc, c ≠ b → h₂.get? c = some oc → h₄.get? c = some oc := fun c oc hcb q => (hs₄.2 c hcb).trans q
  have F₄ := fr_but1 (I := b) (il := [(b, ({ cls := .type "dict", data := .dict #[] } : Obj))]) F₃ X₃ (List.mem_singleton.mpr rfl) kk
  have X₄ : Hp D h₀ L h₄ H₂ ((b, o') :: hid) := Hp.turn (il := [(b, ({ cls := .type "dict", data := .dict #[] } : Obj))]) (il' := [(b, o')]) X₃ (fun p hp => by rw [List.mem_singleton.mp hp]; exact .inl (by show Value.type "dict" ≠ .type "tuple"; decide)) (fun p hp q => hlt p hp (List.mem_singleton.mp q)) (by simp) (fun c oc hcb => kk c oc fun q => hcb (q ▸ List.mem_singleton.mpr rfl)) (fun p hp => by rw [List.mem_singleton.mp hp]; exact ho')
  refine k (.ref b) _ h₄ _ (q₂ b hfr) F₄ (X₄.reveal hlt (.inl ?_) (by intro _ _ q; cases q) fun news hm => ⟨o', _, hm, hd', fun z => ?_, ?_, hsys⟩)
  · obtain ⟨_, _, w, _⟩ := hd'; rw [w.1]; decide
  · show (valueAt (stored (stored [] ka v1) kb v2) z).map er = _
    rw [valueAt_stored, valueAt_stored]
    by_cases w : z = kb
    · subst w; simp
    · by_cases w' : z = ka
      · subst w'; simp [w]
      · simp [w, w', valueAt]
  · exact Nat.le_trans (stored_length_le _ _ _) (Nat.succ_le_succ (stored_length_le _ _ _))
theorem EV.baseSlice (g : Nat × Nat) {value : Expr} {p pos : Pos} {kn : Nat} {kpos : Pos} {l : Addr} {its : Array Value} {ns : List Int} {k : Nat} {P : V → MH → Prop} (hb : D.bl = some (l, its)) (hi : IntsAre its.toList ns) (hz : its.size ≤ 1000)
    (h : EV D d e ρ H value fun v H₁ => v = .ref l ∧ ∀ a, H₁ a = none → P (.ref a) (upd H₁ a (.lst g (zts (ns.take k))))) : EV D d e ρ H (.Subscript value (.Slice none (some (.Constant (.int (k : Int)) kn kpos)) none p) pos) P := EV.slice (h.mono fun v H₁ q => by
  obtain ⟨rfl, q⟩ := q
  refine (EV.cInt ?_ : EV D d e ρ H₁ (.Constant (.int (k : Int)) kn kpos) fun hi H₃ => SL D d H₃ (.ref l) .none hi P)
  refine fun u vl vu hu hl hh A h₀ L m hid s Q hA F X kk => ?_
  have := er_ref hu; subst this
  obtain ⟨t, rfl⟩ := er_int hh
  have := er_none hl; subst this
  have hA' := hA
  obtain ⟨_, _, _, _, _, fe, outer, A₀, base, B, hfr, hL, hfk, hbl⟩ := hA'
  have hlist : s.heap.IsList l its := F.lst (hbl l its hb)
  refine ⟨"list", _, hlist.typeIs, list_getitem_lookup, ?_⟩
  have F' := F.push { cls := .type "slice", data := .fields #[.none, .int (k : Int) t, .none] }
  have X' := X.push F { cls := .type "slice", data := .fields #[.none, .int (k : Int) t, .none] } rfl
  refine wpAny_getItem_list_slice (lo := none) (hi := some (k : Int)) (st := none) (hlist.push _) (Heap.IsSliceOf.new ..) .none (.int _ _) .none (by simp) ?_ (by rw [sizeLine_eq]; omega)
  refine kk _ _ _ s.toks (q _ (X'.fresh (Nat.le_refl _))) (F'.push _) (X'.new (mo := .lst g (zts (ns.take k))) F' rfl (by intro _ _ q; cases q) fun news N => ⟨_, 0, List.mem_cons_self, ?_⟩)
  have h2 := slice_ints_uptoW (vs := its.toList) (ns := ns) hi (y := (k : Int)) (by omega)
  rw [Array.toArray_toList] at h2
  rw [zts_of_intsAre h2]; rfl)
end
end Mine
namespace Mine
section
variable {D : Wd} {d : Nat} {e : Env} {ρ : List (Str × V)} {H : MH}
theorem nts_zts (ns : List Nat) : nts ns = zts (ns.map Int.ofNat) := by unfold nts zts; rw [List.map_map]; rfl
theorem CL.set {a : Addr} {g : Nat × Nat} {ns : List Nat} {P : V → MH → Prop} (ha : H a = some (.lst g (nts ns))) (h32 : ∀ n ∈ ns, n < 32) (h2 : ns.length ≤ 2) (hp : ∀ c fs, fs.Nodup → (∀ x, x ∈ fs ↔ x ∈ ns) → H c = none → P (.ref c) (upd H c (.sI fs))) : CL D d H (.oth (.type "set")) [.ref a] P :=
  fun uf us huf hus A h₀ L m hid s Q hA hV F X k => by
  have := er_oth huf; subst this
  obtain ⟨u, rfl, hu⟩ := args1 hus
  have := er_ref hu; subst this
  obtain ⟨its, hl, hi⟩ := X.list ha
  have hfr := X.fresh (Nat.le_refl s.heap.objs.size)
  have f1 := fr_free F (Nat.le_refl _)
  obtain ⟨news, N, h1, h3⟩ := X
  refine set_of_list (ns := ns) hA.2.2.1 hl (fun i n hn => ?_) (by rw [its_size hi]; simp [nts]) h32 h2 fun h' tk fs hS hnd hmem hk => ?_
  · obtain ⟨y, hy, hyv⟩ := its_get (k := i) (v := .int (n : Int)) hi (by simp [nts, hn])
    obtain ⟨t, rfl⟩ := er_int hyv
    exact ⟨t, hy⟩
  · obtain ⟨es, ps, ep, ho, hs⟩ := hS
    have kk : ∀ b o, s.heap.get? b = some o → h'.get? b = some o := fun b o e => hk b o (Heap.lt_size e) e
    refine k _ _ h' tk (hp _ fs hnd hmem hfr) (fr_more F kk) (Hp.newOf (mo := .sI fs) (o := setO D.w es ep ps) (by intro _ _ q; cases q) (News.ne_size N) h1 h3 (fun p hp => ?_) ⟨trivial, _, es, ep, ps, List.mem_cons_self, rfl, hs⟩)
    rcases List.mem_cons.mp hp with rfl | hp
    · exact ⟨ho, f1⟩
    · exact ⟨kk _ _ (N p hp).1, (N p hp).2⟩
theorem CL.sortedSet (g' : Nat × Nat) {a : Addr} {fs : List Nat} {P : V → MH → Prop} (ha : H a = some (.sI fs)) (hp : ∀ (ls : List Nat) c, ls.Perm fs → ls.Pairwise (· ≤ ·) → H c = none → P (.ref c) (upd H c (.lst g' (nts ls)))) : CL D d H (.oth (.builtin "sorted")) [.ref a] P :=
  fun uf us huf hus A h₀ L m hid s Q hA hV F X k => by
  have := er_oth huf; subst this
  obtain ⟨u, rfl, hu⟩ := args1 hus
  have := er_ref hu; subst this
  obtain ⟨news, N, h1, h3⟩ := X
  obtain ⟨_, o, es, ep, ps, hm, rfl, hs⟩ := h3 a _ ha
  refine sorted_set hA.2.2.1 F N ⟨es, ps, ep, (N _ hm).1, hs⟩ fun b vs' c h' tk ls F' N' lt hI hpm hpw => ?_
  have hb' : ∀ p ∈ news, p.1 ≠ b := fun p hp => Nat.ne_of_lt (lt p hp)
  obtain ⟨ls', rfl⟩ : ∃ ls' : List Nat, ls = ls'.map Int.ofNat := by
    refine ⟨ls.map Int.toNat, ?_⟩
    rw [List.map_map]
    symm
    refine (List.map_congr_left fun x hx => ?_).trans (List.map_id _)
    have := hpm.mem_iff.mp hx
    obtain ⟨n, _, rfl⟩ := List.mem_map.mp this
    rfl
  have hpm' : ls'.Perm fs := by
    have := hpm.map Int.toNat
    rwa [List.map_map, List.map_map, show Int.toNat ∘ Int.ofNat = id from rfl, List.map_id, List.map_id] at this
  have hpw' : ls'.Pairwise (· ≤ ·) := by
    rw [List.pairwise_map] at hpw
    exact hpw.imp fun h => Int.ofNat_le.mp h
  exact k _ _ h' tk (hp ls' b hpm' hpw' (Hp.none_of h3 hb')) F' (Hp.newOf (mo := .lst g' (nts ls')) (by intro _ _ q; cases q) hb' h1 h3 N' ⟨_, _, List.mem_cons_self, by rw [List.toList_toArray, nts_zts]; exact zts_of_intsAre hI⟩)
end
end Mine
namespace Mine
section
variable {D : Wd} {d : Nat} {e : Env} {ρ : List (Str × V)} {H : MH}
theorem SI.list {a : Addr} {g : Nat × Nat} {vs : List V} {k : Nat} {v : V} {P : MH → Prop} (ha : H a = some (.lst g vs)) (hk : k < vs.length) (hz : vs.length ≤ 100000) (hp : P (upd H a (.lst g (vs.set k v)))) : SI D d H (.ref a) (.int (k : Int)) v P := fun u w z hu hw hz' A h₀ L m hid s Q hA hV F X kk => by
  have := er_ref hu; subst this
  obtain ⟨t, rfl⟩ := er_int hw
  obtain ⟨its, n, ho, hi, next⟩ := X.setList F ha
  have hsz := its_size hi
  refine ki_setAt ho (by omega) (by omega) (by omega) ?_
  have hg : (s.heap.update a (Obj.mapSeq (·.setIfInBounds (k : Int).toNat z))).get? a = some (Obj.mapSeq (·.setIfInBounds (k : Int).toNat z) (listOf its n)) := Heap.get?_update_self _ ho rfl
  obtain ⟨F', X'⟩ := next (its.setIfInBounds k z) _ _ (Heap.SameBut.update ..) hg
  refine kk () _ _ s.toks ?_ F' X'
  have e1 : (its.setIfInBounds k z).toList.map er = vs.set k v := by
    rw [← hi, ← hz']; simp [List.map_set]
  rw [e1]; exact hp
end
end Mine
namespace Mine
noncomputable def root (par : List Nat) (i : Nat) : Nat := if h : par.getD i i < i then root par (par.getD i i) else i
termination_by i
theorem root_lt {par : List Nat} {i : Nat} (h : par.getD i i < i) : root par i = root par (par.getD i i) := by rw [root]; exact dif_pos h
theorem root_ge {par : List Nat} {i : Nat} (h : ¬ par.getD i i < i) : root par i = i := by rw [root]; exact dif_neg h
theorem root_le (par : List Nat) (i : Nat) : root par i ≤ i := by
  induction i using Nat.strongRecOn with
  | _ i ih =>
    by_cases h : par.getD i i < i
    · rw [root_lt h]; exact Nat.le_trans (ih _ h) (Nat.le_of_lt h)
    · rw [root_ge h]; exact Nat.le_refl _
theorem root_stop (par : List Nat) (i : Nat) : ¬ par.getD (root par i) (root par i) < root par i := by
  induction i using Nat.strongRecOn with
  | _ i ih =>
    by_cases h : par.getD i i < i
    · rw [root_lt h]; exact ih _ h
    · rw [root_ge h]; exact h
theorem root_root (par : List Nat) (i : Nat) : root par (root par i) = root par i := root_ge (root_stop par i)
noncomputable abbrev Row := Str × List Nat
noncomputable def keyOf (op : Str) (kids : List Nat) : List Ky := Ky.s op :: kids.map fun (k : Nat) => Ky.i (k : Int)
theorem keyOf_inj {op op' : Str} {ks ks' : List Nat} (h : keyOf op ks = keyOf op' ks') : op = op' ∧ ks = ks' := by
  unfold keyOf at h
  injection h with h1 h2
  injection h1 with h1
  refine ⟨h1, ?_⟩
  induction ks generalizing ks' with
  | nil => cases ks' with
    | nil => rfl
    | cons _ _ => cases h2
  | cons a r ih => cases ks' with
    | nil => cases h2
    | cons b r' =>
      rw [List.map_cons, List.map_cons] at h2
      injection h2 with h3 h4
      injection h3 with h3
      rw [Int.ofNat.inj h3, ih h4]
structure St where
  rows : List Row
  par : List Nat
  users : Nat → List Nat
  known : List Ky → Option Nat
  waiting : List Nat
noncomputable def St.rt (s : St) (i : Nat) : Nat := root s.par i
noncomputable def St.node (s : St) (r : Row) : List Ky := keyOf r.1 (r.2.map s.rt)
noncomputable def Closed (rows : List Row) (pairs : List (Nat × Nat)) (g : Nat → Nat) : Prop :=
  (∀ p ∈ pairs, g p.1 = g p.2) ∧ ∀ (i j : Nat) (a b : Row), rows[i]? = some a → rows[j]? = some b → a.1 = b.1 → a.2.map g = b.2.map g → g i = g j
structure Inv (s : St) (pairs : List (Nat × Nat)) (todo : List Nat) : Prop where
  len : s.par.length = s.rows.length
  low : ∀ i, i < s.par.length → s.par.getD i i ≤ i
  kids : ∀ (n : Nat) (r : Row), s.rows[n]? = some r → ∀ k ∈ r.2, k < n
  nodup : s.rows.Nodup
  users : ∀ (n : Nat) (r : Row), s.rows[n]? = some r → ∀ k ∈ r.2, n ∈ s.users (s.rt k)
  usersLt : ∀ k n, n ∈ s.users k → n < s.rows.length
  waitLt : ∀ n ∈ s.waiting, n < s.rows.length
  known : ∀ (n : Nat) (r : Row), s.rows[n]? = some r → n ∈ s.waiting ∨ n ∈ todo ∨ ∃ k, s.known (s.node r) = some k ∧ s.rt k = s.rt n
  sound : ∀ key k, s.known key = some k → ∃ (r : Row) (ks : List Nat), s.rows[k]? = some r ∧ key = keyOf r.1 ks ∧ (∀ x ∈ ks, x < s.rows.length) ∧ ∀ g, Closed s.rows pairs g → r.2.map g = ks.map g
  fair : ∀ g, Closed s.rows pairs g → ∀ i, i < s.rows.length → g (s.rt i) = g i
theorem root_set {par : List Nat} {lo hi : Nat} (hhi : hi < par.length) (hlo : lo < hi) (hrl : root par lo = lo) (hrh : root par hi = hi) (i : Nat) : root (par.set hi lo) i = if root par i = hi then lo else root par i := by
  have get : ∀ j, (par.set hi lo).getD j j = if j = hi then lo else par.getD j j := fun j => by
    rw [List.getD_eq_getElem?_getD, List.getD_eq_getElem?_getD, List.getElem?_set]
    by_cases q : hi = j
    · subst q; rw [if_pos rfl, if_pos hhi, if_pos rfl]; rfl
    · rw [if_neg q, if_neg (Ne.symm q)]
  have rlo : root (par.set hi lo) lo = lo := by
    refine root_ge ?_
    rw [get, if_neg (Nat.ne_of_lt hlo)]
    have := root_stop par lo
    rwa [hrl] at this
  induction i using Nat.strongRecOn with
  | _ i ih =>
    by_cases q : i = hi
    · subst q
      rw [root_lt (by rw [get, if_pos rfl]; exact hlo), get, if_pos rfl, rlo, hrh, if_pos rfl]
    · by_cases h : par.getD i i < i
      · rw [root_lt (by rw [get, if_neg q]; exact h), get, if_neg q, ih _ h, root_lt h]
      · rw [root_ge (by rw [get, if_neg q]; exact h), root_ge h, if_neg q]
end Mine
namespace Mine
noncomputable def Told (s : St) (pairs : List (Nat × Nat)) : Prop := ∀ p ∈ pairs, s.rt p.1 = s.rt p.2
theorem Closed.less {rows : List Row} {pairs pairs' : List (Nat × Nat)} {g : Nat → Nat} (h : Closed rows pairs' g) (hs : ∀ p ∈ pairs, p ∈ pairs') : Closed rows pairs g := ⟨fun p hp => h.1 p (hs p hp), h.2⟩
theorem Closed.rows {rows : List Row} {r : Row} {pairs : List (Nat × Nat)} {g : Nat → Nat} (h : Closed (rows ++ [r]) pairs g) : Closed rows pairs g :=
  ⟨h.1, fun i j a b hi hj => h.2 i j a b (by rw [List.getElem?_append_left (List.getElem?_eq_some_iff.mp hi).1]; exact hi) (by rw [List.getElem?_append_left (List.getElem?_eq_some_iff.mp hj).1]; exact hj)⟩
theorem Inv.more {s : St} {pairs pairs' : List (Nat × Nat)} {todo : List Nat} (I : Inv s pairs todo) (hs : ∀ p ∈ pairs, p ∈ pairs') : Inv s pairs' todo :=
  { I with
    sound := fun key k hk => let ⟨r, ks, a, b, c, d⟩ := I.sound key k hk; ⟨r, ks, a, b, c, fun g hg => d g (hg.less hs)⟩
    fair := fun g hg => I.fair g (hg.less hs) }
noncomputable def St.join (s : St) (lo hi : Nat) : St := { s with par := s.par.set hi lo, users := fun k => if k = lo then s.users lo ++ s.users hi else s.users k, waiting := s.waiting ++ s.users hi }
theorem rt_join {s : St} {pairs : List (Nat × Nat)} {todo : List Nat} {lo hi : Nat} (I : Inv s pairs todo) (hhi : hi < s.rows.length) (hlo : lo < hi) (hrl : s.rt lo = lo) (hrh : s.rt hi = hi) (i : Nat) : (s.join lo hi).rt i = if s.rt i = hi then lo else s.rt i :=
  root_set (by rw [I.len]; exact hhi) hlo hrl hrh i
theorem Inv.join {s : St} {pairs : List (Nat × Nat)} {todo : List Nat} {lo hi : Nat} (I : Inv s pairs todo) (hhi : hi < s.rows.length) (hlo : lo < hi) (hrl : s.rt lo = lo) (hrh : s.rt hi = hi) (hg : ∀ g, Closed s.rows pairs g → g lo = g hi) : Inv (s.join lo hi) pairs todo := by
  have rt := rt_join I hhi hlo hrl hrh
  refine ⟨?_, ?_, I.kids, I.nodup, ?_, ?_, ?_, ?_, I.sound, ?_⟩
  · show (s.par.set hi lo).length = _; rw [List.length_set]; exact I.len
  · intro i hi'
    have hi2 : i < s.par.length := by have : i < (s.par.set hi lo).length := hi'; rwa [List.length_set] at this
    show (s.par.set hi lo).getD i i ≤ i
    rw [List.getD_eq_getElem?_getD, List.getElem?_set]
    by_cases q : hi = i
    · subst q; rw [if_pos rfl, if_pos hi2]; exact Nat.le_of_lt hlo
    · rw [if_neg q, ← List.getD_eq_getElem?_getD]; exact I.low i hi2
  · intro n r hr k hk
    have h := I.users n r hr k hk
    show n ∈ (if (s.join lo hi).rt k = lo then s.users lo ++ s.users hi else s.users ((s.join lo hi).rt k))
    rw [rt k]
    by_cases q : s.rt k = hi
    · rw [if_pos q, if_pos rfl]; rw [q] at h; exact List.mem_append_right _ h
    · rw [if_neg q]
      by_cases q' : s.rt k = lo
      · rw [if_pos q']; rw [q'] at h; exact List.mem_append_left _ h
      · rw [if_neg q']; exact h
  · intro k n hn
    have hn' : n ∈ (if k = lo then s.users lo ++ s.users hi else s.users k) := hn
    split at hn'
    · rcases List.mem_append.mp hn' with q | q
      · exact I.usersLt _ _ q
      · exact I.usersLt _ _ q
    · exact I.usersLt _ _ hn'
  · intro n hn
    rcases List.mem_append.mp hn with q | q
    · exact I.waitLt n q
    · exact I.usersLt _ _ q
  · intro n r hr
    rcases I.known n r hr with q | q | ⟨k, hk, hrt⟩
    · exact .inl (List.mem_append_left _ q)
    · exact .inr (.inl q)
    · by_cases q : ∃ x ∈ r.2, s.rt x = hi
      · obtain ⟨x, hx, hxr⟩ := q
        exact .inl (List.mem_append_right _ (hxr ▸ I.users n r hr x hx))
      · have hnode : (s.join lo hi).node r = s.node r := by
          unfold St.node
          congr 1
          refine List.map_congr_left fun x hx => ?_
          rw [rt x, if_neg fun w => q ⟨x, hx, w⟩]
        exact .inr (.inr ⟨k, by rw [hnode]; exact hk, by rw [rt k, rt n, hrt]⟩)
  · intro g hgc i hi'
    rw [rt i]
    by_cases q : s.rt i = hi
    · rw [if_pos q, hg g hgc, ← q]; exact I.fair g hgc i hi'
    · rw [if_neg q]; exact I.fair g hgc i hi'
theorem Told.join {s : St} {pairs : List (Nat × Nat)} {todo : List Nat} {lo hi : Nat} (T : Told s pairs) (I : Inv s pairs todo) (hhi : hi < s.rows.length) (hlo : lo < hi) (hrl : s.rt lo = lo) (hrh : s.rt hi = hi) : Told (s.join lo hi) pairs := fun p hp => by
  rw [rt_join I hhi hlo hrl hrh, rt_join I hhi hlo hrl hrh, T p hp]
noncomputable def St.unite (s : St) (a b : Nat) : St := if s.rt a = s.rt b then s else s.join (min (s.rt a) (s.rt b)) (max (s.rt a) (s.rt b))
theorem rt_lt {s : St} {pairs : List (Nat × Nat)} {todo : List Nat} (I : Inv s pairs todo) {i : Nat} (hi : i < s.rows.length) : s.rt i < s.rows.length := Nat.lt_of_le_of_lt (root_le _ _) hi
theorem unite_facts {s : St} {pairs : List (Nat × Nat)} {todo : List Nat} {a b : Nat} (I : Inv s pairs todo) (ha : a < s.rows.length) (hb : b < s.rows.length) (hne : s.rt a ≠ s.rt b) :
    max (s.rt a) (s.rt b) < s.rows.length ∧ min (s.rt a) (s.rt b) < max (s.rt a) (s.rt b) ∧ s.rt (min (s.rt a) (s.rt b)) = min (s.rt a) (s.rt b) ∧ s.rt (max (s.rt a) (s.rt b)) = max (s.rt a) (s.rt b) := by
  have h1 := rt_lt I ha
  have h2 := rt_lt I hb
  have r1 : s.rt (s.rt a) = s.rt a := root_root _ _
  have r2 : s.rt (s.rt b) = s.rt b := root_root _ _
  refine ⟨by omega, by omega, ?_, ?_⟩
  · rcases Nat.le_total (s.rt a) (s.rt b) with q | q
    · rw [Nat.min_eq_left q, r1]
    · rw [Nat.min_eq_right q, r2]
  · rcases Nat.le_total (s.rt a) (s.rt b) with q | q
    · rw [Nat.max_eq_right q, r2]
    · rw [Nat.max_eq_left q, r1]
theorem Inv.unite {s : St} {pairs : List (Nat × Nat)} {todo : List Nat} {a b : Nat} (I : Inv s pairs todo) (T : Told s pairs) (ha : a < s.rows.length) (hb : b < s.rows.length) (hg : ∀ g, Closed s.rows pairs g → g a = g b) :
    Inv (s.unite a b) pairs todo ∧ Told (s.unite a b) pairs ∧ (s.unite a b).rt a = (s.unite a b).rt b ∧ (∀ i j, s.rt i = s.rt j → (s.unite a b).rt i = (s.unite a b).rt j) := by
  unfold St.unite
  by_cases q : s.rt a = s.rt b
  · rw [if_pos q]; exact ⟨I, T, q, fun i j h => h⟩
  · rw [if_neg q]
    obtain ⟨h1, h2, h3, h4⟩ := unite_facts I ha hb q
    have rt := rt_join I h1 h2 h3 h4
    refine ⟨I.join h1 h2 h3 h4 fun g hgc => ?_, T.join I h1 h2 h3 h4, ?_, fun i j h => by rw [rt, rt, h]⟩
    · have e1 := I.fair g hgc a ha
      have e2 := I.fair g hgc b hb
      have e3 := hg g hgc
      rcases Nat.le_total (s.rt a) (s.rt b) with q | q
      · rw [Nat.min_eq_left q, Nat.max_eq_right q, e1, e2, e3]
      · rw [Nat.min_eq_right q, Nat.max_eq_left q, e1, e2, e3]
    · rw [rt, rt]
      rcases Nat.le_total (s.rt a) (s.rt b) with w | w
      · rw [Nat.max_eq_right w, Nat.min_eq_left w, if_pos rfl]; rw [if_neg q]
      · rw [Nat.max_eq_left w, Nat.min_eq_right w, if_pos rfl]; rw [if_neg (Ne.symm q)]
end Mine
namespace Mine
noncomputable def St.look (s : St) (n : Nat) : St := match s.rows[n]? with
  | none => s
  | some r => match s.known (s.node r) with
    | some k => s.unite k n
    | none => { s with known := fun key => if key = s.node r then some n else s.known key }
theorem known_lt {s : St} {pairs : List (Nat × Nat)} {todo : List Nat} (I : Inv s pairs todo) {key : List Ky} {k : Nat} (h : s.known key = some k) : k < s.rows.length := by
  obtain ⟨r, ks, hr, _⟩ := I.sound key k h
  exact (List.getElem?_eq_some_iff.mp hr).1
theorem map_rt_fair {s : St} {pairs : List (Nat × Nat)} {todo : List Nat} (I : Inv s pairs todo) {g : Nat → Nat} (hg : Closed s.rows pairs g) {l : List Nat} (hl : ∀ k ∈ l, k < s.rows.length) : (l.map s.rt).map g = l.map g := by
  rw [List.map_map]
  exact List.map_congr_left fun x hx => I.fair g hg x (hl x hx)
theorem kids_lt {s : St} {pairs : List (Nat × Nat)} {todo : List Nat} (I : Inv s pairs todo) {n : Nat} {r : Row} (hr : s.rows[n]? = some r) : ∀ k ∈ r.2, k < s.rows.length := fun k hk => Nat.lt_trans (I.kids n r hr k hk) (List.getElem?_eq_some_iff.mp hr).1
theorem like_of_known {s : St} {pairs : List (Nat × Nat)} {todo : List Nat} (I : Inv s pairs todo) {n k : Nat} {r : Row} (hr : s.rows[n]? = some r) (hk : s.known (s.node r) = some k) : ∀ g, Closed s.rows pairs g → g k = g n := fun g hg => by
  obtain ⟨r', ks, hr', hkey, hlt, hs⟩ := I.sound _ _ hk
  obtain ⟨e1, e2⟩ := keyOf_inj hkey
  refine hg.2 k n r' r hr' hr e1.symm ?_
  rw [hs g hg, ← e2, map_rt_fair I hg (kids_lt I hr)]
theorem Inv.drop {s : St} {pairs : List (Nat × Nat)} {n : Nat} (I : Inv s pairs [n]) (h : ∀ r, s.rows[n]? = some r → n ∈ s.waiting ∨ ∃ k, s.known (s.node r) = some k ∧ s.rt k = s.rt n) : Inv s pairs [] :=
  ⟨I.len, I.low, I.kids, I.nodup, I.users, I.usersLt, I.waitLt, fun m r hr => (I.known m r hr).elim .inl fun q => q.elim (fun q => by
      rw [List.mem_singleton] at q
      subst q
      exact (h r hr).elim .inl fun w => .inr (.inr w)) fun q => .inr (.inr q), I.sound, I.fair⟩
theorem Inv.look {s : St} {pairs : List (Nat × Nat)} {n : Nat} (I : Inv s pairs [n]) (T : Told s pairs) (hn : n < s.rows.length) : Inv (s.look n) pairs [] ∧ Told (s.look n) pairs := by
  have hr : s.rows[n]? = some s.rows[n] := List.getElem?_eq_getElem hn
  generalize s.rows[n] = r at hr
  unfold St.look
  rw [hr]
  dsimp only
  cases hk : s.known (s.node r) with
  | none =>
    dsimp only
    refine ⟨{ len := I.len, low := I.low, kids := I.kids, nodup := I.nodup, users := I.users, usersLt := I.usersLt, waitLt := I.waitLt, known := fun m r' hr' => ?_, sound := fun key k hk' => ?_, fair := I.fair }, T⟩
    · rcases I.known m r' hr' with q | q | ⟨k, q1, q2⟩
      · exact .inl q
      · rw [List.mem_singleton] at q
        subst q
        rw [hr] at hr'; cases hr'
        exact .inr (.inr ⟨m, if_pos rfl, rfl⟩)
      · refine .inr (.inr ⟨k, ?_, q2⟩)
        show (if s.node r' = s.node r then some n else s.known (s.node r')) = some k
        rw [if_neg fun w => by rw [w, hk] at q1; cases q1]; exact q1
    · have hk2 : (if key = s.node r then some n else s.known key) = some k := hk'
      by_cases q : key = s.node r
      · rw [if_pos q] at hk2; cases hk2
        refine ⟨r, r.2.map s.rt, hr, q, fun x hx => ?_, fun g hg => (map_rt_fair I hg (kids_lt I hr)).symm⟩
        obtain ⟨y, hy, rfl⟩ := List.mem_map.mp hx
        exact rt_lt I (kids_lt I hr y hy)
      · rw [if_neg q] at hk2; exact I.sound key k hk2
  | some k =>
    dsimp only
    obtain ⟨J, T', he, hmono⟩ := I.unite T (known_lt I hk) hn (like_of_known I hr hk)
    refine ⟨J.drop fun r' hr' => ?_, T'⟩
    have hrows : (s.unite k n).rows = s.rows := by unfold St.unite; split <;> rfl
    have hknown : (s.unite k n).known = s.known := by unfold St.unite; split <;> rfl
    rw [hrows, hr] at hr'; cases hr'
    by_cases q : s.rt k = s.rt n
    · have e : s.unite k n = s := by unfold St.unite; rw [if_pos q]
      rw [e]; exact .inr ⟨k, hk, q⟩
    · obtain ⟨h1, h2, h3, h4⟩ := unite_facts I (known_lt I hk) hn q
      have e : s.unite k n = s.join (min (s.rt k) (s.rt n)) (max (s.rt k) (s.rt n)) := by unfold St.unite; rw [if_neg q]
      rw [e] at he ⊢
      have rt := rt_join I h1 h2 h3 h4
      by_cases w : ∃ x ∈ r.2, s.rt x = max (s.rt k) (s.rt n)
      · obtain ⟨x, hx, hxr⟩ := w
        exact .inl (List.mem_append_right _ (hxr ▸ I.users n r hr x hx))
      · have hnode : (s.join (min (s.rt k) (s.rt n)) (max (s.rt k) (s.rt n))).node r = s.node r := by
          unfold St.node
          congr 1
          refine List.map_congr_left fun x hx => ?_
          rw [rt x, if_neg fun w' => w ⟨x, hx, w'⟩]
        exact .inr ⟨k, by rw [hnode]; exact hk, he⟩
noncomputable def Settled (s : St) (pairs : List (Nat × Nat)) : Prop := Inv s pairs [] ∧ Told s pairs ∧ s.waiting = []
structure IsHome (rows : List Row) (pairs : List (Nat × Nat)) (f : Nat → Nat) : Prop where
  le : ∀ i, i < rows.length → f i ≤ i
  idem : ∀ i, i < rows.length → f (f i) = f i
  closed : Closed rows pairs f
  least : ∀ g, Closed rows pairs g → ∀ i j, i < rows.length → j < rows.length → f i = f j → g i = g j
theorem IsHome.unique {rows : List Row} {pairs : List (Nat × Nat)} {f f' : Nat → Nat} (h : IsHome rows pairs f) (h' : IsHome rows pairs f') {i : Nat} (hi : i < rows.length) : f i = f' i := by
  have key : ∀ {f f' : Nat → Nat}, IsHome rows pairs f → IsHome rows pairs f' → f' i ≤ f i := fun {f f'} h h' => by
    have hlt : f i < rows.length := Nat.lt_of_le_of_lt (h.le i hi) hi
    have e := h.least f' h'.closed (f i) i hlt hi (h.idem i hi)
    rw [← e]; exact h'.le _ hlt
  exact Nat.le_antisymm (key h' h) (key h h')
theorem Settled.home {s : St} {pairs : List (Nat × Nat)} (S : Settled s pairs) : IsHome s.rows pairs s.rt := by
  obtain ⟨I, T, hw⟩ := S
  refine ⟨fun i _ => root_le _ _, fun i _ => root_root _ _, ⟨T, fun i j a b ha hb hop hk => ?_⟩, fun g hg i j hi hj h => ?_⟩
  · have hnode : s.node a = s.node b := by unfold St.node; rw [hop, hk]
    have key : ∀ {n : Nat} {r : Row}, s.rows[n]? = some r → ∃ k, s.known (s.node r) = some k ∧ s.rt k = s.rt n := fun hr => by
      rcases I.known _ _ hr with q | q | q
      · rw [hw] at q; cases q
      · cases q
      · exact q
    obtain ⟨k, h1, h2⟩ := key ha
    obtain ⟨k', h3, h4⟩ := key hb
    rw [hnode, h3] at h1; cases h1
    exact h2.symm.trans h4
  · rw [← I.fair g hg i hi, ← I.fair g hg j hj, h]
theorem Settled.seek {s : St} {pairs : List (Nat × Nat)} (S : Settled s pairs) {op : Str} {ks : List Nat} (hks : ∀ k ∈ ks, k < s.rows.length) (hrep : ks.map s.rt = ks) :
    (∀ k, s.known (keyOf op ks) = some k → ∃ r, s.rows[k]? = some r ∧ r.1 = op ∧ r.2.map s.rt = ks) ∧
    ∀ n r, s.rows[n]? = some r → r.1 = op → r.2.map s.rt = ks → ∃ k, s.known (keyOf op ks) = some k ∧ s.rt k = s.rt n := by
  have H := S.home
  obtain ⟨I, T, hw⟩ := S
  refine ⟨fun k hk => ?_, fun n r hr hop hk => ?_⟩
  · obtain ⟨r, ks', hr, hkey, hlt, hs⟩ := I.sound _ _ hk
    obtain ⟨e1, e2⟩ := keyOf_inj hkey
    subst e2
    exact ⟨r, hr, e1.symm, (hs s.rt H.closed).trans hrep⟩
  · have hnode : s.node r = keyOf op ks := by unfold St.node; rw [hop, hk]
    rcases I.known _ _ hr with q | q | q
    · rw [hw] at q; cases q
    · cases q
    · rw [← hnode]; exact q
end Mine
namespace Mine
theorem root_congr {p q : List Nat} (h : ∀ j, p.getD j j = q.getD j j) (i : Nat) : root p i = root q i := by
  induction i using Nat.strongRecOn with
  | _ i ih =>
    by_cases w : p.getD i i < i
    · rw [root_lt w, root_lt (par := q) (by rw [← h]; exact w), ih _ w, h]
    · rw [root_ge w, root_ge (par := q) (by rw [← h]; exact w)]
theorem getD_snoc (par : List Nat) (j : Nat) : (par ++ [par.length]).getD j j = par.getD j j := by
  rw [List.getD_eq_getElem?_getD, List.getD_eq_getElem?_getD]
  rcases Nat.lt_trichotomy j par.length with h | h | h
  · rw [List.getElem?_append_left h]
  · subst h; simp
  · rw [List.getElem?_eq_none (by simp; omega), List.getElem?_eq_none (Nat.le_of_lt h)]
theorem root_snoc (par : List Nat) (i : Nat) : root (par ++ [par.length]) i = root par i := root_congr (getD_snoc par) i
noncomputable def St.grow (s : St) (r : Row) : St :=
  { rows := s.rows ++ [r], par := s.par ++ [s.par.length], users := fun c => if c = s.par.length then [] else if c ∈ r.2.map s.rt then s.users c ++ [s.par.length] else s.users c, known := s.known, waiting := s.waiting }
theorem rt_grow (s : St) (r : Row) (i : Nat) : (s.grow r).rt i = s.rt i := root_snoc s.par i
theorem Inv.grow {s : St} {pairs : List (Nat × Nat)} {r : Row} (I : Inv s pairs []) (hr : r ∉ s.rows) (hk : ∀ k ∈ r.2, k < s.rows.length) : Inv (s.grow r) pairs [s.rows.length] := by
  have get : ∀ {n : Nat} {r' : Row}, (s.grow r).rows[n]? = some r' → s.rows[n]? = some r' ∨ (n = s.rows.length ∧ r' = r) := fun {n r'} h => by
    have h' : (s.rows ++ [r])[n]? = some r' := h
    rcases Nat.lt_trichotomy n s.rows.length with q | q | q
    · rw [List.getElem?_append_left q] at h'; exact .inl h'
    · subst q; simp at h'; exact .inr ⟨rfl, h'.symm⟩
    · rw [List.getElem?_eq_none (by simp; omega)] at h'; cases h'
  have len : (s.grow r).rows.length = s.rows.length + 1 := by show (s.rows ++ [r]).length = _; simp
  have fp : (s.grow r).rt = s.rt := funext (rt_grow s r)
  refine ⟨?_, ?_, ?_, ?_, ?_, ?_, ?_, ?_, ?_, ?_⟩
  · show (s.par ++ [s.par.length]).length = (s.rows ++ [r]).length
    simp [I.len]
  · intro i hi
    show (s.par ++ [s.par.length]).getD i i ≤ i
    rw [getD_snoc]
    rcases Nat.lt_or_ge i s.par.length with q | q
    · exact I.low i q
    · rw [List.getD_eq_getElem?_getD, List.getElem?_eq_none q]; exact Nat.le_refl _
  · intro n r' h k hk'
    rcases get h with q | ⟨rfl, rfl⟩
    · exact I.kids n r' q k hk'
    · exact hk k hk'
  · show (s.rows ++ [r]).Nodup
    rw [List.nodup_append]
    refine ⟨I.nodup, by simp, fun a ha b hb => ?_⟩
    rw [List.mem_singleton.mp hb]
    exact fun w => hr (w ▸ ha)
  · intro n r' h k hk'
    rw [fp]
    show n ∈ (if s.rt k = s.par.length then [] else if s.rt k ∈ r.2.map s.rt then s.users (s.rt k) ++ [s.par.length] else s.users (s.rt k))
    rw [I.len]
    rcases get h with q | ⟨rfl, rfl⟩
    · have hlt := rt_lt I (Nat.lt_trans (I.kids n r' q k hk') (List.getElem?_eq_some_iff.mp q).1)
      rw [if_neg (Nat.ne_of_lt hlt)]
      have hu := I.users n r' q k hk'
      split
      · exact List.mem_append_left _ hu
      · exact hu
    · have hlt := rt_lt I (hk k hk')
      rw [if_neg (Nat.ne_of_lt hlt), if_pos (List.mem_map_of_mem hk')]
      exact List.mem_append_right _ (List.mem_singleton.mpr rfl)
  · intro k n hn
    rw [len]
    have hn' : n ∈ (if k = s.par.length then [] else if k ∈ r.2.map s.rt then s.users k ++ [s.par.length] else s.users k) := hn
    split at hn'
    · cases hn'
    · split at hn'
      · rcases List.mem_append.mp hn' with q | q
        · exact Nat.lt_succ_of_lt (I.usersLt _ _ q)
        · rw [List.mem_singleton.mp q, I.len]; exact Nat.lt_succ_self _
      · exact Nat.lt_succ_of_lt (I.usersLt _ _ hn')
  · intro n hn
    rw [len]; exact Nat.lt_succ_of_lt (I.waitLt n hn)
  · intro n r' h
    unfold St.node
    rw [fp]
    rcases get h with q | ⟨rfl, rfl⟩
    · rcases I.known n r' q with w | w | w
      · exact .inl w
      · cases w
      · exact .inr (.inr w)
    · exact .inr (.inl (List.mem_singleton.mpr rfl))
  · intro key k h
    obtain ⟨r', ks, h1, h2, h3, h4⟩ := I.sound key k h
    refine ⟨r', ks, ?_, h2, fun x hx => by rw [len]; exact Nat.lt_succ_of_lt (h3 x hx), fun g hg => h4 g hg.rows⟩
    show (s.rows ++ [r])[k]? = _
    rw [List.getElem?_append_left (List.getElem?_eq_some_iff.mp h1).1]; exact h1
  · intro g hg i hi
    rw [fp]
    rw [len] at hi
    rcases Nat.lt_succ_iff_lt_or_eq.mp hi with q | q
    · exact I.fair g hg.rows i q
    · have : s.rt i = i := by
        refine root_ge ?_
        rw [List.getD_eq_getElem?_getD, List.getElem?_eq_none (by rw [I.len, q]; exact Nat.le_refl _)]
        exact Nat.lt_irrefl _
      rw [this]
noncomputable def St.add (s : St) (r : Row) : St := if r ∈ s.rows then s else (s.grow r).look s.rows.length
theorem add_rows (s : St) (r : Row) : (s.add r).rows = if r ∈ s.rows then s.rows else s.rows ++ [r] := by
  unfold St.add
  split
  · rfl
  · unfold St.look
    split
    · rfl
    · split
      · unfold St.unite; split <;> rfl
      · rfl
theorem Settled.add {s : St} {pairs : List (Nat × Nat)} {r : Row} (S : Settled s pairs) (hk : ∀ k ∈ r.2, k < s.rows.length) : Settled (s.add r) pairs := by
  unfold St.add
  by_cases q : r ∈ s.rows
  · rw [if_pos q]; exact S
  · rw [if_neg q]
    obtain ⟨I, T, hw⟩ := S
    have fp : (s.grow r).rt = s.rt := funext (rt_grow s r)
    have J := I.grow q hk
    have T' : Told (s.grow r) pairs := fun p hp => by rw [fp]; exact T p hp
    have hlt : s.rows.length < (s.grow r).rows.length := by show _ < (s.rows ++ [r]).length; simp
    obtain ⟨J', T''⟩ := J.look T' hlt
    refine ⟨J', T'', ?_⟩
    unfold St.look
    split
    · exact hw
    · split
      · rename_i k hkn
        have hkn' : s.known ((s.grow r).node _) = some k := hkn
        have hklt := known_lt I hkn'
        unfold St.unite
        split
        · exact hw
        · have hself : s.rt s.rows.length = s.rows.length := by
            refine root_ge ?_
            rw [List.getD_eq_getElem?_getD, List.getElem?_eq_none (by rw [I.len]; exact Nat.le_refl _)]
            exact Nat.lt_irrefl _
          have hmax : max ((s.grow r).rt k) ((s.grow r).rt s.rows.length) = s.par.length := by
            rw [fp, hself, I.len]
            have := rt_lt I hklt
            omega
          show s.waiting ++ (if max ((s.grow r).rt k) ((s.grow r).rt s.rows.length) = s.par.length then [] else _) = []
          rw [if_pos hmax, hw]; rfl
      · exact hw
theorem settled_nil : Settled ⟨[], [], fun _ => [], fun _ => none, []⟩ [] :=
  ⟨⟨rfl, fun i hi => absurd hi (Nat.not_lt_zero i), fun n r h => (by simp at h), List.nodup_nil, fun n r h => (by simp at h), fun k n h => (by simp at h), fun n h => (by simp at h), fun n r h => (by simp at h), fun key k h => (by simp at h), fun g _ i hi => absurd hi (Nat.not_lt_zero i)⟩, fun p hp => (by simp at hp), rfl⟩
end Mine
namespace Mine
theorem Inv.pop {s : St} {pairs : List (Nat × Nat)} {w : List Nat} {n : Nat} (I : Inv s pairs []) (h : s.waiting = w ++ [n]) : Inv { s with waiting := w } pairs [n] :=
  ⟨I.len, I.low, I.kids, I.nodup, I.users, I.usersLt, fun m hm => I.waitLt m (by rw [h]; exact List.mem_append_left _ hm), fun m r hr => (I.known m r hr).elim (fun q => by
    rw [h] at q
    rcases List.mem_append.mp q with q | q
    · exact .inl q
    · exact .inr (.inl q)) fun q => q.elim (fun q => nomatch q) fun q => .inr (.inr q), I.sound, I.fair⟩
noncomputable def St.roots (s : St) : List Nat := (List.range s.rows.length).filter fun i => decide (s.rt i = i)
noncomputable def St.tot (s : St) : Nat := (s.roots.map fun i => (s.users i).length).sum
noncomputable def St.phi (s : St) : Nat := s.waiting.length + s.roots.length * s.tot
theorem sum_split {f : Nat → Nat} {x : Nat} : ∀ {l : List Nat}, l.Nodup → x ∈ l → (l.map f).sum = f x + ((l.filter fun i => decide (i ≠ x)).map f).sum
  | a :: r, hn, hx => by
    rw [List.nodup_cons] at hn
    rcases List.mem_cons.mp hx with rfl | hx
    · have : r.filter (fun i => decide (i ≠ x)) = r := List.filter_eq_self.mpr fun i hi => by simp; exact fun q => hn.1 (q ▸ hi)
      rw [List.filter_cons, if_neg (by simp), this]; simp
    · have hax : a ≠ x := fun q => hn.1 (q ▸ hx)
      have ih := sum_split (f := f) hn.2 hx
      rw [List.filter_cons, if_pos (by simpa using hax)]
      simp only [List.map_cons, List.sum_cons]
      omega
theorem sum_bump {f f' : Nat → Nat} {x d : Nat} (hx' : f' x = f x + d) (ho : ∀ i, i ≠ x → f' i = f i) : ∀ {l : List Nat}, l.Nodup → x ∈ l → (l.map f').sum = (l.map f).sum + d
  | a :: r, hn, hx => by
    rw [List.nodup_cons] at hn
    rcases List.mem_cons.mp hx with rfl | hx
    · have : r.map f' = r.map f := List.map_congr_left fun i hi => ho i fun q => hn.1 (q ▸ hi)
      simp [this, hx']; omega
    · have hax : a ≠ x := fun q => hn.1 (q ▸ hx)
      have ih := sum_bump hx' ho hn.2 hx
      simp [ho a hax, ih]; omega
theorem nodup_filter {p : Nat → Bool} {l : List Nat} (h : l.Nodup) : (l.filter p).Nodup := List.Nodup.sublist List.filter_sublist h
theorem roots_nodup (s : St) : s.roots.Nodup := nodup_filter List.nodup_range
theorem mem_roots {s : St} {i : Nat} : i ∈ s.roots ↔ i < s.rows.length ∧ s.rt i = i := by simp [St.roots]
theorem roots_join {s : St} {pairs : List (Nat × Nat)} {todo : List Nat} {lo hi : Nat} (I : Inv s pairs todo) (hhi : hi < s.rows.length) (hlo : lo < hi) (hrl : s.rt lo = lo) (hrh : s.rt hi = hi) : (s.join lo hi).roots = s.roots.filter fun i => decide (i ≠ hi) := by
  unfold St.roots
  rw [List.filter_filter]
  refine List.filter_congr fun i hi' => ?_
  rw [rt_join I hhi hlo hrl hrh, Bool.eq_iff_iff]
  simp only [decide_eq_true_eq, Bool.and_eq_true]
  by_cases q : s.rt i = hi
  · rw [if_pos q]
    constructor
    · intro w
      subst w
      rw [hrl] at q
      exact absurd q (Nat.ne_of_lt hlo)
    · rintro ⟨w1, w2⟩
      exact absurd (w2.symm.trans q) w1
  · rw [if_neg q]
    constructor
    · intro w
      exact ⟨fun z => q (w.trans z), w⟩
    · exact fun w => w.2
theorem phi_join {s : St} {pairs : List (Nat × Nat)} {todo : List Nat} {lo hi : Nat} (I : Inv s pairs todo) (hhi : hi < s.rows.length) (hlo : lo < hi) (hrl : s.rt lo = lo) (hrh : s.rt hi = hi) :
    (s.join lo hi).tot = s.tot ∧ (s.join lo hi).roots.length + 1 = s.roots.length ∧ (s.users hi).length ≤ s.tot ∧ (s.join lo hi).phi ≤ s.phi := by
  have hr := roots_join I hhi hlo hrl hrh
  have mhi : hi ∈ s.roots := mem_roots.mpr ⟨hhi, hrh⟩
  have mlo : lo ∈ s.roots.filter fun i => decide (i ≠ hi) := List.mem_filter.mpr ⟨mem_roots.mpr ⟨Nat.lt_trans hlo hhi, hrl⟩, by simp; omega⟩
  have h1 := sum_split (f := fun i => (s.users i).length) (roots_nodup s) mhi
  have hnd : (s.roots.filter fun i => decide (i ≠ hi)).Nodup := nodup_filter (roots_nodup s)
  have h2 := sum_bump (f := fun i => (s.users i).length) (f' := fun i => ((s.join lo hi).users i).length) (x := lo) (d := (s.users hi).length) (by show (if lo = lo then _ else _ : List Nat).length = _; rw [if_pos rfl, List.length_append]) (fun i hne => by show (if i = lo then _ else _ : List Nat).length = _; rw [if_neg hne]) hnd mlo
  have ht : (s.join lo hi).tot = s.tot := by
    unfold St.tot
    rw [hr, h2, h1]; omega
  have hc := sum_split (f := fun _ => 1) (roots_nodup s) mhi
  have cnt : ∀ l : List Nat, (l.map fun _ => 1).sum = l.length := fun l => by induction l <;> simp_all; omega
  rw [cnt, cnt] at hc
  have hlen : (s.join lo hi).roots.length + 1 = s.roots.length := by rw [hr, hc]; omega
  have hle : (s.users hi).length ≤ s.tot := by unfold St.tot; rw [h1]; exact Nat.le_add_right _ _
  refine ⟨ht, hlen, hle, ?_⟩
  unfold St.phi
  rw [ht, ← hlen, Nat.succ_mul]
  show (s.waiting ++ s.users hi).length + _ ≤ _
  rw [List.length_append]
  omega
theorem look_phi {s : St} {pairs : List (Nat × Nat)} {n : Nat} (I : Inv s pairs [n]) (hn : n < s.rows.length) : (s.look n).phi ≤ s.phi ∧ (s.look n).rows = s.rows := by
  unfold St.look
  split
  · exact ⟨Nat.le_refl _, rfl⟩
  · split
    · rename_i r hr k hk
      unfold St.unite
      split
      · exact ⟨Nat.le_refl _, rfl⟩
      · rename_i q
        obtain ⟨h1, h2, h3, h4⟩ := unite_facts I (known_lt I hk) hn q
        exact ⟨(phi_join I h1 h2 h3 h4).2.2.2, rfl⟩
    · exact ⟨Nat.le_refl _, rfl⟩
theorem settle_step {s : St} {pairs : List (Nat × Nat)} {w : List Nat} {n : Nat} (I : Inv s pairs []) (T : Told s pairs) (h : s.waiting = w ++ [n]) :
    Inv (St.look { s with waiting := w } n) pairs [] ∧ Told (St.look { s with waiting := w } n) pairs ∧ (St.look { s with waiting := w } n).phi < s.phi ∧ (St.look { s with waiting := w } n).rows = s.rows := by
  have J := I.pop h
  have hn : n < s.rows.length := I.waitLt n (by rw [h]; simp)
  have T' : Told { s with waiting := w } pairs := T
  obtain ⟨J', T''⟩ := J.look T' hn
  obtain ⟨p1, p2⟩ := look_phi J hn
  refine ⟨J', T'', Nat.lt_of_le_of_lt p1 ?_, p2⟩
  show w.length + s.roots.length * s.tot < s.waiting.length + s.roots.length * s.tot
  rw [h, List.length_append]; simp
end Mine
namespace Mine
noncomputable def hm (hs : List Nat) (i : Nat) : Nat := hs.getD i i
structure HInv (rows : List Row) (pairs : List (Nat × Nat)) (hs : List Nat) : Prop where
  len : hs.length = rows.length
  le : ∀ i, hm hs i ≤ i
  idem : ∀ i, hm hs (hm hs i) = hm hs i
  fair : ∀ g, Closed rows pairs g → ∀ i, g (hm hs i) = g i
theorem hm_get {hs : List Nat} {i : Nat} (h : i < hs.length) : hs[i]? = some (hm hs i) := by
  unfold hm
  rw [List.getD_eq_getElem?_getD, List.getElem?_eq_getElem h]; rfl
theorem hm_ge {hs : List Nat} {i : Nat} (h : hs.length ≤ i) : hm hs i = i := by
  unfold hm
  rw [List.getD_eq_getElem?_getD, List.getElem?_eq_none h]; rfl
theorem hm_range (n i : Nat) : hm (List.range n) i = i := by
  rcases Nat.lt_or_ge i n with h | h
  · unfold hm; rw [List.getD_eq_getElem?_getD, List.getElem?_range h]; rfl
  · exact hm_ge (by rw [List.length_range]; exact h)
theorem hinv_start {rows : List Row} {pairs : List (Nat × Nat)} : HInv rows pairs (List.range rows.length) :=
  ⟨List.length_range, fun i => by rw [hm_range]; exact Nat.le_refl _, fun i => by rw [hm_range, hm_range], fun g _ i => by rw [hm_range]⟩
noncomputable def hmerge (hs : List Nat) (lo hi : Nat) : List Nat := hs.map fun h => if h = hi then lo else h
theorem hm_merge {hs : List Nat} {lo hi : Nat} (hlt : hi < hs.length) (i : Nat) : hm (hmerge hs lo hi) i = if hm hs i = hi then lo else hm hs i := by
  rcases Nat.lt_or_ge i hs.length with h | h
  · have e : (hmerge hs lo hi)[i]? = some (if hm hs i = hi then lo else hm hs i) := by unfold hmerge; rw [List.getElem?_map, hm_get h]; rfl
    unfold hm at e ⊢
    rw [List.getD_eq_getElem?_getD, e]; rfl
  · rw [hm_ge (by unfold hmerge; rw [List.length_map]; exact h), hm_ge h, if_neg (by omega)]
noncomputable def fixes (hs : List Nat) : List Nat := (List.range hs.length).filter fun i => decide (hm hs i = i)
theorem HInv.merge {rows : List Row} {pairs : List (Nat × Nat)} {hs : List Nat} {a b : Nat} (I : HInv rows pairs hs) (ha : a < rows.length) (hb : b < rows.length) (hne : hm hs a ≠ hm hs b) (hg : ∀ g, Closed rows pairs g → g a = g b) :
    HInv rows pairs (hmerge hs (min (hm hs a) (hm hs b)) (max (hm hs a) (hm hs b))) ∧ (fixes (hmerge hs (min (hm hs a) (hm hs b)) (max (hm hs a) (hm hs b)))).length < (fixes hs).length := by
  have la := I.le a
  have lb := I.le b
  have ia := I.idem a
  have ib := I.idem b
  generalize hlo : min (hm hs a) (hm hs b) = lo
  generalize hhi : max (hm hs a) (hm hs b) = hi
  have h1 : lo < hi := by omega
  have h2 : hi < hs.length := by rw [I.len]; omega
  have flo : hm hs lo = lo := by
    rcases Nat.le_total (hm hs a) (hm hs b) with q | q
    · rw [← hlo, Nat.min_eq_left q, ia]
    · rw [← hlo, Nat.min_eq_right q, ib]
  have fhi : hm hs hi = hi := by
    rcases Nat.le_total (hm hs a) (hm hs b) with q | q
    · rw [← hhi, Nat.max_eq_right q, ib]
    · rw [← hhi, Nat.max_eq_left q, ia]
  have hgl : ∀ g, Closed rows pairs g → g lo = g hi := fun g hgc => by
    have e1 := I.fair g hgc a
    have e2 := I.fair g hgc b
    have e3 := hg g hgc
    rcases Nat.le_total (hm hs a) (hm hs b) with q | q
    · rw [← hlo, ← hhi, Nat.min_eq_left q, Nat.max_eq_right q, e1, e2, e3]
    · rw [← hlo, ← hhi, Nat.min_eq_right q, Nat.max_eq_left q, e1, e2, e3]
  have M := hm_merge (lo := lo) h2
  refine ⟨⟨?_, fun i => ?_, fun i => ?_, fun g hgc i => ?_⟩, ?_⟩
  · unfold hmerge; rw [List.length_map]; exact I.len
  · rw [M]
    split
    · rename_i q; have := I.le i; omega
    · exact I.le i
  · rw [M i]
    by_cases q : hm hs i = hi
    · rw [if_pos q, M lo, flo, if_neg (by omega)]
    · rw [if_neg q, M, I.idem, if_neg q]
  · rw [M]
    by_cases q : hm hs i = hi
    · rw [if_pos q, hgl g hgc, ← q]; exact I.fair g hgc i
    · rw [if_neg q]; exact I.fair g hgc i
  · have e : fixes (hmerge hs lo hi) = (fixes hs).filter fun i => decide (i ≠ hi) := by
      unfold fixes
      rw [List.filter_filter, show (hmerge hs lo hi).length = hs.length from List.length_map _]
      refine List.filter_congr fun i _ => ?_
      rw [M, Bool.eq_iff_iff]
      simp only [decide_eq_true_eq, Bool.and_eq_true]
      by_cases q : hm hs i = hi
      · rw [if_pos q]
        constructor
        · intro w; subst w; omega
        · rintro ⟨w1, w2⟩; exact absurd (w2.symm.trans q) w1
      · rw [if_neg q]
        exact ⟨fun w => ⟨fun z => q (w.trans z), w⟩, fun w => w.2⟩
    have m : hi ∈ fixes hs := by unfold fixes; simp; exact ⟨h2, fhi⟩
    have nd : (fixes hs).Nodup := nodup_filter List.nodup_range
    have hc := sum_split (f := fun _ => 1) nd m
    have cnt : ∀ l : List Nat, (l.map fun _ => 1).sum = l.length := fun l => by induction l <;> simp_all; omega
    rw [cnt, cnt] at hc
    rw [e, hc]; omega
noncomputable def sig (hs : List Nat) (r : Row) : List Ky := keyOf r.1 (r.2.map (hm hs))
structure FInv (rows : List Row) (pairs : List (Nat × Nat)) (hs : List Nat) (i : Nat) (f : List Ky → Option Nat) (wish : List (Nat × Nat)) : Prop where
  val : ∀ key m, f key = some m → ∃ r, rows[m]? = some r ∧ m < i ∧ sig hs r = key
  told : ∀ p ∈ pairs, p ∈ wish
  all : ∀ j r, j < i → rows[j]? = some r → ∃ m, f (sig hs r) = some m ∧ (m, j) ∈ wish
  just : ∀ p ∈ wish, p.1 < rows.length ∧ p.2 < rows.length ∧ ∀ g, Closed rows pairs g → g p.1 = g p.2
theorem FInv.start {rows : List Row} {pairs : List (Nat × Nat)} {hs : List Nat} (hp : ∀ p ∈ pairs, p.1 < rows.length ∧ p.2 < rows.length) : FInv rows pairs hs 0 (fun _ => none) pairs :=
  ⟨fun key m h => (nomatch h), fun p hp => hp, fun j r h => absurd h (Nat.not_lt_zero j), fun p hpm => ⟨(hp p hpm).1, (hp p hpm).2, fun g hg => hg.1 p hpm⟩⟩
theorem FInv.old {rows : List Row} {pairs : List (Nat × Nat)} {hs : List Nat} {i m : Nat} {r : Row} {f : List Ky → Option Nat} {wish : List (Nat × Nat)} (F : FInv rows pairs hs i f wish) (I : HInv rows pairs hs) (hr : rows[i]? = some r) (hm' : f (sig hs r) = some m) : FInv rows pairs hs (i + 1) f (wish ++ [(m, i)]) := by
  obtain ⟨r', h1, h2, h3⟩ := F.val _ _ hm'
  refine ⟨fun key k h => ?_, fun p hp => List.mem_append_left _ (F.told p hp), fun j q hj hq => ?_, fun p hp => ?_⟩
  · obtain ⟨r', a, b, c⟩ := F.val key k h
    exact ⟨r', a, Nat.lt_succ_of_lt b, c⟩
  · rcases Nat.lt_succ_iff_lt_or_eq.mp hj with w | w
    · obtain ⟨k, a, b⟩ := F.all j q w hq; exact ⟨k, a, List.mem_append_left _ b⟩
    · subst w
      rw [hr] at hq; cases hq
      exact ⟨m, hm', List.mem_append_right _ (List.mem_singleton.mpr rfl)⟩
  · rcases List.mem_append.mp hp with w | w
    · exact F.just p w
    · rw [List.mem_singleton.mp w]
      obtain ⟨e1, e2⟩ := keyOf_inj h3
      refine ⟨(List.getElem?_eq_some_iff.mp h1).1, (List.getElem?_eq_some_iff.mp hr).1, fun g hg => hg.2 m i r' r h1 hr e1 ?_⟩
      have key : ∀ l : List Nat, (l.map (hm hs)).map g = l.map g := fun l => by rw [List.map_map]; exact List.map_congr_left fun x _ => I.fair g hg x
      rw [← key r'.2, ← key r.2, e2]
theorem FInv.new {rows : List Row} {pairs : List (Nat × Nat)} {hs : List Nat} {i : Nat} {r : Row} {f : List Ky → Option Nat} {wish : List (Nat × Nat)} (F : FInv rows pairs hs i f wish) (hr : rows[i]? = some r) (hm' : f (sig hs r) = none) :
    FInv rows pairs hs (i + 1) (fun key => if key = sig hs r then some i else f key) (wish ++ [(i, i)]) := by
  refine ⟨fun key k h => ?_, fun p hp => List.mem_append_left _ (F.told p hp), fun j q hj hq => ?_, fun p hp => ?_⟩
  · split at h
    · cases h; exact ⟨r, hr, Nat.lt_succ_self _, by rename_i w; exact w.symm⟩
    · obtain ⟨r', a, b, c⟩ := F.val key k h; exact ⟨r', a, Nat.lt_succ_of_lt b, c⟩
  · rcases Nat.lt_succ_iff_lt_or_eq.mp hj with w | w
    · obtain ⟨k, a, b⟩ := F.all j q w hq
      exact ⟨k, by rw [if_neg fun z => by rw [z, hm'] at a; cases a]; exact a, List.mem_append_left _ b⟩
    · subst w
      rw [hr] at hq; cases hq
      exact ⟨j, if_pos rfl, List.mem_append_right _ (List.mem_singleton.mpr rfl)⟩
  · rcases List.mem_append.mp hp with w | w
    · exact F.just p w
    · rw [List.mem_singleton.mp w]
      exact ⟨(List.getElem?_eq_some_iff.mp hr).1, (List.getElem?_eq_some_iff.mp hr).1, fun g _ => rfl⟩
theorem HInv.home {rows : List Row} {pairs : List (Nat × Nat)} {hs : List Nat} {f : List Ky → Option Nat} {wish : List (Nat × Nat)} (I : HInv rows pairs hs) (F : FInv rows pairs hs rows.length f wish) (h : ∀ p ∈ wish, hm hs p.1 = hm hs p.2) : IsHome rows pairs (hm hs) := by
  refine ⟨fun i _ => I.le i, fun i _ => I.idem i, ⟨fun p hp => h p (F.told p hp), fun i j a b ha hb hop hk => ?_⟩, fun g hg i j _ _ e => by rw [← I.fair g hg i, ← I.fair g hg j, e]⟩
  have hs' : sig hs a = sig hs b := by unfold sig; rw [hop, hk]
  obtain ⟨m, h1, h2⟩ := F.all i a (List.getElem?_eq_some_iff.mp ha).1 ha
  obtain ⟨m', h3, h4⟩ := F.all j b (List.getElem?_eq_some_iff.mp hb).1 hb
  rw [hs', h3] at h1; cases h1
  exact (h _ h2).symm.trans (h _ h4)
end Mine
namespace Mine
noncomputable abbrev DW (w : World) (mean : ExcName → Option Value) (mg mb : Str → Option Value) (bl : Option (Addr × Array Value)) : Wd :=
  { prog := PySem.Challenge.rw_rh0007_01.row.prog, w := w, K := Mine.hK w.params, p := Mine.vq, loose := looseW Mine.vq [], mean := mean, mg := mg, mb := mb, bl := bl }
section
variable {w : World} {mean : ExcName → Option Value} {mg mb : Str → Option Value} {bl : Option (Addr × Array Value)}
theorem fld_Bank_nodes : Fld (DW w mean mg mb bl) 181 "nodes" := ⟨by show plainGet (Mine.hK w.params) 181 "nodes" = true; kernel_rfl, by show hasDictIn (Mine.hK w.params) 181 = true; kernel_rfl, none, by show findIn (Mine.hK w.params) (.ref 181) "nodes" = some none; kernel_rfl, by show noGet (Mine.hK w.params) none = true; kernel_rfl⟩
theorem sta_Bank_nodes : Sta (DW w mean mg mb bl) 181 "nodes" := ⟨by show findIn (Mine.hK w.params) (.ref 181) "__setattr__" = _; kernel_rfl, by show plainOver (Mine.hK w.params) 181 = true; kernel_rfl, by show takerIn (Mine.hK w.params) 181 "nodes" = _; kernel_rfl, by show hasDictIn (Mine.hK w.params) 181 = true; kernel_rfl⟩
theorem sta_Bank_numbers : Sta (DW w mean mg mb bl) 181 "numbers" := ⟨by show findIn (Mine.hK w.params) (.ref 181) "__setattr__" = _; kernel_rfl, by show plainOver (Mine.hK w.params) 181 = true; kernel_rfl, by show takerIn (Mine.hK w.params) 181 "numbers" = _; kernel_rfl, by show hasDictIn (Mine.hK w.params) 181 = true; kernel_rfl⟩
theorem sta_Bank_weights : Sta (DW w mean mg mb bl) 181 "weights" := ⟨by show findIn (Mine.hK w.params) (.ref 181) "__setattr__" = _; kernel_rfl, by show plainOver (Mine.hK w.params) 181 = true; kernel_rfl, by show takerIn (Mine.hK w.params) 181 "weights" = _; kernel_rfl, by show hasDictIn (Mine.hK w.params) 181 = true; kernel_rfl⟩
theorem sta_Bank_depths : Sta (DW w mean mg mb bl) 181 "depths" := ⟨by show findIn (Mine.hK w.params) (.ref 181) "__setattr__" = _; kernel_rfl, by show plainOver (Mine.hK w.params) 181 = true; kernel_rfl, by show takerIn (Mine.hK w.params) 181 "depths" = _; kernel_rfl, by show hasDictIn (Mine.hK w.params) 181 = true; kernel_rfl⟩
theorem mth_Bank_size : Mth (DW w mean mg mb bl) 181 "size" 100 := ⟨by show plainGet (Mine.hK w.params) 181 "size" = true; kernel_rfl, by show findIn (Mine.hK w.params) (.ref 181) "size" = _; kernel_rfl, by show isFn (Mine.hK w.params) (.ref 100) = true; kernel_rfl⟩
theorem ok_100 : okF (DW w mean mg mb bl) (.ref 100) := by show keepIn (Mine.hK w.params) (.ref 100) = true; kernel_rfl
theorem mth_Bank_take : Mth (DW w mean mg mb bl) 181 "take" 105 := ⟨by show plainGet (Mine.hK w.params) 181 "take" = true; kernel_rfl, by show findIn (Mine.hK w.params) (.ref 181) "take" = _; kernel_rfl, by show isFn (Mine.hK w.params) (.ref 105) = true; kernel_rfl⟩
theorem ok_105 : okF (DW w mean mg mb bl) (.ref 105) := by show keepIn (Mine.hK w.params) (.ref 105) = true; kernel_rfl
theorem mth_Bank_require : Mth (DW w mean mg mb bl) 181 "require" 112 := ⟨by show plainGet (Mine.hK w.params) 181 "require" = true; kernel_rfl, by show findIn (Mine.hK w.params) (.ref 181) "require" = _; kernel_rfl, by show isFn (Mine.hK w.params) (.ref 112) = true; kernel_rfl⟩
theorem ok_112 : okF (DW w mean mg mb bl) (.ref 112) := by show keepIn (Mine.hK w.params) (.ref 112) = true; kernel_rfl
theorem mth_Bank_op : Mth (DW w mean mg mb bl) 181 "op" 138 := ⟨by show plainGet (Mine.hK w.params) 181 "op" = true; kernel_rfl, by show findIn (Mine.hK w.params) (.ref 181) "op" = _; kernel_rfl, by show isFn (Mine.hK w.params) (.ref 138) = true; kernel_rfl⟩
theorem ok_138 : okF (DW w mean mg mb bl) (.ref 138) := by show keepIn (Mine.hK w.params) (.ref 138) = true; kernel_rfl
theorem mth_Bank_kids : Mth (DW w mean mg mb bl) 181 "kids" 145 := ⟨by show plainGet (Mine.hK w.params) 181 "kids" = true; kernel_rfl, by show findIn (Mine.hK w.params) (.ref 181) "kids" = _; kernel_rfl, by show isFn (Mine.hK w.params) (.ref 145) = true; kernel_rfl⟩
theorem ok_145 : okF (DW w mean mg mb bl) (.ref 145) := by show keepIn (Mine.hK w.params) (.ref 145) = true; kernel_rfl
theorem cls_Bank : makesIn (DW w mean mg mb bl).K 181 = true ∧ findIn (DW w mean mg mb bl).K (.ref 181) "__init__" = some (some (.ref 93)) ∧ typeIn (DW w mean mg mb bl).K (.ref 93) = some (.type "function") :=
  ⟨by show makesIn (Mine.hK w.params) 181 = true; kernel_rfl, by show findIn (Mine.hK w.params) (.ref 181) "__init__" = _; kernel_rfl, by show typeIn (Mine.hK w.params) (.ref 93) = _; kernel_rfl⟩
theorem ok_181 : okF (DW w mean mg mb bl) (.ref 181) := by show keepIn (Mine.hK w.params) (.ref 181) = true; kernel_rfl
theorem fld_Placer_heap : Fld (DW w mean mg mb bl) 219 "heap" := ⟨by show plainGet (Mine.hK w.params) 219 "heap" = true; kernel_rfl, by show hasDictIn (Mine.hK w.params) 219 = true; kernel_rfl, none, by show findIn (Mine.hK w.params) (.ref 219) "heap" = some none; kernel_rfl, by show noGet (Mine.hK w.params) none = true; kernel_rfl⟩
theorem sta_Placer_heap : Sta (DW w mean mg mb bl) 219 "heap" := ⟨by show findIn (Mine.hK w.params) (.ref 219) "__setattr__" = _; kernel_rfl, by show plainOver (Mine.hK w.params) 219 = true; kernel_rfl, by show takerIn (Mine.hK w.params) 219 "heap" = _; kernel_rfl, by show hasDictIn (Mine.hK w.params) 219 = true; kernel_rfl⟩
theorem mth_Placer_put : Mth (DW w mean mg mb bl) 219 "put" 204 := ⟨by show plainGet (Mine.hK w.params) 219 "put" = true; kernel_rfl, by show findIn (Mine.hK w.params) (.ref 219) "put" = _; kernel_rfl, by show isFn (Mine.hK w.params) (.ref 204) = true; kernel_rfl⟩
theorem ok_204 : okF (DW w mean mg mb bl) (.ref 204) := by show keepIn (Mine.hK w.params) (.ref 204) = true; kernel_rfl
theorem mth_Placer_class_of : Mth (DW w mean mg mb bl) 219 "class_of" 209 := ⟨by show plainGet (Mine.hK w.params) 219 "class_of" = true; kernel_rfl, by show findIn (Mine.hK w.params) (.ref 219) "class_of" = _; kernel_rfl, by show isFn (Mine.hK w.params) (.ref 209) = true; kernel_rfl⟩
theorem ok_209 : okF (DW w mean mg mb bl) (.ref 209) := by show keepIn (Mine.hK w.params) (.ref 209) = true; kernel_rfl
theorem mth_Placer_holds : Mth (DW w mean mg mb bl) 219 "holds" 216 := ⟨by show plainGet (Mine.hK w.params) 219 "holds" = true; kernel_rfl, by show findIn (Mine.hK w.params) (.ref 219) "holds" = _; kernel_rfl, by show isFn (Mine.hK w.params) (.ref 216) = true; kernel_rfl⟩
theorem ok_216 : okF (DW w mean mg mb bl) (.ref 216) := by show keepIn (Mine.hK w.params) (.ref 216) = true; kernel_rfl
theorem cls_Placer : makesIn (DW w mean mg mb bl).K 219 = true ∧ findIn (DW w mean mg mb bl).K (.ref 219) "__init__" = some (some (.ref 199)) ∧ typeIn (DW w mean mg mb bl).K (.ref 199) = some (.type "function") :=
  ⟨by show makesIn (Mine.hK w.params) 219 = true; kernel_rfl, by show findIn (Mine.hK w.params) (.ref 219) "__init__" = _; kernel_rfl, by show typeIn (Mine.hK w.params) (.ref 199) = _; kernel_rfl⟩
theorem ok_219 : okF (DW w mean mg mb bl) (.ref 219) := by show keepIn (Mine.hK w.params) (.ref 219) = true; kernel_rfl
theorem fld_Unions_above : Fld (DW w mean mg mb bl) 301 "above" := ⟨by show plainGet (Mine.hK w.params) 301 "above" = true; kernel_rfl, by show hasDictIn (Mine.hK w.params) 301 = true; kernel_rfl, none, by show findIn (Mine.hK w.params) (.ref 301) "above" = some none; kernel_rfl, by show noGet (Mine.hK w.params) none = true; kernel_rfl⟩
theorem sta_Unions_above : Sta (DW w mean mg mb bl) 301 "above" := ⟨by show findIn (Mine.hK w.params) (.ref 301) "__setattr__" = _; kernel_rfl, by show plainOver (Mine.hK w.params) 301 = true; kernel_rfl, by show takerIn (Mine.hK w.params) 301 "above" = _; kernel_rfl, by show hasDictIn (Mine.hK w.params) 301 = true; kernel_rfl⟩
theorem fld_Unions_lots : Fld (DW w mean mg mb bl) 301 "lots" := ⟨by show plainGet (Mine.hK w.params) 301 "lots" = true; kernel_rfl, by show hasDictIn (Mine.hK w.params) 301 = true; kernel_rfl, none, by show findIn (Mine.hK w.params) (.ref 301) "lots" = some none; kernel_rfl, by show noGet (Mine.hK w.params) none = true; kernel_rfl⟩
theorem sta_Unions_lots : Sta (DW w mean mg mb bl) 301 "lots" := ⟨by show findIn (Mine.hK w.params) (.ref 301) "__setattr__" = _; kernel_rfl, by show plainOver (Mine.hK w.params) 301 = true; kernel_rfl, by show takerIn (Mine.hK w.params) 301 "lots" = _; kernel_rfl, by show hasDictIn (Mine.hK w.params) 301 = true; kernel_rfl⟩
theorem fld_Unions_merged : Fld (DW w mean mg mb bl) 301 "merged" := ⟨by show plainGet (Mine.hK w.params) 301 "merged" = true; kernel_rfl, by show hasDictIn (Mine.hK w.params) 301 = true; kernel_rfl, none, by show findIn (Mine.hK w.params) (.ref 301) "merged" = some none; kernel_rfl, by show noGet (Mine.hK w.params) none = true; kernel_rfl⟩
theorem sta_Unions_merged : Sta (DW w mean mg mb bl) 301 "merged" := ⟨by show findIn (Mine.hK w.params) (.ref 301) "__setattr__" = _; kernel_rfl, by show plainOver (Mine.hK w.params) 301 = true; kernel_rfl, by show takerIn (Mine.hK w.params) 301 "merged" = _; kernel_rfl, by show hasDictIn (Mine.hK w.params) 301 = true; kernel_rfl⟩
theorem mth_Unions_make : Mth (DW w mean mg mb bl) 301 "make" 244 := ⟨by show plainGet (Mine.hK w.params) 301 "make" = true; kernel_rfl, by show findIn (Mine.hK w.params) (.ref 301) "make" = _; kernel_rfl, by show isFn (Mine.hK w.params) (.ref 244) = true; kernel_rfl⟩
theorem ok_244 : okF (DW w mean mg mb bl) (.ref 244) := by show keepIn (Mine.hK w.params) (.ref 244) = true; kernel_rfl
theorem mth_Unions_size : Mth (DW w mean mg mb bl) 301 "size" 251 := ⟨by show plainGet (Mine.hK w.params) 301 "size" = true; kernel_rfl, by show findIn (Mine.hK w.params) (.ref 301) "size" = _; kernel_rfl, by show isFn (Mine.hK w.params) (.ref 251) = true; kernel_rfl⟩
theorem ok_251 : okF (DW w mean mg mb bl) (.ref 251) := by show keepIn (Mine.hK w.params) (.ref 251) = true; kernel_rfl
theorem mth_Unions_find : Mth (DW w mean mg mb bl) 301 "find" 258 := ⟨by show plainGet (Mine.hK w.params) 301 "find" = true; kernel_rfl, by show findIn (Mine.hK w.params) (.ref 301) "find" = _; kernel_rfl, by show isFn (Mine.hK w.params) (.ref 258) = true; kernel_rfl⟩
theorem ok_258 : okF (DW w mean mg mb bl) (.ref 258) := by show keepIn (Mine.hK w.params) (.ref 258) = true; kernel_rfl
theorem mth_Unions_merge : Mth (DW w mean mg mb bl) 301 "merge" 265 := ⟨by show plainGet (Mine.hK w.params) 301 "merge" = true; kernel_rfl, by show findIn (Mine.hK w.params) (.ref 301) "merge" = _; kernel_rfl, by show isFn (Mine.hK w.params) (.ref 265) = true; kernel_rfl⟩
theorem ok_265 : okF (DW w mean mg mb bl) (.ref 265) := by show keepIn (Mine.hK w.params) (.ref 265) = true; kernel_rfl
theorem cls_Unions : makesIn (DW w mean mg mb bl).K 301 = true ∧ findIn (DW w mean mg mb bl).K (.ref 301) "__init__" = some (some (.ref 237)) ∧ typeIn (DW w mean mg mb bl).K (.ref 237) = some (.type "function") :=
  ⟨by show makesIn (Mine.hK w.params) 301 = true; kernel_rfl, by show findIn (Mine.hK w.params) (.ref 301) "__init__" = _; kernel_rfl, by show typeIn (Mine.hK w.params) (.ref 237) = _; kernel_rfl⟩
theorem ok_301 : okF (DW w mean mg mb bl) (.ref 301) := by show keepIn (Mine.hK w.params) (.ref 301) = true; kernel_rfl
theorem fld_Heap_bank : Fld (DW w mean mg mb bl) 433 "bank" := ⟨by show plainGet (Mine.hK w.params) 433 "bank" = true; kernel_rfl, by show hasDictIn (Mine.hK w.params) 433 = true; kernel_rfl, none, by show findIn (Mine.hK w.params) (.ref 433) "bank" = some none; kernel_rfl, by show noGet (Mine.hK w.params) none = true; kernel_rfl⟩
theorem sta_Heap_bank : Sta (DW w mean mg mb bl) 433 "bank" := ⟨by show findIn (Mine.hK w.params) (.ref 433) "__setattr__" = _; kernel_rfl, by show plainOver (Mine.hK w.params) 433 = true; kernel_rfl, by show takerIn (Mine.hK w.params) 433 "bank" = _; kernel_rfl, by show hasDictIn (Mine.hK w.params) 433 = true; kernel_rfl⟩
theorem sta_Heap_unions : Sta (DW w mean mg mb bl) 433 "unions" := ⟨by show findIn (Mine.hK w.params) (.ref 433) "__setattr__" = _; kernel_rfl, by show plainOver (Mine.hK w.params) 433 = true; kernel_rfl, by show takerIn (Mine.hK w.params) 433 "unions" = _; kernel_rfl, by show hasDictIn (Mine.hK w.params) 433 = true; kernel_rfl⟩
theorem sta_Heap_edges : Sta (DW w mean mg mb bl) 433 "edges" := ⟨by show findIn (Mine.hK w.params) (.ref 433) "__setattr__" = _; kernel_rfl, by show plainOver (Mine.hK w.params) 433 = true; kernel_rfl, by show takerIn (Mine.hK w.params) 433 "edges" = _; kernel_rfl, by show hasDictIn (Mine.hK w.params) 433 = true; kernel_rfl⟩
theorem sta_Heap_forest : Sta (DW w mean mg mb bl) 433 "forest" := ⟨by show findIn (Mine.hK w.params) (.ref 433) "__setattr__" = _; kernel_rfl, by show plainOver (Mine.hK w.params) 433 = true; kernel_rfl, by show takerIn (Mine.hK w.params) 433 "forest" = _; kernel_rfl, by show hasDictIn (Mine.hK w.params) 433 = true; kernel_rfl⟩
theorem sta_Heap_known : Sta (DW w mean mg mb bl) 433 "known" := ⟨by show findIn (Mine.hK w.params) (.ref 433) "__setattr__" = _; kernel_rfl, by show plainOver (Mine.hK w.params) 433 = true; kernel_rfl, by show takerIn (Mine.hK w.params) 433 "known" = _; kernel_rfl, by show hasDictIn (Mine.hK w.params) 433 = true; kernel_rfl⟩
theorem sta_Heap_above : Sta (DW w mean mg mb bl) 433 "above" := ⟨by show findIn (Mine.hK w.params) (.ref 433) "__setattr__" = _; kernel_rfl, by show plainOver (Mine.hK w.params) 433 = true; kernel_rfl, by show takerIn (Mine.hK w.params) 433 "above" = _; kernel_rfl, by show hasDictIn (Mine.hK w.params) 433 = true; kernel_rfl⟩
theorem sta_Heap_waiting : Sta (DW w mean mg mb bl) 433 "waiting" := ⟨by show findIn (Mine.hK w.params) (.ref 433) "__setattr__" = _; kernel_rfl, by show plainOver (Mine.hK w.params) 433 = true; kernel_rfl, by show takerIn (Mine.hK w.params) 433 "waiting" = _; kernel_rfl, by show hasDictIn (Mine.hK w.params) 433 = true; kernel_rfl⟩
theorem sta_Heap_backs : Sta (DW w mean mg mb bl) 433 "backs" := ⟨by show findIn (Mine.hK w.params) (.ref 433) "__setattr__" = _; kernel_rfl, by show plainOver (Mine.hK w.params) 433 = true; kernel_rfl, by show takerIn (Mine.hK w.params) 433 "backs" = _; kernel_rfl, by show hasDictIn (Mine.hK w.params) 433 = true; kernel_rfl⟩
theorem mth_Heap_size : Mth (DW w mean mg mb bl) 433 "size" 326 := ⟨by show plainGet (Mine.hK w.params) 433 "size" = true; kernel_rfl, by show findIn (Mine.hK w.params) (.ref 433) "size" = _; kernel_rfl, by show isFn (Mine.hK w.params) (.ref 326) = true; kernel_rfl⟩
theorem ok_326 : okF (DW w mean mg mb bl) (.ref 326) := by show keepIn (Mine.hK w.params) (.ref 326) = true; kernel_rfl
theorem mth_Heap_node : Mth (DW w mean mg mb bl) 433 "node" 331 := ⟨by show plainGet (Mine.hK w.params) 433 "node" = true; kernel_rfl, by show findIn (Mine.hK w.params) (.ref 433) "node" = _; kernel_rfl, by show isFn (Mine.hK w.params) (.ref 331) = true; kernel_rfl⟩
theorem ok_331 : okF (DW w mean mg mb bl) (.ref 331) := by show keepIn (Mine.hK w.params) (.ref 331) = true; kernel_rfl
theorem mth_Heap_add : Mth (DW w mean mg mb bl) 433 "add" 336 := ⟨by show plainGet (Mine.hK w.params) 433 "add" = true; kernel_rfl, by show findIn (Mine.hK w.params) (.ref 433) "add" = _; kernel_rfl, by show isFn (Mine.hK w.params) (.ref 336) = true; kernel_rfl⟩
theorem ok_336 : okF (DW w mean mg mb bl) (.ref 336) := by show keepIn (Mine.hK w.params) (.ref 336) = true; kernel_rfl
theorem mth_Heap_look_at : Mth (DW w mean mg mb bl) 433 "look_at" 348 := ⟨by show plainGet (Mine.hK w.params) 433 "look_at" = true; kernel_rfl, by show findIn (Mine.hK w.params) (.ref 433) "look_at" = _; kernel_rfl, by show isFn (Mine.hK w.params) (.ref 348) = true; kernel_rfl⟩
theorem ok_348 : okF (DW w mean mg mb bl) (.ref 348) := by show keepIn (Mine.hK w.params) (.ref 348) = true; kernel_rfl
theorem mth_Heap_find : Mth (DW w mean mg mb bl) 433 "find" 355 := ⟨by show plainGet (Mine.hK w.params) 433 "find" = true; kernel_rfl, by show findIn (Mine.hK w.params) (.ref 433) "find" = _; kernel_rfl, by show isFn (Mine.hK w.params) (.ref 355) = true; kernel_rfl⟩
theorem ok_355 : okF (DW w mean mg mb bl) (.ref 355) := by show keepIn (Mine.hK w.params) (.ref 355) = true; kernel_rfl
theorem mth_Heap_merge : Mth (DW w mean mg mb bl) 433 "merge" 369 := ⟨by show plainGet (Mine.hK w.params) 433 "merge" = true; kernel_rfl, by show findIn (Mine.hK w.params) (.ref 433) "merge" = _; kernel_rfl, by show isFn (Mine.hK w.params) (.ref 369) = true; kernel_rfl⟩
theorem ok_369 : okF (DW w mean mg mb bl) (.ref 369) := by show keepIn (Mine.hK w.params) (.ref 369) = true; kernel_rfl
theorem mth_Heap_join : Mth (DW w mean mg mb bl) 433 "join" 376 := ⟨by show plainGet (Mine.hK w.params) 433 "join" = true; kernel_rfl, by show findIn (Mine.hK w.params) (.ref 433) "join" = _; kernel_rfl, by show isFn (Mine.hK w.params) (.ref 376) = true; kernel_rfl⟩
theorem ok_376 : okF (DW w mean mg mb bl) (.ref 376) := by show keepIn (Mine.hK w.params) (.ref 376) = true; kernel_rfl
theorem mth_Heap_settle : Mth (DW w mean mg mb bl) 433 "settle" 383 := ⟨by show plainGet (Mine.hK w.params) 433 "settle" = true; kernel_rfl, by show findIn (Mine.hK w.params) (.ref 433) "settle" = _; kernel_rfl, by show isFn (Mine.hK w.params) (.ref 383) = true; kernel_rfl⟩
theorem ok_383 : okF (DW w mean mg mb bl) (.ref 383) := by show keepIn (Mine.hK w.params) (.ref 383) = true; kernel_rfl
theorem mth_Heap_is_settled : Mth (DW w mean mg mb bl) 433 "is_settled" 390 := ⟨by show plainGet (Mine.hK w.params) 433 "is_settled" = true; kernel_rfl, by show findIn (Mine.hK w.params) (.ref 433) "is_settled" = _; kernel_rfl, by show isFn (Mine.hK w.params) (.ref 390) = true; kernel_rfl⟩
theorem ok_390 : okF (DW w mean mg mb bl) (.ref 390) := by show keepIn (Mine.hK w.params) (.ref 390) = true; kernel_rfl
theorem mth_Heap_seek : Mth (DW w mean mg mb bl) 433 "seek" 423 := ⟨by show plainGet (Mine.hK w.params) 433 "seek" = true; kernel_rfl, by show findIn (Mine.hK w.params) (.ref 433) "seek" = _; kernel_rfl, by show isFn (Mine.hK w.params) (.ref 423) = true; kernel_rfl⟩
theorem ok_423 : okF (DW w mean mg mb bl) (.ref 423) := by show keepIn (Mine.hK w.params) (.ref 423) = true; kernel_rfl
theorem cls_Heap : makesIn (DW w mean mg mb bl).K 433 = true ∧ findIn (DW w mean mg mb bl).K (.ref 433) "__init__" = some (some (.ref 319)) ∧ typeIn (DW w mean mg mb bl).K (.ref 319) = some (.type "function") :=
  ⟨by show makesIn (Mine.hK w.params) 433 = true; kernel_rfl, by show findIn (Mine.hK w.params) (.ref 433) "__init__" = _; kernel_rfl, by show typeIn (Mine.hK w.params) (.ref 319) = _; kernel_rfl⟩
theorem ok_433 : okF (DW w mean mg mb bl) (.ref 433) := by show keepIn (Mine.hK w.params) (.ref 433) = true; kernel_rfl
theorem gl_is_op : nsIn (DW w mean mg mb bl).K mainGlobals "is_op" = some (some (.ref 67)) := by show nsIn (Mine.hK w.params) mainGlobals "is_op" = _; kernel_rfl
theorem ok_67 : okF (DW w mean mg mb bl) (.ref 67) := by show keepIn (Mine.hK w.params) (.ref 67) = true; kernel_rfl
theorem gl_is_variable : nsIn (DW w mean mg mb bl).K mainGlobals "is_variable" = some (some (.ref 74)) := by show nsIn (Mine.hK w.params) mainGlobals "is_variable" = _; kernel_rfl
theorem ok_74 : okF (DW w mean mg mb bl) (.ref 74) := by show keepIn (Mine.hK w.params) (.ref 74) = true; kernel_rfl
theorem gl_law_turn : nsIn (DW w mean mg mb bl).K mainGlobals "_law_turn" = some (some (.ref 444)) := by show nsIn (Mine.hK w.params) mainGlobals "_law_turn" = _; kernel_rfl
theorem ok_444 : okF (DW w mean mg mb bl) (.ref 444) := by show keepIn (Mine.hK w.params) (.ref 444) = true; kernel_rfl
theorem gl_law_homes : nsIn (DW w mean mg mb bl).K mainGlobals "_law_homes" = some (some (.ref 449)) := by show nsIn (Mine.hK w.params) mainGlobals "_law_homes" = _; kernel_rfl
theorem ok_449 : okF (DW w mean mg mb bl) (.ref 449) := by show keepIn (Mine.hK w.params) (.ref 449) = true; kernel_rfl
theorem gl_law_pattern : nsIn (DW w mean mg mb bl).K mainGlobals "_law_pattern" = some (some (.ref 456)) := by show nsIn (Mine.hK w.params) mainGlobals "_law_pattern" = _; kernel_rfl
theorem ok_456 : okF (DW w mean mg mb bl) (.ref 456) := by show keepIn (Mine.hK w.params) (.ref 456) = true; kernel_rfl
theorem gl_law_sought : nsIn (DW w mean mg mb bl).K mainGlobals "_law_sought" = some (some (.ref 461)) := by show nsIn (Mine.hK w.params) mainGlobals "_law_sought" = _; kernel_rfl
theorem ok_461 : okF (DW w mean mg mb bl) (.ref 461) := by show keepIn (Mine.hK w.params) (.ref 461) = true; kernel_rfl
theorem gl_law_laid : nsIn (DW w mean mg mb bl).K mainGlobals "_law_laid" = some (some (.ref 468)) := by show nsIn (Mine.hK w.params) mainGlobals "_law_laid" = _; kernel_rfl
theorem ok_468 : okF (DW w mean mg mb bl) (.ref 468) := by show keepIn (Mine.hK w.params) (.ref 468) = true; kernel_rfl
theorem gl_law_is_right : nsIn (DW w mean mg mb bl).K mainGlobals "_law_is_right" = some (some (.ref 473)) := by show nsIn (Mine.hK w.params) mainGlobals "_law_is_right" = _; kernel_rfl
theorem ok_473 : okF (DW w mean mg mb bl) (.ref 473) := by show keepIn (Mine.hK w.params) (.ref 473) = true; kernel_rfl
theorem gl_Bank : nsIn (DW w mean mg mb bl).K mainGlobals "Bank" = some (some (.ref 181)) := by show nsIn (Mine.hK w.params) mainGlobals "Bank" = _; kernel_rfl
theorem gl_Placer : nsIn (DW w mean mg mb bl).K mainGlobals "Placer" = some (some (.ref 219)) := by show nsIn (Mine.hK w.params) mainGlobals "Placer" = _; kernel_rfl
theorem gl_Unions : nsIn (DW w mean mg mb bl).K mainGlobals "Unions" = some (some (.ref 301)) := by show nsIn (Mine.hK w.params) mainGlobals "Unions" = _; kernel_rfl
theorem gl_Heap : nsIn (DW w mean mg mb bl).K mainGlobals "Heap" = some (some (.ref 433)) := by show nsIn (Mine.hK w.params) mainGlobals "Heap" = _; kernel_rfl
theorem bi_len : nsIn (DW w mean mg mb bl).K mainGlobals "len" = some none := by show nsIn (Mine.hK w.params) mainGlobals "len" = _; kernel_rfl
theorem bi_tuple : nsIn (DW w mean mg mb bl).K mainGlobals "tuple" = some none := by show nsIn (Mine.hK w.params) mainGlobals "tuple" = _; kernel_rfl
theorem bi_list : nsIn (DW w mean mg mb bl).K mainGlobals "list" = some none := by show nsIn (Mine.hK w.params) mainGlobals "list" = _; kernel_rfl
theorem bi_range : nsIn (DW w mean mg mb bl).K mainGlobals "range" = some none := by show nsIn (Mine.hK w.params) mainGlobals "range" = _; kernel_rfl
theorem bi_enumerate : nsIn (DW w mean mg mb bl).K mainGlobals "enumerate" = some none := by show nsIn (Mine.hK w.params) mainGlobals "enumerate" = _; kernel_rfl
theorem bi_set : nsIn (DW w mean mg mb bl).K mainGlobals "set" = some none := by show nsIn (Mine.hK w.params) mainGlobals "set" = _; kernel_rfl
theorem bi_sorted : nsIn (DW w mean mg mb bl).K mainGlobals "sorted" = some none := by show nsIn (Mine.hK w.params) mainGlobals "sorted" = _; kernel_rfl
theorem bi_sum : nsIn (DW w mean mg mb bl).K mainGlobals "sum" = some none := by show nsIn (Mine.hK w.params) mainGlobals "sum" = _; kernel_rfl
theorem bi_max : nsIn (DW w mean mg mb bl).K mainGlobals "max" = some none := by show nsIn (Mine.hK w.params) mainGlobals "max" = _; kernel_rfl
theorem bi_min : nsIn (DW w mean mg mb bl).K mainGlobals "min" = some none := by show nsIn (Mine.hK w.params) mainGlobals "min" = _; kernel_rfl
theorem bi_int : nsIn (DW w mean mg mb bl).K mainGlobals "int" = some none := by show nsIn (Mine.hK w.params) mainGlobals "int" = _; kernel_rfl
end
inductive E2 {α β : Type} (p : α → β → Prop) : Prop | mk (a : α) (b : β) (h : p a b)
inductive E3 {α β γ : Type} (p : α → β → γ → Prop) : Prop | mk (a : α) (b : β) (c : γ) (h : p a b c)
inductive E4 {α β γ δ : Type} (p : α → β → γ → δ → Prop) : Prop | mk (a : α) (b : β) (c : γ) (d : δ) (h : p a b c d)
inductive C4 (a1 a2 a3 a4 : Prop) : Prop | mk (h1 : a1) (h2 : a2) (h3 : a3) (h4 : a4)
inductive C5 (a1 a2 a3 a4 a5 : Prop) : Prop | mk (h1 : a1) (h2 : a2) (h3 : a3) (h4 : a4) (h5 : a5)
inductive C7 (a1 a2 a3 a4 a5 a6 a7 : Prop) : Prop | mk (h1 : a1) (h2 : a2) (h3 : a3) (h4 : a4) (h5 : a5) (h6 : a6) (h7 : a7)
inductive C8 (a1 a2 a3 a4 a5 a6 a7 a8 : Prop) : Prop | mk (h1 : a1) (h2 : a2) (h3 : a3) (h4 : a4) (h5 : a5) (h6 : a6) (h7 : a7) (h8 : a8)
inductive C9 (a1 a2 a3 a4 a5 a6 a7 a8 a9 : Prop) : Prop | mk (h1 : a1) (h2 : a2) (h3 : a3) (h4 : a4) (h5 : a5) (h6 : a6) (h7 : a7) (h8 : a8) (h9 : a9)
inductive C10 (a1 a2 a3 a4 a5 a6 a7 a8 a9 a10 : Prop) : Prop | mk (h1 : a1) (h2 : a2) (h3 : a3) (h4 : a4) (h5 : a5) (h6 : a6) (h7 : a7) (h8 : a8) (h9 : a9) (h10 : a10)
inductive C13 (a1 a2 a3 a4 a5 a6 a7 a8 a9 a10 a11 a12 a13 : Prop) : Prop | mk (h1 : a1) (h2 : a2) (h3 : a3) (h4 : a4) (h5 : a5) (h6 : a6) (h7 : a7) (h8 : a8) (h9 : a9) (h10 : a10) (h11 : a11) (h12 : a12) (h13 : a13)
inductive C15 (a1 a2 a3 a4 a5 a6 a7 a8 a9 a10 a11 a12 a13 a14 a15 : Prop) : Prop | mk (h1 : a1) (h2 : a2) (h3 : a3) (h4 : a4) (h5 : a5) (h6 : a6) (h7 : a7) (h8 : a8) (h9 : a9) (h10 : a10) (h11 : a11) (h12 : a12) (h13 : a13) (h14 : a14) (h15 : a15)
inductive C17 (a1 a2 a3 a4 a5 a6 a7 a8 a9 a10 a11 a12 a13 a14 a15 a16 a17 : Prop) : Prop | mk (h1 : a1) (h2 : a2) (h3 : a3) (h4 : a4) (h5 : a5) (h6 : a6) (h7 : a7) (h8 : a8) (h9 : a9) (h10 : a10) (h11 : a11) (h12 : a12) (h13 : a13) (h14 : a14) (h15 : a15) (h16 : a16) (h17 : a17)
inductive C20 (a1 a2 a3 a4 a5 a6 a7 a8 a9 a10 a11 a12 a13 a14 a15 a16 a17 a18 a19 a20 : Prop) : Prop | mk (h1 : a1) (h2 : a2) (h3 : a3) (h4 : a4) (h5 : a5) (h6 : a6) (h7 : a7) (h8 : a8) (h9 : a9) (h10 : a10) (h11 : a11) (h12 : a12) (h13 : a13) (h14 : a14) (h15 : a15) (h16 : a16) (h17 : a17) (h18 : a18) (h19 : a19) (h20 : a20)
noncomputable def tg : MO → Nat × Nat
  | .lst g _ => g
  | .dS g _ _ => g
  | .dI g _ _ => g
  | .dT g _ _ => g
  | .tup _ => (0, 1)
  | .inst _ _ => (0, 2)
  | .sI _ => (0, 3)
  | .rng _ _ => (0, 4)
  | .enm _ => (0, 5)
theorem upd_old {H : MH} {a b : Addr} {oa ob o' : MO} (hb : H b = some ob) (ha : H a = some oa) (hne : tg ob ≠ tg oa) : upd H a o' b = some ob := by
  rw [upd_ne fun q => by subst q; rw [ha] at hb; cases hb; exact hne rfl]; exact hb
theorem upd_fresh {H : MH} {a b : Addr} {ob o' : MO} (hb : H b = some ob) (ha : H a = none) : upd H a o' b = some ob := le_upd ha _ _ hb
theorem ATS.fin {D : Wd} {d : Nat} {e : Env} {ρ : List (Str × V)} {H : MH} {P : List (Str × V) → MH → Prop} (h : P ρ H) : ATS D d e ρ H [] [] P := h
theorem EVL.one {D : Wd} {d : Nat} {e : Env} {ρ : List (Str × V)} {H : MH} {x : Expr} {r : List Expr} {P : List V → MH → Prop} (h : EV D d e ρ H x fun v H' => EVL D d e ρ H' r fun vs H'' => P (v :: vs) H'') : EVL D d e ρ H (x :: r) P := h
theorem lk_hd {x : Str} {v : V} {r : List (Str × V)} : lk ((x, v) :: r) x = some v := if_pos rfl
theorem lk_tl {x y : Str} {u v : V} {r : List (Str × V)} (h : x ≠ y) (hr : lk r x = some v) : lk ((y, u) :: r) x = some v := (if_neg h).trans hr
theorem lk_no {x y : Str} {u : V} {r : List (Str × V)} (h : x ≠ y) (hr : lk r x = none) : lk ((y, u) :: r) x = none := (if_neg h).trans hr
theorem ne_of_fst {p q : Nat × Nat} (h : p.1 ≠ q.1) : p ≠ q := fun e => h (by rw [e])
theorem EVL.nil {D : Wd} {d : Nat} {e : Env} {ρ : List (Str × V)} {H : MH} {P : List V → MH → Prop} (h : P [] H) : EVL D d e ρ H [] P := h
theorem EP.some {D : Wd} {d : Nat} {e : Env} {ρ : List (Str × V)} {H : MH} {x : Expr} {P : V → MH → Prop} (h : EV D d e ρ H x P) : EP D d e ρ H (Option.some x) P := h
theorem EP.none {D : Wd} {d : Nat} {e : Env} {ρ : List (Str × V)} {H : MH} {P : V → MH → Prop} (h : P .none H) : EP D d e ρ H Option.none P := h
theorem upd_fr {H : MH} {a b : Addr} {ob o' : MO} (ha : H a = none) (hb : H b = some ob) : upd H a o' b = some ob := upd_fresh hb ha
theorem ok_oth {D : Wd} {v : Value} (h : okF D (.oth v)) : okF D (.oth v) := h
theorem ne_of_zero {o : MO} {p : Nat × Nat} (h : (tg o).1 = 0) (hp : p.1 ≠ 0) : tg o ≠ p := fun e => hp (by rw [← e]; exact h)
theorem tgn {p q : Nat × Nat} (h : (Nat.beq p.1 q.1 && Nat.beq p.2 q.2) = false) : p ≠ q := fun e => by
  subst e
  have r : ∀ n, Nat.beq n n = true := fun n => by induction n with | zero => rfl | succ n ih => exact ih
  rw [r, r] at h
  cases h
theorem boot_len : bootBuiltins "len" = some (.builtin "len") := by decide +kernel
theorem boot_tuple : bootBuiltins "tuple" = some (.type "tuple") := by decide +kernel
theorem boot_list : bootBuiltins "list" = some (.type "list") := by decide +kernel
theorem boot_range : bootBuiltins "range" = some (.type "range") := by decide +kernel
theorem boot_enumerate : bootBuiltins "enumerate" = some (.type "enumerate") := by decide +kernel
theorem boot_set : bootBuiltins "set" = some (.type "set") := by decide +kernel
theorem boot_sorted : bootBuiltins "sorted" = some (.builtin "sorted") := by decide +kernel
theorem boot_sum : bootBuiltins "sum" = some (.builtin "sum") := by decide +kernel
theorem boot_max : bootBuiltins "max" = some (.builtin "max") := by decide +kernel
theorem boot_min : bootBuiltins "min" = some (.builtin "min") := by decide +kernel
theorem boot_int : bootBuiltins "int" = some (.type "int") := by decide +kernel
end Mine
namespace Mine
section
variable {D : Wd} {d : Nat} {e : Env} {ρ : List (Str × V)} {H : MH}
theorem GI.listLast {a : Addr} {g : Nat × Nat} {vs : List V} {v : V} {P : V → MH → Prop} (ha : H a = some (.lst g (vs ++ [v]))) (hp : P v H) : GI D d H (.ref a) (.int (-1)) P := fun u w hu hw => by
  have := er_ref hu; subst this
  obtain ⟨t, rfl⟩ := er_int hw
  exact fun A h₀ L m hid s Q hA hV F X kk => by
    obtain ⟨its, hl, hi⟩ := X.list ha
    have hsz : its.size = vs.length + 1 := by
      have := congrArg List.length hi
      rw [List.length_map, Array.length_toList, List.length_append] at this
      simpa using this
    obtain ⟨y, hy, hyv⟩ := its_get (k := vs.length) (v := v) hi (by simp)
    exact PySem.wpAny_getItem_list_neg hl (by decide) (by rw [hsz]; omega) (by decide) (by rw [hsz]; rw [show ((-1 : Int) + ((vs.length + 1 : Nat) : Int)).toNat = vs.length by omega]; exact hy) (kk y H s.heap s.toks (by show P (er y) H; rw [hyv]; exact hp) F X)
theorem SB.listLast {value slice : Expr} {a : Addr} {g : Nat × Nat} {vs : List V} {v : V} {P : V → MH → Prop} (ha : H a = some (.lst g (vs ++ [v]))) (hs : plainS slice = true) (hp : P v H) : SB D d H value slice (.ref a) (.int (-1)) P := fun u w hu hw => by
  have := er_ref hu; subst this
  obtain ⟨t, rfl⟩ := er_int hw
  exact fun A h₀ L m hid s Q hA hV F X kk => by
    obtain ⟨its, hl, hi⟩ := X.list ha
    exact tail_any hl.typeIs slot_list_getitem.lookup (GI.listLast ha hp (.ref a) (.int (-1) t) rfl rfl A h₀ L m hid s Q hA hV F X kk) (subscripted_plain hs _ _)
theorem CL.tupleTup {a : Addr} {vs : List V} {P : V → MH → Prop} (ha : H a = some (.tup vs)) (hp : P (.ref a) H) : CL D d H (.oth (.type "tuple")) [.ref a] P := fun uf us huf hus A h₀ L m hid s Q hA hV F X k => by
  have := er_oth huf; subst this
  obtain ⟨x, rfl, hx⟩ := args1 hus
  have := er_ref hx; subst this
  obtain ⟨its, hl, hi⟩ := X.tup ha
  exact call_tuple_same hl (k (.ref a) H s.heap s.toks hp F X)
end
end Mine
namespace Mine
theorem look_tot {s : St} {pairs : List (Nat × Nat)} {n : Nat} (I : Inv s pairs [n]) (hn : n < s.rows.length) : (s.look n).tot = s.tot := by
  unfold St.look
  split
  · rfl
  · split
    · rename_i r hr k hk
      unfold St.unite
      split
      · rfl
      · rename_i q
        obtain ⟨h1, h2, h3, h4⟩ := unite_facts I (known_lt I hk) hn q
        exact (phi_join I h1 h2 h3 h4).1
    · rfl
theorem unite_tot {s : St} {pairs : List (Nat × Nat)} {todo : List Nat} {a b : Nat} (I : Inv s pairs todo) (ha : a < s.rows.length) (hb : b < s.rows.length) : (s.unite a b).tot = s.tot ∧ (s.unite a b).rows = s.rows ∧ (s.unite a b).waiting.length ≤ s.waiting.length + s.tot := by
  unfold St.unite
  split
  · exact ⟨rfl, rfl, Nat.le_add_right _ _⟩
  · rename_i q
    obtain ⟨h1, h2, h3, h4⟩ := unite_facts I ha hb q
    obtain ⟨p1, _, p3, _⟩ := phi_join I h1 h2 h3 h4
    refine ⟨p1, rfl, ?_⟩
    show (s.waiting ++ s.users _).length ≤ _
    rw [List.length_append]; omega
theorem sum_ind : ∀ {l L : List Nat}, l.Nodup → (l.map fun k => if k ∈ L then 1 else 0).sum ≤ L.length
  | [], L, _ => Nat.zero_le _
  | a :: r, L, h => by
    rw [List.nodup_cons] at h
    rw [List.map_cons, List.sum_cons]
    by_cases q : a ∈ L
    · rw [if_pos q]
      have ih := sum_ind (l := r) (L := L.erase a) h.2
      have e : (r.map fun k => if k ∈ L.erase a then 1 else 0) = r.map fun k => if k ∈ L then 1 else 0 := List.map_congr_left fun k hk => by
        have hka : k ≠ a := fun w => h.1 (w ▸ hk)
        simp only [List.mem_erase_of_ne hka]
      rw [e] at ih
      have := List.length_erase_of_mem q
      have := List.length_pos_of_mem q
      omega
    · rw [if_neg q, Nat.zero_add]
      exact sum_ind h.2
theorem sum_add2 (f g : Nat → Nat) : ∀ l : List Nat, (l.map fun k => f k + g k).sum = (l.map f).sum + (l.map g).sum
  | [] => rfl
  | a :: r => by simp [sum_add2 f g r]; omega
theorem grow_tot {s : St} {pairs : List (Nat × Nat)} {r : Row} (I : Inv s pairs []) : (s.grow r).tot ≤ s.tot + r.2.length := by
  have hroots : (s.grow r).roots = s.roots ++ [s.rows.length] := by
    unfold St.roots
    show (List.range (s.rows ++ [r]).length).filter _ = _
    rw [List.length_append, List.length_singleton, List.range_succ, List.filter_append]
    have e : (fun i => decide ((s.grow r).rt i = i)) = fun i => decide (s.rt i = i) := funext fun i => by rw [rt_grow]
    have h : s.rt s.rows.length = s.rows.length := by
      refine root_ge ?_
      rw [List.getD_eq_getElem?_getD, List.getElem?_eq_none (by rw [I.len]; exact Nat.le_refl _)]
      exact Nat.lt_irrefl _
    rw [e]
    simp [h]
  unfold St.tot
  rw [hroots, List.map_append, List.sum_append]
  have h2 : (([s.rows.length] : List Nat).map fun i => ((s.grow r).users i).length).sum = 0 := by
    simp [St.grow, I.len]
  rw [h2, Nat.add_zero]
  have h3 : (s.roots.map fun i => ((s.grow r).users i).length) = s.roots.map fun i => (s.users i).length + if i ∈ r.2.map s.rt then 1 else 0 := List.map_congr_left fun i hi => by
    have hlt := (mem_roots.mp hi).1
    show (if i = s.par.length then [] else if i ∈ r.2.map s.rt then s.users i ++ [s.par.length] else s.users i).length = _
    rw [if_neg (by rw [I.len]; omega)]
    by_cases q : i ∈ r.2.map s.rt
    · rw [if_pos q, if_pos q, List.length_append]; rfl
    · rw [if_neg q, if_neg q]; rfl
  rw [h3, sum_add2]
  have := sum_ind (L := r.2.map s.rt) (roots_nodup s)
  rw [List.length_map] at this
  omega
theorem add_tot {s : St} {pairs : List (Nat × Nat)} {r : Row} (S : Settled s pairs) (hk : ∀ k ∈ r.2, k < s.rows.length) : (s.add r).tot ≤ s.tot + r.2.length := by
  unfold St.add
  by_cases q : r ∈ s.rows
  · rw [if_pos q]; exact Nat.le_add_right _ _
  · rw [if_neg q]
    obtain ⟨I, T, hw⟩ := S
    have J := I.grow q hk
    have hlt : s.rows.length < (s.grow r).rows.length := by show _ < (s.rows ++ [r]).length; simp
    rw [look_tot J hlt]
    exact grow_tot I
theorem roots_le (s : St) : s.roots.length ≤ s.rows.length := by
  unfold St.roots
  have := List.length_filter_le (fun i => decide (s.rt i = i)) (List.range s.rows.length)
  rw [List.length_range] at this
  exact this
theorem phi_le (s : St) : s.phi ≤ s.waiting.length + s.rows.length * s.tot := by
  unfold St.phi
  have := Nat.mul_le_mul_right s.tot (roots_le s)
  omega
end Mine
namespace Mine
inductive Pat where
  | leaf (x : Str)
  | un (p : Pat)
  | bin (p q : Pat)
noncomputable def LeafOk (x : Str) : Prop := x = "?x" ∨ x = "?y" ∨ x = "a" ∨ x = "b" ∨ x = "d"
noncomputable def Pat.ok : Pat → Prop
  | .leaf x => LeafOk x
  | .un p => p.ok
  | .bin p q => p.ok ∧ q.ok
noncomputable def Pat.depth : Pat → Nat
  | .leaf _ => 0
  | .un p => p.depth + 1
  | .bin p q => max p.depth q.depth + 1
noncomputable def Pat.nodes : Pat → Nat
  | .leaf _ => 1
  | .un p => p.nodes + 1
  | .bin p q => p.nodes + q.nodes + 1
theorem Pat.nodes_le : ∀ (p : Pat), p.nodes + 1 ≤ 2 ^ (p.depth + 1)
  | .leaf _ => by simp [Pat.nodes, Pat.depth]
  | .un p => by
    have := Pat.nodes_le p
    simp only [Pat.nodes, Pat.depth]
    rw [Nat.pow_succ]
    omega
  | .bin p q => by
    have h1 := Pat.nodes_le p
    have h2 := Pat.nodes_le q
    have m1 : 2 ^ (p.depth + 1) ≤ 2 ^ (max p.depth q.depth + 1) := Nat.pow_le_pow_right (by decide) (by omega)
    have m2 : 2 ^ (q.depth + 1) ≤ 2 ^ (max p.depth q.depth + 1) := Nat.pow_le_pow_right (by decide) (by omega)
    simp only [Pat.nodes, Pat.depth]
    rw [Nat.pow_succ 2 (max p.depth q.depth + 1)]
    omega
noncomputable def oV : Option Nat → Int
  | none => -1
  | some k => (k : Int)
theorem oV_inj {a b : Option Nat} (h : oV a = oV b) : a = b := by
  cases a <;> cases b <;> simp only [oV] at h
  · rfl
  · omega
  · omega
  · congr 1; omega
noncomputable def seekS (s : St) (op : Str) (ks : List Nat) : Option Nat := (s.known (keyOf op (ks.map s.rt))).map s.rt
noncomputable def cls (s : St) (tab : Str → Option Nat) : Pat → Option Nat
  | .leaf x => match tab x with | some i => some (s.rt i) | none => seekS s x []
  | .un p => match cls s tab p with | none => none | some k => seekS s "f" [k]
  | .bin p q => match cls s tab p, cls s tab q with | some k, some m => seekS s "g" [k, m] | _, _ => none
noncomputable def hit (rows : List Row) (h : Nat → Nat) (op : Str) (ks : List Int) (n : Nat) : Bool := match rows[n]? with
  | some r => decide (r.1 = op) && decide ((r.2.map fun k => (h k : Int)) = ks)
  | none => false
noncomputable def findR (rows : List Row) (h : Nat → Nat) (op : Str) (ks : List Int) : Option Nat := (((List.range rows.length).filter (hit rows h op ks)).map h).head?
noncomputable def sought (rows : List Row) (h : Nat → Nat) (tab : Str → Option Nat) : Pat → Option Nat
  | .leaf x => match tab x with | some i => some (h i) | none => findR rows h x []
  | .un p => findR rows h "f" [oV (sought rows h tab p)]
  | .bin p q => findR rows h "g" [oV (sought rows h tab p), oV (sought rows h tab q)]
theorem hit_iff {rows : List Row} {h : Nat → Nat} {op : Str} {ks : List Int} {n : Nat} : hit rows h op ks n = true ↔ ∃ r, rows[n]? = some r ∧ r.1 = op ∧ (r.2.map fun k => (h k : Int)) = ks := by
  unfold hit
  cases rows[n]? with
  | none => simp
  | some r => simp
theorem cast_inj {a b : List Nat} (h : a.map (fun (k : Nat) => (k : Int)) = b.map fun (k : Nat) => (k : Int)) : a = b := by
  induction a generalizing b with
  | nil => cases b with
    | nil => rfl
    | cons _ _ => cases h
  | cons x r ih => cases b with
    | nil => cases h
    | cons y r' =>
      rw [List.map_cons, List.map_cons] at h
      injection h with h1 h2
      rw [Int.ofNat.inj h1, ih h2]
theorem head_filter_none {p : Nat → Bool} {h : Nat → Nat} {l : List Nat} (hn : ∀ x ∈ l, p x = false) : ((l.filter p).map h).head? = none := by
  have : l.filter p = [] := List.filter_eq_nil_iff.mpr fun x hx => by rw [hn x hx]; decide
  rw [this]; rfl
theorem head_filter_some {p : Nat → Bool} {h : Nat → Nat} {l : List Nat} {v : Nat} (hex : ∃ x ∈ l, p x = true) (hv : ∀ x ∈ l, p x = true → h x = v) : ((l.filter p).map h).head? = some v := by
  cases q : l.filter p with
  | nil =>
    obtain ⟨x, hx, hp⟩ := hex
    have : x ∈ l.filter p := List.mem_filter.mpr ⟨hx, hp⟩
    rw [q] at this; cases this
  | cons x r =>
    have : x ∈ l.filter p := by rw [q]; exact List.mem_cons_self
    obtain ⟨h1, h2⟩ := List.mem_filter.mp this
    simp [hv x h1 h2]
theorem findR_neg {rows : List Row} {h : Nat → Nat} {op : Str} {ks : List Int} (hn : (-1 : Int) ∈ ks) : findR rows h op ks = none := by
  unfold findR
  refine head_filter_none fun n _ => ?_
  cases q : hit rows h op ks n with
  | false => rfl
  | true =>
    obtain ⟨r, _, _, h3⟩ := hit_iff.mp q
    rw [← h3] at hn
    obtain ⟨k, _, hk⟩ := List.mem_map.mp hn
    omega
theorem findR_eq {s : St} {pairs : List (Nat × Nat)} {h : Nat → Nat} (S : Settled s pairs) (hh : ∀ i, i < s.rows.length → h i = s.rt i) {op : Str} {ks : List Nat} (hks : ∀ k ∈ ks, k < s.rows.length) (hrep : ks.map s.rt = ks) :
    findR s.rows h op (ks.map fun (k : Nat) => (k : Int)) = seekS s op ks := by
  obtain ⟨f1, f2⟩ := S.seek (op := op) hks hrep
  have I := S.1
  have hmap : ∀ {n : Nat} {r : Row}, s.rows[n]? = some r → (r.2.map fun k => (h k : Int)) = (r.2.map s.rt).map fun (k : Nat) => (k : Int) := fun {n r} hr => by
    rw [List.map_map]
    exact List.map_congr_left fun x hx => by show ((h x : Nat) : Int) = ((s.rt x : Nat) : Int); rw [hh x (kids_lt I hr x hx)]
  unfold findR seekS
  rw [hrep]
  cases q : s.known (keyOf op ks) with
  | none =>
    refine head_filter_none fun n _ => ?_
    cases z : hit s.rows h op (ks.map fun (k : Nat) => (k : Int)) n with
    | false => rfl
    | true =>
      obtain ⟨r, h1, h2, h3⟩ := hit_iff.mp z
      rw [hmap h1] at h3
      obtain ⟨k, h4, _⟩ := f2 n r h1 h2 (cast_inj h3)
      rw [q] at h4; cases h4
  | some k =>
    refine head_filter_some ?_ fun n hn z => ?_
    · obtain ⟨r, h1, h2, h3⟩ := f1 k q
      refine ⟨k, List.mem_range.mpr (List.getElem?_eq_some_iff.mp h1).1, hit_iff.mpr ⟨r, h1, h2, ?_⟩⟩
      rw [hmap h1, h3]
    · obtain ⟨r, h1, h2, h3⟩ := hit_iff.mp z
      rw [hmap h1] at h3
      obtain ⟨k', h4, h5⟩ := f2 n r h1 h2 (cast_inj h3)
      rw [q] at h4; cases h4
      rw [hh n (List.mem_range.mp hn), h5]
theorem seekS_lt {s : St} {pairs : List (Nat × Nat)} (S : Settled s pairs) {op : Str} {ks : List Nat} {k : Nat} (h : seekS s op ks = some k) : k < s.rows.length ∧ s.rt k = k := by
  unfold seekS at h
  cases q : s.known (keyOf op (ks.map s.rt)) with
  | none => rw [q] at h; cases h
  | some m =>
    rw [q] at h; cases h
    exact ⟨rt_lt S.1 (known_lt S.1 q), root_root _ _⟩
theorem cls_lt {s : St} {pairs : List (Nat × Nat)} (S : Settled s pairs) {tab : Str → Option Nat} (ht : ∀ x i, tab x = some i → i < s.rows.length) {p : Pat} {k : Nat} (h : cls s tab p = some k) : k < s.rows.length ∧ s.rt k = k := by
  cases p with
  | leaf x =>
    unfold cls at h
    cases q : tab x with
    | none => rw [q] at h; exact seekS_lt S h
    | some i => rw [q] at h; cases h; exact ⟨rt_lt S.1 (ht x i q), root_root _ _⟩
  | un p =>
    unfold cls at h
    cases q : cls s tab p with
    | none => rw [q] at h; cases h
    | some i => rw [q] at h; exact seekS_lt S h
  | bin p r =>
    unfold cls at h
    cases q : cls s tab p with
    | none => rw [q] at h; cases h
    | some i =>
      cases q' : cls s tab r with
      | none => rw [q, q'] at h; cases h
      | some j => rw [q, q'] at h; exact seekS_lt S h
theorem sought_eq {s : St} {pairs : List (Nat × Nat)} {h : Nat → Nat} (S : Settled s pairs) (Hh : IsHome s.rows pairs h) {tab : Str → Option Nat} (ht : ∀ x i, tab x = some i → i < s.rows.length) : ∀ p : Pat, sought s.rows h tab p = cls s tab p := by
  have hh : ∀ i, i < s.rows.length → h i = s.rt i := fun i hi => Hh.unique S.home hi
  intro p
  induction p with
  | leaf x =>
    unfold sought cls
    cases q : tab x with
    | none =>
      show findR s.rows h x [] = seekS s x []
      exact findR_eq S hh (ks := []) (by simp) rfl
    | some i =>
      show some (h i) = some (s.rt i)
      rw [hh i (ht x i q)]
  | un p ih =>
    unfold sought cls
    rw [ih]
    cases q : cls s tab p with
    | none => exact findR_neg (by simp [oV])
    | some k =>
      obtain ⟨h1, h2⟩ := cls_lt S ht q
      exact findR_eq S hh (ks := [k]) (by simpa using h1) (by simp [h2])
  | bin p r ih1 ih2 =>
    unfold sought cls
    rw [ih1, ih2]
    cases q : cls s tab p with
    | none => exact findR_neg (by simp [oV])
    | some k =>
      cases q' : cls s tab r with
      | none => exact findR_neg (by simp [oV])
      | some m =>
        obtain ⟨h1, h2⟩ := cls_lt S ht q
        obtain ⟨h3, h4⟩ := cls_lt S ht q'
        exact findR_eq S hh (ks := [k, m]) (by simp; exact ⟨h1, h3⟩) (by simp [h2, h4])
noncomputable def layR (rows : List Row) (r : Row) : List Row := if r ∈ rows then rows else rows ++ [r]
noncomputable def layI (rows : List Row) (r : Row) : Nat := (layR rows r).idxOf r
noncomputable def laid (rows : List Row) (tab : Str → Option Nat) : Pat → List Row × Nat
  | .leaf x => match tab x with | some i => (rows, i) | none => (layR rows (x, []), layI rows (x, []))
  | .un p => let z := laid rows tab p; (layR z.1 ("f", [z.2]), layI z.1 ("f", [z.2]))
  | .bin p q => let z := laid rows tab p; let y := laid z.1 tab q; (layR y.1 ("g", [z.2, y.2]), layI y.1 ("g", [z.2, y.2]))
theorem layR_mem (rows : List Row) (r : Row) : r ∈ layR rows r := by
  unfold layR
  split
  · assumption
  · simp
theorem layI_lt (rows : List Row) (r : Row) : layI rows r < (layR rows r).length := List.idxOf_lt_length_of_mem (layR_mem ..)
theorem layR_le (rows : List Row) (r : Row) : rows.length ≤ (layR rows r).length ∧ (layR rows r).length ≤ rows.length + 1 := by
  unfold layR
  split
  · omega
  · simp
theorem laid_len (tab : Str → Option Nat) : ∀ (p : Pat) (rows : List Row), rows.length ≤ (laid rows tab p).1.length ∧ (laid rows tab p).1.length ≤ rows.length + p.nodes := by
  intro p
  induction p with
  | leaf x =>
    intro rows
    unfold laid Pat.nodes
    cases tab x with
    | none => exact layR_le ..
    | some i => simp
  | un p ih =>
    intro rows
    have h1 := ih rows
    have h2 := layR_le (laid rows tab p).1 ("f", [(laid rows tab p).2])
    simp only [laid, Pat.nodes]
    omega
  | bin p q ih1 ih2 =>
    intro rows
    have h1 := ih1 rows
    have h2 := ih2 (laid rows tab p).1
    have h3 := layR_le (laid (laid rows tab p).1 tab q).1 ("g", [(laid rows tab p).2, (laid (laid rows tab p).1 tab q).2])
    simp only [laid, Pat.nodes]
    omega
theorem laid_lt {tab : Str → Option Nat} : ∀ (p : Pat) (rows : List Row), (∀ x i, tab x = some i → i < rows.length) → (laid rows tab p).2 < (laid rows tab p).1.length := by
  intro p
  cases p with
  | leaf x =>
    intro rows ht
    unfold laid
    cases q : tab x with
    | none => exact layI_lt ..
    | some i => exact ht x i q
  | un p => intro rows ht; exact layI_lt ..
  | bin p q => intro rows ht; exact layI_lt ..
theorem idxOf_of {rows : List Row} {r : Row} {n : Nat} (hnd : rows.Nodup) (h : rows[n]? = some r) : rows.idxOf r = n := by
  have hm : r ∈ rows := List.mem_of_getElem? h
  have hlt := List.idxOf_lt_length_of_mem hm
  have hn := (List.getElem?_eq_some_iff.mp h).1
  have h2 : rows[rows.idxOf r]? = some r := by rw [List.getElem?_eq_getElem hlt, List.getElem_idxOf]
  exact (List.getElem?_inj hlt hnd).mp (h2.trans h.symm)
theorem add_layR (s : St) (r : Row) : (s.add r).rows = layR s.rows r := add_rows s r
noncomputable def Pat.isVar : Pat → Bool
  | .leaf x => decide (x = "?x") || decide (x = "?y")
  | _ => false
noncomputable def tabO (i j : Nat) (x : Str) : Option Nat := if x = "?y" then some j else if x = "?x" then some i else none
end Mine
namespace Mine
noncomputable def Pat.op : Pat → Str
  | .leaf x => x
  | .un _ => "f"
  | .bin _ _ => "g"
noncomputable def Pat.kids : Pat → List Pat
  | .leaf _ => []
  | .un p => [p]
  | .bin p q => [p, q]
theorem Pat.kids_depth {p q : Pat} (h : q ∈ p.kids) : q.depth + 1 ≤ p.depth := by
  cases p with
  | leaf x => cases h
  | un p => rw [List.mem_singleton.mp h]; exact Nat.le_refl _
  | bin p r =>
    have h' : q = p ∨ q = r := by simpa [Pat.kids] using h
    simp only [Pat.depth]
    rcases h' with rfl | rfl <;> omega
theorem Pat.kids_ok {p q : Pat} (hp : p.ok) (h : q ∈ p.kids) : q.ok := by
  cases p with
  | leaf x => cases h
  | un p => rw [List.mem_singleton.mp h]; exact hp
  | bin p r =>
    have h' : q = p ∨ q = r := by simpa [Pat.kids] using h
    rcases h' with rfl | rfl
    · exact hp.1
    · exact hp.2
theorem Pat.kids_len (p : Pat) : p.kids.length ≤ 2 := by cases p <;> simp [Pat.kids]
noncomputable def nodesL (l : List Pat) : Nat := (l.map Pat.nodes).sum
theorem Pat.nodes_kids (p : Pat) : p.nodes = nodesL p.kids + 1 := by cases p <;> simp [Pat.kids, nodesL, Pat.nodes]
theorem nodesL_snoc (l : List Pat) (p : Pat) : nodesL (l ++ [p]) = nodesL l + p.nodes := by simp [nodesL]
theorem nodesL_take {l : List Pat} {i : Nat} : nodesL (l.take i) ≤ nodesL l := by
  have : nodesL l = nodesL (l.take i) + nodesL (l.drop i) := by
    unfold nodesL
    rw [← List.sum_append, ← List.map_append, List.take_append_drop]
  omega
theorem isVar_tab {p : Pat} {i j : Nat} (h : p.isVar = true) : ∃ x k, p = .leaf x ∧ tabO i j x = some k ∧ (k = i ∨ k = j) := by
  cases p with
  | leaf x =>
    refine ⟨x, ?_⟩
    unfold Pat.isVar at h
    unfold tabO
    by_cases q : x = "?y"
    · exact ⟨j, rfl, if_pos q, .inr rfl⟩
    · by_cases q' : x = "?x"
      · exact ⟨i, rfl, by rw [if_neg q, if_pos q'], .inl rfl⟩
      · simp [q, q'] at h
  | un p => cases h
  | bin p q => cases h
theorem notVar_tab {x : Str} {i j : Nat} (h : (Pat.leaf x).isVar = false) : tabO i j x = none := by
  unfold Pat.isVar at h
  unfold tabO
  by_cases q : x = "?y"
  · simp [q] at h
  · by_cases q' : x = "?x"
    · simp [q'] at h
    · rw [if_neg q, if_neg q']
theorem tabO_lt {i j n : Nat} (hi : i < n) (hj : j < n) : ∀ x k, tabO i j x = some k → k < n := by
  intro x k h
  unfold tabO at h
  split at h
  · cases h; exact hj
  · split at h
    · cases h; exact hi
    · cases h
theorem cls_kids {s : St} {i j : Nat} {p : Pat} (hv : p.isVar = false) :
    ((-1 : Int) ∈ p.kids.map (fun q => oV (cls s (tabO i j) q)) ∧ cls s (tabO i j) p = none) ∨
    ∃ ks : List Nat, p.kids.map (fun q => oV (cls s (tabO i j) q)) = ks.map (fun (k : Nat) => (k : Int)) ∧ cls s (tabO i j) p = seekS s p.op ks ∧ (∀ k ∈ ks, ∃ q ∈ p.kids, cls s (tabO i j) q = some k) := by
  cases p with
  | leaf x =>
    refine .inr ⟨[], rfl, ?_, fun k h => nomatch h⟩
    unfold cls
    rw [notVar_tab hv]
    rfl
  | un p =>
    cases q : cls s (tabO i j) p with
    | none =>
      refine .inl ⟨by simp [Pat.kids, q, oV], ?_⟩
      unfold cls; rw [q]
    | some k =>
      refine .inr ⟨[k], by simp [Pat.kids, q, oV], ?_, fun m hm => ⟨p, by simp [Pat.kids], ?_⟩⟩
      · conv => lhs; unfold cls
        rw [q]; rfl
      · rw [List.mem_singleton.mp hm]; exact q
  | bin p r =>
    cases q : cls s (tabO i j) p with
    | none =>
      refine .inl ⟨by simp [Pat.kids, q, oV], ?_⟩
      unfold cls; rw [q]
    | some k =>
      cases q' : cls s (tabO i j) r with
      | none =>
        refine .inl ⟨by simp [Pat.kids, q', oV], ?_⟩
        unfold cls; rw [q, q']
      | some m =>
        refine .inr ⟨[k, m], by simp [Pat.kids, q, q', oV], ?_, fun z hz => ?_⟩
        · conv => lhs; unfold cls
          rw [q, q']; rfl
        · have hz' : z = k ∨ z = m := by simpa using hz
          rcases hz' with rfl | rfl
          · exact ⟨p, by simp [Pat.kids], q⟩
          · exact ⟨r, by simp [Pat.kids], q'⟩
noncomputable def laidL (rows : List Row) (tab : Str → Option Nat) : List Pat → List Row × List Nat
  | [] => (rows, [])
  | p :: r => let z := laid rows tab p; let y := laidL z.1 tab r; (y.1, z.2 :: y.2)
theorem laidL_snoc (tab : Str → Option Nat) (p : Pat) : ∀ (l : List Pat) (rows : List Row), laidL rows tab (l ++ [p]) = ((laid (laidL rows tab l).1 tab p).1, (laidL rows tab l).2 ++ [(laid (laidL rows tab l).1 tab p).2])
  | [], rows => rfl
  | q :: r, rows => by
    show (let z := laid rows tab q; let y := laidL z.1 tab (r ++ [p]); (y.1, z.2 :: y.2)) = _
    dsimp only
    rw [laidL_snoc tab p r]; rfl
theorem laid_kids {rows : List Row} {i j : Nat} {p : Pat} (hv : p.isVar = false) : laid rows (tabO i j) p = (layR (laidL rows (tabO i j) p.kids).1 (p.op, (laidL rows (tabO i j) p.kids).2), layI (laidL rows (tabO i j) p.kids).1 (p.op, (laidL rows (tabO i j) p.kids).2)) := by
  cases p with
  | leaf x => unfold laid; rw [notVar_tab hv]; rfl
  | un p => rfl
  | bin p q => rfl
theorem laidL_len (tab : Str → Option Nat) : ∀ (l : List Pat) (rows : List Row), rows.length ≤ (laidL rows tab l).1.length ∧ (laidL rows tab l).1.length ≤ rows.length + nodesL l
  | [], rows => by simp [laidL, nodesL]
  | p :: r, rows => by
    have h1 := laid_len tab p rows
    have h2 := laidL_len tab r (laid rows tab p).1
    simp only [laidL, nodesL, List.map_cons, List.sum_cons] at *
    omega
theorem laidL_lt {tab : Str → Option Nat} : ∀ (l : List Pat) (rows : List Row), (∀ x i, tab x = some i → i < rows.length) → ∀ k ∈ (laidL rows tab l).2, k < (laidL rows tab l).1.length
  | [], rows, ht, k, hk => by cases hk
  | p :: r, rows, ht, k, hk => by
    have h1 := laid_len tab p rows
    have h2 := laidL_len tab r (laid rows tab p).1
    simp only [laidL] at hk ⊢
    rcases List.mem_cons.mp hk with rfl | hk
    · have := laid_lt p rows ht; omega
    · exact laidL_lt r _ (fun x i h => by have := ht x i h; omega) k hk
theorem laidL_len2 (tab : Str → Option Nat) : ∀ (l : List Pat) (rows : List Row), (laidL rows tab l).2.length = l.length
  | [], rows => rfl
  | p :: r, rows => by simp only [laidL, List.length_cons, laidL_len2 tab r]
end Mine
namespace Mine
section
variable {D : Wd} {d : Nat} {e : Env} {ρ : List (Str × V)} {H : MH}
theorem TS.andCons {x : Expr} {rest : List Expr} {pos : Pos} {P : Bool → MH → Prop} (h : TS D d e ρ H x fun b H' => if b then TS D d e ρ H' (.BoolOp .And rest pos) P else P false H') : TS D d e ρ H (.BoolOp .And (x :: rest) pos) P :=
  fun whole hw A h₀ L m hid s Q hA hV F X k => by
    refine wpAny_isTrue_BoolOp (wpAny_allTrue_And_cons (h _ rfl A h₀ L m hid s _ hA hV F X fun b H' h' tk' q F' X' => ?_))
    cases b with
    | false => exact k false H' h' tk' q F' X'
    | true =>
      have q' := q _ rfl A h₀ L m hid { s with heap := h', toks := tk' } Q hA hV F' X' k
      exact q'
theorem TS.andNil {pos : Pos} {P : Bool → MH → Prop} (h : P true H) : TS D d e ρ H (.BoolOp .And [] pos) P :=
  fun whole hw A h₀ L m hid s Q hA hV F X k => isTrue_and_nil (k true H _ _ h F X)
theorem CompOk.inv {ρc : List (Str × V)} {scope : Scope} {cl : List (Str × Addr)} {elt : Expr} {x : Str} {xpos : Pos} {S : Shp} {H₁ : MH} {P : List V → MH → Prop} (I : Nat → List V → MH → Prop) (h0 : I 0 [] H₁) (hz : S.n ≤ 100000) (hsrc : ∀ i ys H', I i ys H' → S.Src H')
    (hx : (relabel scope e).names.lookup x = some .local) (hk : scope.kind = .function)
    (h : ∀ i ys H' v H₂, i < S.n → I i ys H' → S.item i v H₂ → Le H' H₂ → ∀ C, EV D d (compEnvC scope cl C e) ((x, v) :: ρc) H₂ elt fun y H₄ => I (i + 1) (ys ++ [y]) H₄) (hp : ∀ ys H', I S.n ys H' → P ys H') : CompOk D d e ρc scope cl elt (.Name x xpos) [] S H₁ P := by
  refine ⟨I, h0, hz, hsrc, fun i ys H' hi q v H₂ hv hle hs₂ C => ⟨[(x, v)], AC.name (e := compEnvC scope cl C e) hx hk, fun y u hy => ?_, ?_⟩, hp⟩
  · unfold lk at hy
    by_cases w : y = x
    · rw [w]; exact hx
    · rw [if_neg w] at hy; cases hy
  · show TSS D d (compEnvC scope cl C e) ([(x, v)] ++ ρc) H₂ [] _
    exact h i ys H' v H₂ hi q hv hle C
end
end Mine
namespace Mine
local macro_rules | `(tactic| walk_at "lk") => `(tactic| first | assumption | exact lk_hd | exact rfl | (apply lk_tl (by decide); walk_at "lk"))
local macro_rules | `(tactic| walk_at "tg") => `(tactic| first | assumption | exact tgn rfl | (simp [tg]; done) | (simp [tg]; omega) | (refine ne_of_zero (by assumption) ?_; simp [tg]; done) | (refine ne_of_fst ?_; first | assumption | (simp only [tg]; omega) | (dsimp only; omega)))
local macro_rules | `(tactic| walk_at "hp") => `(tactic| first | assumption | exact upd_self .. | (apply upd_fr; (assumption); (walk_at "hp")) | (apply upd_old; (walk_at "hp"); (walk_at "hp"); (walk_at "tg")))
local macro_rules | `(tactic| walk_at "ev") => do
  let a : Array (Lean.Name × Array (Lean.TSyntax `term)) := #[(`Expr.Name, #[← `(EV.name (by walk_at "lk") ?_ rfl (by decide))]), (`Expr.Constant, #[← `(EV.cInt ?_), ← `(EV.cStr ?_), ← `(EV.cBool ?_), ← `(EV.cNone ?_)]),
    (`Expr.Attribute, #[← `(EV.attr ?_ rfl)]), (`Expr.Subscript, #[← `(EV.slice ?_), ← `(EV.sub ?_)]), (`Expr.BinOp, #[← `(EV.bin ?_)]), (`Expr.Compare, #[← `(EV.cmp ?_ rfl)]),
    (`Expr.Call, #[← `(EV.meth (pl := pure true) ?_ rfl ⟨_, rfl⟩), ← `(EV.call ?_ rfl rfl)]), (`Expr.Tuple, #[← `(EV.tuple ?_ rfl (by decide))]), (`Expr.UnaryOp, #[← `(EV.un ?_)])]
  let ts ← a.mapM fun (n, t) => do
    let us ← t.mapM fun t => `(tacticSeq| refine $t)
    `(tacticSeq| (with_reducible (show EV _ _ _ _ _ ($(Lean.mkIdent n) ..) _)); first $[| $us:tacticSeq]*)
  `(tactic| first $[| $ts:tacticSeq]*)
local macro_rules | `(tactic| walk_at "ga") => do
  let ts ← #[`fld_Bank_nodes, `fld_Heap_bank, `fld_Placer_heap].mapM fun n => `(tacticSeq| refine GA.inst (by walk_at "hp") $(Lean.mkIdent n) (by walk_at "lk") (by intro _ h; cases h) ?_)
  `(tactic| ((with_reducible (show GA _ _ _ _ _ _)); first $[| $ts:tacticSeq]*))
local macro_rules | `(tactic| walk_at "go") => `(tactic| repeat' first | walk_at "ev" | ((with_reducible (show EVL _ _ _ _ _ _ _)); first | refine EVL.one ?_ | refine EVL.nil ?_) | walk_at "ga")
local macro_rules | `(tactic| walk_at "bi") => do
  let ts ← #[(`bi_len, `boot_len), (`bi_tuple, `boot_tuple), (`bi_list, `boot_list), (`bi_range, `boot_range), (`bi_set, `boot_set), (`bi_sorted, `boot_sorted), (`bi_sum, `boot_sum), (`bi_max, `boot_max), (`bi_min, `boot_min), (`bi_int, `boot_int)].mapM fun (n, m) => `(tacticSeq| refine EV.builtin $(Lean.mkIdent n) $(Lean.mkIdent m) ?_ rfl rfl rfl rfl (by decide) (by decide))
  `(tactic| ((with_reducible (show EV _ _ _ _ _ _ _)); (first $[| $ts:tacticSeq]*); refine ⟨trivial, ?_⟩))
section
variable {w : World} {mean : ExcName → Option Value} {mg mb : Str → Option Value} {bl : Option (Addr × Array Value)} {d : Nat} {H : MH}
local macro_rules | `(tactic| walk_at "w_enter") => `(tactic| (
  (case ho => show List.lookup _ (Mine.hK w.params) = _; exact rfl);
  (case hcd => show codeIn (Mine.hK w.params) _ _ = _; kernel_rfl);
  (case hb => kernel_rfl)))
theorem t_usize {U p : Addr} {par : List Nat} {fs : List (Str × V)} {P : V → MH → Prop} (hU : H U = some (.inst 301 fs)) (hf : lk fs "above" = some (.ref p)) (hp : H p = some (.lst (2, 0) (nts par)))
   (hsz : par.length ≤ 1000) (hP : P (.int (par.length : Nat)) H) : CL (DW w mean mg mb bl) (d + 1) H (.ref 251) [.ref U] P := by
  refine' CL.defB (D := DW w mean mg mb bl) ?ho ?hcd ["self"] rfl ?hbind ?hb ?h
  walk_at "w_enter"
  case hbind => exact all1 fun _ => rfl
  case h =>
    intro L
    refine EXS.cons (EX.ret ?_)
    walk_at "ev"
    walk_at "bi"
    refine EVL.one ?_
    walk_at "ev"
    walk_at "ev"
    refine GA.inst hU fld_Unions_above hf (by intro _ h; cases h) ?_
    refine CL.lenList hp (by unfold nts; rw [List.length_map]; omega) ?_
    show P (.int ((nts par).length : Nat)) H
    unfold nts; rw [List.length_map]; exact hP
theorem t_find {U p : Addr} {par : List Nat} {fs : List (Str × V)} {i : Nat} {P : V → MH → Prop} (hU : H U = some (.inst 301 fs)) (hf : lk fs "above" = some (.ref p)) (hp : H p = some (.lst (2, 0) (nts par)))
   (hlt : i < par.length) (hlow : ∀ k, k < par.length → par.getD k k ≤ k) (hsz : par.length ≤ 1000) (hP : P (.int (root par i : Nat)) H) : CL (DW w mean mg mb bl) (d + 1) H (.ref 258) [.ref U, .int (i : Nat)] P := by
  refine' CL.defB (D := DW w mean mg mb bl) ?ho ?hcd ["self", "a"] rfl ?hbind ?hb ?h
  walk_at "w_enter"
  case hbind => exact all2 fun _ _ => rfl
  case h =>
    intro L
    have get : ∀ n, n < par.length → (nts par)[(n : Int).toNat]? = some (.int (par.getD n n : Nat)) := fun n hn => by
      rw [Int.toNat_natCast, List.getD_eq_getElem?_getD]
      unfold nts
      rw [List.getElem?_map, List.getElem?_eq_getElem hn]; rfl
    refine EXS.cons ?_
    refine EX.while (fun n ρ' H' => C5 (H' = H) (lk ρ' "self" = some (.ref U)) (lk ρ' "a" = some (.int (n : Int))) (n < par.length) (root par n = root par i)) i ⟨rfl, lk_hd, by walk_at "lk", hlt, rfl⟩ ?_
    rintro n ρ' H' ⟨rfl, h1, h2, h3, h4⟩ KQ hKQ
    refine TS.cmp ?_ rfl
    refine EV.sub ?_
    refine EV.attr ?_ rfl
    refine EV.name (by walk_at "lk") ?_ rfl (by decide)
    refine GA.inst hU fld_Unions_above hf (by intro _ h; cases h) ?_
    refine EV.name (by walk_at "lk") ?_ rfl (by decide)
    refine SB.list hp (by omega) (by omega) (get n h3) rfl ?_
    refine EV.name (by walk_at "lk") ?_ rfl (by decide)
    refine CO.neInt (TR.bool ?_)
    by_cases hq : par.getD n n = n
    · have : (((par.getD n n : Nat) : Int) != (n : Int)) = false := by rw [hq]; simp
      rw [this, if_neg (by decide)]
      refine EXS.cons ?_
      refine EX.ret ?_
      refine EV.name (by walk_at "lk") ?_ rfl (by decide)
      have hr : root par n = n := root_ge (by omega)
      rw [hr] at h4
      rw [h4]; exact hP
    · have hl := hlow n h3
      have : (((par.getD n n : Nat) : Int) != (n : Int)) = true := by rw [bne_iff_ne]; omega
      rw [this, if_pos rfl]
      refine EXS.cons ?_
      refine EX.assignN ?_ rfl (.inl rfl) rfl
      refine EV.sub ?_
      refine EV.attr ?_ rfl
      refine EV.name (by walk_at "lk") ?_ rfl (by decide)
      refine GA.inst hU fld_Unions_above hf (by intro _ h; cases h) ?_
      refine EV.name (by walk_at "lk") ?_ rfl (by decide)
      refine SB.list hp (by omega) (by omega) (get n h3) rfl ?_
      refine EXS.nil ?_
      refine hKQ _ _ _ ?_
      exact ⟨par.getD n n, by omega, rfl, lk_tl (by decide) h1, lk_hd, by omega, by rw [← h4, root_lt (i := n) (by omega)]⟩
structure UA where
  U : Addr
  p : Addr
  q : Addr
  r : Addr
noncomputable def cntRoots (par : List Nat) : Nat := ((List.range par.length).filter fun i => decide (root par i = i)).length
theorem cntRoots_snoc (par : List Nat) : cntRoots (par ++ [par.length]) = cntRoots par + 1 := by
  unfold cntRoots
  rw [List.length_append, List.length_singleton, List.range_succ, List.filter_append, List.length_append]
  have e : (fun i => decide (root (par ++ [par.length]) i = i)) = fun i => decide (root par i = i) := funext fun i => by rw [root_snoc]
  have h : root par par.length = par.length := root_ge (by rw [List.getD_eq_getElem?_getD, List.getElem?_eq_none (Nat.le_refl _)]; exact Nat.lt_irrefl _)
  rw [e]
  simp [h]
theorem cntRoots_set {par : List Nat} {lo hi : Nat} (hhi : hi < par.length) (hlo : lo < hi) (hrl : root par lo = lo) (hrh : root par hi = hi) : cntRoots (par.set hi lo) + 1 = cntRoots par := by
  have e : (List.range (par.set hi lo).length).filter (fun i => decide (root (par.set hi lo) i = i)) = ((List.range par.length).filter fun i => decide (root par i = i)).filter fun i => decide (i ≠ hi) := by
    rw [List.filter_filter, List.length_set]
    refine List.filter_congr fun i _ => ?_
    rw [root_set hhi hlo hrl hrh, Bool.eq_iff_iff]
    simp only [decide_eq_true_eq, Bool.and_eq_true]
    by_cases q : root par i = hi
    · rw [if_pos q]
      exact ⟨fun w => (by subst w; rw [hrl] at q; omega), fun w => absurd (w.2.symm.trans q) w.1⟩
    · rw [if_neg q]
      exact ⟨fun w => ⟨fun z => q (w.trans z), w⟩, fun w => w.2⟩
  have m : hi ∈ (List.range par.length).filter fun i => decide (root par i = i) := by simp; exact ⟨hhi, hrh⟩
  have hc := sum_split (f := fun _ => 1) (nodup_filter List.nodup_range) m
  have cnt : ∀ l : List Nat, (l.map fun _ => 1).sum = l.length := fun l => by induction l <;> simp_all; omega
  rw [cnt, cnt] at hc
  unfold cntRoots
  rw [e, hc]; omega
structure RepU (u : UA) (par : List Nat) (H : MH) : Prop where
  inst : H u.U = some (.inst 301 [("merged", .ref u.r), ("lots", .ref u.q), ("above", .ref u.p)])
  above : H u.p = some (.lst (2, 0) (nts par))
  lots : ∃ ls : List Addr, H u.q = some (.lst (2, 1) (ls.map .ref)) ∧ ls.length = par.length ∧ ∃ k, k + cntRoots par = par.length ∧ (∃ ms, H u.r = some (.lst (2, 2) ms) ∧ ms.length ≤ k) ∧ ∀ i l, ls[i]? = some l → ∃ vs, H l = some (.lst (2, 100 + i) vs) ∧ vs.length ≤ 2 ^ k
theorem t_make {u : UA} {par : List Nat} {P : V → MH → Prop} (R : RepU u par H) (hsz : par.length ≤ 30) (hP : ∀ H', RepU u (par ++ [par.length]) H' → (∀ a o, H a = some o → (tg o).1 ≠ 2 → H' a = some o) → P (.int (par.length : Nat)) H') : CL (DW w mean mg mb bl) (d + 1) H (.ref 244) [.ref u.U] P := by
  refine' CL.defB (D := DW w mean mg mb bl) ?ho ?hcd ["self"] rfl ?hbind ?hb ?h
  walk_at "w_enter"
  case hbind => exact all1 fun _ => rfl
  case h =>
    intro L
    obtain ⟨h1, h2, ls, h3, h4, k, h5, ⟨ms, h6, h7⟩, h8⟩ := R
    refine EXS.cons (EX.expr ?_ rfl rfl)
    walk_at "ev"
    walk_at "ev"
    walk_at "ev"
    refine GA.inst h1 fld_Unions_above rfl (by intro _ h; cases h) ?_
    refine GM.list h2 PySem.F.slot_list_append PySem.F.type_list_append ⟨trivial, EVL.one ?_⟩
    walk_at "ev"
    walk_at "bi"
    refine EVL.one ?_
    walk_at "ev"
    walk_at "ev"
    refine GA.inst h1 fld_Unions_above rfl (by intro _ h; cases h) ?_
    refine CL.lenList h2 (by unfold nts; rw [List.length_map]; omega) ?_
    refine CL.append h2 (by unfold nts; rw [List.length_map]; omega) ?_
    refine ⟨(by intro a h; cases h), ?_⟩
    have hl : (nts par).length = par.length := by unfold nts; rw [List.length_map]
    have e1 : upd H u.p (.lst (2, 0) (nts par ++ [.int ((nts par).length : Nat)])) = upd H u.p (.lst (2, 0) (nts (par ++ [par.length]))) := by rw [hl]; unfold nts; simp
    rw [e1]
    have g1 : upd H u.p (.lst (2, 0) (nts (par ++ [par.length]))) u.U = _ := upd_old h1 h2 (by show ((0, 2) : Nat × Nat) ≠ (2, 0); decide)
    have g3 : upd H u.p (.lst (2, 0) (nts (par ++ [par.length]))) u.q = _ := upd_old h3 h2 (by show ((2, 1) : Nat × Nat) ≠ (2, 0); decide)
    have g6 : upd H u.p (.lst (2, 0) (nts (par ++ [par.length]))) u.r = _ := upd_old h6 h2 (by show ((2, 2) : Nat × Nat) ≠ (2, 0); decide)
    have g8 : ∀ i l, ls[i]? = some l → ∃ vs, upd H u.p (.lst (2, 0) (nts (par ++ [par.length]))) l = some (.lst (2, 100 + i) vs) ∧ vs.length ≤ 2 ^ k := fun i l hil => by
      obtain ⟨vs, a, b⟩ := h8 i l hil
      exact ⟨vs, upd_old a h2 (by show ((2, 100 + i) : Nat × Nat) ≠ (2, 0); simp), b⟩
    have g2 := upd_self H u.p (.lst (2, 0) (nts (par ++ [par.length])))
    have keep1 : ∀ a o, H a = some o → (tg o).1 ≠ 2 → upd H u.p (.lst (2, 0) (nts (par ++ [par.length]))) a = some o := fun a o ha hne => upd_old ha h2 fun q => hne (by rw [q]; rfl)
    generalize upd H u.p (.lst (2, 0) (nts (par ++ [par.length]))) = H₁ at g1 g2 g3 g6 g8 keep1 ⊢
    refine EXS.cons (EX.expr ?_ rfl rfl)
    walk_at "ev"
    walk_at "ev"
    walk_at "ev"
    refine GA.inst g1 fld_Unions_lots rfl (by intro _ h; cases h) ?_
    refine GM.list g3 PySem.F.slot_list_append PySem.F.type_list_append ⟨trivial, ?_⟩
    refine EV.list (2, 100 + par.length) ?_ rfl (by decide)
    refine EVL.one ?_
    walk_at "ev"
    walk_at "bi"
    refine EVL.one ?_
    walk_at "ev"
    walk_at "ev"
    refine GA.inst g1 fld_Unions_lots rfl (by intro _ h; cases h) ?_
    refine CL.lenList g3 (by rw [List.length_map]; omega) ?_
    intro c hc
    have f3 := upd_fresh (o' := .lst (2, 100 + par.length) [.int ((ls.map V.ref).length : Nat)]) g3 hc
    refine CL.append f3 (by rw [List.length_map]; omega) ?_
    refine ⟨(by intro a h; cases h), ?_⟩
    have f1 := upd_fresh (o' := .lst (2, 100 + par.length) [.int ((ls.map V.ref).length : Nat)]) g1 hc
    have f2 := upd_fresh (o' := .lst (2, 100 + par.length) [.int ((ls.map V.ref).length : Nat)]) g2 hc
    have f6 := upd_fresh (o' := .lst (2, 100 + par.length) [.int ((ls.map V.ref).length : Nat)]) g6 hc
    have f9 := upd_self H₁ c (.lst (2, 100 + par.length) [.int ((ls.map V.ref).length : Nat)])
    have f8 : ∀ i l, ls[i]? = some l → ∃ vs, upd H₁ c (.lst (2, 100 + par.length) [.int ((ls.map V.ref).length : Nat)]) l = some (.lst (2, 100 + i) vs) ∧ vs.length ≤ 2 ^ k := fun i l hil => by
      obtain ⟨vs, a, b⟩ := g8 i l hil
      exact ⟨vs, upd_fresh a hc, b⟩
    have keep2 : ∀ a o, H a = some o → (tg o).1 ≠ 2 → upd H₁ c (.lst (2, 100 + par.length) [.int ((ls.map V.ref).length : Nat)]) a = some o := fun a o ha hne => upd_fresh (keep1 a o ha hne) hc
    generalize upd H₁ c (.lst (2, 100 + par.length) [.int ((ls.map V.ref).length : Nat)]) = H₂ at f1 f2 f3 f6 f8 f9 keep2 ⊢
    have e2 : upd H₂ u.q (.lst (2, 1) (ls.map V.ref ++ [V.ref c])) = upd H₂ u.q (.lst (2, 1) ((ls ++ [c]).map V.ref)) := by simp
    rw [e2]
    refine EXS.cons (EX.ret ?_)
    walk_at "ev"
    walk_at "ev"
    walk_at "bi"
    refine EVL.one ?_
    walk_at "ev"
    walk_at "ev"
    have z1 := upd_old (o' := .lst (2, 1) ((ls ++ [c]).map V.ref)) f1 f3 (by show ((0, 2) : Nat × Nat) ≠ (2, 1); decide)
    have z2 := upd_old (o' := .lst (2, 1) ((ls ++ [c]).map V.ref)) f2 f3 (by show ((2, 0) : Nat × Nat) ≠ (2, 1); decide)
    refine GA.inst z1 fld_Unions_above rfl (by intro _ h; cases h) ?_
    refine CL.lenList z2 (by unfold nts; rw [List.length_map, List.length_append]; simp; omega) ?_
    walk_at "ev"
    refine BO.sub ?_
    have e3 : (((nts (par ++ [par.length])).length : Nat) : Int) - 1 = (par.length : Nat) := by unfold nts; rw [List.length_map, List.length_append]; simp
    rw [e3]
    refine hP _ ⟨z1, z2, ls ++ [c], upd_self .., by simp [h4], k, ?_, ⟨ms, upd_old f6 f3 (by show ((2, 2) : Nat × Nat) ≠ (2, 1); decide), h7⟩, fun i l hil => ?_⟩ fun a o ha hne => upd_old (keep2 a o ha hne) f3 fun q => hne (by rw [q]; rfl)
    · rw [cntRoots_snoc, List.length_append]; simp; omega
    · rcases Nat.lt_or_ge i ls.length with q | q
      · rw [List.getElem?_append_left q] at hil
        obtain ⟨vs, a, b⟩ := f8 i l hil
        exact ⟨vs, upd_old a f3 (by show ((2, 100 + i) : Nat × Nat) ≠ (2, 1); simp; omega), b⟩
      · have hi : i = ls.length := by
          rcases Nat.eq_or_lt_of_le q with q | q
          · exact q.symm
          · rw [List.getElem?_eq_none (by simp; omega)] at hil; cases hil
        subst hi
        simp at hil; subst hil
        refine ⟨_, upd_old (by rw [h4]; exact f9) f3 (by show ((2, 100 + ls.length) : Nat × Nat) ≠ (2, 1); simp; omega), ?_⟩
        exact Nat.one_le_two_pow
theorem t_uni_find {u : UA} {par : List Nat} {i : Nat} {P : V → MH → Prop} (R : RepU u par H) (hlt : i < par.length) (hlow : ∀ k, k < par.length → par.getD k k ≤ k) (hsz : par.length ≤ 31) (hP : P (.int (root par i : Nat)) H) : CL (DW w mean mg mb bl) (d + 1) H (.ref 258) [.ref u.U, .int (i : Nat)] P :=
  t_find R.inst rfl R.above hlt hlow (by omega) hP
theorem RepU.keep {u : UA} {par : List Nat} {H H' : MH} (R : RepU u par H) (hk : ∀ a o, H a = some o → ((tg o).1 = 2 ∨ tg o = (0, 2)) → H' a = some o) : RepU u par H' := by
  obtain ⟨h1, h2, ls, h3, h4, k, h5, ⟨ms, h6, h7⟩, h8⟩ := R
  exact ⟨hk _ _ h1 (.inr rfl), hk _ _ h2 (.inl rfl), ls, hk _ _ h3 (.inl rfl), h4, k, h5, ⟨ms, hk _ _ h6 (.inl rfl), h7⟩, fun i l hil => let ⟨vs, a, b⟩ := h8 i l hil; ⟨vs, hk _ _ a (.inl rfl), b⟩⟩
theorem two_sorted {x y : Nat} {l : List Int} (hp : l.Perm [(x : Int), (y : Int)]) (hs : l.Pairwise (· ≤ ·)) : l = [((min x y : Nat) : Int), ((max x y : Nat) : Int)] := by
  refine lks_uniq (hp.trans ?_) hs ?_
  · rcases Nat.le_total x y with q | q
    · rw [Nat.min_eq_left q, Nat.max_eq_right q]
    · rw [Nat.min_eq_right q, Nat.max_eq_left q]; exact List.Perm.swap ..
  · simp; omega
theorem t_umerge {u : UA} {par : List Nat} {a b : Nat} {P : V → MH → Prop} (R : RepU u par H) (ha : a < par.length) (hb : b < par.length) (hlow : ∀ k, k < par.length → par.getD k k ≤ k) (hsz : par.length ≤ 21)
    (hsame : ∀ H', root par a = root par b → Le H H' → P .none H')
    (hP : ∀ H' t, root par a ≠ root par b → H' t = some (.tup [.int (min (root par a) (root par b) : Nat), .int (max (root par a) (root par b) : Nat)]) → RepU u (par.set (max (root par a) (root par b)) (min (root par a) (root par b))) H' → (∀ a o, H a = some o → (tg o).1 ≠ 2 → H' a = some o) → P (.ref t) H') :
    CL (DW w mean mg mb bl) (d + 2) H (.ref 265) [.ref u.U, .int (a : Nat), .int (b : Nat)] P := by
  refine' CL.defB (D := DW w mean mg mb bl) ?ho ?hcd ["self", "a", "b"] rfl ?hbind ?hb ?h
  walk_at "w_enter"
  case hbind => exact all3 fun _ _ _ => rfl
  case h =>
    intro L
    refine EXS.cons (EX.assignT ?_ rfl rfl)
    walk_at "ev"
    refine EV.builtin (v := .builtin "sorted") bi_sorted (by decide +kernel) ?_ rfl rfl rfl rfl (by decide) (by decide)
    refine ⟨trivial, ?_⟩
    refine EVL.one (EV.list (0, 0) (EVL.one ?_) rfl (by decide))
    walk_at "ev"
    walk_at "ev"
    refine GM.inst R.inst mth_Unions_find rfl ⟨ok_258, EVL.one ?_⟩
    walk_at "ev"
    refine t_uni_find R ha hlow (by omega) (EVL.one ?_)
    walk_at "ev"
    walk_at "ev"
    refine GM.inst R.inst mth_Unions_find rfl ⟨ok_258, EVL.one ?_⟩
    walk_at "ev"
    refine t_uni_find R hb hlow (by omega) ?_
    intro c hc
    have R₁ : RepU u par (upd H c (.lst (0, 0) [.int (root par a : Nat), .int (root par b : Nat)])) := R.keep fun x o hx _ => upd_fresh hx hc
    have l₁ := le_upd (o := .lst (0, 0) [.int (root par a : Nat), .int (root par b : Nat)]) hc
    refine CL.sorted (0, 0) (ns := [((root par a : Nat) : Int), ((root par b : Nat) : Int)]) (upd_self ..) (by show 2 < 64; decide) fun ns' c2 hpm hpw hc2 => ?_
    have hns := two_sorted hpm hpw
    subst hns
    have R₂ := R₁.keep (H' := upd (upd H c (.lst (0, 0) [.int (root par a : Nat), .int (root par b : Nat)])) c2 (.lst (0, 0) (zts [((min (root par a) (root par b) : Nat) : Int), ((max (root par a) (root par b) : Nat) : Int)]))) fun x o hx _ => upd_fresh hx hc2
    have l₂ := l₁.trans (le_upd (o := .lst (0, 0) (zts [((min (root par a) (root par b) : Nat) : Int), ((max (root par a) (root par b) : Nat) : Int)])) hc2)
    have u₂ := upd_self (upd H c (.lst (0, 0) [.int (root par a : Nat), .int (root par b : Nat)])) c2 (.lst (0, 0) (zts [((min (root par a) (root par b) : Nat) : Int), ((max (root par a) (root par b) : Nat) : Int)]))
    generalize upd (upd H c (.lst (0, 0) [.int (root par a : Nat), .int (root par b : Nat)])) c2 (.lst (0, 0) (zts [((min (root par a) (root par b) : Nat) : Int), ((max (root par a) (root par b) : Nat) : Int)])) = H₂ at R₂ l₂ u₂ ⊢
    generalize hlo : min (root par a) (root par b) = lo at *
    generalize hhi : max (root par a) (root par b) = hi at *
    refine AT.tuple (vs := [.int (lo : Nat), .int (hi : Nat)]) ⟨c2, rfl, .inr ⟨_, u₂⟩⟩ rfl rfl ?_
    refine AT.name ?_ rfl (.inl rfl)
    refine AT.name (ATS.fin ?_) rfl (.inl rfl)
    refine EXS.cons (EX.ifs ?_)
    refine TS.cmp ?_ rfl
    walk_at "ev"
    walk_at "ev"
    refine CO.eqInt (TR.bool ?_)
    by_cases he : lo = hi
    · have hb' : (((lo : Nat) : Int) == ((hi : Nat) : Int)) = true := by rw [he]; exact beq_self_eq_true _
      rw [hb', if_pos rfl]
      refine EXS.cons (EX.ret (EV.cNone ?_))
      exact hsame _ (by omega) l₂
    · have hb' : (((lo : Nat) : Int) == ((hi : Nat) : Int)) = false := by rw [beq_eq_false_iff_ne]; omega
      rw [hb', if_neg (by decide)]
      refine EXS.nil ?_
      refine EXS.cons ?_
      refine EX.assignSub ?_ rfl
      have hhi2 : hi < par.length := by have := root_le par a; have := root_le par b; omega
      have hlo2 : lo < par.length := by omega
      obtain ⟨h1, h2, ls, h3, h4, k, h5, ⟨ms, h6, h7⟩, h8⟩ := R₂
      walk_at "ev"
      walk_at "ev"
      walk_at "ev"
      refine GA.inst h1 fld_Unions_above rfl (by intro _ h; cases h) ?_
      walk_at "ev"
      refine SI.list h2 (by unfold nts; rw [List.length_map]; exact hhi2) (by unfold nts; rw [List.length_map]; omega) ?_
      have e1 : (nts par).set hi (.int (lo : Nat)) = nts (par.set hi lo) := by unfold nts; rw [List.map_set]
      rw [e1]
      have g1 : upd H₂ u.p (.lst (2, 0) (nts (par.set hi lo))) u.U = _ := upd_old h1 h2 (by show ((0, 2) : Nat × Nat) ≠ (2, 0); decide)
      have g3 : upd H₂ u.p (.lst (2, 0) (nts (par.set hi lo))) u.q = _ := upd_old h3 h2 (by show ((2, 1) : Nat × Nat) ≠ (2, 0); decide)
      have g6 : upd H₂ u.p (.lst (2, 0) (nts (par.set hi lo))) u.r = _ := upd_old h6 h2 (by show ((2, 2) : Nat × Nat) ≠ (2, 0); decide)
      have g8 : ∀ i l, ls[i]? = some l → ∃ vs, upd H₂ u.p (.lst (2, 0) (nts (par.set hi lo))) l = some (.lst (2, 100 + i) vs) ∧ vs.length ≤ 2 ^ k := fun i l hil => by
        obtain ⟨vs, a, b⟩ := h8 i l hil
        exact ⟨vs, upd_old a h2 (by show ((2, 100 + i) : Nat × Nat) ≠ (2, 0); simp), b⟩
      have g2 := upd_self H₂ u.p (.lst (2, 0) (nts (par.set hi lo)))
      have keep1 : ∀ a o, H a = some o → (tg o).1 ≠ 2 → upd H₂ u.p (.lst (2, 0) (nts (par.set hi lo))) a = some o := fun a o ha hne => upd_old (l₂ _ _ ha) h2 fun q => hne (by rw [q]; rfl)
      generalize upd H₂ u.p (.lst (2, 0) (nts (par.set hi lo))) = H₃ at g1 g2 g3 g6 g8 keep1 ⊢
      obtain ⟨la, hla⟩ : ∃ la, ls[lo]? = some la := ⟨_, List.getElem?_eq_getElem (by omega)⟩
      obtain ⟨lb, hlb⟩ : ∃ lb, ls[hi]? = some lb := ⟨_, List.getElem?_eq_getElem (by omega)⟩
      obtain ⟨va, hva, hva2⟩ := g8 lo la hla
      obtain ⟨vb, hvb, hvb2⟩ := g8 hi lb hlb
      refine EXS.cons ?_
      refine EX.expr ?_ rfl rfl
      walk_at "ev"
      walk_at "ev"
      walk_at "ev"
      walk_at "ev"
      refine GA.inst g1 fld_Unions_lots rfl (by intro _ h; cases h) ?_
      walk_at "ev"
      refine SB.list g3 (by omega) (by omega) (by rw [Int.toNat_natCast, List.getElem?_map, hla]; rfl) rfl ?_
      refine GM.list hva PySem.F.slot_list_extend PySem.F.type_list_extend ⟨trivial, EVL.one ?_⟩
      walk_at "ev"
      walk_at "ev"
      walk_at "ev"
      refine GA.inst g1 fld_Unions_lots rfl (by intro _ h; cases h) ?_
      walk_at "ev"
      refine SB.list g3 (by omega) (by omega) (by rw [Int.toNat_natCast, List.getElem?_map, hlb]; rfl) rfl ?_
      have hk20 : k ≤ 21 := by omega
      have h2k : 2 ^ k ≤ 2 ^ 21 := Nat.pow_le_pow_right (by decide) hk20
      have h221 : (2 : Nat) ^ 21 = 2097152 := by decide
      refine CL.extend hva hvb (by omega) ?_
      refine ⟨(by intro a h; cases h), ?_⟩
      have tne : tg (.lst (2, 100 + lo) va) = (2, 100 + lo) := rfl
      have w1 : upd H₃ la (.lst (2, 100 + lo) (va ++ vb)) u.U = _ := upd_old g1 hva (by show ((0, 2) : Nat × Nat) ≠ (2, 100 + lo); simp)
      have w2 : upd H₃ la (.lst (2, 100 + lo) (va ++ vb)) u.p = _ := upd_old g2 hva (by show ((2, 0) : Nat × Nat) ≠ (2, 100 + lo); simp; omega)
      have w3 : upd H₃ la (.lst (2, 100 + lo) (va ++ vb)) u.q = _ := upd_old g3 hva (by show ((2, 1) : Nat × Nat) ≠ (2, 100 + lo); simp; omega)
      have w6 : upd H₃ la (.lst (2, 100 + lo) (va ++ vb)) u.r = _ := upd_old g6 hva (by show ((2, 2) : Nat × Nat) ≠ (2, 100 + lo); simp; omega)
      have w8 : ∀ i l, ls[i]? = some l → ∃ vs, upd H₃ la (.lst (2, 100 + lo) (va ++ vb)) l = some (.lst (2, 100 + i) vs) ∧ vs.length ≤ 2 ^ (k + 1) := fun i l hil => by
        by_cases q : i = lo
        · subst q
          rw [hla] at hil; cases hil
          exact ⟨_, upd_self .., by rw [List.length_append, Nat.pow_succ]; omega⟩
        · obtain ⟨vs, a, b⟩ := g8 i l hil
          exact ⟨vs, upd_old a hva (by show ((2, 100 + i) : Nat × Nat) ≠ (2, 100 + lo); simp; omega), by rw [Nat.pow_succ]; omega⟩
      have keep2 : ∀ a o, H a = some o → (tg o).1 ≠ 2 → upd H₃ la (.lst (2, 100 + lo) (va ++ vb)) a = some o := fun a o ha hne => upd_old (keep1 a o ha hne) hva fun q => hne (by rw [q]; rfl)
      generalize upd H₃ la (.lst (2, 100 + lo) (va ++ vb)) = H₄ at w1 w2 w3 w6 w8 keep2 ⊢
      refine EXS.cons ?_
      refine EX.expr ?_ rfl rfl
      walk_at "ev"
      walk_at "ev"
      walk_at "ev"
      refine GA.inst w1 fld_Unions_merged rfl (by intro _ h; cases h) ?_
      refine GM.list w6 PySem.F.slot_list_append PySem.F.type_list_append ⟨trivial, EVL.one ?_⟩
      refine EV.tuple (EVL.one ?_) rfl (by decide)
      walk_at "ev"
      refine EVL.one ?_
      walk_at "ev"
      intro t ht
      have y1 := upd_fresh (o' := .tup [.int (lo : Nat), .int (hi : Nat)]) w1 ht
      have y2 := upd_fresh (o' := .tup [.int (lo : Nat), .int (hi : Nat)]) w2 ht
      have y3 := upd_fresh (o' := .tup [.int (lo : Nat), .int (hi : Nat)]) w3 ht
      have y6 := upd_fresh (o' := .tup [.int (lo : Nat), .int (hi : Nat)]) w6 ht
      refine CL.append y6 (by omega) ?_
      refine ⟨(by intro a h; cases h), ?_⟩
      refine EXS.cons (EX.ret ?_)
      refine EV.tuple (EVL.one ?_) rfl (by decide)
      walk_at "ev"
      refine EVL.one ?_
      walk_at "ev"
      intro t2 ht2
      have up : ∀ {x : Addr} {o : MO}, H₄ x = some o → tg o ≠ (2, 2) → upd (upd (upd H₄ t (.tup [.int (lo : Nat), .int (hi : Nat)])) u.r (.lst (2, 2) (ms ++ [.ref t]))) t2 (.tup [.int (lo : Nat), .int (hi : Nat)]) x = some o := fun hx hne => upd_fresh (upd_old (upd_fresh hx ht) y6 hne) ht2
      refine hP _ t2 (by omega) (upd_self ..) ⟨up w1 (by show ((0, 2) : Nat × Nat) ≠ (2, 2); decide), up w2 (by show ((2, 0) : Nat × Nat) ≠ (2, 2); decide), ls, up w3 (by show ((2, 1) : Nat × Nat) ≠ (2, 2); decide), by rw [List.length_set]; exact h4, k + 1, ?_, ⟨_, upd_fresh (upd_self ..) ht2, by rw [List.length_append]; simp; exact h7⟩, fun i l hil => ?_⟩ fun a o ha hne => up (keep2 a o ha hne) fun q => hne (by rw [q])
      · have r1 : root par lo = lo := by
          rcases Nat.le_total (root par a) (root par b) with q | q
          · rw [← hlo, Nat.min_eq_left q, root_root]
          · rw [← hlo, Nat.min_eq_right q, root_root]
        have r2 : root par hi = hi := by
          rcases Nat.le_total (root par a) (root par b) with q | q
          · rw [← hhi, Nat.max_eq_right q, root_root]
          · rw [← hhi, Nat.max_eq_left q, root_root]
        have := cntRoots_set hhi2 (by omega) r1 r2
        rw [List.length_set]; omega
      · obtain ⟨vs, a, b⟩ := w8 i l hil
        exact ⟨vs, up a (by show ((2, 100 + i) : Nat × Nat) ≠ (2, 2); simp; omega), b⟩
theorem t_uinit {a : Addr} {P : V → MH → Prop} (ha : H a = some (.inst 301 [])) (hP : ∀ p q r H', RepU ⟨a, p, q, r⟩ [] H' → (∀ x o, H x = some o → x ≠ a → H' x = some o) → P .none H') : CC (DW w mean mg mb bl) (d + 1) H (.ref 237) [.ref a] P := by
  refine' CC.defB (D := DW w mean mg mb bl) ?ho ?hcd ["self"] rfl ?hbind ?hb ?h
  walk_at "w_enter"
  case hbind => exact all1 fun _ => rfl
  case h =>
    intro L
    refine EXS.cons ?_
    refine EX.assignAttr ?_ rfl
    refine EV.list (2, 0) (EVL.nil ?_) rfl (by decide)
    intro p hp
    walk_at "ev"
    refine SA.inst (by walk_at "hp") sta_Unions_above (by simp) ?_
    refine EXS.cons ?_
    refine EX.assignAttr ?_ rfl
    refine EV.list (2, 1) (EVL.nil ?_) rfl (by decide)
    intro q hq
    walk_at "ev"
    refine SA.inst (by walk_at "hp") sta_Unions_lots (by simp) ?_
    refine EXS.cons ?_
    refine EX.assignAttr ?_ rfl
    refine EV.list (2, 2) (EVL.nil ?_) rfl (by decide)
    intro r hr
    walk_at "ev"
    refine SA.inst (by walk_at "hp") sta_Unions_merged (by simp) ?_
    refine EXS.nil ?_
    refine hP p q r _ ?_ fun x o hx hne => ?_
    · refine ⟨?_, ?_, [], ?_, rfl, 0, rfl, ⟨[], ?_, Nat.le_refl _⟩, fun i l h => nomatch h⟩
      · exact upd_self ..
      · walk_at "hp"
      · walk_at "hp"
      · walk_at "hp"
    have k1 : upd (upd H p (.lst (2, 0) [])) a (.inst 301 [("above", .ref p)]) x = some o := (upd_ne hne).trans (upd_fresh hx hp)
    have k2 := (upd_ne (o := .inst 301 [("lots", .ref q), ("above", .ref p)]) hne).trans (upd_fresh (o' := .lst (2, 1) []) k1 hq)
    exact (upd_ne hne).trans (upd_fresh k2 hr)
structure BA where
  B : Addr
  nl : Addr
  nd : Addr
  wl : Addr
  dl : Addr
noncomputable def keyR (r : Row) : List Ky := keyOf r.1 r.2
theorem keyR_inj {r r' : Row} (h : keyR r = keyR r') : r = r' := by
  obtain ⟨a, b⟩ := keyOf_inj h
  exact Prod.ext a b
structure RepB (b : BA) (rows : List Row) (H : MH) : Prop where
  inst : H b.B = some (.inst 181 [("depths", .ref b.dl), ("weights", .ref b.wl), ("numbers", .ref b.nd), ("nodes", .ref b.nl)])
  nodes : ∃ refs : List Addr, H b.nl = some (.lst (1, 0) (refs.map .ref)) ∧ Tups H refs (rows.map keyR)
  numbers : ∃ f n, H b.nd = some (.dT (1, 1) f n) ∧ n ≤ rows.length ∧ ∀ key, (f key = none ∧ ∀ r ∈ rows, keyR r ≠ key) ∨ ∃ (i : Nat) (r : Row), f key = some (.int (i : Int)) ∧ rows[i]? = some r ∧ keyR r = key
  weights : ∃ ws : List Int, H b.wl = some (.lst (1, 2) (zts ws)) ∧ ws.length = rows.length
  depths : ∃ ws : List Int, H b.dl = some (.lst (1, 3) (zts ws)) ∧ ws.length = rows.length
theorem RepB.keep {b : BA} {rows : List Row} {H H' : MH} (R : RepB b rows H) (hk : ∀ a o, H a = some o → ((tg o).1 = 1 ∨ tg o = (0, 2) ∨ tg o = (0, 1)) → H' a = some o) : RepB b rows H' := by
  obtain ⟨h1, ⟨refs, h2, h3, h3'⟩, ⟨f, n, h4, h5, h6⟩, ⟨ws, h7, h8⟩, ⟨ds, h9, h10⟩⟩ := R
  exact ⟨hk _ _ h1 (.inr (.inl rfl)), ⟨refs, hk _ _ h2 (.inl rfl), h3, fun i a r x y => hk _ _ (h3' i a r x y) (.inr (.inr rfl))⟩, ⟨f, n, hk _ _ h4 (.inl rfl), h5, h6⟩, ⟨ws, hk _ _ h7 (.inl rfl), h8⟩, ⟨ds, hk _ _ h9 (.inl rfl), h10⟩⟩
theorem RepB.le {b : BA} {rows : List Row} {H H' : MH} (R : RepB b rows H) (hl : Le H H') : RepB b rows H' := R.keep fun a o h _ => hl a o h
theorem RepU.le {u : UA} {par : List Nat} {H H' : MH} (R : RepU u par H) (hl : Le H H') : RepU u par H' := R.keep fun a o h _ => hl a o h
theorem RepB.node {b : BA} {rows : List Row} (R : RepB b rows H) {n : Nat} {r : Row} (hr : rows[n]? = some r) : ∃ (refs : List Addr) (a : Addr), H b.nl = some (.lst (1, 0) (refs.map .ref)) ∧ refs.length = rows.length ∧ (refs.map V.ref)[n]? = some (.ref a) ∧ H a = some (.tup (.str r.1 :: nts r.2)) := by
  obtain ⟨refs, h2, h3, h3'⟩ := R.nodes
  rw [List.length_map] at h3
  have hn : n < refs.length := by rw [h3]; exact (List.getElem?_eq_some_iff.mp hr).1
  refine ⟨refs, refs[n], h2, h3, by rw [List.getElem?_map, List.getElem?_eq_getElem hn]; rfl, ?_⟩
  rw [h3' n _ (keyR r) (List.getElem?_eq_getElem hn) (by rw [List.getElem?_map, hr]; rfl)]
  unfold keyR keyOf nts
  rw [List.map_cons, List.map_map]; rfl
theorem t_bsize {b : BA} {rows : List Row} {P : V → MH → Prop} (R : RepB b rows H) (hsz : rows.length ≤ 1000) (hP : P (.int (rows.length : Nat)) H) : CL (DW w mean mg mb bl) (d + 1) H (.ref 100) [.ref b.B] P := by
  refine' CL.defB (D := DW w mean mg mb bl) ?ho ?hcd ["self"] rfl ?hbind ?hb ?h
  walk_at "w_enter"
  case hbind => exact all1 fun _ => rfl
  case h =>
    intro L
    obtain ⟨refs, h2, h3, h3'⟩ := R.nodes
    have h1 := R.inst
    rw [List.length_map] at h3
    refine EXS.cons (EX.ret ?_)
    walk_at "ev"
    walk_at "bi"
    walk_at "go"
    refine CL.lenList h2 (by rw [List.length_map]; omega) ?_
    show P (.int ((refs.map V.ref).length : Nat)) H
    rw [List.length_map, h3]; exact hP
theorem t_bop {b : BA} {rows : List Row} {n : Nat} {r : Row} {P : V → MH → Prop} (R : RepB b rows H) (hsz : rows.length ≤ 1000) (hr : rows[n]? = some r) (hP : P (.str r.1) H) : CL (DW w mean mg mb bl) (d + 1) H (.ref 138) [.ref b.B, .int (n : Nat)] P := by
  refine' CL.defB (D := DW w mean mg mb bl) ?ho ?hcd ["self", "n"] rfl ?hbind ?hb ?h
  walk_at "w_enter"
  case hbind => exact all2 fun _ _ => rfl
  case h =>
    intro L
    have h1 := R.inst
    obtain ⟨refs, a, h2, h3, h4, h5⟩ := R.node hr
    have hn : n < rows.length := (List.getElem?_eq_some_iff.mp hr).1
    refine EXS.cons (EX.ret ?_)
    walk_at "go"
    refine SB.list h2 (by omega) (by omega) h4 rfl ?_
    walk_at "go"
    exact SB.tup (k := 0) h5 (by decide) rfl rfl hP
theorem t_bkids {b : BA} {rows : List Row} {n : Nat} {r : Row} {P : V → MH → Prop} (R : RepB b rows H) (hsz : rows.length ≤ 1000) (hr : rows[n]? = some r) (hk : r.2.length ≤ 10) (hP : ∀ t, H t = none → P (.ref t) (upd H t (.tup (nts r.2)))) : CL (DW w mean mg mb bl) (d + 1) H (.ref 145) [.ref b.B, .int (n : Nat)] P := by
  refine' CL.defB (D := DW w mean mg mb bl) ?ho ?hcd ["self", "n"] rfl ?hbind ?hb ?h
  walk_at "w_enter"
  case hbind => exact all2 fun _ _ => rfl
  case h =>
    intro L
    have h1 := R.inst
    obtain ⟨refs, a, h2, h3, h4, h5⟩ := R.node hr
    have hn : n < rows.length := (List.getElem?_eq_some_iff.mp hr).1
    refine EXS.cons (EX.ret ?_)
    walk_at "go"
    refine SB.list h2 (by omega) (by omega) h4 rfl ?_
    refine EP.some ?_
    walk_at "go"
    refine EP.none ?_
    refine SL.tupFrom (n := 1) h5 (by decide) (by simp) (by simp [nts]; omega) ?_
    exact hP
noncomputable def OpOk (x : Str) : Prop := x ∈ (["a", "b", "c", "d", "f", "g"] : List Str)
theorem op_facts {x : Str} (h : OpOk x) : ∃ c, x = ⟨#[c]⟩ ∧ c < 128 ∧ Txt.isspace x = false ∧ (Builtin.Str.occurrences (Str.ofString "()[]{},:") x 0 (Str.ofString "()[]{},:").length 1).isEmpty = true ∧ x.cps.toList ≠ [] ∧ x ≠ "?" := by
  have h' : x = "a" ∨ x = "b" ∨ x = "c" ∨ x = "d" ∨ x = "f" ∨ x = "g" := by simpa [OpOk] using h
  rcases h' with rfl | rfl | rfl | rfl | rfl | rfl <;> exact ⟨_, rfl, by decide +kernel, by decide +kernel, by decide +kernel, by decide +kernel, by decide +kernel⟩
theorem t_is_op {x : Str} {P : V → MH → Prop} (hx : OpOk x) (hP : ∀ H', Le H H' → P (.bool true) H') : CL (DW w mean mg mb bl) (d + 1) H (.ref 67) [.str x] P := by
  obtain ⟨c, rfl, hc, h1, h2, h3, h4⟩ := op_facts hx
  refine' CL.defB (D := DW w mean mg mb bl) ?ho ?hcd ["text"] rfl ?hbind ?hb ?h
  walk_at "w_enter"
  case hbind => exact all1 fun _ => rfl
  case h =>
    intro L
    refine EXS.cons ?_
    refine EX.ret ?_
    refine EV.and2 ?_
    walk_at "ev"
    walk_at "ev"
    walk_at "ev"
    refine CO.neStr (TR.bool ?_)
    have : ((⟨#[c]⟩ : Str).cps.toList != (Str.ofString "").cps.toList) = true := rfl
    rw [this, if_pos rfl]
    walk_at "ev"
    refine EV.comp (0, 10) [] ⟨fun _ => rfl, rfl, rfl, by decide, by decide, by decide⟩ trivial ?_
    refine IE.str ?_
    walk_at "ev"
    refine ⟨_, rfl, by simpa using hc, ?_⟩
    refine ⟨fun i ys H' => Le H H' ∧ ys = [], ⟨Le.refl _, rfl⟩, (by show 1 ≤ 100000; decide), fun _ _ _ _ => trivial, ?_, ?_⟩
    · rintro i ys H' hi ⟨hl, rfl⟩ v H₂ ⟨c', hc', rfl⟩ hle _ C
      have hi0 : i = 0 := by have : i < 1 := hi; omega
      subst hi0
      have hcc : c' = c := by simpa using hc'.symm
      subst hcc
      refine ⟨_, AC.name rfl rfl, ?_, ?_⟩
      · intro y v hy
        unfold lk at hy
        by_cases q : y = "sign"
        · subst q; rfl
        · rw [if_neg q] at hy; cases hy
      · refine TS.orCons (TS.plain ?_ rfl)
        walk_at "ev"
        walk_at "ev"
        refine GM.isspace ⟨trivial, EVL.nil ?_⟩
        refine CL.isspace (TR.bool ?_)
        rw [h1, if_neg (by decide)]
        refine TS.orCons ?_
        refine TS.cmp ?_ rfl
        walk_at "ev"
        walk_at "ev"
        refine CO.inStr (TR.bool ?_)
        rw [h2]
        rw [if_neg (by decide)]
        refine TS.orNil ?_
        rw [if_neg (by decide)]
        exact ⟨hl.trans hle, rfl⟩
    · rintro ys H' ⟨hl, rfl⟩ a ha
      refine EV.list (0, 10) (EVL.nil ?_) rfl (by decide)
      intro b hb
      refine CO.eqInts (is := []) (js := []) (upd_fr hb (upd_self ..)) (upd_self ..) ?_
      exact hP _ ((hl.trans (le_upd ha)).trans (le_upd hb))
theorem t_require {b : Addr} {x : Str} {P : V → MH → Prop} (hb : ∃ fs, H b = some (.inst 181 fs)) (hx : OpOk x) (hP : ∀ H', Le H H' → P .none H') : CL (DW w mean mg mb bl) (d + 2) H (.ref 112) [.ref b, .str x] P := by
  refine' CL.defB (D := DW w mean mg mb bl) ?ho ?hcd ["self", "op"] rfl ?hbind ?hb ?h
  walk_at "w_enter"
  case hbind => exact all2 fun _ _ => rfl
  case h =>
    intro L
    refine EXS.cons ?_
    refine EX.ifs ?_
    refine TS.orCons ?_
    refine TS.not ?_
    refine TS.plain ?_ rfl
    walk_at "ev"
    refine EV.global gl_is_op ?_ rfl rfl rfl (by decide)
    refine ⟨ok_67, EVL.one ?_⟩
    walk_at "ev"
    refine EVL.nil ?_
    refine t_is_op hx fun H' hl => ?_
    refine TR.bool ?_
    rw [if_neg (by decide)]
    obtain ⟨c, rfl, hc, h1, h2, h3, h4⟩ := op_facts hx
    refine TS.orCons ?_
    refine TS.cmp ?_ rfl
    walk_at "go"
    refine SB.str (k := 0) (c := c) (by decide) rfl rfl ?_
    walk_at "go"
    refine CO.eqStr (TR.bool ?_)
    rw [beq_eq_false_iff_ne.mpr h4, if_neg (by decide)]
    refine TS.orNil ?_
    rw [if_neg (by decide)]
    refine EXS.nil ?_
    refine EXS.nil ?_
    exact hP _ hl
theorem CL.tupleSeq {D : Wd} {d : Nat} {H : MH} {a : Addr} {vs : List V} {P : V → MH → Prop} (ha : H a = some (.tup vs) ∨ ∃ g, H a = some (.lst g vs)) (hz : vs.length ≤ 1000) (hp : ∀ c H', Le H H' → H' c = some (.tup vs) → P (.ref c) H') : CL D d H (.oth (.type "tuple")) [.ref a] P := by
  rcases ha with ha | ⟨g, ha⟩
  · exact CL.tupleTup ha (hp a H (Le.refl _) ha)
  · exact CL.tupleOf ha hz fun c hc => hp c _ (le_upd hc) (upd_self ..)
theorem keyV (op : Str) (ks : List Nat) : (keyR (op, ks)).map Ky.v = .str op :: nts ks := by
  unfold keyR keyOf nts
  rw [List.map_cons, List.map_map]; rfl
theorem nts_len (l : List Nat) : (nts l).length = l.length := by unfold nts; rw [List.length_map]
theorem zts_get {l : List Int} {i : Nat} (h : i < l.length) : (zts l)[i]? = some (.int (l.getD i 0)) := by
  unfold zts; rw [List.getElem?_map, List.getElem?_eq_getElem h, List.getD_eq_getElem?_getD, List.getElem?_eq_getElem h]; rfl
noncomputable def pick (ws : List Int) : V → V | .int i => .int (ws.getD i.toNat 0) | v => v
theorem pick_map (ws : List Int) (ks : List Nat) : (nts ks).map (pick ws) = zts (ks.map fun k => ws.getD k 0) := by
  unfold nts zts; rw [List.map_map, List.map_map]; rfl
theorem nts_mem {l : List Nat} {v : V} (h : v ∈ nts l) : ∃ n ∈ l, v = .int (n : Int) := by
  unfold nts at h
  obtain ⟨n, h1, h2⟩ := List.mem_map.mp h
  exact ⟨n, h1, h2.symm⟩
theorem t_take {b : BA} {rows : List Row} {op : Str} {ks : List Nat} {a : Addr} {P : V → MH → Prop} (R : RepB b rows H) (ha : H a = some (.tup (nts ks)) ∨ ∃ g, H a = some (.lst g (nts ks))) (hks : ∀ k ∈ ks, k < rows.length) (hop : OpOk op) (hsz : rows.length ≤ 30) (hkl : ks.length ≤ 2)
    (hold : ∀ n H', rows[n]? = some (op, ks) → Le H H' → P (.int (n : Nat)) H')
    (hnew : (op, ks) ∉ rows → ∀ H', RepB b (rows ++ [(op, ks)]) H' → (∀ x o, H x = some o → (tg o).1 ≠ 1 → H' x = some o) → P (.int (rows.length : Nat)) H') :
    CL (DW w mean mg mb bl) (d + 3) H (.ref 105) [.ref b.B, .str op, .ref a] P := by
  refine' CL.defB (D := DW w mean mg mb bl) ?ho ?hcd ["self", "op", "kids"] rfl ?hbind ?hb ?h
  walk_at "w_enter"
  case hbind => exact all3 fun _ _ _ => rfl
  case h =>
    intro L
    refine EXS.cons ?_
    refine EX.assignN ?_ rfl (.inl rfl) rfl
    walk_at "ev"
    walk_at "go"
    intro t1 ht1
    walk_at "ev"
    walk_at "bi"
    walk_at "go"
    have ha1 : upd H t1 (.tup [.str op]) a = some (.tup (nts ks)) ∨ ∃ g, upd H t1 (.tup [.str op]) a = some (.lst g (nts ks)) := ha.imp (fun h => upd_fr ht1 h) fun ⟨g, h⟩ => ⟨g, upd_fr ht1 h⟩
    refine CL.tupleSeq ha1 (by rw [nts_len]; omega) fun c1 H1 hl1 hc1 => ?_
    refine BO.addTup (hl1 _ _ (upd_self ..)) hc1 (by simp [nts_len]; omega) fun nd H2 hl2 hnd => ?_
    have hl : Le H H2 := ((le_upd ht1).trans hl1).trans hl2
    rw [show [V.str op] ++ nts ks = (keyR (op, ks)).map Ky.v from (keyV op ks).symm] at hnd
    have R2 := R.le hl
    clear ha1 hl1 hc1 ht1 hl2
    refine EXS.cons ?_
    refine EX.ifs ?_
    refine TS.cmp ?_ rfl
    obtain ⟨h1, ⟨refs, h2, h3, h3'⟩, ⟨f, n, h4, h5, h6⟩, ⟨ws, h7, h8⟩, ⟨ds, h9, h10⟩⟩ := R2
    walk_at "go"
    refine CO.inT h4 hnd (TR.bool ?_)
    rcases h6 (keyR (op, ks)) with ⟨q, hq⟩ | ⟨i, r, q, hi, hir⟩
    case inr =>
      rw [q, Option.isSome_some, if_pos rfl]
      refine EXS.cons ?_
      refine EX.ret ?_
      walk_at "go"
      refine SB.dT h4 hnd q rfl ?_
      rw [keyR_inj hir] at hi
      exact hold i H2 hi hl
    rw [q, Option.isSome_none, if_neg (by decide)]
    have hno : (op, ks) ∉ rows := fun h => hq _ h rfl
    refine EXS.nil ?_
    refine EXS.cons ?_
    refine EX.expr ?_ rfl rfl
    walk_at "go"
    refine GM.inst h1 mth_Bank_require rfl ⟨ok_112, ?_⟩
    walk_at "go"
    refine t_require ⟨_, h1⟩ hop fun H3 hl3 => ?_
    refine ⟨(by intro a h; cases h), ?_⟩
    replace hl := hl.trans hl3
    replace hnd := hl3 _ _ hnd
    replace h1 := hl3 _ _ h1
    replace h2 := hl3 _ _ h2
    replace h4 := hl3 _ _ h4
    replace h7 := hl3 _ _ h7
    replace h9 := hl3 _ _ h9
    replace h3' := fun i a r x y => hl3 _ _ (h3' i a r x y)
    clear hl3
    refine EXS.cons ?_
    refine EX.for ?_ (fun _ => rfl)
    refine IE.tup ?_
    walk_at "go"
    refine EP.some ?_
    walk_at "go"
    refine EP.none ?_
    refine SL.tupFrom (n := 1) (vs := .str op :: nts ks) (by rw [← keyV]; exact hnd) (by decide) (by simp) (by simp [nts_len]; omega) fun t4 ht4 => ?_
    refine ⟨_, _, rfl, upd_self .., ?_⟩
    have hrl : refs.length = rows.length := by rw [h3, List.length_map]
    refine ForP.mk (fun i ρ' H' => Le (upd H3 t4 (.tup ((V.str op :: nts ks).drop 1))) H' ∧ lk ρ' "self" = some (.ref b.B) ∧ lk ρ' "node" = some (.ref nd)) (⟨Le.refl _, by walk_at "lk", by walk_at "lk"⟩) (fun i ρ' H' q => q.1 _ _ (upd_self ..)) ?_ ?_
    · rintro i ρ' H' hi ⟨hle, k1, k2⟩ v H₂ hv hle2 hsrc KQ hKQ
      obtain ⟨k, hk, rfl⟩ : ∃ k ∈ ks, v = .int (k : Int) := nts_mem (List.mem_of_getElem? hv)
      have hl4 := ((le_upd ht4).trans hle).trans hle2
      refine AT.name ?_ rfl (.inl rfl)
      refine EXS.cons ?_
      refine EX.ifs ?_
      refine TS.not ?_
      refine TS.chain ?_ rfl
      walk_at "go"
      refine CO.leInt (TR.bool ?_)
      rw [decide_eq_true (Int.natCast_nonneg k), if_pos rfl]
      walk_at "ev"
      walk_at "bi"
      have g1 := hl4 _ _ h1
      walk_at "go"
      refine CL.lenList (hl4 _ _ h2) (by rw [List.length_map]; omega) ?_
      refine CO.ltInt (TR.bool ?_)
      have hk' := hks k hk
      rw [decide_eq_true (by rw [List.length_map]; omega)]
      rw [if_neg (by decide)]
      refine EXS.nil ?_
      refine EXS.nil ?_
      refine hKQ _ _ _ ?_
      exact ⟨hle.trans hle2, lk_tl (by decide) k1, lk_tl (by decide) k2⟩
    rintro ρ' H' ⟨hle, k1, k2⟩
    replace hl := (hl.trans (le_upd ht4)).trans hle
    replace hnd := ((le_upd ht4).trans hle) _ _ hnd
    replace h1 := ((le_upd ht4).trans hle) _ _ h1
    replace h2 := ((le_upd ht4).trans hle) _ _ h2
    replace h4 := ((le_upd ht4).trans hle) _ _ h4
    replace h7 := ((le_upd ht4).trans hle) _ _ h7
    replace h9 := ((le_upd ht4).trans hle) _ _ h9
    replace h3' := fun i a r x y => ((le_upd ht4).trans hle) _ _ (h3' i a r x y)
    clear hle ht4
    refine EXS.cons ?_
    refine EX.assignSub ?_ rfl
    walk_at "ev"
    walk_at "bi"
    walk_at "go"
    refine CL.lenList h2 (by rw [List.length_map]; omega) ?_
    walk_at "go"
    refine SI.dT h4 hnd (by omega) ?_
    have hlen : (((refs.map V.ref).length : Nat) : Int) = ((rows.length : Nat) : Int) := by rw [List.length_map, hrl]
    rw [hlen]
    have keep1 : ∀ {x o}, H' x = some o → tg o ≠ (1, 1) → upd H' b.nd (.dT (1, 1) (fun y => if y = keyR (op, ks) then some (V.int (rows.length : Nat)) else f y) (n + 1)) x = some o := fun hx hne => upd_old hx h4 hne
    refine EXS.cons ?_
    refine EX.expr ?_ rfl rfl
    walk_at "go"
    refine GM.list (by walk_at "hp") PySem.F.slot_list_append PySem.F.type_list_append ⟨trivial, EVL.one ?_⟩
    walk_at "go"
    refine CL.append (by walk_at "hp") (by rw [List.length_map]; omega) ?_
    refine ⟨(by intro a h; cases h), ?_⟩
    have keep2 : ∀ {x o}, H' x = some o → tg o ≠ (1, 1) → tg o ≠ (1, 0) → upd (upd H' b.nd (.dT (1, 1) (fun y => if y = keyR (op, ks) then some (V.int (rows.length : Nat)) else f y) (n + 1))) b.nl (.lst (1, 0) (refs.map V.ref ++ [V.ref nd])) x = some o := fun hx hne hne2 => upd_old (keep1 hx hne) (keep1 h2 (by walk_at "tg")) hne2
    have f1 := keep2 h1 (by walk_at "tg") (by walk_at "tg")
    have f2 := upd_self (upd H' b.nd (.dT (1, 1) (fun y => if y = keyR (op, ks) then some (V.int (rows.length : Nat)) else f y) (n + 1))) b.nl (.lst (1, 0) (refs.map V.ref ++ [V.ref nd]))
    have f4 : upd (upd H' b.nd (.dT (1, 1) (fun y => if y = keyR (op, ks) then some (V.int (rows.length : Nat)) else f y) (n + 1))) b.nl (.lst (1, 0) (refs.map V.ref ++ [V.ref nd])) b.nd = some (.dT (1, 1) (fun y => if y = keyR (op, ks) then some (V.int (rows.length : Nat)) else f y) (n + 1)) := upd_old (upd_self ..) (keep1 h2 (by walk_at "tg")) (by walk_at "tg")
    have f7 := keep2 h7 (by walk_at "tg") (by walk_at "tg")
    have f9 := keep2 h9 (by walk_at "tg") (by walk_at "tg")
    have fnd := keep2 hnd (by walk_at "tg") (by walk_at "tg")
    have f3 := fun i a r x y => keep2 (h3' i a r x y) (by walk_at "tg") (by walk_at "tg")
    have fk : ∀ x o, H x = some o → (tg o).1 ≠ 1 → upd (upd H' b.nd (.dT (1, 1) (fun y => if y = keyR (op, ks) then some (V.int (rows.length : Nat)) else f y) (n + 1))) b.nl (.lst (1, 0) (refs.map V.ref ++ [V.ref nd])) x = some o := fun x o hx hne => keep2 (hl x o hx) (by walk_at "tg") (by walk_at "tg")
    generalize upd (upd H' b.nd (.dT (1, 1) (fun y => if y = keyR (op, ks) then some (V.int (rows.length : Nat)) else f y) (n + 1))) b.nl (.lst (1, 0) (refs.map V.ref ++ [V.ref nd])) = H6 at f1 f2 f3 f4 f7 f9 fnd fk ⊢
    clear keep1 keep2 h1 h2 h4 h7 h9 hnd h3' hl
    refine EXS.cons ?_
    refine EX.expr ?_ rfl rfl
    walk_at "go"
    refine GM.list f7 PySem.F.slot_list_append PySem.F.type_list_append ⟨trivial, EVL.one ?_⟩
    walk_at "go"
    walk_at "bi"
    refine EVL.one ?_
    refine EV.comp (0, 10) [("self", .ref b.B)] ⟨fun _ => rfl, rfl, rfl, by decide, by decide, by decide⟩ ⟨by walk_at "lk", .inl rfl, .inl rfl, rfl, trivial⟩ ?_
    refine IE.tup ?_
    walk_at "go"
    refine EP.some ?_
    walk_at "go"
    refine EP.none ?_
    refine SL.tupFrom (n := 1) (vs := .str op :: nts ks) (by rw [← keyV]; exact fnd) (by decide) (by simp) (by simp [nts_len]; omega) fun t7 ht7 => ?_
    refine ⟨_, _, rfl, upd_self .., ?_⟩
    refine CompOk.pure (nts ks) rfl (by rw [nts_len]; omega) (upd_self ..) rfl rfl (fun H' hl => hl _ _ (upd_self ..)) (pick ws) (fun i v H₂ hv => hv) (fun v hv C H₂ hl2 => ?_) fun H7 hl7 a7 ha7 => ?_
    · obtain ⟨k, hk, rfl⟩ := nts_mem hv
      have g1 := ((le_upd ht7).trans hl2) _ _ f1
      have g7 := ((le_upd ht7).trans hl2) _ _ f7
      have := hks k hk
      walk_at "go"
      exact SB.list g7 (by omega) (by omega) (zts_get (by omega)) rfl ⟨rfl, Le.refl _⟩
    rw [pick_map]
    refine EVL.nil ?_
    refine CL.sum (upd_self ..) ?_
    refine BO.add ?_
    have l7 := ((le_upd ht7).trans hl7).trans (le_upd (o := .lst (0, 10) (zts (ks.map fun k => ws.getD k 0))) ha7)
    generalize upd H7 a7 (.lst (0, 10) (zts (ks.map fun k => ws.getD k 0))) = H8 at l7 ⊢
    clear hl7 ha7 ht7
    replace f1 := l7 _ _ f1
    replace f2 := l7 _ _ f2
    replace f3 := fun i a r x y => l7 _ _ (f3 i a r x y)
    replace f4 := l7 _ _ f4
    replace f7 := l7 _ _ f7
    replace f9 := l7 _ _ f9
    replace fnd := l7 _ _ fnd
    replace fk := fun x o hx hne => l7 _ _ (fk x o hx hne)
    clear l7
    generalize 1 + (ks.map fun k => ws.getD k 0).sum = wt
    refine CL.append f7 (by unfold zts; rw [List.length_map]; omega) ?_
    refine ⟨(by intro a h; cases h), ?_⟩
    rw [show zts ws ++ [V.int wt] = zts (ws ++ [wt]) by unfold zts; rw [List.map_append]; rfl]
    have e7 := upd_self H8 b.wl (.lst (1, 2) (zts (ws ++ [wt])))
    have e1 := upd_old (o' := .lst (1, 2) (zts (ws ++ [wt]))) f1 f7 (by walk_at "tg")
    have e2 := upd_old (o' := .lst (1, 2) (zts (ws ++ [wt]))) f2 f7 (by walk_at "tg")
    have e3 := fun i a r x y => upd_old (o' := .lst (1, 2) (zts (ws ++ [wt]))) (f3 i a r x y) f7 (by walk_at "tg")
    have e4 := upd_old (o' := .lst (1, 2) (zts (ws ++ [wt]))) f4 f7 (by walk_at "tg")
    have e9 := upd_old (o' := .lst (1, 2) (zts (ws ++ [wt]))) f9 f7 (by walk_at "tg")
    have ed := upd_old (o' := .lst (1, 2) (zts (ws ++ [wt]))) fnd f7 (by walk_at "tg")
    have ek := fun x o hx hne => upd_old (o' := .lst (1, 2) (zts (ws ++ [wt]))) (fk x o hx hne) f7 (by walk_at "tg")
    generalize upd H8 b.wl (.lst (1, 2) (zts (ws ++ [wt]))) = H9 at e1 e2 e3 e4 e7 e9 ed ek ⊢
    clear f1 f2 f3 f4 f7 f9 fnd fk
    refine EXS.cons ?_
    refine EX.expr ?_ rfl rfl
    walk_at "go"
    refine GM.list e9 PySem.F.slot_list_append PySem.F.type_list_append ⟨trivial, EVL.one ?_⟩
    walk_at "go"
    walk_at "bi"
    refine EVL.one ?_
    refine EV.bin ?_
    refine EV.comp (0, 10) [("self", .ref b.B)] ⟨fun _ => rfl, rfl, rfl, by decide, by decide, by decide⟩ ⟨by walk_at "lk", .inl rfl, .inl rfl, rfl, trivial⟩ ?_
    refine IE.tup ?_
    walk_at "go"
    refine EP.some ?_
    walk_at "go"
    refine EP.none ?_
    refine SL.tupFrom (n := 1) (vs := .str op :: nts ks) (by rw [← keyV]; exact ed) (by decide) (by simp) (by simp [nts_len]; omega) fun t7 ht7 => ?_
    refine ⟨_, _, rfl, upd_self .., ?_⟩
    refine CompOk.pure (nts ks) rfl (by rw [nts_len]; omega) (upd_self ..) rfl rfl (fun H' hl => hl _ _ (upd_self ..)) (pick ds) (fun i v H₂ hv => hv) (fun v hv C H₂ hl2 => ?_) fun H7 hl7 a7 ha7 => ?_
    · obtain ⟨k, hk, rfl⟩ := nts_mem hv
      have g1 := ((le_upd ht7).trans hl2) _ _ e1
      have g7 := ((le_upd ht7).trans hl2) _ _ e9
      have := hks k hk
      walk_at "go"
      exact SB.list g7 (by omega) (by omega) (zts_get (by omega)) rfl ⟨rfl, Le.refl _⟩
    rw [pick_map]
    refine EV.list (0, 10) (EVL.one ?_) rfl (by decide)
    walk_at "go"
    intro a8 ha8
    have l7 := ((le_upd ht7).trans hl7).trans (le_upd (o := .lst (0, 10) (zts (ks.map fun k => ds.getD k 0))) ha7)
    have u7 := upd_self H7 a7 (.lst (0, 10) (zts (ks.map fun k => ds.getD k 0)))
    generalize upd H7 a7 (.lst (0, 10) (zts (ks.map fun k => ds.getD k 0))) = H8 at l7 u7 ha8 ⊢
    refine BO.addList (0, 10) (upd_fr ha8 u7) (upd_self ..) (by unfold zts; simp; omega) fun c9 hc9 => ?_
    refine EVL.nil ?_
    refine CL.maxList (ns := (ks.map fun k => ds.getD k 0) ++ [0]) (g := (0, 10)) (by unfold zts; rw [List.map_append]; exact upd_self ..) (by simp) fun M => ?_
    refine BO.add ?_
    have l10 := (l7.trans (le_upd ha8)).trans (le_upd (o := .lst (0, 10) (zts (ks.map fun k => ds.getD k 0) ++ [V.int 0])) hc9)
    generalize upd (upd H8 a8 _) c9 _ = H10 at l10 ⊢
    generalize 1 + M = wt2
    clear l7 u7 ha8 hc9 ha7 hl7 ht7
    refine CL.append (l10 _ _ e9) (by unfold zts; rw [List.length_map]; omega) ?_
    refine ⟨(by intro a h; cases h), ?_⟩
    rw [show zts ds ++ [V.int wt2] = zts (ds ++ [wt2]) by unfold zts; rw [List.map_append]; rfl]
    refine EXS.cons ?_
    refine EX.ret ?_
    have up : ∀ {x o}, H9 x = some o → tg o ≠ (1, 3) → upd H10 b.dl (.lst (1, 3) (zts (ds ++ [wt2]))) x = some o := fun hx hne => upd_old (l10 _ _ hx) (l10 _ _ e9) hne
    have d1 := up e1 (by walk_at "tg")
    have d2 := up e2 (by walk_at "tg")
    walk_at "go"
    walk_at "bi"
    walk_at "go"
    refine CL.lenList d2 (by simp; omega) ?_
    walk_at "go"
    refine BO.sub ?_
    rw [show (((refs.map V.ref ++ [V.ref nd]).length : Nat) : Int) - 1 = (rows.length : Nat) by rw [List.length_append, List.length_map, hrl]; simp]
    refine hnew hno _ ⟨d1, ⟨refs ++ [nd], by rw [List.map_append]; exact d2, by simp [hrl], fun i a r hi hr => ?_⟩, ⟨_, _, up e4 (by walk_at "tg"), by simp; omega, fun key => ?_⟩, ⟨_, up e7 (by walk_at "tg"), by simp [h8]⟩, ⟨_, upd_self .., by simp [h10]⟩⟩ fun x o hx hne => up (ek x o hx hne) (by walk_at "tg")
    · rw [List.map_append] at hr
      rcases Nat.lt_or_ge i refs.length with w | w
      · rw [List.getElem?_append_left w] at hi
        rw [List.getElem?_append_left (by rw [List.length_map]; omega)] at hr
        exact up (e3 i a r hi hr) (by walk_at "tg")
      · have hi' := (List.getElem?_eq_some_iff.mp hi).1
        have : i = refs.length := by rw [List.length_append] at hi'; simp at hi'; omega
        subst this
        rw [List.getElem?_append_right (Nat.le_refl _), Nat.sub_self] at hi
        rw [List.getElem?_append_right (by rw [List.length_map]; omega), List.length_map, hrl, Nat.sub_self] at hr
        cases hi; cases hr
        exact up ed (by walk_at "tg")
    · by_cases w : key = keyR (op, ks)
      · subst w
        exact .inr ⟨rows.length, (op, ks), if_pos rfl, by simp, rfl⟩
      · rw [if_neg w]
        rcases h6 key with ⟨q1, q2⟩ | ⟨i, r, q1, q2, q3⟩
        · refine .inl ⟨q1, fun r hr => ?_⟩
          rcases List.mem_append.mp hr with z | z
          · exact q2 r z
          · rw [List.mem_singleton.mp z]; exact Ne.symm w
        · exact .inr ⟨i, r, q1, by rw [List.getElem?_append_left (List.getElem?_eq_some_iff.mp q2).1]; exact q2, q3⟩
theorem t_binit {a : Addr} {P : V → MH → Prop} (ha : H a = some (.inst 181 [])) (hP : ∀ p q r t H', RepB ⟨a, p, q, r, t⟩ [] H' → (∀ x o, H x = some o → x ≠ a → H' x = some o) → P .none H') : CC (DW w mean mg mb bl) (d + 1) H (.ref 93) [.ref a] P := by
  refine' CC.defB (D := DW w mean mg mb bl) ?ho ?hcd ["self"] rfl ?hbind ?hb ?h
  walk_at "w_enter"
  case hbind => exact all1 fun _ => rfl
  case h =>
    intro L
    refine EXS.cons ?_
    refine EX.assignAttr ?_ rfl
    refine EV.list (1, 0) (EVL.nil ?_) rfl (by decide)
    intro p hp
    walk_at "ev"
    refine SA.inst (by walk_at "hp") sta_Bank_nodes (by simp) ?_
    refine EXS.cons ?_
    refine EX.assignAttr ?_ rfl
    refine EV.dict0T (1, 1) fun q hq => ?_
    walk_at "ev"
    refine SA.inst (by walk_at "hp") sta_Bank_numbers (by simp) ?_
    refine EXS.cons ?_
    refine EX.assignAttr ?_ rfl
    refine EV.list (1, 2) (EVL.nil ?_) rfl (by decide)
    intro r hr
    walk_at "ev"
    refine SA.inst (by walk_at "hp") sta_Bank_weights (by simp) ?_
    refine EXS.cons ?_
    refine EX.assignAttr ?_ rfl
    refine EV.list (1, 3) (EVL.nil ?_) rfl (by decide)
    intro t ht
    walk_at "ev"
    refine SA.inst (by walk_at "hp") sta_Bank_depths (by simp) ?_
    refine EXS.nil ?_
    refine hP p q r t _ ?_ fun x o hx hne => ?_
    · refine ⟨?_, ⟨[], ?_, rfl, fun i a r h => nomatch h⟩, ⟨_, 0, ?_, Nat.le_refl _, fun key => .inl ⟨rfl, fun r h => nomatch h⟩⟩, ⟨[], ?_, rfl⟩, ⟨[], ?_, rfl⟩⟩
      · exact upd_self ..
      · walk_at "hp"
      · walk_at "hp"
      · walk_at "hp"
      · walk_at "hp"
    have k1 : upd (upd H p (.lst (1, 0) [])) a (.inst 181 [("nodes", .ref p)]) x = some o := (upd_ne hne).trans (upd_fresh hx hp)
    have k2 := (upd_ne (o := .inst 181 [("numbers", .ref q), ("nodes", .ref p)]) hne).trans (upd_fresh (o' := .dT (1, 1) (fun _ => none) 0) k1 hq)
    have k3 := (upd_ne (o := .inst 181 [("weights", .ref r), ("numbers", .ref q), ("nodes", .ref p)]) hne).trans (upd_fresh (o' := .lst (1, 2) []) k2 hr)
    exact (upd_ne hne).trans (upd_fresh k3 ht)
structure HA where
  h : Addr
  b : BA
  u : UA
  ed : Addr
  fo : Addr
  kn : Addr
  ab : Addr
  wa : Addr
noncomputable def kn' (k : List Ky → Option Nat) : List Ky → Option V := fun key => (k key).map fun (i : Nat) => V.int (i : Int)
noncomputable def RepA (ab : Addr) (rows : Nat) (isR : Nat → Prop) (us : Nat → List Nat) (c : Nat) (H : MH) : Prop := ∃ f n, H ab = some (.dI (3, 3) f n) ∧ n ≤ c ∧ ∀ k, k < rows → isR k → ∃ l, f (k : Int) = some (.ref l) ∧ H l = some (.lst (3, 100 + k) (nts (us k)))
structure RepH (x : HA) (s : St) (c : Nat) (H : MH) : Prop where
  inst : H x.h = some (.inst 433 [("backs", .int 0), ("waiting", .ref x.wa), ("above", .ref x.ab), ("known", .ref x.kn), ("forest", .ref x.fo), ("edges", .ref x.ed), ("unions", .ref x.u.U), ("bank", .ref x.b.B)])
  bank : RepB x.b s.rows H
  uni : RepU x.u s.par H
  edges : ∃ es, H x.ed = some (.lst (3, 0) es) ∧ es.length ≤ c
  forest : ∃ es, H x.fo = some (.lst (3, 1) es) ∧ es.length ≤ c
  known : ∃ n, H x.kn = some (.dT (3, 2) (kn' s.known) n) ∧ n ≤ c
  above : RepA x.ab s.rows.length (fun k => s.rt k = k) s.users c H
  waiting : H x.wa = some (.lst (3, 4) (nts s.waiting))
noncomputable def K0 (H H' : MH) : Prop := ∀ a o, H a = some o → (tg o).1 = 0 → H' a = some o
theorem K0.refl (H : MH) : K0 H H := fun _ _ h _ => h
theorem K0.trans {H₁ H₂ H₃ : MH} (x : K0 H₁ H₂) (y : K0 H₂ H₃) : K0 H₁ H₃ := fun a o h ht => y a o (x a o h ht) ht
theorem K0.of {H H' : MH} (h : Le H H') : K0 H H' := fun a o x _ => h a o x
theorem RepA.keep {ab : Addr} {rows : Nat} {isR : Nat → Prop} {us : Nat → List Nat} {c : Nat} {H H' : MH} (R : RepA ab rows isR us c H) (hk : ∀ a o, H a = some o → (tg o).1 = 3 → H' a = some o) : RepA ab rows isR us c H' := by
  obtain ⟨f, n, h1, h2, h3⟩ := R
  exact ⟨f, n, hk _ _ h1 rfl, h2, fun k hk' hr => let ⟨l, a, b⟩ := h3 k hk' hr; ⟨l, a, hk _ _ b rfl⟩⟩
theorem RepH.keep {x : HA} {s : St} {c : Nat} {H H' : MH} (R : RepH x s c H) (hk : ∀ a o, H a = some o → ((tg o).1 ≠ 0 ∨ tg o = (0, 2) ∨ tg o = (0, 1)) → H' a = some o) : RepH x s c H' := by
  obtain ⟨h1, h2, h3, ⟨e, h4, h4'⟩, ⟨f, h5, h5'⟩, ⟨n, h6, h6'⟩, h7, h8⟩ := R
  refine ⟨hk _ _ h1 (.inr (.inl rfl)), h2.keep fun a o h w => hk a o h ?_, h3.keep fun a o h w => hk a o h ?_, ⟨e, hk _ _ h4 (.inl (by walk_at "tg")), h4'⟩, ⟨f, hk _ _ h5 (.inl (by walk_at "tg")), h5'⟩, ⟨n, hk _ _ h6 (.inl (by walk_at "tg")), h6'⟩, h7.keep fun a o h w => hk a o h (.inl (by omega)), hk _ _ h8 (.inl (by walk_at "tg"))⟩
  · exact w.imp (fun w => by omega) id
  · rcases w with w | w
    · exact .inl (by omega)
    · exact .inr (.inl w)
theorem RepH.le {x : HA} {s : St} {c : Nat} {H H' : MH} (R : RepH x s c H) (hl : Le H H') : RepH x s c H' := R.keep fun a o h _ => hl a o h
theorem RepH.more {x : HA} {s : St} {c c' : Nat} {H : MH} (R : RepH x s c H) (hc : c ≤ c') : RepH x s c' H := by
  obtain ⟨h1, h2, h3, ⟨e, h4, h4'⟩, ⟨f, h5, h5'⟩, ⟨n, h6, h6'⟩, ⟨g, m, h7, h7', h7''⟩, h8⟩ := R
  exact ⟨h1, h2, h3, ⟨e, h4, by omega⟩, ⟨f, h5, by omega⟩, ⟨n, h6, by omega⟩, ⟨g, m, h7, by omega, h7''⟩, h8⟩
structure Bd (s : St) : Prop where
  rows : s.rows.length ≤ 20
  kids : ∀ r ∈ s.rows, r.2.length ≤ 2 ∧ OpOk r.1
theorem t_hfind {x : HA} {s : St} {c i : Nat} {pairs : List (Nat × Nat)} {todo : List Nat} {P : V → MH → Prop} (R : RepH x s c H) (I : Inv s pairs todo) (B : s.rows.length ≤ 21) (hi : i < s.rows.length) (hP : P (.int (s.rt i : Nat)) H) : CL (DW w mean mg mb bl) (d + 2) H (.ref 355) [.ref x.h, .int (i : Nat)] P := by
  refine' CL.defB (D := DW w mean mg mb bl) ?ho ?hcd ["self", "n"] rfl ?hbind ?hb ?h
  walk_at "w_enter"
  case hbind => exact all2 fun _ _ => rfl
  case h =>
    intro L
    have h1 := R.inst
    refine EXS.cons ?_
    refine EX.ret ?_
    walk_at "go"
    refine GM.inst R.uni.inst mth_Unions_find rfl ⟨ok_258, ?_⟩
    walk_at "go"
    exact t_uni_find R.uni (by rw [I.len]; exact hi) I.low (by rw [I.len]; omega) hP
theorem t_hsize {x : HA} {s : St} {c : Nat} {P : V → MH → Prop} (R : RepH x s c H) (B : s.rows.length ≤ 21) (hP : P (.int (s.rows.length : Nat)) H) : CL (DW w mean mg mb bl) (d + 2) H (.ref 326) [.ref x.h] P := by
  refine' CL.defB (D := DW w mean mg mb bl) ?ho ?hcd ["self"] rfl ?hbind ?hb ?h
  walk_at "w_enter"
  case hbind => exact all1 fun _ => rfl
  case h =>
    intro L
    have h1 := R.inst
    refine EXS.cons ?_
    refine EX.ret ?_
    walk_at "go"
    refine GM.inst R.bank.inst mth_Bank_size rfl ⟨ok_100, ?_⟩
    walk_at "go"
    exact t_bsize R.bank (by omega) hP
theorem t_hissettled {x : HA} {s : St} {c : Nat} {P : V → MH → Prop} (R : RepH x s c H) (hz : s.waiting.length ≤ 10000) (hP : P (.bool (decide (s.waiting = []))) H) : CL (DW w mean mg mb bl) (d + 1) H (.ref 390) [.ref x.h] P := by
  refine' CL.defB (D := DW w mean mg mb bl) ?ho ?hcd ["self"] rfl ?hbind ?hb ?h
  walk_at "w_enter"
  case hbind => exact all1 fun _ => rfl
  case h =>
    intro L
    have h1 := R.inst
    have h8 := R.waiting
    refine EXS.cons ?_
    refine EX.ret ?_
    walk_at "ev"
    walk_at "ev"
    walk_at "bi"
    walk_at "go"
    refine CL.lenList h8 (by rw [nts_len]; omega) ?_
    walk_at "go"
    refine CO.eqInt ?_
    rw [nts_len]
    have : (((s.waiting.length : Nat) : Int) == 0) = decide (s.waiting = []) := by
      rw [Bool.eq_iff_iff, beq_iff_eq, decide_eq_true_eq]
      constructor
      · intro h; exact List.length_eq_zero_iff.mp (by omega)
      · intro h; rw [h]; rfl
    rw [this]; exact hP
noncomputable def rtV (s : St) : V → V | .int i => .int (s.rt i.toNat : Nat) | v => v
theorem rtV_map (s : St) (ks : List Nat) : (nts ks).map (rtV s) = nts (ks.map s.rt) := by
  unfold nts; rw [List.map_map, List.map_map]; rfl
theorem t_hnode {x : HA} {s : St} {c n : Nat} {r : Row} {pairs : List (Nat × Nat)} {todo : List Nat} {P : V → MH → Prop} (R : RepH x s c H) (I : Inv s pairs todo) (B : s.rows.length ≤ 21) (hr : s.rows[n]? = some r) (h2 : r.2.length ≤ 2)
    (hP : ∀ t H', Le H H' → H' t = some (.tup ((s.node r).map Ky.v)) → P (.ref t) H') : CL (DW w mean mg mb bl) (d + 3) H (.ref 331) [.ref x.h, .int (n : Nat)] P := by
  refine' CL.defB (D := DW w mean mg mb bl) ?ho ?hcd ["self", "n"] rfl ?hbind ?hb ?h
  walk_at "w_enter"
  case hbind => exact all2 fun _ _ => rfl
  case h =>
    intro L
    have h1 := R.inst
    refine EXS.cons ?_
    refine EX.ret ?_
    walk_at "go"
    refine GM.inst R.bank.inst mth_Bank_op rfl ⟨ok_138, ?_⟩
    walk_at "go"
    refine t_bop R.bank (by omega) hr ?_
    walk_at "go"
    intro t1 ht1
    have R1 := R.le (le_upd (o := .tup [.str r.1]) ht1)
    have u1 := upd_self H t1 (.tup [.str r.1])
    have l1 := le_upd (o := .tup [.str r.1]) ht1
    generalize upd H t1 (.tup [.str r.1]) = H1 at R1 u1 l1 ⊢
    replace h1 := R1.inst
    walk_at "ev"
    walk_at "bi"
    refine EVL.one ?_
    refine EV.comp (0, 10) [("self", .ref x.h)] ⟨fun _ => rfl, rfl, rfl, by decide, by decide, by decide⟩ ⟨by walk_at "lk", .inl rfl, .inl rfl, rfl, trivial⟩ ?_
    refine IE.tup ?_
    walk_at "go"
    refine GM.inst R1.bank.inst mth_Bank_kids rfl ⟨ok_145, ?_⟩
    walk_at "go"
    refine t_bkids R1.bank (by omega) hr (by omega) fun t2 ht2 => ?_
    refine ⟨_, _, rfl, upd_self .., ?_⟩
    refine CompOk.pure (nts r.2) rfl (by rw [nts_len]; omega) (upd_self ..) rfl rfl (fun H' hl => hl _ _ (upd_self ..)) (rtV s) (fun i v H₂ hv => hv) (fun v hv C H₂ hl2 => ?_) fun H7 hl7 a7 ha7 => ?_
    · obtain ⟨k, hk, rfl⟩ := nts_mem hv
      have R2 := R1.le ((le_upd ht2).trans hl2)
      walk_at "go"
      refine GM.inst R2.inst mth_Heap_find rfl ⟨ok_355, ?_⟩
      walk_at "go"
      exact t_hfind R2 I B (kids_lt I hr k hk) ⟨rfl, Le.refl _⟩
    rw [rtV_map]
    refine EVL.nil ?_
    refine CL.tupleOf (upd_self ..) (by rw [nts_len, List.length_map]; omega) fun c8 hc8 => ?_
    refine BO.addTup (upd_fr hc8 (upd_fr ha7 (hl7 _ _ (upd_fr ht2 u1)))) (upd_self ..) (by simp [nts_len]; omega) fun t9 H9 hl9 h9 => ?_
    refine hP t9 H9 (((l1.trans (le_upd ht2)).trans hl7).trans ((le_upd ha7).trans ((le_upd hc8).trans hl9))) ?_
    rw [h9]
    exact congrArg (fun z => some (MO.tup z)) (keyV r.1 (r.2.map s.rt)).symm
theorem t_hseek {x : HA} {s : St} {c : Nat} {op : Str} {ks : List Nat} {a : Addr} {g : Nat × Nat} {pairs : List (Nat × Nat)} {P : V → MH → Prop} (R : RepH x s c H) (I : Inv s pairs []) (B : s.rows.length ≤ 21) (ha : H a = some (.lst g (nts ks))) (hks : ∀ k ∈ ks, k < s.rows.length) (h2 : ks.length ≤ 2)
    (hP : ∀ H', Le H H' → P (.int (match s.known (keyOf op (ks.map s.rt)) with | none => -1 | some k => ((s.rt k : Nat) : Int))) H') : CL (DW w mean mg mb bl) (d + 3) H (.ref 423) [.ref x.h, .str op, .ref a] P := by
  refine' CL.defB (D := DW w mean mg mb bl) ?ho ?hcd ["self", "op", "classes"] rfl ?hbind ?hb ?h
  walk_at "w_enter"
  case hbind => exact all3 fun _ _ _ => rfl
  case h =>
    intro L
    have h1 := R.inst
    obtain ⟨n, h6, h6'⟩ := R.known
    refine EXS.cons ?_
    refine EX.assignN ?_ rfl (.inl rfl) rfl
    walk_at "go"
    refine GM.dict (.inr (.inr ⟨_, _, _, h6⟩)) PySem.F.slot_dict_get PySem.F.type_dict_get ⟨trivial, ?_⟩
    walk_at "go"
    intro t1 ht1
    have R1 := R.le (le_upd (o := .tup [.str op]) ht1)
    have u1 := upd_self H t1 (.tup [.str op])
    have l1 := le_upd (o := .tup [.str op]) ht1
    have a1 := l1 _ _ ha
    generalize upd H t1 (.tup [.str op]) = H1 at R1 u1 l1 a1 ⊢
    walk_at "ev"
    walk_at "bi"
    refine EVL.one ?_
    refine EV.comp (0, 10) [("self", .ref x.h)] ⟨fun _ => rfl, rfl, rfl, by decide, by decide, by decide⟩ ⟨by walk_at "lk", .inl rfl, .inl rfl, rfl, trivial⟩ ?_
    refine IE.list ?_
    walk_at "go"
    refine ⟨_, _, _, rfl, a1, ?_⟩
    refine CompOk.pure (nts ks) rfl (by rw [nts_len]; omega) ⟨_, a1⟩ rfl rfl (fun H' hl => ⟨_, hl _ _ a1⟩) (rtV s) (fun i v H₂ hv => hv) (fun v hv C H₂ hl2 => ?_) fun H7 hl7 a7 ha7 => ?_
    · obtain ⟨k, hk, rfl⟩ := nts_mem hv
      have R2 := R1.le hl2
      walk_at "go"
      refine GM.inst R2.inst mth_Heap_find rfl ⟨ok_355, ?_⟩
      walk_at "go"
      exact t_hfind R2 I B (hks k hk) ⟨rfl, Le.refl _⟩
    rw [rtV_map]
    refine EVL.nil ?_
    refine CL.tupleOf (upd_self ..) (by rw [nts_len, List.length_map]; omega) fun c8 hc8 => ?_
    refine BO.addTup (upd_fr hc8 (upd_fr ha7 (hl7 _ _ u1))) (upd_self ..) (by simp [nts_len]; omega) fun t9 H9 hl9 h9 => ?_
    rw [show [V.str op] ++ nts (ks.map s.rt) = (keyOf op (ks.map s.rt)).map Ky.v from (keyV op (ks.map s.rt)).symm] at h9
    have l9 : Le H1 H9 := hl7.trans ((le_upd ha7).trans ((le_upd hc8).trans hl9))
    have R9 := R1.le l9
    walk_at "go"
    refine UO.neg ?_
    refine EVL.nil ?_
    refine CL.getT ((l1.trans l9) _ _ h6) h9 ?_
    refine EXS.cons ?_
    refine EX.ret ?_
    refine EV.ifx ?_
    refine TS.cmp ?_ rfl
    cases hk : s.known (keyOf op (ks.map s.rt)) with
    | none =>
      rw [show kn' s.known (keyOf op (ks.map s.rt)) = none by unfold kn'; rw [hk]; rfl]
      walk_at "go"
      refine CO.ltInt (TR.bool ?_)
      rw [if_pos (by decide)]
      walk_at "ev"
      walk_at "ev"
      refine UO.neg ?_
      have := hP H9 (l1.trans l9)
      rw [hk] at this; exact this
    | some k =>
      rw [show kn' s.known (keyOf op (ks.map s.rt)) = some (.int (k : Int)) by unfold kn'; rw [hk]; rfl]
      walk_at "go"
      refine CO.ltInt (TR.bool ?_)
      rw [if_neg (by simp)]
      walk_at "go"
      refine GM.inst R9.inst mth_Heap_find rfl ⟨ok_355, ?_⟩
      walk_at "go"
      refine t_hfind R9 I B (known_lt I hk) ?_
      have := hP H9 (l1.trans l9)
      rw [hk] at this; exact this
theorem RepA.keep2 {ab : Addr} {rows : Nat} {isR : Nat → Prop} {us : Nat → List Nat} {c : Nat} {H H' : MH} (R : RepA ab rows isR us c H) (hk : ∀ a o, H a = some o → (tg o = (3, 3) ∨ ∃ k, tg o = (3, 100 + k)) → H' a = some o) : RepA ab rows isR us c H' := by
  obtain ⟨f, n, h1, h2, h3⟩ := R
  exact ⟨f, n, hk _ _ h1 (.inl rfl), h2, fun k hk' hr => let ⟨l, a, b⟩ := h3 k hk' hr; ⟨l, a, hk _ _ b (.inr ⟨k, rfl⟩)⟩⟩
theorem RepA.more {ab : Addr} {rows : Nat} {isR : Nat → Prop} {us : Nat → List Nat} {c c' : Nat} {H : MH} (R : RepA ab rows isR us c H) (hc : c ≤ c') : RepA ab rows isR us c' H := by
  obtain ⟨f, n, h1, h2, h3⟩ := R
  exact ⟨f, n, h1, by omega, h3⟩
theorem RepH.setEdges {x : HA} {s : St} {c c' : Nat} {es es' : List V} {H : MH} (R : RepH x s c H) (he : H x.ed = some (.lst (3, 0) es)) (hz : es'.length ≤ c') (hc : c ≤ c') : RepH x s c' (upd H x.ed (.lst (3, 0) es')) := by
  have k : ∀ a o, H a = some o → tg o ≠ (3, 0) → upd H x.ed (.lst (3, 0) es') a = some o := fun a o h hne => upd_old h he hne
  obtain ⟨h1, h2, h3, ⟨e, h4, h4'⟩, ⟨f, h5, h5'⟩, ⟨n, h6, h6'⟩, h7, h8⟩ := R
  refine ⟨k _ _ h1 (by walk_at "tg"), h2.keep fun a o h w => k a o h (by rintro q; rw [q] at w; simp at w), h3.keep fun a o h w => k a o h (by rintro q; rw [q] at w; simp at w), ⟨es', upd_self .., hz⟩, ⟨f, k _ _ h5 (by walk_at "tg"), by omega⟩, ⟨n, k _ _ h6 (by walk_at "tg"), by omega⟩, (h7.more hc).keep2 fun a o h w => k a o h ?_, k _ _ h8 (by walk_at "tg")⟩
  rintro q; rw [q] at w
  rcases w with w | ⟨k, w⟩
  · simp at w
  · simp at w; omega
theorem RepH.setForest {x : HA} {s : St} {c c' : Nat} {es es' : List V} {H : MH} (R : RepH x s c H) (he : H x.fo = some (.lst (3, 1) es)) (hz : es'.length ≤ c') (hc : c ≤ c') : RepH x s c' (upd H x.fo (.lst (3, 1) es')) := by
  have k : ∀ a o, H a = some o → tg o ≠ (3, 1) → upd H x.fo (.lst (3, 1) es') a = some o := fun a o h hne => upd_old h he hne
  obtain ⟨h1, h2, h3, ⟨e, h4, h4'⟩, ⟨f, h5, h5'⟩, ⟨n, h6, h6'⟩, h7, h8⟩ := R
  refine ⟨k _ _ h1 (by walk_at "tg"), h2.keep fun a o h w => k a o h (by rintro q; rw [q] at w; simp at w), h3.keep fun a o h w => k a o h (by rintro q; rw [q] at w; simp at w), ⟨e, k _ _ h4 (by walk_at "tg"), by omega⟩, ⟨es', upd_self .., hz⟩, ⟨n, k _ _ h6 (by walk_at "tg"), by omega⟩, (h7.more hc).keep2 fun a o h w => k a o h ?_, k _ _ h8 (by walk_at "tg")⟩
  rintro q; rw [q] at w
  rcases w with w | ⟨k, w⟩
  · simp at w
  · simp at w; omega
theorem RepH.setWaiting {x : HA} {s : St} {c : Nat} {ws : List Nat} {H : MH} (R : RepH x s c H) : RepH x { s with waiting := ws } c (upd H x.wa (.lst (3, 4) (nts ws))) := by
  have k : ∀ a o, H a = some o → tg o ≠ (3, 4) → upd H x.wa (.lst (3, 4) (nts ws)) a = some o := fun a o h hne => upd_old h R.waiting hne
  obtain ⟨h1, h2, h3, ⟨e, h4, h4'⟩, ⟨f, h5, h5'⟩, ⟨n, h6, h6'⟩, h7, h8⟩ := R
  refine ⟨k _ _ h1 (by walk_at "tg"), h2.keep fun a o h w => k a o h (by rintro q; rw [q] at w; simp at w), h3.keep fun a o h w => k a o h (by rintro q; rw [q] at w; simp at w), ⟨e, k _ _ h4 (by walk_at "tg"), h4'⟩, ⟨f, k _ _ h5 (by walk_at "tg"), h5'⟩, ⟨n, k _ _ h6 (by walk_at "tg"), h6'⟩, h7.keep2 fun a o h w => k a o h ?_, upd_self ..⟩
  rintro q; rw [q] at w
  rcases w with w | ⟨k, w⟩
  · simp at w
  · simp at w; omega
theorem RepH.setKnown {x : HA} {s : St} {c n : Nat} {kf : List Ky → Option Nat} {H : MH} {f : List Ky → Option V} {m : Nat} (R : RepH x s c H) (h : H x.kn = some (.dT (3, 2) f m)) (hn : n ≤ c + 1) : RepH x { s with known := kf } (c + 1) (upd H x.kn (.dT (3, 2) (kn' kf) n)) := by
  have k : ∀ a o, H a = some o → tg o ≠ (3, 2) → upd H x.kn (.dT (3, 2) (kn' kf) n) a = some o := fun a o hx hne => upd_old hx h hne
  obtain ⟨h1, h2, h3, ⟨e, h4, h4'⟩, ⟨f, h5, h5'⟩, ⟨n, h6, h6'⟩, h7, h8⟩ := R
  refine ⟨k _ _ h1 (by walk_at "tg"), h2.keep fun a o h w => k a o h (by rintro q; rw [q] at w; simp at w), h3.keep fun a o h w => k a o h (by rintro q; rw [q] at w; simp at w), ⟨e, k _ _ h4 (by walk_at "tg"), by omega⟩, ⟨f, k _ _ h5 (by walk_at "tg"), by omega⟩, ⟨_, upd_self .., hn⟩, (h7.more (Nat.le_succ c)).keep2 fun a o h w => k a o h ?_, k _ _ h8 (by walk_at "tg")⟩
  rintro q; rw [q] at w
  rcases w with w | ⟨k, w⟩
  · simp at w
  · simp at w; omega
theorem users_le_tot {s : St} {k : Nat} (h1 : k < s.rows.length) (h2 : s.rt k = k) : (s.users k).length ≤ s.tot := by
  have := sum_split (f := fun i => (s.users i).length) (roots_nodup s) (mem_roots.mpr ⟨h1, h2⟩)
  unfold St.tot
  omega
theorem t_hfind2 {x : HA} {s : St} {c i : Nat} {P : V → MH → Prop} (R : RepH x s c H) (hlen : s.par.length = s.rows.length) (hlow : ∀ i, i < s.par.length → s.par.getD i i ≤ i) (B : s.rows.length ≤ 21) (hi : i < s.rows.length) (hP : P (.int (s.rt i : Nat)) H) : CL (DW w mean mg mb bl) (d + 2) H (.ref 355) [.ref x.h, .int (i : Nat)] P := by
  refine' CL.defB (D := DW w mean mg mb bl) ?ho ?hcd ["self", "n"] rfl ?hbind ?hb ?h
  walk_at "w_enter"
  case hbind => exact all2 fun _ _ => rfl
  case h =>
    intro L
    have h1 := R.inst
    refine EXS.cons ?_
    refine EX.ret ?_
    walk_at "go"
    refine GM.inst R.uni.inst mth_Unions_find rfl ⟨ok_258, ?_⟩
    walk_at "go"
    exact t_uni_find R.uni (by rw [hlen]; exact hi) hlow (by rw [hlen]; omega) hP
theorem t_join {x : HA} {s : St} {c a b : Nat} {v : V} {pairs : List (Nat × Nat)} {todo : List Nat} {P : V → MH → Prop} (R : RepH x s c H) (I : Inv s pairs todo) (B : s.rows.length ≤ 21) (ha : a < s.rows.length) (hb : b < s.rows.length) (hc : c ≤ 990) (hw : s.waiting.length ≤ 5000) (hu : s.tot ≤ 1000)
    (hP : ∀ H', RepH x (s.unite a b) (c + 2) H' → K0 H H' → P (.bool (decide (s.rt a ≠ s.rt b))) H') : CL (DW w mean mg mb bl) (d + 3) H (.ref 376) [.ref x.h, .int (a : Nat), .int (b : Nat), v] P := by
  refine' CL.defB (D := DW w mean mg mb bl) ?ho ?hcd ["self", "a", "b", "reason"] rfl ?hbind ?hb ?h
  walk_at "w_enter"
  case hbind => exact all4 fun _ _ _ _ => rfl
  case h =>
    intro L
    have h1 := R.inst
    obtain ⟨es, h4, h4'⟩ := R.edges
    refine EXS.cons ?_
    refine EX.expr ?_ rfl rfl
    walk_at "go"
    refine GM.list h4 PySem.F.slot_list_append PySem.F.type_list_append ⟨trivial, EVL.one ?_⟩
    walk_at "go"
    intro t1 ht1
    refine EVL.nil ?_
    have l1 := le_upd (o := .tup [.int (a : Nat), .int (b : Nat), v]) ht1
    refine CL.append (upd_fr ht1 h4) (by omega) ?_
    refine ⟨(by intro a h; cases h), ?_⟩
    have R2 := (R.le l1).setEdges (c' := c + 1) (es' := es ++ [.ref t1]) (l1 _ _ h4) (by rw [List.length_append]; simp; exact h4') (Nat.le_succ c)
    have k2 : K0 H (upd (upd H t1 (.tup [.int (a : Nat), .int (b : Nat), v])) x.ed (.lst (3, 0) (es ++ [.ref t1]))) := fun y o hy h0 => upd_old (l1 _ _ hy) (l1 _ _ h4) (by walk_at "tg")
    have e2 := upd_self (upd H t1 (.tup [.int (a : Nat), .int (b : Nat), v])) x.ed (.lst (3, 0) (es ++ [.ref t1]))
    generalize upd (upd H t1 (.tup [.int (a : Nat), .int (b : Nat), v])) x.ed (.lst (3, 0) (es ++ [.ref t1])) = H2 at R2 k2 e2 ⊢
    clear l1 h4 ht1 h1
    have h1 := R2.inst
    refine EXS.cons ?_
    refine EX.assignN ?_ rfl (.inl rfl) rfl
    walk_at "go"
    refine GM.inst R2.uni.inst mth_Unions_merge rfl ⟨ok_265, ?_⟩
    walk_at "go"
    refine t_umerge R2.uni (by rw [I.len]; exact ha) (by rw [I.len]; exact hb) I.low (by rw [I.len]; omega) (fun H3 he hl => ?_) fun H3 t hne ht hu3 hk3 => ?_
    · refine EXS.cons ?_
      refine EX.ifs ?_
      refine TS.cmp ?_ rfl
      walk_at "go"
      refine CO.isNone (TR.bool ?_)
      rw [if_pos (by decide)]
      refine EXS.cons ?_
      refine EX.ret ?_
      walk_at "ev"
      have he' : s.rt a = s.rt b := he
      have hP' := hP H3
      rw [show s.unite a b = s by unfold St.unite; rw [if_pos he'], decide_eq_false (by simpa using he')] at hP'
      exact hP' ((R2.le hl).more (by omega)) (k2.trans (K0.of hl))
    · have hne' : s.rt a ≠ s.rt b := hne
      obtain ⟨f1, f2, f3, f4⟩ := unite_facts I ha hb hne'
      have hrt := rt_join I f1 f2 f3 f4
      obtain ⟨p1, p2, p3, p4⟩ := phi_join I f1 f2 f3 f4
      have hP' := hP
      rw [show s.unite a b = s.join (min (s.rt a) (s.rt b)) (max (s.rt a) (s.rt b)) by unfold St.unite; rw [if_neg hne'], decide_eq_true hne'] at hP'
      have hulo := users_le_tot (k := min (s.rt a) (s.rt b)) (by omega) f3
      change H3 t = some (.tup [.int (min (s.rt a) (s.rt b) : Nat), .int (max (s.rt a) (s.rt b) : Nat)]) at ht
      change RepU x.u (s.par.set (max (s.rt a) (s.rt b)) (min (s.rt a) (s.rt b))) H3 at hu3
      generalize min (s.rt a) (s.rt b) = lo at *
      generalize max (s.rt a) (s.rt b) = hi at *
      have k3 : K0 H2 H3 := fun y o hy h0 => hk3 y o hy (by omega)
      have R3 : RepH x { s with par := s.par.set hi lo } (c + 1) H3 ∧ RepA x.ab s.rows.length (fun k => s.rt k = k) s.users (c + 1) H3 ∧ H3 x.ed = some (.lst (3, 0) (es ++ [.ref t1])) := by
        obtain ⟨h1, h2, h3, ⟨e, h4, h4'⟩, ⟨f, h5, h5'⟩, ⟨n, h6, h6'⟩, h7, h8⟩ := R2
        have h7' : RepA x.ab s.rows.length (fun k => s.rt k = k) s.users (c + 1) H3 := h7.keep fun a o h w => hk3 a o h (by omega)
        refine ⟨⟨hk3 _ _ h1 (by walk_at "tg"), h2.keep fun a o h w => hk3 a o h (by rcases w with w | w | w <;> simp [w]), hu3, ⟨e, hk3 _ _ h4 (by walk_at "tg"), h4'⟩, ⟨f, hk3 _ _ h5 (by walk_at "tg"), h5'⟩, ⟨n, hk3 _ _ h6 (by walk_at "tg"), h6'⟩, ?_, hk3 _ _ h8 (by walk_at "tg")⟩, h7', hk3 _ _ e2 (by walk_at "tg")⟩
        obtain ⟨f, n, z1, z2, z3⟩ := h7'
        refine ⟨f, n, z1, z2, fun k hk hr => z3 k hk ?_⟩
        have hr' : (if s.rt k = hi then lo else s.rt k) = k := (hrt k).symm.trans hr
        by_cases q : s.rt k = hi
        · rw [if_pos q] at hr'; subst hr'; rw [f3] at q; omega
        · rw [if_neg q] at hr'; exact hr'
      obtain ⟨R3, A3, e3⟩ := R3
      replace k3 := k2.trans k3
      clear k2 R2 e2 hu3 hk3 h1 R
      refine EXS.cons ?_
      refine EX.ifs ?_
      refine TS.cmp ?_ rfl
      walk_at "go"
      refine CO.isNone (TR.bool ?_)
      rw [if_neg (by simp)]
      refine EXS.nil ?_
      refine EXS.cons ?_
      refine EX.assignT ?_ rfl rfl
      walk_at "go"
      refine AT.tuple (vs := [.int (lo : Nat), .int (hi : Nat)]) ⟨t, rfl, .inl ht⟩ rfl rfl ?_
      refine AT.name ?_ rfl (.inl rfl)
      refine AT.name (ATS.fin ?_) rfl (.inl rfl)
      have h1 := R3.inst
      obtain ⟨fo, h5, h5'⟩ := R3.forest
      refine EXS.cons ?_
      refine EX.expr ?_ rfl rfl
      walk_at "go"
      refine GM.list h5 PySem.F.slot_list_append PySem.F.type_list_append ⟨trivial, EVL.one ?_⟩
      walk_at "go"
      walk_at "bi"
      walk_at "go"
      refine CL.lenList e3 (by rw [List.length_append]; simp; omega) ?_
      walk_at "go"
      refine BO.sub ?_
      refine EVL.nil ?_
      generalize (((es ++ [V.ref t1]).length : Nat) : Int) - 1 = z
      refine CL.append h5 (by omega) ?_
      refine ⟨(by intro a h; cases h), ?_⟩
      obtain ⟨af, an, a1, a2, a3⟩ := A3
      have k : ∀ {y o}, H3 y = some o → tg o ≠ (3, 1) → upd H3 x.fo (.lst (3, 1) (fo ++ [.int z])) y = some o := fun hy hne => upd_old hy h5 hne
      have R4 : RepH x { s with par := s.par.set hi lo } (c + 2) (upd H3 x.fo (.lst (3, 1) (fo ++ [.int z]))) := R3.setForest h5 (by rw [List.length_append]; simp; omega) (by omega)
      have a14 := k a1 (by walk_at "tg")
      have a34 : ∀ k, k < s.rows.length → s.rt k = k → ∃ l, af (k : Int) = some (.ref l) ∧ upd H3 x.fo (.lst (3, 1) (fo ++ [.int z])) l = some (.lst (3, 100 + k) (nts (s.users k))) := fun m hm hr => let ⟨l, q1, q2⟩ := a3 m hm hr; ⟨l, q1, k q2 (by walk_at "tg")⟩
      have k4 : K0 H (upd H3 x.fo (.lst (3, 1) (fo ++ [.int z]))) := fun y o hy h0 => k (k3 y o hy h0) (by walk_at "tg")
      generalize upd H3 x.fo (.lst (3, 1) (fo ++ [.int z])) = H4 at R4 a14 a34 k4 ⊢
      clear k a1 a3 k3 h5 h1 e3 R3 ht
      obtain ⟨llo, alo, hlo⟩ := a34 lo (by omega) f3
      obtain ⟨lhi, ahi, hhi⟩ := a34 hi f1 f4
      have h1 := R4.inst
      have h8 := R4.waiting
      refine EXS.cons ?_
      refine EX.expr ?_ rfl rfl
      walk_at "go"
      refine GM.list h8 PySem.F.slot_list_extend PySem.F.type_list_extend ⟨trivial, EVL.one ?_⟩
      walk_at "go"
      refine SB.dI a14 ahi rfl ?_
      refine EVL.nil ?_
      refine CL.extend h8 hhi (by rw [nts_len, nts_len]; show s.waiting.length + _ ≤ _; omega) ?_
      refine ⟨(by intro a h; cases h), ?_⟩
      rw [← nts_append]
      have R5 := R4.setWaiting (ws := s.waiting ++ s.users hi)
      have k : ∀ {y o}, H4 y = some o → tg o ≠ (3, 4) → upd H4 x.wa (.lst (3, 4) (nts (s.waiting ++ s.users hi))) y = some o := fun hy hne => upd_old hy h8 hne
      have a15 := k a14 (by walk_at "tg")
      have a35 : ∀ k, k < s.rows.length → s.rt k = k → ∃ l, af (k : Int) = some (.ref l) ∧ upd H4 x.wa (.lst (3, 4) (nts (s.waiting ++ s.users hi))) l = some (.lst (3, 100 + k) (nts (s.users k))) := fun m hm hr => let ⟨l, q1, q2⟩ := a34 m hm hr; ⟨l, q1, k q2 (by walk_at "tg")⟩
      have k5 : K0 H (upd H4 x.wa (.lst (3, 4) (nts (s.waiting ++ s.users hi)))) := fun y o hy h0 => k (k4 y o hy h0) (by walk_at "tg")
      replace hlo := k hlo (by walk_at "tg")
      replace hhi := k hhi (by walk_at "tg")
      change RepH x { s with par := s.par.set hi lo, waiting := s.waiting ++ s.users hi } (c + 2) (upd H4 x.wa (.lst (3, 4) (nts (s.waiting ++ s.users hi)))) at R5
      show EXS _ _ _ _ (upd H4 x.wa (.lst (3, 4) (nts (s.waiting ++ s.users hi)))) _ _
      generalize upd H4 x.wa (.lst (3, 4) (nts (s.waiting ++ s.users hi))) = H5 at R5 a15 a35 k5 hlo hhi ⊢
      clear k a14 a34 k4 h1 R4 h8
      have h1 := R5.inst
      refine EXS.cons ?_
      refine EX.assignSub ?_ rfl
      walk_at "go"
      refine SB.dI a15 alo rfl ?_
      walk_at "go"
      refine GM.dict (.inr (.inl ⟨_, _, _, a15⟩)) PySem.F.slot_dict_pop PySem.F.type_dict_pop ⟨trivial, ?_⟩
      walk_at "go"
      refine CL.popI a15 (by omega) ahi ?_
      have up6 : ∀ {y o}, H5 y = some o → tg o ≠ (3, 3) → upd H5 x.ab (.dI (3, 3) (fun y => if y = (hi : Int) then none else af y) an) y = some o := fun hy hne => upd_old hy a15 hne
      refine BO.addList (3, 100 + lo) (up6 hlo (by walk_at "tg")) (up6 hhi (by walk_at "tg")) (by rw [nts_len, nts_len]; omega) fun c6 hc6 => ?_
      rw [← nts_append]
      have up7 : ∀ {y o}, H5 y = some o → tg o ≠ (3, 3) → upd (upd H5 x.ab (.dI (3, 3) (fun y => if y = (hi : Int) then none else af y) an)) c6 (.lst (3, 100 + lo) (nts (s.users lo ++ s.users hi))) y = some o := fun hy hne => upd_fr hc6 (up6 hy hne)
      have g1 := up7 h1 (by walk_at "tg")
      have gab : upd (upd H5 x.ab (.dI (3, 3) (fun y => if y = (hi : Int) then none else af y) an)) c6 (.lst (3, 100 + lo) (nts (s.users lo ++ s.users hi))) x.ab = _ := upd_fr hc6 (upd_self ..)
      have gc := upd_self (upd H5 x.ab (.dI (3, 3) (fun y => if y = (hi : Int) then none else af y) an)) c6 (.lst (3, 100 + lo) (nts (s.users lo ++ s.users hi)))
      generalize upd (upd H5 x.ab (.dI (3, 3) (fun y => if y = (hi : Int) then none else af y) an)) c6 (.lst (3, 100 + lo) (nts (s.users lo ++ s.users hi))) = H7 at up7 g1 gab gc ⊢
      walk_at "go"
      refine SI.dI gab (by omega) ?_
      refine EXS.cons ?_
      refine EX.ret ?_
      walk_at "ev"
      have up8 : ∀ {y o}, H7 y = some o → tg o ≠ (3, 3) → upd H7 x.ab (.dI (3, 3) (fun y => if y = (lo : Int) then some (.ref c6) else if y = (hi : Int) then none else af y) (an + 1)) y = some o := fun hy hne => upd_old hy gab hne
      refine hP' _ ?_ fun y o hy h0 => up8 (up7 (k5 y o hy h0) (by walk_at "tg")) (by walk_at "tg")
      obtain ⟨h1, h2, h3, ⟨e, h4, h4'⟩, ⟨f, h5, h5'⟩, ⟨n, h6, h6'⟩, h7, h8⟩ := R5
      have up9 : ∀ y o, H5 y = some o → tg o ≠ (3, 3) → upd H7 x.ab (.dI (3, 3) (fun y => if y = (lo : Int) then some (.ref c6) else if y = (hi : Int) then none else af y) (an + 1)) y = some o := fun y o hy hne => up8 (up7 hy hne) hne
      refine ⟨up9 _ _ h1 (by walk_at "tg"), h2.keep fun a o h w => up9 a o h (by rintro q; rw [q] at w; simp at w), h3.keep fun a o h w => up9 a o h (by rintro q; rw [q] at w; simp at w), ⟨e, up9 _ _ h4 (by walk_at "tg"), h4'⟩, ⟨f, up9 _ _ h5 (by walk_at "tg"), h5'⟩, ⟨n, up9 _ _ h6 (by walk_at "tg"), h6'⟩, ⟨_, _, upd_self .., by omega, fun k hk hr => ?_⟩, up9 _ _ h8 (by walk_at "tg")⟩
      have hr' : (if s.rt k = hi then lo else s.rt k) = k := (hrt k).symm.trans hr
      by_cases q : k = lo
      · subst q
        exact ⟨c6, if_pos rfl, by show _ = some (MO.lst (3, 100 + k) (nts (if k = k then s.users k ++ s.users hi else s.users k))); rw [if_pos rfl]; exact up8 gc (by walk_at "tg")⟩
      · have q2 : ¬ s.rt k = hi := fun w => by rw [if_pos w] at hr'; exact q hr'.symm
        rw [if_neg q2] at hr'
        obtain ⟨l, z1, z2⟩ := a35 k hk hr'
        refine ⟨l, ?_, ?_⟩
        · show (if (k : Int) = (lo : Int) then some (V.ref c6) else if (k : Int) = (hi : Int) then none else af k) = _
          rw [if_neg (by omega), if_neg (by intro w; apply q2; rw [hr']; omega)]
          exact z1
        · show _ = some (MO.lst (3, 100 + k) (nts (if k = lo then s.users lo ++ s.users hi else s.users k)))
          rw [if_neg q]
          exact up9 _ _ z2 (by walk_at "tg")
theorem look_some {s : St} {n k : Nat} {r : Row} (hr : s.rows[n]? = some r) (hk : s.known (s.node r) = some k) : s.look n = s.unite k n := by
  unfold St.look
  rw [hr]; dsimp only; rw [hk]
theorem look_none {s : St} {n : Nat} {r : Row} (hr : s.rows[n]? = some r) (hk : s.known (s.node r) = none) : s.look n = { s with known := fun key => if key = s.node r then some n else s.known key } := by
  unfold St.look
  rw [hr]; dsimp only; rw [hk]
theorem t_look {x : HA} {s : St} {c n : Nat} {r : Row} {pairs : List (Nat × Nat)} {todo : List Nat} {P : V → MH → Prop} (R : RepH x s c H) (I : Inv s pairs todo) (B : s.rows.length ≤ 21) (hr : s.rows[n]? = some r) (h2 : r.2.length ≤ 2) (hc : c ≤ 990) (hw : s.waiting.length ≤ 5000) (hu : s.tot ≤ 1000)
    (hP : ∀ H', RepH x (s.look n) (c + 2) H' → K0 H H' → P .none H') : CL (DW w mean mg mb bl) (d + 4) H (.ref 348) [.ref x.h, .int (n : Nat)] P := by
  refine' CL.defB (D := DW w mean mg mb bl) ?ho ?hcd ["self", "n"] rfl ?hbind ?hb ?h
  walk_at "w_enter"
  case hbind => exact all2 fun _ _ => rfl
  case h =>
    intro L
    have h1 := R.inst
    have hn : n < s.rows.length := (List.getElem?_eq_some_iff.mp hr).1
    obtain ⟨m, h6, h6'⟩ := R.known
    refine EXS.cons ?_
    refine EX.assignN ?_ rfl (.inl rfl) rfl
    walk_at "go"
    refine GM.dict (.inr (.inr ⟨_, _, _, h6⟩)) PySem.F.slot_dict_setdefault PySem.F.type_dict_setdefault ⟨trivial, ?_⟩
    walk_at "go"
    refine GM.inst h1 mth_Heap_node rfl ⟨ok_331, ?_⟩
    walk_at "go"
    refine t_hnode R I B hr h2 fun t H1 hl1 ht => ?_
    walk_at "go"
    have R1 := R.le hl1
    replace h6 := hl1 _ _ h6
    refine CL.setdefaultT h6 ht (by omega) (fun u hu' => ?_) fun hu' => ?_
    · obtain ⟨k, hk, rfl⟩ : ∃ k, s.known (s.node r) = some k ∧ u = .int (k : Int) := by
        unfold kn' at hu'
        cases q : s.known (s.node r) with
        | none => rw [q] at hu'; cases hu'
        | some k => rw [q] at hu'; cases hu'; exact ⟨k, rfl, rfl⟩
      have hkl := known_lt I hk
      have h1 := R1.inst
      refine EXS.cons ?_
      refine EX.ifs ?_
      refine TS.cmp ?_ rfl
      walk_at "go"
      refine GM.inst h1 mth_Heap_find rfl ⟨ok_355, ?_⟩
      walk_at "go"
      refine t_hfind R1 I B hkl ?_
      walk_at "go"
      refine GM.inst h1 mth_Heap_find rfl ⟨ok_355, ?_⟩
      walk_at "go"
      refine t_hfind R1 I B hn ?_
      refine CO.neInt (TR.bool ?_)
      rw [look_some hr hk] at hP
      by_cases q : s.rt k = s.rt n
      · rw [q, bne_self_eq_false, if_neg (by decide)]
        refine EXS.nil ?_
        refine EXS.nil ?_
        have := hP H1
        rw [show s.unite k n = s by unfold St.unite; rw [if_pos q]] at this
        exact this (R1.more (by omega)) (K0.of hl1)
      · rw [show (((s.rt k : Nat) : Int) != ((s.rt n : Nat) : Int)) = true by rw [bne_iff_ne]; omega, if_pos rfl]
        refine EXS.cons ?_
        refine EX.expr ?_ rfl rfl
        walk_at "go"
        refine GM.inst h1 mth_Heap_join rfl ⟨ok_376, ?_⟩
        walk_at "go"
        intro t2 ht2
        refine EVL.nil ?_
        refine t_join (R1.le (le_upd ht2)) I B hkl hn hc hw hu fun H3 R3 k3 => ?_
        refine ⟨(by intro a h; cases h), ?_⟩
        refine EXS.nil ?_
        refine EXS.nil ?_
        exact hP H3 R3 (((K0.of hl1).trans (K0.of (le_upd ht2))).trans k3)
    · have hk : s.known (s.node r) = none := by
        unfold kn' at hu'
        cases q : s.known (s.node r) with
        | none => rfl
        | some k => rw [q] at hu'; cases hu'
      rw [look_none hr hk] at hP
      have e : (fun y => if y = s.node r then some (V.int (n : Int)) else kn' s.known y) = kn' (fun key => if key = s.node r then some n else s.known key) := by
        funext y
        unfold kn'
        by_cases q : y = s.node r
        · simp [q]
        · simp [q]
      rw [e]
      have R2 := R1.setKnown (kf := fun key => if key = s.node r then some n else s.known key) (n := m + 1) h6 (by omega)
      have k2 : K0 H1 (upd H1 x.kn (.dT (3, 2) (kn' fun key => if key = s.node r then some n else s.known key) (m + 1))) := fun y o hy h0 => upd_old hy h6 (by walk_at "tg")
      generalize upd H1 x.kn (.dT (3, 2) (kn' fun key => if key = s.node r then some n else s.known key) (m + 1)) = H2 at R2 k2 ⊢
      have h1 := R2.inst
      refine EXS.cons ?_
      refine EX.ifs ?_
      refine TS.cmp ?_ rfl
      walk_at "go"
      refine GM.inst h1 mth_Heap_find rfl ⟨ok_355, ?_⟩
      walk_at "go"
      refine t_hfind2 R2 I.len I.low B hn ?_
      walk_at "go"
      refine GM.inst h1 mth_Heap_find rfl ⟨ok_355, ?_⟩
      walk_at "go"
      refine t_hfind2 R2 I.len I.low B hn ?_
      refine CO.neInt (TR.bool ?_)
      rw [bne_self_eq_false, if_neg (by decide)]
      refine EXS.nil ?_
      refine EXS.nil ?_
      exact hP H2 (R2.more (by omega)) ((K0.of hl1).trans k2)
theorem t_hmerge {x : HA} {s : St} {c a b : Nat} {v : V} {pairs : List (Nat × Nat)} {todo : List Nat} {P : V → MH → Prop} (R : RepH x s c H) (I : Inv s pairs todo) (B : s.rows.length ≤ 21) (ha : a < s.rows.length) (hb : b < s.rows.length) (hc : c ≤ 990) (hw : s.waiting.length ≤ 5000) (hu : s.tot ≤ 1000)
    (hP : ∀ H', RepH x (s.unite a b) (c + 2) H' → K0 H H' → P (.bool (decide (s.rt a ≠ s.rt b))) H') : CL (DW w mean mg mb bl) (d + 4) H (.ref 369) [.ref x.h, .int (a : Nat), .int (b : Nat), v] P := by
  refine' CL.defB (D := DW w mean mg mb bl) ?ho ?hcd ["self", "a", "b", "reason"] rfl ?hbind ?hb ?h
  walk_at "w_enter"
  case hbind => exact all4 fun _ _ _ _ => rfl
  case h =>
    intro L
    have h1 := R.inst
    refine EXS.cons ?_
    refine EX.ret ?_
    walk_at "go"
    refine GM.inst h1 mth_Heap_join rfl ⟨ok_376, ?_⟩
    walk_at "go"
    exact t_join R I B ha hb hc hw hu hP
theorem comp_seq {D : Wd} {d : Nat} {e : Env} {ρ ρc : List (Str × V)} {H : MH} {l : Addr} {items : List V} {x elt : Expr} {y : Str} {ypos : Pos} {scope : Scope} {cl : List (Str × Addr)} {P : List V → MH → Prop}
    (hl : H l = some (.tup items) ∨ ∃ g, H l = some (.lst g items)) (hx : ∀ P' : V → MH → Prop, P' (.ref l) H → EV D d e ρ H x P') (hz : items.length ≤ 100000) (hxn : (relabel scope e).names.lookup y = some .local) (hk : scope.kind = .function) (f : V → V)
    (h : ∀ v ∈ items, ∀ C H₂, Le H H₂ → EV D d (compEnvC scope cl C e) ((y, v) :: ρc) H₂ elt fun r H₄ => r = f v ∧ Le H₂ H₄) (hp : ∀ H', Le H H' → P (items.map f) H') :
    IE D d e ρ H (.Name y ypos) x fun S H₁ => CompOk D d e ρc scope cl elt (.Name y ypos) [] S H₁ P := by
  rcases hl with hl | ⟨g, hl⟩
  · refine IE.tup (hx _ ⟨_, _, rfl, hl, ?_⟩)
    exact CompOk.pure items rfl hz hl hxn hk (fun H' z => z _ _ hl) f (fun i v H₂ hv => hv) h hp
  · refine IE.list (hx _ ⟨_, _, _, rfl, hl, ?_⟩)
    exact CompOk.pure items rfl hz ⟨_, hl⟩ hxn hk (fun H' z => ⟨_, z _ _ hl⟩) f (fun i v H₂ hv => hv) h hp
theorem RepH.setUser {x : HA} {s : St} {c k0 : Nat} {H : MH} (R : RepH x s c H) (hk : k0 < s.rows.length) (hr : s.rt k0 = k0) (new : List Nat) : ∃ l, (∃ f n, H x.ab = some (.dI (3, 3) f n) ∧ f (k0 : Int) = some (.ref l)) ∧ H l = some (.lst (3, 100 + k0) (nts (s.users k0))) ∧
    RepH x { s with users := fun k => if k = k0 then new else s.users k } c (upd H l (.lst (3, 100 + k0) (nts new))) ∧ K0 H (upd H l (.lst (3, 100 + k0) (nts new))) := by
  obtain ⟨h1, h2, h3, ⟨e, h4, h4'⟩, ⟨f, h5, h5'⟩, ⟨n, h6, h6'⟩, ⟨g, m, h7, h7', h7''⟩, h8⟩ := R
  obtain ⟨l, hf, hl⟩ := h7'' k0 hk hr
  have k : ∀ a o, H a = some o → tg o ≠ (3, 100 + k0) → upd H l (.lst (3, 100 + k0) (nts new)) a = some o := fun a o h hne => upd_old h hl hne
  refine ⟨l, ⟨g, m, h7, hf⟩, hl, ⟨k _ _ h1 (by walk_at "tg"), h2.keep fun a o h w => k a o h (by rintro q; rw [q] at w; simp at w), h3.keep fun a o h w => k a o h (by rintro q; rw [q] at w; simp at w), ⟨e, k _ _ h4 (by walk_at "tg"), h4'⟩, ⟨f, k _ _ h5 (by walk_at "tg"), h5'⟩, ⟨n, k _ _ h6 (by walk_at "tg"), h6'⟩, ⟨g, m, k _ _ h7 (by walk_at "tg"), h7', fun j hj hrj => ?_⟩, k _ _ h8 (by walk_at "tg")⟩, fun a o h h0 => k a o h (by walk_at "tg")⟩
  by_cases q : j = k0
  · subst q
    exact ⟨l, hf, by show _ = some (MO.lst (3, 100 + j) (nts (if j = j then new else s.users j))); rw [if_pos rfl]; exact upd_self ..⟩
  · obtain ⟨l', z1, z2⟩ := h7'' j hj hrj
    refine ⟨l', z1, ?_⟩
    show _ = some (MO.lst (3, 100 + j) (nts (if j = k0 then new else s.users j)))
    rw [if_neg q]
    exact k _ _ z2 (by walk_at "tg")
noncomputable def usG (s : St) (done : List Nat) : Nat → List Nat := fun k => if k = s.par.length then [] else if k ∈ done then s.users k ++ [s.par.length] else s.users k
theorem t_add {x : HA} {s : St} {c : Nat} {op : Str} {ks : List Nat} {a : Addr} {pairs : List (Nat × Nat)} {P : V → MH → Prop} (R : RepH x s c H) (S : Settled s pairs) (B : s.rows.length ≤ 20) (hop : OpOk op) (ha : H a = some (.tup (nts ks)) ∨ ∃ g, g.1 = 0 ∧ H a = some (.lst g (nts ks))) (hks : ∀ k ∈ ks, k < s.rows.length) (hk2 : ks.length ≤ 2) (hc : c ≤ 980) (hu : s.tot ≤ 900)
    (hP : ∀ n H', RepH x (s.add (op, ks)) (c + 3) H' → K0 H H' → (s.add (op, ks)).rows[n]? = some (op, ks) → P (.int (n : Nat)) H') : CL (DW w mean mg mb bl) (d + 5) H (.ref 336) [.ref x.h, .str op, .ref a] P := by
  refine' CL.defB (D := DW w mean mg mb bl) ?ho ?hcd ["self", "op", "numbers"] rfl ?hbind ?hb ?h
  walk_at "w_enter"
  case hbind => exact all3 fun _ _ _ => rfl
  case h =>
    intro L
    obtain ⟨I, T, hw⟩ := S
    have h1 := R.inst
    refine EXS.cons ?_
    refine EX.assignN ?_ rfl (.inl rfl) rfl
    walk_at "go"
    refine GM.inst R.bank.inst mth_Bank_take rfl ⟨ok_105, ?_⟩
    walk_at "go"
    refine t_take R.bank (ha.imp id fun ⟨g, h⟩ => ⟨g, h.2⟩) hks hop (by omega) hk2 (fun n H1 hn hl => ?_) fun hno H1 B1 hk1 => ?_
    · have R1 := R.le hl
      have h1 := R1.inst
      have hm : (op, ks) ∈ s.rows := List.mem_of_getElem? hn
      refine EXS.cons ?_
      refine EX.ifs ?_
      refine TS.cmp ?_ rfl
      walk_at "go"
      refine GM.inst R1.uni.inst mth_Unions_size rfl ⟨ok_251, ?_⟩
      walk_at "go"
      refine t_usize R1.uni.inst rfl R1.uni.above (by rw [I.len]; omega) ?_
      have hnlt := (List.getElem?_eq_some_iff.mp hn).1
      refine CO.ltInt (TR.bool ?_)
      rw [decide_eq_true (by rw [I.len]; omega), if_pos rfl]
      refine EXS.cons ?_
      refine EX.ret ?_
      walk_at "ev"
      have e : s.add (op, ks) = s := by unfold St.add; rw [if_pos hm]
      have := hP n H1
      rw [e] at this
      exact this (R1.more (by omega)) (K0.of hl) hn
    have k1 : K0 H H1 := fun y o hy h0 => hk1 y o hy (by omega)
    have h11 := hk1 _ _ h1 (by walk_at "tg")
    have U1 : RepU x.u s.par H1 := R.uni.keep fun y o hy w => hk1 y o hy (by rcases w with w | w <;> simp [w])
    have E1 := R.edges
    have F1 := R.forest
    have K1 := R.known
    have A1 := R.above
    have W1 := R.waiting
    refine EXS.cons ?_
    refine EX.ifs ?_
    refine TS.cmp ?_ rfl
    walk_at "go"
    refine GM.inst U1.inst mth_Unions_size rfl ⟨ok_251, ?_⟩
    walk_at "go"
    refine t_usize U1.inst rfl U1.above (by rw [I.len]; omega) ?_
    refine CO.ltInt (TR.bool ?_)
    rw [decide_eq_false (by rw [I.len]; omega), if_neg (by decide)]
    refine EXS.nil ?_
    refine EXS.cons ?_
    refine EX.expr ?_ rfl rfl
    walk_at "go"
    refine GM.inst U1.inst mth_Unions_make rfl ⟨ok_244, ?_⟩
    walk_at "go"
    refine t_make U1 (by rw [I.len]; omega) fun H2 U2 hk2' => ?_
    refine ⟨(by intro a h; cases h), ?_⟩
    have hk12 : ∀ y o, H y = some o → (tg o).1 ≠ 1 → (tg o).1 ≠ 2 → H2 y = some o := fun y o hy n1 n2 => hk2' y o (hk1 y o hy n1) n2
    obtain ⟨es, E1, E1'⟩ := E1
    obtain ⟨fs, F1, F1'⟩ := F1
    obtain ⟨kn, K1, K1'⟩ := K1
    obtain ⟨af, an, A1, A1', A1''⟩ := A1
    have hl1 : s.rt s.rows.length = s.rows.length := by
      refine root_ge ?_
      rw [List.getD_eq_getElem?_getD, List.getElem?_eq_none (by rw [I.len]; exact Nat.le_refl _)]
      exact Nat.lt_irrefl _
    refine EXS.cons ?_
    refine EX.assignSub ?_ rfl
    refine EV.list (3, 100 + s.rows.length) (EVL.nil ?_) rfl (by decide)
    intro ln hln
    have h12 := hk12 _ _ h1 (by walk_at "tg") (by walk_at "tg")
    have A12 := hk12 _ _ A1 (by walk_at "tg") (by walk_at "tg")
    walk_at "go"
    refine SI.dI (upd_fr hln A12) (by omega) ?_
    have up : ∀ y o, H2 y = some o → tg o ≠ (3, 3) → upd (upd H2 ln (.lst (3, 100 + s.rows.length) [])) x.ab (.dI (3, 3) (fun y => if y = (s.rows.length : Int) then some (.ref ln) else af y) (an + 1)) y = some o := fun y o hy hne => upd_old (upd_fr hln hy) (upd_fr hln A12) hne
    have R3 : RepH x { s.grow (op, ks) with users := usG s [] } (c + 1) (upd (upd H2 ln (.lst (3, 100 + s.rows.length) [])) x.ab (.dI (3, 3) (fun y => if y = (s.rows.length : Int) then some (.ref ln) else af y) (an + 1))) := by
      refine ⟨up _ _ h12 (by walk_at "tg"), B1.keep fun y o hy w => up y o (hk2' y o hy (by rcases w with w | w | w <;> simp [w])) (by rintro q; rw [q] at w; simp at w), U2.keep fun y o hy w => up y o hy (by rintro q; rw [q] at w; simp at w), ⟨es, up _ _ (hk12 _ _ E1 (by walk_at "tg") (by walk_at "tg")) (by walk_at "tg"), by omega⟩, ⟨fs, up _ _ (hk12 _ _ F1 (by walk_at "tg") (by walk_at "tg")) (by walk_at "tg"), by omega⟩, ⟨kn, up _ _ (hk12 _ _ K1 (by walk_at "tg") (by walk_at "tg")) (by walk_at "tg"), by omega⟩, ⟨_, _, upd_self .., by omega, fun k hk hr => ?_⟩, up _ _ (hk12 _ _ W1 (by walk_at "tg") (by walk_at "tg")) (by walk_at "tg")⟩
      have hk' : k < s.rows.length + 1 := by have : k < (s.rows ++ [(op, ks)]).length := hk; simpa using this
      have hr' : s.rt k = k := (rt_grow s (op, ks) k).symm.trans hr
      by_cases q : k = s.rows.length
      · subst q
        refine ⟨ln, if_pos rfl, ?_⟩
        show _ = some (MO.lst _ (nts (if s.rows.length = s.par.length then [] else _)))
        rw [if_pos I.len.symm]
        exact upd_old (upd_self ..) (upd_fr hln A12) (by walk_at "tg")
      · obtain ⟨l, z1, z2⟩ := A1'' k (by omega) hr'
        refine ⟨l, ?_, ?_⟩
        · show (if (k : Int) = (s.rows.length : Int) then _ else af k) = _
          rw [if_neg (by omega)]; exact z1
        · show _ = some (MO.lst _ (nts (if k = s.par.length then [] else if k ∈ ([] : List Nat) then _ else s.users k)))
          rw [I.len, if_neg q, if_neg (by simp)]
          exact up _ _ (hk12 _ _ z2 (by walk_at "tg") (by walk_at "tg")) (by walk_at "tg")
    have k3 : K0 H (upd (upd H2 ln (.lst (3, 100 + s.rows.length) [])) x.ab (.dI (3, 3) (fun y => if y = (s.rows.length : Int) then some (.ref ln) else af y) (an + 1))) := fun y o hy h0 => up _ _ (hk12 y o hy (by omega) (by omega)) (by walk_at "tg")
    generalize upd (upd H2 ln (.lst (3, 100 + s.rows.length) [])) x.ab (.dI (3, 3) (fun y => if y = (s.rows.length : Int) then some (.ref ln) else af y) (an + 1)) = H3 at R3 k3 ⊢
    clear up A12 h12 hk12 hk2' hk1 B1 U2 h11 h1 k1 U1 E1 F1 K1 A1 A1'' W1
    have ha3 : H3 a = some (.tup (nts ks)) ∨ ∃ g, H3 a = some (.lst g (nts ks)) := ha.imp (fun h => k3 _ _ h rfl) fun ⟨g, g0, h⟩ => ⟨g, k3 _ _ h g0⟩
    have hJ := I.grow (r := (op, ks)) hno hks
    have rtg : ∀ k, St.rt { s.grow (op, ks) with users := usG s [] } k = s.rt k := rt_grow s (op, ks)
    have hlow := hJ.low
    have hlen := hJ.len
    have hrl : (s.grow (op, ks)).rows.length = s.rows.length + 1 := by show (s.rows ++ [(op, ks)]).length = _; simp
    refine EXS.cons ?_
    refine EX.for ?_ (fun _ => rfl)
    refine IE.list ?_
    walk_at "ev"
    walk_at "bi"
    refine EVL.one ?_
    walk_at "ev"
    walk_at "bi"
    refine EVL.one ?_
    refine EV.comp (0, 10) [("self", .ref x.h)] ⟨fun _ => rfl, rfl, rfl, by decide, by decide, by decide⟩ ⟨by walk_at "lk", .inl rfl, .inl rfl, rfl, trivial⟩ ?_
    refine comp_seq ha3 (fun P' hP' => by walk_at "ev"; exact hP') (by rw [nts_len]; omega) rfl rfl (rtV s) (fun v hv C H₂ hl2 => ?_) fun H4 hl4 a4 ha4 => ?_
    · obtain ⟨k, hk, rfl⟩ := nts_mem hv
      have R4 := R3.le hl2
      have hkk := hks k hk
      walk_at "go"
      refine GM.inst R4.inst mth_Heap_find rfl ⟨ok_355, ?_⟩
      walk_at "go"
      refine t_hfind2 R4 hlen hlow (by show (s.grow (op, ks)).rows.length ≤ 21; omega) (by show _ < (s.grow (op, ks)).rows.length; omega) ⟨?_, Le.refl _⟩
      rw [rtg]; rfl
    rw [rtV_map]
    refine EVL.nil ?_
    refine CL.set (upd_self ..) (fun n hn => ?_) (by rw [List.length_map]; exact hk2) fun c5 fs5 hnd hmem hc5 => ?_
    · obtain ⟨k, hk, rfl⟩ := List.mem_map.mp hn
      have := rt_lt I (hks k hk)
      omega
    refine EVL.nil ?_
    refine CL.sortedSet (0, 10) (upd_self ..) fun ls c6 hperm hsorted hc6 => ?_
    have hls : ∀ k, k ∈ ls ↔ k ∈ ks.map s.rt := fun k => hperm.mem_iff.trans (hmem k)
    have hlnd : ls.Nodup := hperm.nodup_iff.mpr hnd
    have l6 := ((hl4.trans (le_upd ha4)).trans (le_upd hc5)).trans (le_upd (o := .lst (0, 10) (nts ls)) hc6)
    have u6 := upd_self (upd (upd H4 a4 (.lst (0, 10) (nts (ks.map s.rt)))) c5 (.sI fs5)) c6 (.lst (0, 10) (nts ls))
    refine ⟨_, _, _, rfl, u6, ?_⟩
    generalize upd (upd (upd H4 a4 (.lst (0, 10) (nts (ks.map s.rt)))) c5 (.sI fs5)) c6 (.lst (0, 10) (nts ls)) = H6 at l6 u6 ⊢
    clear hl4 ha4 hc5 hc6 ha3
    refine ForP.mk (fun i ρ' H' => C4 (RepH x { s.grow (op, ks) with users := usG s (ls.take i) } (c + 1) H') (K0 H6 H') (lk ρ' "self" = some (.ref x.h)) (lk ρ' "n" = some (.int (s.rows.length : Nat)))) (⟨R3.le l6, K0.refl _, by walk_at "lk", by walk_at "lk"⟩) (by rintro i ρ' H' ⟨_, q, _⟩; exact ⟨_, q _ _ u6 rfl⟩) ?_ ?_
    · rintro i ρ' H' hi ⟨R7, k7, g1, g2⟩ v H₂ hv hle _ KQ hKQ
      obtain ⟨k, hk, rfl⟩ : ∃ k, ls[i]? = some k ∧ v = .int (k : Int) := by
        have hv' : (nts ls)[i]? = some v := hv
        unfold nts at hv'
        rw [List.getElem?_map] at hv'
        cases q : ls[i]? with
        | none => rw [q] at hv'; cases hv'
        | some k => rw [q] at hv'; cases hv'; exact ⟨k, rfl, rfl⟩
      have hkm := (hls k).mp (List.mem_of_getElem? hk)
      obtain ⟨k', hk', rfl⟩ := List.mem_map.mp hkm
      have hlt := rt_lt I (hks k' hk')
      have hrr : s.rt (s.rt k') = s.rt k' := root_root _ _
      have R8 := R7.le hle
      obtain ⟨l, ⟨f, n, q1, q2⟩, q3, q4, q5⟩ := R8.setUser (k0 := s.rt k') (by show _ < (s.grow (op, ks)).rows.length; omega) (by show (s.grow (op, ks)).rt _ = _; rw [rt_grow]; exact hrr) (s.users (s.rt k') ++ [s.par.length])
      have hnin : s.rt k' ∉ ls.take i := by
        intro hm
        obtain ⟨j, hj⟩ := List.mem_iff_getElem?.mp hm
        have hji : j < i := by
          have := (List.getElem?_eq_some_iff.mp hj).1
          rw [List.length_take] at this; omega
        rw [List.getElem?_take_of_lt hji] at hj
        have hj1 := List.getElem?_eq_some_iff.mp hj
        have hk1 := List.getElem?_eq_some_iff.mp hk
        have := (List.getElem?_inj hj1.choose hlnd).mp (hj.trans hk.symm)
        omega
      have hold : ({ s.grow (op, ks) with users := usG s (ls.take i) } : St).users (s.rt k') = s.users (s.rt k') := by
        show usG s (ls.take i) (s.rt k') = _
        unfold usG
        rw [if_neg (by rw [I.len]; omega), if_neg hnin]
      rw [hold] at q3
      have hnew : (fun k => if k = s.rt k' then s.users (s.rt k') ++ [s.par.length] else usG s (ls.take i) k) = usG s (ls.take (i + 1)) := by
        funext k
        unfold usG
        by_cases w : k = s.rt k'
        · subst w
          rw [if_pos rfl, if_neg (by rw [I.len]; omega), if_pos (by rw [List.take_add_one, hk]; simp)]
        · rw [if_neg w]
          have : k ∈ ls.take (i + 1) ↔ k ∈ ls.take i := by rw [List.take_add_one, hk]; simp [w]
          simp only [this]
      have h1 := R8.inst
      refine AT.name ?_ rfl (.inl rfl)
      refine EXS.cons ?_
      refine EX.expr ?_ rfl rfl
      walk_at "go"
      refine SB.dI q1 q2 rfl ?_
      refine GM.list q3 PySem.F.slot_list_append PySem.F.type_list_append ⟨trivial, EVL.one ?_⟩
      walk_at "go"
      have hul := users_le_tot hlt hrr
      refine CL.append q3 (by rw [nts_len]; omega) ?_
      refine ⟨(by intro a h; cases h), ?_⟩
      refine EXS.nil ?_
      refine hKQ _ _ _ ?_
      have e : nts (s.users (s.rt k')) ++ [V.int (s.rows.length : Nat)] = nts (s.users (s.rt k') ++ [s.par.length]) := by rw [nts_append, I.len]; rfl
      rw [e]
      change RepH x { s.grow (op, ks) with users := fun k => if k = s.rt k' then s.users (s.rt k') ++ [s.par.length] else usG s (ls.take i) k } (c + 1) _ at q4
      rw [hnew] at q4
      exact ⟨q4, (k7.trans (K0.of hle)).trans q5, lk_tl (by decide) g1, lk_tl (by decide) g2⟩
    · rintro ρ' H' ⟨R7, k7, g1, g2⟩
      have hn : (nts ls).length = ls.length := nts_len ls
      have e : usG s (ls.take (nts ls).length) = (s.grow (op, ks)).users := by
        funext k
        show _ = (if k = s.par.length then [] else if k ∈ ks.map s.rt then s.users k ++ [s.par.length] else s.users k)
        unfold usG
        rw [hn, List.take_length]
        simp only [hls k]
      change RepH x { s.grow (op, ks) with users := usG s (ls.take (nts ls).length) } (c + 1) H' at R7
      rw [e] at R7
      change RepH x (s.grow (op, ks)) (c + 1) H' at R7
      have h1 := R7.inst
      have hgr : (s.grow (op, ks)).rows[s.rows.length]? = some (op, ks) := by show (s.rows ++ [(op, ks)])[s.rows.length]? = _; simp
      refine EXS.cons ?_
      refine EX.expr ?_ rfl rfl
      walk_at "go"
      refine GM.inst h1 mth_Heap_look_at rfl ⟨ok_348, ?_⟩
      walk_at "go"
      have hgt := grow_tot (r := (op, ks)) I
      refine t_look R7 hJ (by omega) hgr hk2 (by omega) (by show s.waiting.length ≤ _; rw [hw]; exact Nat.zero_le _) (by have : (s.grow (op, ks)).tot ≤ s.tot + ks.length := hgt; omega) fun H8 R8 k8 => ?_
      refine ⟨(by intro a h; cases h), ?_⟩
      refine EXS.cons ?_
      refine EX.ret ?_
      walk_at "go"
      have ea : s.add (op, ks) = (s.grow (op, ks)).look s.rows.length := by unfold St.add; rw [if_neg hno]
      refine hP s.rows.length H8 (by rw [ea]; exact R8) (((k3.trans (K0.of l6)).trans k7).trans k8) ?_
      rw [ea, (look_phi hJ (by omega)).2]
      exact hgr
theorem t_settle {x : HA} {s : St} {c : Nat} {pairs : List (Nat × Nat)} {P : V → MH → Prop} (R : RepH x s c H) (I : Inv s pairs []) (T : Told s pairs) (B : s.rows.length ≤ 20) (hk : ∀ r ∈ s.rows, r.2.length ≤ 2) (hc : c + 2 * s.phi ≤ 980) (hu : s.tot ≤ 900)
    (hP : ∀ s' c' H', RepH x s' c' H' → K0 H H' → Settled s' pairs → s'.rows = s.rows → s'.tot = s.tot → c' ≤ c + 2 * s.phi → P .none H') : CL (DW w mean mg mb bl) (d + 5) H (.ref 383) [.ref x.h] P := by
  refine' CL.defB (D := DW w mean mg mb bl) ?ho ?hcd ["self"] rfl ?hbind ?hb ?h
  walk_at "w_enter"
  case hbind => exact all1 fun _ => rfl
  case h =>
    intro L
    refine EXS.cons ?_
    refine EX.while (fun n ρ' H' => E2 fun s' c' => C9 (n = s'.phi) (RepH x s' c' H') (Inv s' pairs []) (Told s' pairs) (s'.rows = s.rows) (s'.tot = s.tot) (c' + 2 * s'.phi ≤ c + 2 * s.phi) (K0 H H') (lk ρ' "self" = some (.ref x.h))) s.phi ⟨s, c, rfl, R, I, T, rfl, rfl, Nat.le_refl _, K0.refl _, by walk_at "lk"⟩ ?_
    rintro n ρ' H' ⟨s', c', rfl, R', I', T', er, et, hcc, k', g1⟩ KQ hKQ
    have h1 := R'.inst
    have h8 := R'.waiting
    have hwl : s'.waiting.length ≤ s'.phi := by unfold St.phi; omega
    refine TS.cmp ?_ rfl
    walk_at "ev"
    walk_at "bi"
    walk_at "go"
    refine CL.lenList h8 (by rw [nts_len]; omega) ?_
    walk_at "go"
    refine CO.gtInt (TR.bool ?_)
    rw [nts_len]
    rcases List.eq_nil_or_concat s'.waiting with q | ⟨ws, n, q⟩
    · rw [q, decide_eq_false (by simp), if_neg (by decide)]
      refine EXS.nil ?_
      exact hP s' c' H' R' k' ⟨I', T', q⟩ er et (by omega)
    · rw [List.concat_eq_append] at q
      rw [decide_eq_true (by rw [q]; simp), if_pos rfl]
      have hn : n < s'.rows.length := I'.waitLt n (by rw [q]; simp)
      have hr : s'.rows[n]? = some s'.rows[n] := List.getElem?_eq_getElem hn
      have hm : s'.rows[n] ∈ s.rows := by rw [← er]; exact List.getElem_mem hn
      have hk2 := hk _ hm
      refine EXS.cons ?_
      refine EX.expr ?_ rfl rfl
      walk_at "go"
      refine GM.inst h1 mth_Heap_look_at rfl ⟨ok_348, EVL.one ?_⟩
      walk_at "go"
      refine GM.list h8 PySem.F.slot_list_pop PySem.F.type_list_pop ⟨trivial, ?_⟩
      walk_at "go"
      have h8' := h8
      rw [q, nts_append] at h8'
      have hwz : ws.length + 1 = s'.waiting.length := by rw [q]; simp
      refine CL.pop (v := .int (n : Nat)) h8' (by rw [nts_len]; omega) ?_
      have R2 := R'.setWaiting (ws := ws)
      have k2 : K0 H' (upd H' x.wa (.lst (3, 4) (nts ws))) := fun y o hy h0 => upd_old hy h8 (by walk_at "tg")
      obtain ⟨z1, z2, z3, z4⟩ := settle_step I' T' q
      have zt := look_tot (I'.pop q) hn
      refine EVL.nil ?_
      refine t_look R2 (I'.pop q) (by show s'.rows.length ≤ 21; rw [er]; omega) hr hk2 (by omega) (by show ws.length ≤ 5000; omega) (by show s'.tot ≤ 1000; omega) fun H3 R3 k3 => ?_
      refine ⟨(by intro a h; cases h), ?_⟩
      refine EXS.nil ?_
      refine hKQ _ _ _ ?_
      exact ⟨_, z3, _, _, rfl, R3, z1, z2, z4.trans er, zt.trans et, by omega, (k'.trans k2).trans k3, g1⟩
theorem RepB.off {b : BA} {rows : List Row} {C : Addr} {fs : List (Str × V)} {a : Addr} {o' : MO} (R : RepB b rows H) (ha : H a = some (.inst C fs)) (hne : b.B ≠ a) : RepB b rows (upd H a o') := by
  obtain ⟨h1, ⟨refs, h2, h3, h3'⟩, ⟨f, n, h4, h5, h6⟩, ⟨ws, h7, h8⟩, ⟨ds, h9, h10⟩⟩ := R
  exact ⟨(upd_ne hne).trans h1, ⟨refs, upd_old h2 ha (by walk_at "tg"), h3, fun i a r x y => upd_old (h3' i a r x y) ha (by walk_at "tg")⟩, ⟨f, n, upd_old h4 ha (by walk_at "tg"), h5, h6⟩, ⟨ws, upd_old h7 ha (by walk_at "tg"), h8⟩, ⟨ds, upd_old h9 ha (by walk_at "tg"), h10⟩⟩
theorem RepU.off {u : UA} {par : List Nat} {C : Addr} {fs : List (Str × V)} {a : Addr} {o' : MO} (R : RepU u par H) (ha : H a = some (.inst C fs)) (hne : u.U ≠ a) : RepU u par (upd H a o') := by
  obtain ⟨h1, h2, ls, h3, h4, k, h5, ⟨ms, h6, h7⟩, h8⟩ := R
  exact ⟨(upd_ne hne).trans h1, upd_old h2 ha (by walk_at "tg"), ls, upd_old h3 ha (by walk_at "tg"), h4, k, h5, ⟨ms, upd_old h6 ha (by walk_at "tg"), h7⟩, fun i l hil => let ⟨vs, a, b⟩ := h8 i l hil; ⟨vs, upd_old a ha (by walk_at "tg"), b⟩⟩
theorem t_hinit {a : Addr} {P : V → MH → Prop} (ha : H a = some (.inst 433 [])) (hP : ∀ x H', x.h = a → RepH x ⟨[], [], fun _ => [], fun _ => none, []⟩ 0 H' → (∀ y o, H y = some o → y ≠ a → H' y = some o) → P .none H') : CC (DW w mean mg mb bl) (d + 3) H (.ref 319) [.ref a] P := by
  refine' CC.defB (D := DW w mean mg mb bl) ?ho ?hcd ["self"] rfl ?hbind ?hb ?h
  walk_at "w_enter"
  case hbind => exact all1 fun _ => rfl
  case h =>
    intro L
    refine EXS.cons ?_
    refine EX.assignAttr ?_ rfl
    walk_at "ev"
    refine EV.global gl_Bank ?_ rfl rfl rfl (by decide)
    refine ⟨ok_181, EVL.nil ?_⟩
    refine CC.cl (CC.cls cls_Bank.1 cls_Bank.2.1 cls_Bank.2.2 fun b hb => ?_)
    have hab : a ≠ b := fun q => by rw [q, hb] at ha; cases ha
    refine t_binit (upd_self ..) fun p q r t H1 B1 k1 => ⟨rfl, ?_⟩
    have a1 : H1 a = some (.inst 433 []) := k1 _ _ (upd_fr hb ha) hab
    have f1 : ∀ y o, H y = some o → H1 y = some o := fun y o hy => k1 _ _ (upd_fr hb hy) fun q => by rw [q, hb] at hy; cases hy
    clear k1
    walk_at "ev"
    refine SA.inst a1 sta_Heap_bank (by simp) ?_
    have B2 := B1.off (o' := .inst 433 [("bank", .ref b)]) a1 (Ne.symm hab)
    have a2 := upd_self H1 a (.inst 433 [("bank", .ref b)])
    have f2 : ∀ y o, H y = some o → y ≠ a → upd H1 a (.inst 433 [("bank", .ref b)]) y = some o := fun y o hy hne => (upd_ne hne).trans (f1 y o hy)
    generalize upd H1 a (.inst 433 [("bank", .ref b)]) = H2 at B2 a2 f2 ⊢
    clear f1 a1 B1
    refine EXS.cons ?_
    refine EX.assignAttr ?_ rfl
    walk_at "ev"
    refine EV.global gl_Unions ?_ rfl rfl rfl (by decide)
    refine ⟨ok_301, EVL.nil ?_⟩
    refine CC.cl (CC.cls cls_Unions.1 cls_Unions.2.1 cls_Unions.2.2 fun u hu => ?_)
    have hau : a ≠ u := fun q => by rw [q, hu] at a2; cases a2
    refine t_uinit (upd_self ..) fun p2 q2 r2 H3 U3 k3 => ⟨rfl, ?_⟩
    have a3 : H3 a = some (.inst 433 [("bank", .ref b)]) := k3 _ _ (upd_fr hu a2) hau
    have f3 : ∀ y o, H2 y = some o → H3 y = some o := fun y o hy => k3 _ _ (upd_fr hu hy) fun q => by rw [q, hu] at hy; cases hy
    have B3 := B2.le f3
    clear k3
    walk_at "ev"
    refine SA.inst a3 sta_Heap_unions (by simp) ?_
    have B4 := B3.off (o' := .inst 433 [("unions", .ref u), ("bank", .ref b)]) a3 (Ne.symm hab)
    have U4 := U3.off (o' := .inst 433 [("unions", .ref u), ("bank", .ref b)]) a3 (Ne.symm hau)
    have a4 := upd_self H3 a (.inst 433 [("unions", .ref u), ("bank", .ref b)])
    have f4 : ∀ y o, H y = some o → y ≠ a → upd H3 a (.inst 433 [("unions", .ref u), ("bank", .ref b)]) y = some o := fun y o hy hne => (upd_ne hne).trans (f3 y o (f2 y o hy hne))
    generalize upd H3 a (.inst 433 [("unions", .ref u), ("bank", .ref b)]) = H4 at B4 U4 a4 f4 ⊢
    clear f2 f3 a3 B3 U3 B2 a2
    refine EXS.cons ?_
    refine EX.assignAttr ?_ rfl
    refine EV.list (3, 0) (EVL.nil ?_) rfl (by decide)
    intro ed hed
    walk_at "ev"
    refine SA.inst (upd_fr hed a4) sta_Heap_edges (by simp) ?_
    have B5 := (B4.le (le_upd (o := .lst (3, 0) []) hed)).off (o' := .inst 433 [("edges", .ref ed), ("unions", .ref u), ("bank", .ref b)]) (upd_fr hed a4) (Ne.symm hab)
    have U5 := (U4.le (le_upd (o := .lst (3, 0) []) hed)).off (o' := .inst 433 [("edges", .ref ed), ("unions", .ref u), ("bank", .ref b)]) (upd_fr hed a4) (Ne.symm hau)
    have a5 := upd_self (upd H4 ed (.lst (3, 0) [])) a (.inst 433 [("edges", .ref ed), ("unions", .ref u), ("bank", .ref b)])
    have e5 : upd (upd H4 ed (.lst (3, 0) [])) a (.inst 433 [("edges", .ref ed), ("unions", .ref u), ("bank", .ref b)]) ed = _ := upd_old (upd_self ..) (upd_fr hed a4) (by walk_at "tg")
    have f5 : ∀ y o, H y = some o → y ≠ a → upd (upd H4 ed (.lst (3, 0) [])) a (.inst 433 [("edges", .ref ed), ("unions", .ref u), ("bank", .ref b)]) y = some o := fun y o hy hne => (upd_ne hne).trans (upd_fr hed (f4 y o hy hne))
    generalize upd (upd H4 ed (.lst (3, 0) [])) a (.inst 433 [("edges", .ref ed), ("unions", .ref u), ("bank", .ref b)]) = H5 at B5 U5 a5 e5 f5 ⊢
    clear hed f4 a4 B4 U4
    refine EXS.cons ?_
    refine EX.assignAttr ?_ rfl
    refine EV.list (3, 1) (EVL.nil ?_) rfl (by decide)
    intro fo hfo
    walk_at "ev"
    refine SA.inst (upd_fr hfo a5) sta_Heap_forest (by simp) ?_
    generalize ho : MO.inst 433 [("forest", .ref fo), ("edges", .ref ed), ("unions", .ref u), ("bank", .ref b)] = o6
    have B6 := (B5.le (le_upd (o := .lst (3, 1) []) hfo)).off (o' := o6) (upd_fr hfo a5) (Ne.symm hab)
    have U6 := (U5.le (le_upd (o := .lst (3, 1) []) hfo)).off (o' := o6) (upd_fr hfo a5) (Ne.symm hau)
    have a6 := upd_self (upd H5 fo (.lst (3, 1) [])) a o6
    have e6 : upd (upd H5 fo (.lst (3, 1) [])) a o6 ed = _ := upd_old (upd_fr hfo e5) (upd_fr hfo a5) (by walk_at "tg")
    have o6' : upd (upd H5 fo (.lst (3, 1) [])) a o6 fo = _ := upd_old (upd_self ..) (upd_fr hfo a5) (by walk_at "tg")
    have f6 : ∀ y o, H y = some o → y ≠ a → upd (upd H5 fo (.lst (3, 1) [])) a o6 y = some o := fun y o hy hne => (upd_ne hne).trans (upd_fr hfo (f5 y o hy hne))
    generalize upd (upd H5 fo (.lst (3, 1) [])) a o6 = H6 at B6 U6 a6 e6 o6' f6 ⊢
    subst ho
    clear hfo f5 a5 B5 U5 e5
    refine EXS.cons ?_
    refine EX.assignAttr ?_ rfl
    refine EV.dict0T (3, 2) fun kn hkn => ?_
    walk_at "ev"
    refine SA.inst (upd_fr hkn a6) sta_Heap_known (by simp) ?_
    generalize ho : MO.inst 433 [("known", .ref kn), ("forest", .ref fo), ("edges", .ref ed), ("unions", .ref u), ("bank", .ref b)] = o7
    have B7 := (B6.le (le_upd (o := .dT (3, 2) (fun _ => none) 0) hkn)).off (o' := o7) (upd_fr hkn a6) (Ne.symm hab)
    have U7 := (U6.le (le_upd (o := .dT (3, 2) (fun _ => none) 0) hkn)).off (o' := o7) (upd_fr hkn a6) (Ne.symm hau)
    have a7 := upd_self (upd H6 kn (.dT (3, 2) (fun _ => none) 0)) a o7
    have e7 : upd (upd H6 kn (.dT (3, 2) (fun _ => none) 0)) a o7 ed = _ := upd_old (upd_fr hkn e6) (upd_fr hkn a6) (by walk_at "tg")
    have o7' : upd (upd H6 kn (.dT (3, 2) (fun _ => none) 0)) a o7 fo = _ := upd_old (upd_fr hkn o6') (upd_fr hkn a6) (by walk_at "tg")
    have n7 : upd (upd H6 kn (.dT (3, 2) (fun _ => none) 0)) a o7 kn = _ := upd_old (upd_self ..) (upd_fr hkn a6) (by walk_at "tg")
    have f7 : ∀ y o, H y = some o → y ≠ a → upd (upd H6 kn (.dT (3, 2) (fun _ => none) 0)) a o7 y = some o := fun y o hy hne => (upd_ne hne).trans (upd_fr hkn (f6 y o hy hne))
    generalize upd (upd H6 kn (.dT (3, 2) (fun _ => none) 0)) a o7 = H7 at B7 U7 a7 e7 o7' n7 f7 ⊢
    subst ho
    clear hkn f6 a6 B6 U6 e6 o6'
    refine EXS.cons ?_
    refine EX.assignAttr ?_ rfl
    refine EV.dict0I (3, 3) fun ab hab' => ?_
    walk_at "ev"
    refine SA.inst (upd_fr hab' a7) sta_Heap_above (by simp) ?_
    generalize ho : MO.inst 433 [("above", .ref ab), ("known", .ref kn), ("forest", .ref fo), ("edges", .ref ed), ("unions", .ref u), ("bank", .ref b)] = o8
    have B8 := (B7.le (le_upd (o := .dI (3, 3) (fun _ => none) 0) hab')).off (o' := o8) (upd_fr hab' a7) (Ne.symm hab)
    have U8 := (U7.le (le_upd (o := .dI (3, 3) (fun _ => none) 0) hab')).off (o' := o8) (upd_fr hab' a7) (Ne.symm hau)
    have a8 := upd_self (upd H7 ab (.dI (3, 3) (fun _ => none) 0)) a o8
    have e8 : upd (upd H7 ab (.dI (3, 3) (fun _ => none) 0)) a o8 ed = _ := upd_old (upd_fr hab' e7) (upd_fr hab' a7) (by walk_at "tg")
    have o8' : upd (upd H7 ab (.dI (3, 3) (fun _ => none) 0)) a o8 fo = _ := upd_old (upd_fr hab' o7') (upd_fr hab' a7) (by walk_at "tg")
    have n8 : upd (upd H7 ab (.dI (3, 3) (fun _ => none) 0)) a o8 kn = _ := upd_old (upd_fr hab' n7) (upd_fr hab' a7) (by walk_at "tg")
    have b8 : upd (upd H7 ab (.dI (3, 3) (fun _ => none) 0)) a o8 ab = _ := upd_old (upd_self ..) (upd_fr hab' a7) (by walk_at "tg")
    have f8 : ∀ y o, H y = some o → y ≠ a → upd (upd H7 ab (.dI (3, 3) (fun _ => none) 0)) a o8 y = some o := fun y o hy hne => (upd_ne hne).trans (upd_fr hab' (f7 y o hy hne))
    generalize upd (upd H7 ab (.dI (3, 3) (fun _ => none) 0)) a o8 = H8 at B8 U8 a8 e8 o8' n8 b8 f8 ⊢
    subst ho
    clear hab' f7 a7 B7 U7 e7 o7' n7
    refine EXS.cons ?_
    refine EX.assignAttr ?_ rfl
    refine EV.list (3, 4) (EVL.nil ?_) rfl (by decide)
    intro wa hwa
    walk_at "ev"
    refine SA.inst (upd_fr hwa a8) sta_Heap_waiting (by simp) ?_
    generalize ho : MO.inst 433 [("waiting", .ref wa), ("above", .ref ab), ("known", .ref kn), ("forest", .ref fo), ("edges", .ref ed), ("unions", .ref u), ("bank", .ref b)] = o9
    have B9 := (B8.le (le_upd (o := .lst (3, 4) []) hwa)).off (o' := o9) (upd_fr hwa a8) (Ne.symm hab)
    have U9 := (U8.le (le_upd (o := .lst (3, 4) []) hwa)).off (o' := o9) (upd_fr hwa a8) (Ne.symm hau)
    have a9 := upd_self (upd H8 wa (.lst (3, 4) [])) a o9
    have e9 : upd (upd H8 wa (.lst (3, 4) [])) a o9 ed = _ := upd_old (upd_fr hwa e8) (upd_fr hwa a8) (by walk_at "tg")
    have o9' : upd (upd H8 wa (.lst (3, 4) [])) a o9 fo = _ := upd_old (upd_fr hwa o8') (upd_fr hwa a8) (by walk_at "tg")
    have n9 : upd (upd H8 wa (.lst (3, 4) [])) a o9 kn = _ := upd_old (upd_fr hwa n8) (upd_fr hwa a8) (by walk_at "tg")
    have b9 : upd (upd H8 wa (.lst (3, 4) [])) a o9 ab = _ := upd_old (upd_fr hwa b8) (upd_fr hwa a8) (by walk_at "tg")
    have w9 : upd (upd H8 wa (.lst (3, 4) [])) a o9 wa = _ := upd_old (upd_self ..) (upd_fr hwa a8) (by walk_at "tg")
    have f9 : ∀ y o, H y = some o → y ≠ a → upd (upd H8 wa (.lst (3, 4) [])) a o9 y = some o := fun y o hy hne => (upd_ne hne).trans (upd_fr hwa (f8 y o hy hne))
    generalize upd (upd H8 wa (.lst (3, 4) [])) a o9 = H9 at B9 U9 a9 e9 o9' n9 b9 w9 f9 ⊢
    subst ho
    refine EXS.cons ?_
    refine EX.assignAttr ?_ rfl
    walk_at "ev"
    walk_at "ev"
    refine SA.inst a9 sta_Heap_backs (by simp) ?_
    refine EXS.nil ?_
    refine hP ⟨a, ⟨b, p, q, r, t⟩, ⟨u, p2, q2, r2⟩, ed, fo, kn, ab, wa⟩ _ rfl ⟨upd_self .., B9.off a9 (Ne.symm hab), U9.off a9 (Ne.symm hau), ⟨[], upd_old e9 a9 (by walk_at "tg"), Nat.le_refl _⟩, ⟨[], upd_old o9' a9 (by walk_at "tg"), Nat.le_refl _⟩, ⟨0, upd_old n9 a9 (by walk_at "tg"), Nat.le_refl _⟩, ⟨_, 0, upd_old b9 a9 (by walk_at "tg"), Nat.le_refl _, fun k hk => absurd hk (Nat.not_lt_zero k)⟩, upd_old w9 a9 (by walk_at "tg")⟩ fun y o hy hne => (upd_ne hne).trans (f9 y o hy hne)
noncomputable def PatAt (H : MH) : Pat → Addr → Prop
  | .leaf x, a => H a = some (.tup [.str x])
  | .un p, a => ∃ b, H a = some (.tup [.str "f", .ref b]) ∧ PatAt H p b
  | .bin p q, a => ∃ b c, H a = some (.tup [.str "g", .ref b, .ref c]) ∧ PatAt H p b ∧ PatAt H q c
theorem PatAt.keep {H H' : MH} (hk : ∀ x o, H x = some o → (tg o).1 = 0 ∧ tg o ≠ (0, 13) → H' x = some o) : ∀ {p : Pat} {a : Addr}, PatAt H p a → PatAt H' p a
  | .leaf x, a, h => hk _ _ h ⟨rfl, by simp [tg]⟩
  | .un p, a, ⟨b, h1, h2⟩ => ⟨b, hk _ _ h1 ⟨rfl, by simp [tg]⟩, h2.keep hk⟩
  | .bin p q, a, ⟨b, c, h1, h2, h3⟩ => ⟨b, c, hk _ _ h1 ⟨rfl, by simp [tg]⟩, h2.keep hk, h3.keep hk⟩
theorem PatAt.k0 {H H' : MH} (hk : K0 H H') {p : Pat} {a : Addr} (h : PatAt H p a) : PatAt H' p a := h.keep fun x o h w => hk x o h w.1
theorem PatAt.le {H H' : MH} (hk : Le H H') {p : Pat} {a : Addr} (h : PatAt H p a) : PatAt H' p a := h.keep fun x o h w => hk x o h
theorem PatAt.kids {H : MH} {p : Pat} {a : Addr} (h : PatAt H p a) : ∃ as : List Addr, H a = some (.tup (.str p.op :: as.map .ref)) ∧ as.length = p.kids.length ∧ ∀ (i : Nat) b q, as[i]? = some b → p.kids[i]? = some q → PatAt H q b := by
  cases p with
  | leaf x => exact ⟨[], h, rfl, fun i b q h => nomatch h⟩
  | un p =>
    obtain ⟨b, h1, h2⟩ := h
    refine ⟨[b], h1, rfl, fun i c q hc hq => ?_⟩
    match i with
    | 0 => cases hc; cases hq; exact h2
    | i + 1 => cases hc
  | bin p q =>
    obtain ⟨b, c, h1, h2, h3⟩ := h
    refine ⟨[b, c], h1, rfl, fun i e r hc hq => ?_⟩
    match i with
    | 0 => cases hc; cases hq; exact h2
    | 1 => cases hc; cases hq; exact h3
    | i + 2 => cases hc
noncomputable def TabAt (H : MH) (t : Addr) (i j : Nat) : Prop := ∃ f n, H t = some (.dS (0, 12) f n) ∧ ∀ x, f x = (tabO i j x).map fun (k : Nat) => V.int (k : Int)
theorem TabAt.k0 {H H' : MH} (hk : K0 H H') {t : Addr} {i j : Nat} (h : TabAt H t i j) : TabAt H' t i j := let ⟨f, n, a, b⟩ := h; ⟨f, n, hk _ _ a rfl, b⟩
noncomputable def PlAt (H : MH) (pl h : Addr) : Prop := H pl = some (.inst 219 [("heap", .ref h)])
theorem t_isvar {a : Addr} {p : Pat} {P : V → MH → Prop} (hp : PatAt H p a) (hok : p.ok) (hP : P (.bool p.isVar) H) : CL (DW w mean mg mb bl) (d + 1) H (.ref 74) [.ref a] P := by
  refine' CL.defB (D := DW w mean mg mb bl) ?ho ?hcd ["t"] rfl ?hbind ?hb ?h
  walk_at "w_enter"
  case hbind => exact all1 fun _ => rfl
  case h =>
    intro L
    refine EXS.cons ?_
    refine EX.ret ?_
    refine EV.and2 ?_
    walk_at "ev"
    walk_at "ev"
    walk_at "bi"
    walk_at "go"
    cases p with
    | leaf x =>
      have hx : LeafOk x := hok
      refine CL.lenTup (vs := [.str x]) hp (by simp) ?_
      walk_at "go"
      refine CO.eqInt (TR.bool ?_)
      rw [show ((([V.str x] : List V).length : Int) == 1) = true from rfl, if_pos rfl]
      walk_at "go"
      refine SB.tup (k := 0) hp (by decide) rfl rfl ?_
      refine EP.none ?_
      refine EP.some ?_
      walk_at "go"
      rcases hx with rfl | rfl | rfl | rfl | rfl
      · refine SL.strTo (y := "?") (fun t u => .inl rfl) (by decide +kernel) ?_
        walk_at "go"
        refine CO.eqStr ?_
        rw [show (("?" : Str) == "?") = (Pat.leaf "?x").isVar by decide +kernel]
        exact hP
      · refine SL.strTo (y := "?") (fun t u => .inl rfl) (by decide +kernel) ?_
        walk_at "go"
        refine CO.eqStr ?_
        rw [show (("?" : Str) == "?") = (Pat.leaf "?y").isVar by decide +kernel]
        exact hP
      · refine SL.strTo (y := "a") (fun t u => by first | exact .inl rfl | exact .inr ⟨rfl, rfl⟩) (by decide +kernel) ?_
        walk_at "go"
        refine CO.eqStr ?_
        rw [show (("a" : Str) == "?") = (Pat.leaf "a").isVar by decide +kernel]
        exact hP
      · refine SL.strTo (y := "b") (fun t u => by first | exact .inl rfl | exact .inr ⟨rfl, rfl⟩) (by decide +kernel) ?_
        walk_at "go"
        refine CO.eqStr ?_
        rw [show (("b" : Str) == "?") = (Pat.leaf "b").isVar by decide +kernel]
        exact hP
      · refine SL.strTo (y := "d") (fun t u => by first | exact .inl rfl | exact .inr ⟨rfl, rfl⟩) (by decide +kernel) ?_
        walk_at "go"
        refine CO.eqStr ?_
        rw [show (("d" : Str) == "?") = (Pat.leaf "d").isVar by decide +kernel]
        exact hP
    | un p =>
      obtain ⟨b, h1, h2⟩ := hp
      refine CL.lenTup h1 (by simp) ?_
      walk_at "go"
      refine CO.eqInt (TR.bool ?_)
      rw [show ((([V.str "f", V.ref b] : List V).length : Int) == 1) = false from rfl, if_neg (by decide)]
      exact hP
    | bin p q =>
      obtain ⟨b, c, h1, h2, h3⟩ := hp
      refine CL.lenTup h1 (by simp) ?_
      walk_at "go"
      refine CO.eqInt (TR.bool ?_)
      rw [show ((([V.str "g", V.ref b, V.ref c] : List V).length : Int) == 1) = false from rfl, if_neg (by decide)]
      exact hP
theorem t_plinit {a h : Addr} {P : V → MH → Prop} (ha : H a = some (.inst 219 [])) (hP : P .none (upd H a (.inst 219 [("heap", .ref h)]))) : CC (DW w mean mg mb bl) (d + 1) H (.ref 199) [.ref a, .ref h] P := by
  refine' CC.defB (D := DW w mean mg mb bl) ?ho ?hcd ["self", "heap"] rfl ?hbind ?hb ?h
  walk_at "w_enter"
  case hbind => exact all2 fun _ _ => rfl
  case h =>
    intro L
    refine EXS.cons ?_
    refine EX.assignAttr ?_ rfl
    walk_at "ev"
    walk_at "ev"
    refine SA.inst ha sta_Placer_heap (by simp) ?_
    exact EXS.nil hP
theorem pat_items {as : List Addr} {op : Str} : (V.str op :: as.map V.ref).drop 1 = as.map V.ref := rfl
theorem t_classof {x : HA} {s : St} {c i j : Nat} {pairs : List (Nat × Nat)} {pl t : Addr} (I : Settled s pairs) (B : s.rows.length ≤ 21) (hi : i < s.rows.length) (hj : j < s.rows.length) : ∀ (n : Nat) (p : Pat), p.depth ≤ n → p.ok → ∀ (dd : Nat), n + 6 ≤ dd → ∀ (H : MH) (a : Addr) (P : V → MH → Prop), RepH x s c H → PlAt H pl x.h → PatAt H p a → TabAt H t i j →
    (∀ H', Le H H' → P (.int (oV (cls s (tabO i j) p))) H') → CL (DW w mean mg mb bl) dd H (.ref 209) [.ref pl, .ref a, .ref t] P := by
  intro n
  induction n using Nat.strongRecOn with
  | _ n ih =>
  intro p hpd hok dd hdd H a P R hpl hpa ht hP
  obtain ⟨d, rfl⟩ : ∃ k, dd = k + 5 := ⟨dd - 5, by omega⟩
  refine' CL.defB (D := DW w mean mg mb bl) ?ho ?hcd ["self", "pattern", "table"] rfl ?hbind ?hb ?h
  walk_at "w_enter"
  case hbind => exact all3 fun _ _ _ => rfl
  case h =>
    intro L
    have hpl' : H pl = some (.inst 219 [("heap", .ref x.h)]) := hpl
    refine EXS.cons ?_
    refine EX.ifs ?_
    refine TS.plain ?_ rfl
    walk_at "ev"
    refine EV.global gl_is_variable ?_ rfl rfl rfl (by decide)
    refine ⟨ok_74, ?_⟩
    walk_at "go"
    refine t_isvar hpa hok (TR.bool ?_)
    by_cases hv : p.isVar = true
    · rw [hv, if_pos rfl]
      obtain ⟨y, k, rfl, hk, hk2⟩ := isVar_tab (i := i) (j := j) hv
      have hkl : k < s.rows.length := by rcases hk2 with rfl | rfl <;> assumption
      have hpa' : H a = some (.tup [.str y]) := hpa
      obtain ⟨f, m, h1, h2⟩ := ht
      refine EXS.cons ?_
      refine EX.ret ?_
      walk_at "go"
      refine GM.inst R.inst mth_Heap_find rfl ⟨ok_355, ?_⟩
      walk_at "go"
      refine SB.tup (k := 0) hpa' (by decide) rfl rfl ?_
      refine SB.dS (v := .int (k : Int)) h1 (by rw [h2, hk]; rfl) rfl ?_
      refine EVL.nil ?_
      refine t_hfind R I.1 B hkl ?_
      have := hP H (Le.refl _)
      unfold cls at this
      rw [hk] at this
      exact this
    · have hv' : p.isVar = false := by simpa using hv
      rw [hv', if_neg (by decide)]
      obtain ⟨as, h1, h2, h3⟩ := hpa.kids
      have hkl := p.kids_len
      refine EXS.nil ?_
      refine EXS.cons ?_
      refine EX.assignComp (0, 10) [("self", .ref pl), ("table", .ref t)] ⟨fun _ => rfl, rfl, rfl, by decide, by decide, by decide⟩ ⟨by walk_at "lk", .inl rfl, .inl rfl, rfl, by walk_at "lk", .inl rfl, .inl rfl, rfl, trivial⟩ rfl (.inl rfl) rfl ?_
      refine IE.tup ?_
      walk_at "go"
      refine EP.some ?_
      walk_at "go"
      refine EP.none ?_
      refine SL.tupFrom (n := 1) h1 (by decide) (by simp) (by simp; omega) fun t7 ht7 => ?_
      refine ⟨_, _, rfl, upd_self .., ?_⟩
      have l7 := le_upd (o := .tup (as.map V.ref)) ht7
      change CompOk _ _ _ _ _ _ _ _ _ (tupShp t7 (as.map V.ref)) (upd H t7 (.tup (as.map V.ref))) _
      have u7 := upd_self H t7 (.tup (as.map V.ref))
      generalize upd H t7 (.tup (as.map V.ref)) = H7 at l7 u7 ⊢
      refine CompOk.inv (fun m ys H' => Le H7 H' ∧ ys = (p.kids.take m).map fun q => V.int (oV (cls s (tabO i j) q))) ⟨Le.refl _, by simp⟩ (by show (as.map V.ref).length ≤ _; rw [List.length_map]; omega) (fun m ys H' q => q.1 _ _ u7) rfl rfl ?_ ?_
      · rintro m ys H' v H₂ hm ⟨hl, rfl⟩ hv2 hle C
        have hv3 : (as.map V.ref)[m]? = some v := hv2
        rw [List.getElem?_map] at hv3
        cases q1 : as[m]? with
        | none => rw [q1] at hv3; cases hv3
        | some b =>
          rw [q1] at hv3; cases hv3
          have hmk : m < p.kids.length := by rw [← h2]; exact (List.getElem?_eq_some_iff.mp q1).1
          have hq : p.kids[m]? = some p.kids[m] := List.getElem?_eq_getElem hmk
          have hmem : p.kids[m] ∈ p.kids := List.getElem_mem hmk
          generalize p.kids[m] = q at hq hmem
          have hd := Pat.kids_depth hmem
          have ll := (l7.trans hl).trans hle
          have hpl2 : H₂ pl = some (.inst 219 [("heap", .ref x.h)]) := ll _ _ hpl
          walk_at "go"
          refine GM.inst hpl2 mth_Placer_class_of rfl ⟨ok_209, ?_⟩
          walk_at "go"
          refine ih (n - 1) (by omega) q (by omega) (Pat.kids_ok hok hmem) (d + 4) (by omega) H₂ b _ (R.le ll) hpl2 (PatAt.le ll (h3 m b q q1 hq)) (ht.k0 (K0.of ll)) fun H' hl' => ?_
          refine ⟨(hl.trans hle).trans hl', ?_⟩
          rw [List.take_add_one, hq]
          simp
      · rintro ys H' ⟨hl, rfl⟩ a8 ha8
        have e8 : (p.kids.take (as.map V.ref).length).map (fun q => V.int (oV (cls s (tabO i j) q))) = (p.kids.map fun q => oV (cls s (tabO i j) q)).map V.int := by
          rw [List.length_map, h2, List.take_length, List.map_map]; rfl
        show EXS _ _ _ _ (upd H' a8 (.lst (0, 10) ((p.kids.take (as.map V.ref).length).map fun q => V.int (oV (cls s (tabO i j) q))))) _ _
        rw [e8]
        have l9 := (l7.trans hl).trans (le_upd (o := .lst (0, 10) ((p.kids.map fun q => oV (cls s (tabO i j) q)).map V.int)) ha8)
        have u9 := upd_self H' a8 (.lst (0, 10) ((p.kids.map fun q => oV (cls s (tabO i j) q)).map V.int))
        generalize upd H' a8 (.lst (0, 10) ((p.kids.map fun q => oV (cls s (tabO i j) q)).map V.int)) = H9 at l9 u9 ⊢
        refine EXS.cons ?_
        refine EX.ret ?_
        refine EV.ifx ?_
        refine TS.cmp ?_ rfl
        walk_at "go"
        refine UO.neg ?_
        walk_at "go"
        refine CO.inInts u9 (TR.bool ?_)
        rcases cls_kids (s := s) (i := i) (j := j) hv' with ⟨q1, q2⟩ | ⟨ks, q1, q2, q3⟩
        · rw [decide_eq_true (by simpa using q1), if_pos rfl]
          walk_at "go"
          refine UO.neg ?_
          have := hP H9 l9
          rw [q2] at this
          exact this
        · rw [q1, decide_eq_false (by simp), if_neg (by decide)]
          have hpl9 : H9 pl = some (.inst 219 [("heap", .ref x.h)]) := l9 _ _ hpl
          have R9 := R.le l9
          walk_at "go"
          refine GM.inst R9.inst mth_Heap_seek rfl ⟨ok_423, ?_⟩
          walk_at "go"
          refine SB.tup (k := 0) (l9 _ _ h1) (by decide) rfl rfl ?_
          walk_at "go"
          rw [q1] at u9
          have hlen : ks.length ≤ 2 := by have := congrArg List.length q1; simp at this; omega
          refine t_hseek (ks := ks) (g := (0, 10)) R9 I.1 B (by rw [u9]; unfold nts; rw [List.map_map]; rfl) (fun k hk => ?_) hlen fun H' hl' => ?_
          · obtain ⟨q, _, hq⟩ := q3 k hk
            exact (cls_lt I (tabO_lt hi hj) hq).1
          · have := hP H' (l9.trans hl')
            rw [q2] at this
            unfold seekS at this
            cases z : s.known (keyOf p.op (ks.map s.rt)) with
            | none => rw [z] at this; exact this
            | some k => rw [z] at this; exact this
theorem t_holds {x : HA} {s : St} {c i j : Nat} {pairs : List (Nat × Nat)} {pl t nd a b : Addr} {p q : Pat} {kind : Str} {P : V → MH → Prop} (I : Settled s pairs) (B : s.rows.length ≤ 21) (hi : i < s.rows.length) (hj : j < s.rows.length) (hp : p.depth ≤ 2) (hq : q.depth ≤ 2) (pok : p.ok) (qok : q.ok) (R : RepH x s c H) (hpl : PlAt H pl x.h) (hpa : PatAt H p a) (hqb : PatAt H q b) (ht : TabAt H t i j)
    (hn : H nd = some (.tup [.str kind, .ref a, .ref b]))
    (hP : ∀ H', Le H H' → P (.bool (((cls s (tabO i j) p).isSome && decide (cls s (tabO i j) p = cls s (tabO i j) q)) == (kind == "alike"))) H') : CL (DW w mean mg mb bl) (d + 9) H (.ref 216) [.ref pl, .ref nd, .ref t] P := by
  refine' CL.defB (D := DW w mean mg mb bl) ?ho ?hcd ["self", "need", "table"] rfl ?hbind ?hb ?h
  walk_at "w_enter"
  case hbind => exact all3 fun _ _ _ => rfl
  case h =>
    intro L
    have hpl' : H pl = some (.inst 219 [("heap", .ref x.h)]) := hpl
    refine EXS.cons ?_
    refine EX.assignT ?_ rfl rfl
    walk_at "ev"
    refine AT.tuple (vs := [.str kind, .ref a, .ref b]) ⟨nd, rfl, .inl hn⟩ rfl rfl ?_
    refine AT.name ?_ rfl (.inl rfl)
    refine AT.name ?_ rfl (.inl rfl)
    refine AT.name (ATS.fin ?_) rfl (.inl rfl)
    refine EXS.cons ?_
    refine EX.assignN ?_ rfl (.inl rfl) rfl
    walk_at "go"
    refine GM.inst hpl' mth_Placer_class_of rfl ⟨ok_209, ?_⟩
    walk_at "go"
    refine t_classof I B hi hj 2 p hp pok (d + 8) (by omega) H a _ R hpl hpa ht fun H1 hl1 => ?_
    have fin : ∀ (v : Bool) (H' : MH), Le H1 H' → v = ((cls s (tabO i j) p).isSome && decide (cls s (tabO i j) p = cls s (tabO i j) q)) → P (.bool (v == (kind == "alike"))) H' := fun v H' hl hv => by
      subst hv
      exact hP H' (hl1.trans hl)
    refine EXS.cons ?_
    refine EX.ret ?_
    walk_at "ev"
    refine EV.and2 ?_
    walk_at "go"
    refine UO.neg ?_
    refine CO.neInt (TR.bool ?_)
    cases hc : cls s (tabO i j) p with
    | none =>
      rw [show (oV none != -1) = false from rfl, if_neg (by decide)]
      walk_at "go"
      refine CO.eqStr ?_
      refine CO.eqBool ?_
      exact fin false H1 (Le.refl _) (by rw [hc]; rfl)
    | some k =>
      rw [show (oV (some k) != -1) = true by rw [bne_iff_ne]; simp only [oV]; omega, if_pos rfl]
      have hpl2 : H1 pl = some (.inst 219 [("heap", .ref x.h)]) := hl1 _ _ hpl
      walk_at "go"
      refine GM.inst hpl2 mth_Placer_class_of rfl ⟨ok_209, ?_⟩
      walk_at "go"
      refine t_classof I B hi hj 2 q hq qok (d + 8) (by omega) H1 b _ (R.le hl1) hpl2 (hqb.le hl1) (ht.k0 (K0.of hl1)) fun H2 hl2 => ?_
      refine CO.eqInt ?_
      walk_at "go"
      refine CO.eqStr ?_
      refine CO.eqBool ?_
      refine fin _ H2 hl2 ?_
      rw [hc]
      simp only [Option.isSome_some, Bool.true_and]
      rw [Bool.eq_iff_iff, beq_iff_eq, decide_eq_true_eq]
      constructor
      · intro z; exact oV_inj z
      · intro z; rw [z]
theorem t_put {x : HA} {i j : Nat} {pairs : List (Nat × Nat)} {pl t : Addr} : ∀ (n : Nat) (p : Pat), p.depth ≤ n → p.ok → ∀ (dd : Nat), n + 8 ≤ dd → ∀ (H : MH) (s : St) (c : Nat) (a : Addr) (P : V → MH → Prop), Settled s pairs → s.rows.length + p.nodes ≤ 21 → i < s.rows.length → j < s.rows.length → c + 3 * p.nodes ≤ 980 → s.tot + 2 * p.nodes ≤ 900 →
    RepH x s c H → PlAt H pl x.h → PatAt H p a → TabAt H t i j →
    (∀ s' c' H', RepH x s' c' H' → Settled s' pairs → K0 H H' → s'.rows = (laid s.rows (tabO i j) p).1 → c' ≤ c + 3 * p.nodes → s'.tot ≤ s.tot + 2 * p.nodes → P (.int ((laid s.rows (tabO i j) p).2 : Nat)) H') → CL (DW w mean mg mb bl) dd H (.ref 204) [.ref pl, .ref a, .ref t] P := by
  intro n
  induction n using Nat.strongRecOn with
  | _ n ih =>
  intro p hpd hok dd hdd H s c a P I B hi hj hc hu R hpl hpa ht hP
  obtain ⟨d, rfl⟩ : ∃ k, dd = k + 7 := ⟨dd - 7, by omega⟩
  refine' CL.defB (D := DW w mean mg mb bl) ?ho ?hcd ["self", "pattern", "table"] rfl ?hbind ?hb ?h
  walk_at "w_enter"
  case hbind => exact all3 fun _ _ _ => rfl
  case h =>
    intro L
    have hpl' : H pl = some (.inst 219 [("heap", .ref x.h)]) := hpl
    refine EXS.cons ?_
    refine EX.ifs ?_
    refine TS.plain ?_ rfl
    walk_at "ev"
    refine EV.global gl_is_variable ?_ rfl rfl rfl (by decide)
    refine ⟨ok_74, ?_⟩
    walk_at "go"
    refine t_isvar hpa hok (TR.bool ?_)
    by_cases hv : p.isVar = true
    · rw [hv, if_pos rfl]
      obtain ⟨y, k, rfl, hk, hk2⟩ := isVar_tab (i := i) (j := j) hv
      have hpa' : H a = some (.tup [.str y]) := hpa
      obtain ⟨f, m, h1, h2⟩ := ht
      refine EXS.cons ?_
      refine EX.ret ?_
      walk_at "go"
      refine SB.tup (k := 0) hpa' (by decide) rfl rfl ?_
      refine SB.dS (v := .int (k : Int)) h1 (by rw [h2, hk]; rfl) rfl ?_
      have := hP s c H R I (K0.refl _)
      unfold laid at this
      rw [hk] at this
      exact this rfl (by omega) (by omega)
    · have hv' : p.isVar = false := by simpa using hv
      rw [hv', if_neg (by decide)]
      obtain ⟨as, h1, h2, h3⟩ := hpa.kids
      have hkl := p.kids_len
      have hnk := p.nodes_kids
      have hkn := p.kids
      refine EXS.nil ?_
      refine EXS.cons ?_
      refine EX.ret ?_
      walk_at "go"
      refine GM.inst R.inst mth_Heap_add rfl ⟨ok_336, ?_⟩
      walk_at "go"
      refine SB.tup (k := 0) h1 (by decide) rfl rfl ?_
      refine EVL.one ?_
      refine EV.comp (0, 10) [("self", .ref pl), ("table", .ref t)] ⟨fun _ => rfl, rfl, rfl, by decide, by decide, by decide⟩ ⟨by walk_at "lk", .inl rfl, .inl rfl, rfl, by walk_at "lk", .inl rfl, .inl rfl, rfl, trivial⟩ ?_
      refine IE.tup ?_
      walk_at "go"
      refine EP.some ?_
      walk_at "go"
      refine EP.none ?_
      refine SL.tupFrom (n := 1) h1 (by decide) (by simp) (by simp; omega) fun t7 ht7 => ?_
      refine ⟨_, _, rfl, upd_self .., ?_⟩
      have l7 := le_upd (o := .tup (as.map V.ref)) ht7
      change CompOk _ _ _ _ _ _ _ _ _ (tupShp t7 (as.map V.ref)) (upd H t7 (.tup (as.map V.ref))) _
      have u7 := upd_self H t7 (.tup (as.map V.ref))
      generalize upd H t7 (.tup (as.map V.ref)) = H7 at l7 u7 ⊢
      refine CompOk.inv (fun m ys H' => ∃ s' c', RepH x s' c' H' ∧ Settled s' pairs ∧ K0 H7 H' ∧ ys = nts (laidL s.rows (tabO i j) (p.kids.take m)).2 ∧ s'.rows = (laidL s.rows (tabO i j) (p.kids.take m)).1 ∧ c' ≤ c + 3 * nodesL (p.kids.take m) ∧ s'.tot ≤ s.tot + 2 * nodesL (p.kids.take m))
        ⟨s, c, R.le l7, I, K0.refl _, rfl, rfl, Nat.le_add_right _ _, Nat.le_add_right _ _⟩ (by show (as.map V.ref).length ≤ _; rw [List.length_map]; omega) (fun m ys H' ⟨_, _, _, _, q, _⟩ => q _ _ u7 rfl) rfl rfl ?_ ?_
      · rintro m ys H' v H₂ hm ⟨s', c', R', I', k', rfl, er, ec, et⟩ hv2 hle C
        have hv3 : (as.map V.ref)[m]? = some v := hv2
        rw [List.getElem?_map] at hv3
        cases q1 : as[m]? with
        | none => rw [q1] at hv3; cases hv3
        | some b =>
          rw [q1] at hv3; cases hv3
          have hmk : m < p.kids.length := by rw [← h2]; exact (List.getElem?_eq_some_iff.mp q1).1
          have hq : p.kids[m]? = some p.kids[m] := List.getElem?_eq_getElem hmk
          have hmem : p.kids[m] ∈ p.kids := List.getElem_mem hmk
          generalize p.kids[m] = q at hq hmem
          have hd := Pat.kids_depth hmem
          have tk : p.kids.take (m + 1) = p.kids.take m ++ [q] := by rw [List.take_add_one, hq]; rfl
          have hn1 := nodesL_snoc (p.kids.take m) q
          have hn2 : nodesL (p.kids.take (m + 1)) ≤ nodesL p.kids := nodesL_take
          rw [tk] at hn2
          have hll := laidL_len (tabO i j) (p.kids.take m) s.rows
          have ll : K0 H H₂ := ((K0.of l7).trans k').trans (K0.of hle)
          have hpl2 : H₂ pl = some (.inst 219 [("heap", .ref x.h)]) := ll _ _ hpl rfl
          walk_at "go"
          refine GM.inst hpl2 mth_Placer_put rfl ⟨ok_204, ?_⟩
          walk_at "go"
          refine ih (n - 1) (by omega) q (by omega) (Pat.kids_ok hok hmem) (d + 6) (by omega) H₂ s' c' b _ I' (by rw [er]; omega) (by rw [er]; omega) (by rw [er]; omega) (by omega) (by omega) (R'.le hle) hpl2 (PatAt.k0 ll (h3 m b q q1 hq)) (ht.k0 ll) fun s2 c2 H' R2 I2 k2 er2 ec2 et2 => ?_
          refine ⟨s2, c2, R2, I2, (k'.trans (K0.of hle)).trans k2, ?_, ?_, ?_, ?_⟩
          · rw [tk, laidL_snoc, nts_append, er]; rfl
          · rw [tk, laidL_snoc, er2, er]
          · rw [tk]; omega
          · rw [tk]; omega
      · rintro ys H' ⟨s', c', R', I', k', rfl, er, ec, et⟩ a8 ha8
        have e8 : p.kids.take (as.map V.ref).length = p.kids := by rw [List.length_map, h2, List.take_length]
        have hs : (tupShp t7 (as.map V.ref)).n = (as.map V.ref).length := rfl
        rw [hs, e8] at er ec et
        rw [hs, e8]
        generalize hL : laidL s.rows (tabO i j) p.kids = LL at *
        have hll := laidL_len (tabO i j) p.kids s.rows
        have hlt := laidL_lt p.kids s.rows (tabO_lt hi hj)
        have hl2 := laidL_len2 (tabO i j) p.kids s.rows
        rw [hL] at hll hlt hl2
        have l9 := le_upd (o := .lst (0, 10) (nts LL.2)) ha8
        have u9 := upd_self H' a8 (.lst (0, 10) (nts LL.2))
        generalize upd H' a8 (.lst (0, 10) (nts LL.2)) = H9 at l9 u9 ⊢
        have hopk : OpOk p.op := by
          cases p with
          | leaf y =>
            rcases hok with rfl | rfl | rfl | rfl | rfl
            · exact absurd hv (by decide)
            · exact absurd hv (by decide)
            · simp [OpOk, Pat.op]
            · simp [OpOk, Pat.op]
            · simp [OpOk, Pat.op]
          | un p => simp [OpOk, Pat.op]
          | bin p q => simp [OpOk, Pat.op]
        refine EVL.nil ?_
        refine t_add (R'.le l9) I' (by rw [er]; omega) hopk (.inr ⟨(0, 10), rfl, u9⟩) (by rw [er]; exact hlt) (by rw [hl2]; exact hkl) (by omega) (by omega) fun m H2 R2 k2 hm => ?_
        have hk' : ∀ k ∈ ((p.op, LL.2) : Row).2, k < s'.rows.length := by rw [er]; exact hlt
        have I2 := I'.add hk'
        have hat := add_tot I' hk'
        have hnd := I2.1.nodup
        have e := laid_kids (rows := s.rows) (i := i) (j := j) hv'
        rw [hL] at e
        have em : m = layI LL.1 (p.op, LL.2) := by
          have := idxOf_of hnd hm
          rw [add_layR, er] at this
          exact this.symm
        have := hP _ _ H2 R2 I2 ((((K0.of l7).trans k').trans (K0.of l9)).trans k2)
        rw [e] at this
        rw [em]
        exact this (by rw [add_layR, er]) (by omega) (by have : ((p.op, LL.2) : Row).2.length ≤ 2 := by show LL.2.length ≤ 2; omega
                                                         omega)
noncomputable def RepD (dl : Addr) (b : Nat) (H : MH) : Prop := ∃ (f : Str → Option V) (n : Nat) (cl : Addr) (cs : List Int) (t : Nat), H dl = some (.dS (0, 13) f n) ∧ n ≤ b ∧ f "cells" = some (.ref cl) ∧ f "at" = some (.int (t : Int)) ∧ t ≤ b ∧ H cl = some (.lst (0, 14) (zts cs)) ∧ cs.length ≤ 50
noncomputable def KD (H H' : MH) : Prop := ∀ a o, H a = some o → tg o ≠ (0, 13) → H' a = some o
theorem KD.refl (H : MH) : KD H H := fun _ _ h _ => h
theorem KD.trans {H₁ H₂ H₃ : MH} (x : KD H₁ H₂) (y : KD H₂ H₃) : KD H₁ H₃ := fun a o h ht => y a o (x a o h ht) ht
theorem KD.of {H H' : MH} (h : Le H H') : KD H H' := fun a o x _ => h a o x
theorem RepD.le {dl : Addr} {b : Nat} {H H' : MH} (R : RepD dl b H) (h : Le H H') : RepD dl b H' := by
  obtain ⟨f, n, cl, cs, t, h1, h2, h3, h4, h5, h6, h7⟩ := R
  exact ⟨f, n, cl, cs, t, h _ _ h1, h2, h3, h4, h5, h _ _ h6, h7⟩
theorem RepD.k0 {dl : Addr} {b : Nat} {H H' : MH} (R : RepD dl b H) (h : K0 H H') : RepD dl b H' := by
  obtain ⟨f, n, cl, cs, t, h1, h2, h3, h4, h5, h6, h7⟩ := R
  exact ⟨f, n, cl, cs, t, h _ _ h1 rfl, h2, h3, h4, h5, h _ _ h6 rfl, h7⟩
theorem RepD.more {dl : Addr} {b b' : Nat} {H : MH} (R : RepD dl b H) (h : b ≤ b') : RepD dl b' H := by
  obtain ⟨f, n, cl, cs, t, h1, h2, h3, h4, h5, h6, h7⟩ := R
  exact ⟨f, n, cl, cs, t, h1, by omega, h3, h4, by omega, h6, h7⟩
theorem RepH.kd {x : HA} {s : St} {c : Nat} {H H' : MH} (R : RepH x s c H) (h : KD H H') : RepH x s c H' := R.keep fun a o ha w => h a o ha (by
  rintro q
  rw [q] at w
  simp at w)
theorem PatAt.kd {H H' : MH} (hk : KD H H') {p : Pat} {a : Addr} (h : PatAt H p a) : PatAt H' p a := h.keep fun x o h w => hk x o h w.2
theorem fmod_lt {a : Int} {m : Nat} (hm : 0 < m) : ∃ t : Nat, Int.fmod a m = (t : Int) ∧ t < m := by
  have h1 := Int.fmod_nonneg_of_pos a (b := (m : Int)) (by omega)
  have h2 := Int.fmod_lt_of_pos a (b := (m : Int)) (by omega)
  exact ⟨(Int.fmod a m).toNat, by omega, by omega⟩
theorem t_turn {dl : Addr} {b m : Nat} {P : V → MH → Prop} (R : RepD dl b H) (hb : b ≤ 900) (hm : 0 < m) (hP : ∀ t H', t < m → RepD dl (b + 1) H' → KD H H' → P (.int (t : Nat)) H') : CL (DW w mean mg mb bl) (d + 1) H (.ref 444) [.ref dl, .int (m : Nat)] P := by
  refine' CL.defB (D := DW w mean mg mb bl) ?ho ?hcd ["dial", "many"] rfl ?hbind ?hb ?h
  walk_at "w_enter"
  case hbind => exact all2 fun _ _ => rfl
  case h =>
    intro L
    obtain ⟨f, n, cl, cs, t, h1, h2, h3, h4, h5, h6, h7⟩ := R
    refine EXS.cons ?_
    refine EX.assignN ?_ rfl (.inl rfl) rfl
    walk_at "go"
    refine SB.dS h1 h4 rfl ?_
    refine EXS.cons ?_
    refine EX.assignSub ?_ rfl
    walk_at "go"
    refine BO.add ?_
    walk_at "go"
    refine SI.dS h1 (by omega) ?_
    have u1 := upd_self H dl (.dS (0, 13) (fun (y : Str) => if y = ("at" : Str) then some (V.int ((t : Int) + 1)) else f y) (n + 1))
    have c1 : upd H dl (.dS (0, 13) (fun (y : Str) => if y = ("at" : Str) then some (V.int ((t : Int) + 1)) else f y) (n + 1)) cl = _ := upd_old h6 h1 (by walk_at "tg")
    have k1 : KD H (upd H dl (.dS (0, 13) (fun (y : Str) => if y = ("at" : Str) then some (V.int ((t : Int) + 1)) else f y) (n + 1))) := fun a o ha hne => upd_old ha h1 hne
    generalize upd H dl (.dS (0, 13) (fun (y : Str) => if y = ("at" : Str) then some (V.int ((t : Int) + 1)) else f y) (n + 1)) = H1 at u1 c1 k1 ⊢
    have hcells : (fun (y : Str) => if y = ("at" : Str) then some (V.int ((t : Int) + 1)) else f y) ("cells" : Str) = some (.ref cl) := by
      show (if ("cells" : Str) = "at" then _ else f "cells") = _
      rw [if_neg (by decide)]; exact h3
    have R1 : RepD dl (b + 1) H1 := ⟨_, n + 1, cl, cs, t + 1, u1, by omega, hcells, by show (if ("at" : Str) = "at" then _ else _) = _; rw [if_pos rfl]; rfl, by omega, c1, h7⟩
    have hm0 : (m : Int) ≠ 0 := by omega
    refine EXS.cons ?_
    refine EX.ifs ?_
    refine TS.cmp ?_ rfl
    walk_at "ev"
    walk_at "ev"
    walk_at "bi"
    walk_at "go"
    refine SB.dS u1 hcells rfl ?_
    refine EVL.nil ?_
    refine CL.lenList c1 (by unfold zts; rw [List.length_map]; omega) ?_
    refine CO.ltInt (TR.bool ?_)
    have hz : (zts cs).length = cs.length := by unfold zts; rw [List.length_map]
    by_cases q : t < cs.length
    · rw [decide_eq_true (by rw [hz]; omega), if_pos rfl]
      refine EXS.cons ?_
      refine EX.ret ?_
      walk_at "go"
      refine SB.dS u1 hcells rfl ?_
      walk_at "go"
      refine SB.list c1 (by omega) (by omega) (zts_get (by omega)) rfl ?_
      walk_at "go"
      refine BO.mod hm0 ?_
      obtain ⟨z, hz1, hz2⟩ := fmod_lt (a := cs.getD ((t : Int).toNat) 0) hm
      rw [hz1]
      exact hP z H1 hz2 R1 k1
    · rw [decide_eq_false (by rw [hz]; omega), if_neg (by decide)]
      refine EXS.nil ?_
      refine EXS.cons ?_
      refine EX.ret ?_
      walk_at "go"
      refine BO.mul (.of_left (by decide)) ?_
      walk_at "go"
      refine BO.mul ?_ ?_
      · refine .of_left (intBits_le_iff.mpr ?_)
        have : (5 * (t : Int)).natAbs ≤ 4500 := by omega
        exact Nat.lt_of_le_of_lt this (by decide)
      walk_at "go"
      refine BO.mul (.of_left (by decide)) ?_
      refine BO.add ?_
      walk_at "go"
      walk_at "bi"
      walk_at "go"
      refine SB.dS u1 hcells rfl ?_
      refine EVL.nil ?_
      refine CL.lenList c1 (by unfold zts; rw [List.length_map]; omega) ?_
      refine BO.mul (.of_left (by decide)) ?_
      refine BO.add ?_
      walk_at "go"
      refine BO.add ?_
      walk_at "go"
      refine BO.mod (by decide) ?_
      walk_at "go"
      refine BO.mod hm0 ?_
      obtain ⟨z, hz1, hz2⟩ := fmod_lt (a := Int.fmod (5 * (t : Int) * (t : Int) + 6 * (t : Int) + 2 * ((zts cs).length : Int) + 3) 83) hm
      rw [hz1]
      exact hP z H1 hz2 R1 k1
theorem leaf_pick {t : Nat} (ht : t < 6) : ∃ y, ([V.str "?x", V.str "?y", V.str "a", V.str "?x", V.str "b", V.str "d"])[t]? = some (.str y) ∧ LeafOk y := by
  match t, ht with
  | 0, _ => exact ⟨_, rfl, .inl rfl⟩
  | 1, _ => exact ⟨_, rfl, .inr (.inl rfl)⟩
  | 2, _ => exact ⟨_, rfl, .inr (.inr (.inl rfl))⟩
  | 3, _ => exact ⟨_, rfl, .inl rfl⟩
  | 4, _ => exact ⟨_, rfl, .inr (.inr (.inr (.inl rfl)))⟩
  | 5, _ => exact ⟨_, rfl, .inr (.inr (.inr (.inr rfl)))⟩
theorem t_pattern {dl : Addr} : ∀ (n : Nat) (dd : Nat), n + 2 ≤ dd → ∀ (H : MH) (b : Nat) (P : V → MH → Prop), RepD dl b H → b + (2 ^ (n + 1) - 1) ≤ 900 →
    (∀ p a H', p.ok → p.depth ≤ n → PatAt H' p a → RepD dl (b + (2 ^ (n + 1) - 1)) H' → KD H H' → P (.ref a) H') → CL (DW w mean mg mb bl) dd H (.ref 456) [.ref dl, .int (n : Nat)] P := by
  intro n
  induction n with
  | zero =>
    intro dd hdd H b P R hb hP
    obtain ⟨d, rfl⟩ : ∃ k, dd = k + 2 := ⟨dd - 2, by omega⟩
    refine' CL.defB (D := DW w mean mg mb bl) ?ho ?hcd ["dial", "deep"] rfl ?hbind ?hb ?h
    walk_at "w_enter"
    case hbind => exact all2 fun _ _ => rfl
    case h =>
      intro L
      refine EXS.cons ?_
      refine EX.assignN ?_ rfl (.inl rfl) (by kernel_rfl)
      refine EV.ifx ?_
      refine TS.cmp ?_ rfl
      walk_at "go"
      refine CO.gtInt (TR.bool ?_)
      rw [show decide ((0 : Int) < ((0 : Nat) : Int)) = false from rfl, if_neg (by decide)]
      walk_at "go"
      refine EXS.cons ?_
      refine EX.ifs ?_
      refine TS.cmp ?_ rfl
      walk_at "go"
      refine CO.ltInt (TR.bool ?_)
      rw [show decide ((0 : Int) < 2) = true from rfl, if_pos rfl]
      refine EXS.cons ?_
      refine EX.ret ?_
      walk_at "go"
      intro tt htt
      walk_at "ev"
      refine EV.global gl_law_turn ?_ rfl rfl rfl (by decide)
      refine ⟨ok_444, ?_⟩
      walk_at "go"
      refine t_turn (m := 6) (R.le (le_upd htt)) (by omega) (by decide) fun t H1 ht R1 k1 => ?_
      obtain ⟨y, hy, hok⟩ := leaf_pick ht
      refine SB.tup (k := t) (k1 _ _ (upd_self ..) (by walk_at "tg")) (by omega) hy rfl ?_
      walk_at "go"
      intro a ha
      exact hP (.leaf y) a _ hok (Nat.le_refl _) (upd_self ..) ((R1.le (le_upd ha)).more (by omega)) (((KD.of (le_upd htt)).trans k1).trans (KD.of (le_upd ha)))
  | succ n ih =>
    intro dd hdd H b P R hb hP
    have hpow : 2 ^ (n + 1 + 1) = 2 ^ (n + 1) + 2 ^ (n + 1) := by rw [Nat.pow_succ]; omega
    have hpos : 2 ≤ 2 ^ (n + 1) := by rw [Nat.pow_succ]; have := Nat.one_le_two_pow (n := n); omega
    obtain ⟨d, rfl⟩ : ∃ k, dd = k + 3 := ⟨dd - 3, by omega⟩
    refine' CL.defB (D := DW w mean mg mb bl) ?ho ?hcd ["dial", "deep"] rfl ?hbind ?hb ?h
    walk_at "w_enter"
    case hbind => exact all2 fun _ _ => rfl
    case h =>
      intro L
      refine EXS.cons ?_
      refine EX.assignN ?_ rfl (.inl rfl) (by kernel_rfl)
      refine EV.ifx ?_
      refine TS.cmp ?_ rfl
      walk_at "go"
      refine CO.gtInt (TR.bool ?_)
      rw [decide_eq_true (by omega), if_pos rfl]
      walk_at "ev"
      refine EV.global gl_law_turn ?_ rfl rfl rfl (by decide)
      refine ⟨ok_444, ?_⟩
      walk_at "go"
      refine t_turn (m := 6) R (by omega) (by decide) fun t0 H0 ht0 R0 k0 => ?_
      refine EXS.cons ?_
      refine EX.ifs ?_
      refine TS.cmp ?_ rfl
      walk_at "go"
      refine CO.ltInt (TR.bool ?_)
      by_cases q1 : t0 < 2
      · rw [decide_eq_true (by omega), if_pos rfl]
        refine EXS.cons ?_
        refine EX.ret ?_
        walk_at "go"
        intro tt htt
        walk_at "ev"
        refine EV.global gl_law_turn ?_ rfl rfl rfl (by decide)
        refine ⟨ok_444, ?_⟩
        walk_at "go"
        refine t_turn (m := 6) (R0.le (le_upd htt)) (by omega) (by decide) fun t H1 ht R1 k1 => ?_
        obtain ⟨y, hy, hok⟩ := leaf_pick ht
        refine SB.tup (k := t) (k1 _ _ (upd_self ..) (by walk_at "tg")) (by omega) hy rfl ?_
        walk_at "go"
        intro a ha
        exact hP (.leaf y) a _ hok (Nat.zero_le _) (upd_self ..) ((R1.le (le_upd ha)).more (by omega)) (((k0.trans (KD.of (le_upd htt))).trans k1).trans (KD.of (le_upd ha)))
      rw [decide_eq_false (by omega), if_neg (by decide)]
      refine EXS.nil ?_
      refine EXS.cons ?_
      refine EX.ifs ?_
      refine TS.cmp ?_ rfl
      walk_at "go"
      refine CO.ltInt (TR.bool ?_)
      have en : (((n + 1 : Nat) : Int)) - 1 = (n : Nat) := by omega
      by_cases q2 : t0 < 4
      · rw [decide_eq_true (by omega), if_pos rfl]
        refine EXS.cons ?_
        refine EX.ret ?_
        walk_at "go"
        refine EV.global gl_law_pattern ?_ rfl rfl rfl (by decide)
        refine ⟨ok_456, ?_⟩
        walk_at "go"
        refine BO.sub ?_
        rw [en]
        refine EVL.nil ?_
        refine ih (d + 2) (by omega) H0 (b + 1) _ R0 (by omega) fun p a1 H1 pok pd pa R1 k1 => ?_
        walk_at "go"
        intro a ha
        exact hP (.un p) a _ pok (Nat.succ_le_succ pd) ⟨a1, upd_self .., pa.le (le_upd ha)⟩ ((R1.le (le_upd ha)).more (by omega)) ((k0.trans k1).trans (KD.of (le_upd ha)))
      · rw [decide_eq_false (by omega), if_neg (by decide)]
        refine EXS.nil ?_
        refine EXS.cons ?_
        refine EX.ret ?_
        walk_at "go"
        refine EV.global gl_law_pattern ?_ rfl rfl rfl (by decide)
        refine ⟨ok_456, ?_⟩
        walk_at "go"
        refine BO.sub ?_
        rw [en]
        refine EVL.nil ?_
        refine ih (d + 2) (by omega) H0 (b + 1) _ R0 (by omega) fun p a1 H1 pok pd pa R1 k1 => ?_
        walk_at "go"
        refine EV.global gl_law_pattern ?_ rfl rfl rfl (by decide)
        refine ⟨ok_456, ?_⟩
        walk_at "go"
        refine BO.sub ?_
        rw [en]
        refine EVL.nil ?_
        refine ih (d + 2) (by omega) H1 (b + 1 + (2 ^ (n + 1) - 1)) _ R1 (by omega) fun r a2 H2 rok rd ra R2 k2 => ?_
        walk_at "go"
        intro a ha
        refine hP (.bin p r) a _ ⟨pok, rok⟩ (by simp only [Pat.depth]; omega) ⟨a1, a2, upd_self .., (pa.kd k2).le (le_upd ha), ra.le (le_upd ha)⟩ ((R2.le (le_upd ha)).more ?_) (((k0.trans k1).trans k2).trans (KD.of (le_upd ha)))
        omega
noncomputable def RowsAt (H : MH) (a : Addr) (rows : List Row) : Prop := ∃ refs : List Addr, H a = some (.lst (0, 20) (refs.map .ref)) ∧ Tups H refs (rows.map keyR)
noncomputable def PairL (H : MH) (refs : List Addr) (ps : List (Nat × Nat)) : Prop := refs.length = ps.length ∧ ∀ (i : Nat) a p, refs[i]? = some a → ps[i]? = some p → H a = some (.tup [.int (p.1 : Nat), .int (p.2 : Nat)])
noncomputable def PairsAt (H : MH) (g : Nat × Nat) (a : Addr) (ps : List (Nat × Nat)) : Prop := ∃ refs : List Addr, H a = some (.lst g (refs.map .ref)) ∧ PairL H refs ps
theorem PairL.keep {H H' : MH} {refs : List Addr} {ps : List (Nat × Nat)} (x : PairL H refs ps) (hk : ∀ a o, H a = some o → tg o = (0, 1) → H' a = some o) : PairL H' refs ps := ⟨x.1, fun i a p h1 h2 => hk _ _ (x.2 i a p h1 h2) rfl⟩
theorem RowsAt.k0 {H H' : MH} {a : Addr} {rows : List Row} (x : RowsAt H a rows) (hk : K0 H H') : RowsAt H' a rows := let ⟨refs, h1, h2, h3⟩ := x; ⟨refs, hk _ _ h1 rfl, h2, fun i a r p q => hk _ _ (h3 i a r p q) rfl⟩
theorem PairsAt.k0 {H H' : MH} {g : Nat × Nat} {a : Addr} {ps : List (Nat × Nat)} (x : PairsAt H g a ps) (hg : g.1 = 0) (hk : K0 H H') : PairsAt H' g a ps := let ⟨refs, h1, h2⟩ := x; ⟨refs, hk _ _ h1 hg, h2.keep fun a o h w => hk a o h (by rw [w])⟩
theorem le_updn {H H' : MH} {a : Addr} {o : MO} (h : Le H H') (ha : H a = none) : Le H (upd H' a o) := fun b o' hb => by
  rw [upd_ne fun q => by subst q; rw [ha] at hb; cases hb]
  exact h b o' hb
theorem none_of {H H' : MH} {a : Addr} (h : Le H H') (ha : H' a = none) : H a = none := by
  cases q : H a with
  | none => rfl
  | some o => rw [h a o q] at ha; cases ha
noncomputable def mgV (lo hi : Nat) : V → V | .int h => .int (if h = (hi : Int) then (lo : Int) else h) | v => v
theorem mgV_map (lo hi : Nat) (hs : List Nat) : (nts hs).map (mgV lo hi) = nts (hmerge hs lo hi) := by
  unfold nts hmerge
  rw [List.map_map, List.map_map]
  refine List.map_congr_left fun x _ => ?_
  show V.int (if (x : Int) = (hi : Int) then (lo : Int) else (x : Int)) = V.int ((if x = hi then lo else x : Nat) : Int)
  by_cases q : x = hi
  · rw [if_pos q, if_pos (by omega)]
  · rw [if_neg q, if_neg (by omega)]
noncomputable def hmV (hs : List Nat) : V → V | .int i => .int (hm hs i.toNat : Nat) | v => v
theorem hmV_map (hs ks : List Nat) : (nts ks).map (hmV hs) = nts (ks.map (hm hs)) := by
  unfold nts; rw [List.map_map, List.map_map]; rfl
theorem rows_get {H : MH} {rows : List Row} {refs : List Addr} (h : Tups H refs (rows.map keyR)) {i : Nat} {v : V} (hv : (refs.map V.ref)[i]? = some v) : ∃ b r, v = .ref b ∧ rows[i]? = some r ∧ H b = some (.tup (.str r.1 :: nts r.2)) := by
  rw [List.getElem?_map] at hv
  cases q : refs[i]? with
  | none => rw [q] at hv; cases hv
  | some b =>
    rw [q] at hv; cases hv
    have hi := (List.getElem?_eq_some_iff.mp q).1
    have hl : refs.length = rows.length := by rw [h.1, List.length_map]
    have hr : rows[i]? = some rows[i] := List.getElem?_eq_getElem (by omega)
    generalize rows[i] = r at hr
    refine ⟨b, r, rfl, hr, ?_⟩
    rw [h.2 i b (keyR r) q (by rw [List.getElem?_map, hr]; rfl)]
    rw [keyV r.1 r.2]
theorem pairs_get {H : MH} {ps : List (Nat × Nat)} {refs : List Addr} (h : PairL H refs ps) {i : Nat} {v : V} (hv : (refs.map V.ref)[i]? = some v) : ∃ b p, v = .ref b ∧ ps[i]? = some p ∧ H b = some (.tup [.int (p.1 : Nat), .int (p.2 : Nat)]) := by
  rw [List.getElem?_map] at hv
  cases q : refs[i]? with
  | none => rw [q] at hv; cases hv
  | some b =>
    rw [q] at hv; cases hv
    have hi := (List.getElem?_eq_some_iff.mp q).1
    have hi2 : i < ps.length := by rw [← h.1]; exact hi
    have hr : ps[i]? = some ps[i] := List.getElem?_eq_getElem hi2
    generalize ps[i] = p at hr
    exact ⟨b, p, rfl, hr, h.2 i b p q hr⟩
theorem PairL.snoc {H : MH} {refs : List Addr} {ps : List (Nat × Nat)} (x : PairL H refs ps) {a : Addr} {p : Nat × Nat} (ha : H a = some (.tup [.int (p.1 : Nat), .int (p.2 : Nat)])) : PairL H (refs ++ [a]) (ps ++ [p]) := by
  refine ⟨by simp [x.1], fun i b q h1 h2 => ?_⟩
  rcases Nat.lt_or_ge i refs.length with w | w
  · rw [List.getElem?_append_left w] at h1
    rw [List.getElem?_append_left (by rw [← x.1]; exact w)] at h2
    exact x.2 i b q h1 h2
  · have hi' := (List.getElem?_eq_some_iff.mp h1).1
    have : i = refs.length := by rw [List.length_append] at hi'; simp at hi'; omega
    subst this
    rw [List.getElem?_append_right (Nat.le_refl _), Nat.sub_self] at h1
    rw [List.getElem?_append_right (by rw [x.1]; exact Nat.le_refl _), x.1, Nat.sub_self] at h2
    cases h1; cases h2; exact ha
theorem nts_at {l : List Nat} {i n : Nat} (h : l[i]? = some n) : (nts l)[i]? = some (.int (n : Int)) := by unfold nts; rw [List.getElem?_map, h]; rfl
theorem t_homes {rw pr : Addr} {rows : List Row} {pairs : List (Nat × Nat)} {P : V → MH → Prop} (hrw : RowsAt H rw rows) (hpr : PairsAt H (0, 21) pr pairs) (hz : rows.length ≤ 21) (hpz : pairs.length ≤ 10) (hpb : ∀ p ∈ pairs, p.1 < rows.length ∧ p.2 < rows.length) (hk : ∀ r ∈ rows, r.2.length ≤ 2 ∧ ∀ k ∈ r.2, k < rows.length)
    (hP : ∀ hs l H', Le H H' → H' l = some (.lst (0, 22) (nts hs)) → hs.length = rows.length → IsHome rows pairs (hm hs) → P (.ref l) H') : CL (DW w mean mg mb bl) (d + 1) H (.ref 449) [.ref rw, .ref pr] P := by
  refine' CL.defB (D := DW w mean mg mb bl) ?ho ?hcd ["rows", "pairs"] rfl ?hbind ?hb ?h
  walk_at "w_enter"
  case hbind => exact all2 fun _ _ => rfl
  case h =>
    intro L
    obtain ⟨refs, hrl, hrt⟩ := hrw
    obtain ⟨prefs, hpl, hpt⟩ := hpr
    have hrn : refs.length = rows.length := by rw [hrt.1, List.length_map]
    refine EXS.cons ?_
    refine EX.assignT ?_ rfl rfl
    walk_at "ev"
    refine EVL.one ?_
    walk_at "ev"
    walk_at "bi"
    refine EVL.one ?_
    walk_at "ev"
    walk_at "bi"
    refine EVL.one ?_
    walk_at "ev"
    walk_at "bi"
    walk_at "go"
    refine CL.lenList hrl (by rw [List.length_map]; omega) ?_
    refine EVL.nil ?_
    rw [List.length_map, hrn]
    refine CL.range fun c1 hc1 => ?_
    refine EVL.nil ?_
    refine CL.listRange (0, 22) (upd_self ..) (by omega) fun c2 hc2 => ?_
    walk_at "go"
    intro c3 hc3
    refine AT.tuple (vs := [.ref c2, .bool true]) ⟨c3, rfl, .inl (upd_self ..)⟩ rfl rfl ?_
    refine AT.name ?_ rfl (.inr ⟨rfl, rfl⟩)
    refine AT.name (ATS.fin ?_) rfl (.inl rfl)
    have l3 := ((le_upd (o := .rng 0 rows.length) hc1).trans (le_upd (o := .lst (0, 22) (nts (List.range rows.length))) hc2)).trans (le_upd (o := .tup [.ref c2, .bool true]) hc3)
    have u3 : upd (upd (upd H c1 (.rng 0 rows.length)) c2 (.lst (0, 22) (nts (List.range rows.length)))) c3 (.tup [.ref c2, .bool true]) c2 = some (.lst (0, 22) (nts (List.range rows.length))) := upd_fr hc3 (upd_self ..)
    generalize upd (upd (upd H c1 (.rng 0 rows.length)) c2 (.lst (0, 22) (nts (List.range rows.length)))) c3 (.tup [.ref c2, .bool true]) = H3 at l3 u3 ⊢
    refine EXS.cons ?_
    refine EX.while (fun n ρ' H' => E3 fun hs hl op => C9 (n = 2 * (fixes hs).length + (if op then 1 else 0)) (Le H H') (lk ρ' "homes" = some (.ref hl)) (H' hl = some (.lst (0, 22) (nts hs))) (HInv rows pairs hs) (lk ρ' "is_open" = some (.bool op)) (lk ρ' "rows" = some (.ref rw)) (lk ρ' "pairs" = some (.ref pr)) ((op = false → IsHome rows pairs (hm hs))))
      (2 * (fixes (List.range rows.length)).length + 1) ⟨List.range rows.length, c2, true, rfl, l3, by walk_at "lk", u3, hinv_start, by walk_at "lk", by walk_at "lk", by walk_at "lk", fun h => nomatch h⟩ ?_
    rintro n ρ' H' ⟨hs, hl, op, rfl, hle, g1, hhl, I, g2, g3, g4, hfin⟩ KQ hKQ
    refine TS.plain ?_ rfl
    walk_at "ev"
    refine TR.bool ?_
    cases op with
    | false =>
      rw [if_neg (by decide)]
      refine EXS.cons ?_
      refine EX.ret ?_
      walk_at "ev"
      exact hP hs hl H' hle hhl I.len (hfin rfl)
    | true =>
      rw [if_pos rfl]
      clear hfin
      refine EXS.cons ?_
      refine EX.assignSw (names := ["is_open", "firsts", "wish"]) ?_ rfl rfl rfl
      refine EV.tuple (EVL.one ?_) rfl (by decide)
      walk_at "ev"
      refine EVL.one ?_
      refine EV.dict0T (0, 24) fun fd hfd => ?_
      refine EVL.one ?_
      walk_at "ev"
      walk_at "bi"
      walk_at "go"
      refine CL.listOf (0, 25) (upd_fr hfd (hle _ _ hpl)) (by rw [List.length_map, hpt.1]; omega) fun wl hwl => ?_
      refine EVL.nil ?_
      intro c4 hc4
      refine ⟨[.bool false, .ref fd, .ref wl], ⟨c4, rfl, .inl (upd_self ..)⟩, rfl, (by intro x hx; rcases List.mem_cons.mp hx with rfl | hx; exact .inl rfl; rcases List.mem_cons.mp hx with rfl | hx; exact .inl rfl; rcases List.mem_cons.mp hx with rfl | hx; exact .inl rfl; cases hx), ?_⟩
      have fresh1 : H fd = none := none_of hle hfd
      have l4 := (le_upd (o := .dT (0, 24) (fun _ => none) 0) hfd).trans ((le_upd (o := .lst (0, 25) (prefs.map V.ref)) hwl).trans (le_upd (o := .tup [.bool false, .ref fd, .ref wl]) hc4))
      have fresh2 : H wl = none := none_of (hle.trans (le_upd (o := .dT (0, 24) (fun _ => none) 0) hfd)) hwl
      have ufd : upd (upd (upd H' fd (.dT (0, 24) (fun _ => none) 0)) wl (.lst (0, 25) (prefs.map V.ref))) c4 (.tup [.bool false, .ref fd, .ref wl]) fd = some (.dT (0, 24) (kn' fun _ => none) 0) := upd_fr hc4 (upd_fr hwl (upd_self ..))
      have uwl : upd (upd (upd H' fd (.dT (0, 24) (fun _ => none) 0)) wl (.lst (0, 25) (prefs.map V.ref))) c4 (.tup [.bool false, .ref fd, .ref wl]) wl = some (.lst (0, 25) (prefs.map V.ref)) := upd_fr hc4 (upd_self ..)
      generalize upd (upd (upd H' fd (.dT (0, 24) (fun _ => none) 0)) wl (.lst (0, 25) (prefs.map V.ref))) c4 (.tup [.bool false, .ref fd, .ref wl]) = H4 at l4 ufd uwl ⊢
      have le4 := hle.trans l4
      have hhl4 := l4 _ _ hhl
      clear hfd hwl hc4
      refine EXS.cons ?_
      refine EX.for ?_ (fun _ => rfl)
      refine IE.enum ?_ (EV.builtin bi_enumerate boot_enumerate ⟨rfl, rfl⟩ rfl rfl rfl rfl (by decide) (by decide)) rfl rfl
      walk_at "ev"
      refine ⟨_, _, _, rfl, le4 _ _ hrl, ?_⟩
      refine ForP.mk (fun i ρ' H' => E3 fun f m wish => C13 (H' fd = some (.dT (0, 24) (kn' f) m)) (m ≤ i) (PairsAt H' (0, 25) wl wish) (wish.length = pairs.length + i) (FInv rows pairs hs i f wish) (Le H H') (H' hl = some (.lst (0, 22) (nts hs))) (lk ρ' "homes" = some (.ref hl)) (lk ρ' "is_open" = some (.bool false)) (lk ρ' "rows" = some (.ref rw)) (lk ρ' "pairs" = some (.ref pr)) (lk ρ' "firsts" = some (.ref fd)) (lk ρ' "wish" = some (.ref wl))) (⟨fun _ => none, 0, pairs, ufd, Nat.le_refl _, ⟨prefs, uwl, hpt.keep fun a o h _ => le4 _ _ h⟩, rfl, FInv.start hpb, le4, hhl4, by walk_at "lk", by walk_at "lk", by walk_at "lk", by walk_at "lk", by walk_at "lk", by walk_at "lk"⟩) (by rintro i ρ' H' ⟨f, m, wish, _, _, _, _, _, q, _⟩; exact ⟨_, q _ _ hrl⟩) ?_ ?_
      · rintro i ρ₁ H₁ hi ⟨f, m, wish, z1, z2, ⟨wrefs, z3, z4⟩, z5, F, z6, z7, k1, k2, k3, k4, k5, k6⟩ v H₂ ⟨ta, x, rfl, ht1, ht2⟩ hl2 hsrc KQ hKQ
        obtain ⟨b, r, rfl, hr, hb⟩ := rows_get hrt ht2
        have hb2 := hl2 _ _ (z6 _ _ hb)
        have hrm : r ∈ rows := List.mem_of_getElem? hr
        obtain ⟨hr2, hrk⟩ := hk r hrm
        replace z1 := hl2 _ _ z1
        replace z3 := hl2 _ _ z3
        replace z4 := z4.keep fun a o h _ => hl2 a o h
        replace z6 := z6.trans hl2
        replace z7 := hl2 _ _ z7
        refine AT.tuple (vs := [.int (i : Int), .ref b]) ⟨ta, rfl, .inl ht1⟩ rfl rfl ?_
        refine AT.name ?_ rfl (.inl rfl)
        refine AT.name (ATS.fin ?_) rfl (.inl rfl)
        clear hl2 ht1 hsrc
        refine EXS.cons ?_
        refine EX.expr ?_ rfl rfl
        walk_at "go"
        refine GM.list z3 PySem.F.slot_list_append PySem.F.type_list_append ⟨trivial, EVL.one ?_⟩
        refine EV.tuple (EVL.one ?_) rfl (by decide)
        walk_at "go"
        refine GM.dict (.inr (.inr ⟨_, _, _, z1⟩)) PySem.F.slot_dict_setdefault PySem.F.type_dict_setdefault ⟨trivial, EVL.one ?_⟩
        walk_at "go"
        refine EP.none ?_
        refine EP.some ?_
        walk_at "go"
        have key : ∀ (P' : V → MH → Prop), (∀ t H', Le H₂ H' → H' t = some (.tup [.str r.1]) → P' (.ref t) H') → SL (DW w mean mg mb bl) d H₂ (.ref b) .none (.int 1) P' := fun P' hp' => SL.tupOne hb2 (fun e => hp' b H₂ (Le.refl _) (by rw [hb2, e])) fun t ht => hp' t _ (le_upd ht) (upd_self ..)
        refine key _ fun t5 H5 hl5 ht5 => ?_
        walk_at "ev"
        walk_at "bi"
        refine EVL.one ?_
        refine EV.comp (0, 10) [("homes", .ref hl)] ⟨fun _ => rfl, rfl, rfl, by decide, by decide, by decide⟩ ⟨by walk_at "lk", .inl rfl, .inl rfl, rfl, trivial⟩ ?_
        refine IE.tup ?_
        walk_at "go"
        refine EP.some ?_
        walk_at "go"
        refine EP.none ?_
        refine SL.tupFrom (n := 1) (hl5 _ _ hb2) (by decide) (by simp) (by simp [nts_len]; omega) fun t7 ht7 => ?_
        refine ⟨_, _, rfl, upd_self .., ?_⟩
        refine CompOk.pure (nts r.2) rfl (by rw [nts_len]; omega) (upd_self ..) rfl rfl (fun H' hl => hl _ _ (upd_self ..)) (hmV hs) (fun i v H₂ hv => hv) (fun v hv C H₃ hl3 => ?_) fun H7 hl7 a7 ha7 => ?_
        · obtain ⟨k, hk', rfl⟩ := nts_mem hv
          have hkl := hrk k hk'
          walk_at "go"
          exact SB.list (((hl5.trans (le_upd ht7)).trans hl3) _ _ z7) (by omega) (by omega) (nts_at (by rw [Int.toNat_natCast]; exact hm_get (by rw [I.len]; exact hkl))) rfl ⟨rfl, Le.refl _⟩
        rw [hmV_map]
        refine EVL.nil ?_
        refine CL.tupleOf (upd_self ..) (by rw [nts_len, List.length_map]; omega) fun c8 hc8 => ?_
        refine BO.addTup (upd_fr hc8 (upd_fr ha7 (hl7 _ _ (upd_fr ht7 ht5)))) (upd_self ..) (by simp [nts_len]; omega) fun t9 H9 hl9 h9 => ?_
        rw [show [V.str r.1] ++ nts (r.2.map (hm hs)) = (sig hs r).map Ky.v from (keyV r.1 (r.2.map (hm hs))).symm] at h9
        have l9 : Le H₂ H9 := (hl5.trans (le_upd ht7)).trans (hl7.trans ((le_upd ha7).trans ((le_upd hc8).trans hl9)))
        replace z1 := l9 _ _ z1
        replace z3 := l9 _ _ z3
        replace z4 := z4.keep fun a o h _ => l9 a o h
        replace z6 := z6.trans l9
        replace z7 := l9 _ _ z7
        clear l9 hl9 hc8 ha7 hl7 ht7 hl5 ht5 key
        walk_at "go"
        have hil : i < rows.length := (List.getElem?_eq_some_iff.mp hr).1
        refine CL.setdefaultT z1 h9 (by omega) (fun u hu' => ?_) fun hu' => ?_
        · obtain ⟨k, hk', rfl⟩ : ∃ k, f (sig hs r) = some k ∧ u = .int (k : Int) := by
            unfold kn' at hu'
            cases q : f (sig hs r) with
            | none => rw [q] at hu'; cases hu'
            | some k => rw [q] at hu'; cases hu'; exact ⟨k, rfl, rfl⟩
          walk_at "go"
          intro t10 ht10
          refine EVL.nil ?_
          refine CL.append (upd_fr ht10 z3) (by rw [List.length_map, z4.1]; omega) ?_
          refine ⟨(by intro a h; cases h), ?_⟩
          refine EXS.nil ?_
          refine hKQ _ _ _ ?_
          have F' := F.old I hr hk'
          refine ⟨f, m, wish ++ [(k, i)], upd_old (upd_fr ht10 z1) (upd_fr ht10 z3) (by walk_at "tg"), by omega, ⟨wrefs ++ [t10], by rw [List.map_append]; exact upd_self .., ?_⟩, by rw [List.length_append, z5]; rfl, F', le_updn (z6.trans (le_upd ht10)) fresh2, upd_old (upd_fr ht10 z7) (upd_fr ht10 z3) (by walk_at "tg"), by walk_at "lk", by walk_at "lk", by walk_at "lk", by walk_at "lk", by walk_at "lk", by walk_at "lk"⟩
          refine (z4.keep fun a o h q => upd_old (upd_fr ht10 h) (upd_fr ht10 z3) (by rw [q]; simp [tg])).snoc ?_
          exact upd_old (upd_self ..) (upd_fr ht10 z3) (by walk_at "tg")
        · have hk' : f (sig hs r) = none := by
            unfold kn' at hu'
            cases q : f (sig hs r) with
            | none => rfl
            | some k => rw [q] at hu'; cases hu'
          have e : (fun y => if y = sig hs r then some (V.int (i : Int)) else kn' f y) = kn' (fun key => if key = sig hs r then some i else f key) := by
            funext y
            unfold kn'
            by_cases q : y = sig hs r
            · simp [q]
            · simp [q]
          rw [e]
          have up : ∀ {a o}, H9 a = some o → tg o ≠ (0, 24) → upd H9 fd (.dT (0, 24) (kn' fun key => if key = sig hs r then some i else f key) (m + 1)) a = some o := fun ha hne => upd_old ha z1 hne
          have u1 := upd_self H9 fd (.dT (0, 24) (kn' fun key => if key = sig hs r then some i else f key) (m + 1))
          replace z3 := up z3 (by walk_at "tg")
          replace z4 := z4.keep fun a o h q => up h (by rw [q]; simp)
          replace z6 := le_updn (o := .dT (0, 24) (kn' fun key => if key = sig hs r then some i else f key) (m + 1)) z6 fresh1
          replace z7 := up z7 (by walk_at "tg")
          generalize upd H9 fd (.dT (0, 24) (kn' fun key => if key = sig hs r then some i else f key) (m + 1)) = H10 at u1 z3 z4 z6 z7 ⊢
          walk_at "go"
          intro t10 ht10
          refine EVL.nil ?_
          refine CL.append (upd_fr ht10 z3) (by rw [List.length_map, z4.1]; omega) ?_
          refine ⟨(by intro a h; cases h), ?_⟩
          refine EXS.nil ?_
          refine hKQ _ _ _ ?_
          have F' := F.new hr hk'
          refine ⟨_, m + 1, wish ++ [(i, i)], upd_old (upd_fr ht10 u1) (upd_fr ht10 z3) (by walk_at "tg"), by omega, ⟨wrefs ++ [t10], by rw [List.map_append]; exact upd_self .., ?_⟩, by rw [List.length_append, z5]; rfl, F', le_updn (z6.trans (le_upd ht10)) fresh2, upd_old (upd_fr ht10 z7) (upd_fr ht10 z3) (by walk_at "tg"), by walk_at "lk", by walk_at "lk", by walk_at "lk", by walk_at "lk", by walk_at "lk", by walk_at "lk"⟩
          refine (z4.keep fun a o h q => upd_old (upd_fr ht10 h) (upd_fr ht10 z3) (by rw [q]; simp [tg])).snoc ?_
          exact upd_old (upd_self ..) (upd_fr ht10 z3) (by walk_at "tg")
      · rintro ρ₁ H₁ ⟨f, m, wish, z1, z2, ⟨wrefs, z3, z4⟩, z5, F, z6, z7, k1, k2, k3, k4, k5, k6⟩
        have hen : (enmShp rw (refs.map V.ref)).n = rows.length := by show (refs.map V.ref).length = _; rw [List.length_map, hrn]
        rw [hen] at F
        refine EXS.cons ?_
        refine EX.for ?_ (fun _ => rfl)
        refine IE.list ?_
        walk_at "ev"
        refine ⟨_, _, _, rfl, z3, ?_⟩
        refine ForP.mk (fun i ρ' H' => E3 fun hs' hl' op => C9 (Le H₁ H') (lk ρ' "homes" = some (.ref hl')) (H' hl' = some (.lst (0, 22) (nts hs'))) (HInv rows pairs hs') (lk ρ' "is_open" = some (.bool op)) (lk ρ' "rows" = some (.ref rw)) (lk ρ' "pairs" = some (.ref pr)) ((op = false → hs' = hs ∧ ∀ (j : Nat) p, j < i → wish[j]? = some p → hm hs p.1 = hm hs p.2)) ((op = true → (fixes hs').length < (fixes hs).length))) (⟨hs, hl, false, Le.refl _, k1, z7, I, k2, k3, k4, fun _ => ⟨rfl, fun j p h => absurd h (Nat.not_lt_zero j)⟩, fun h => nomatch h⟩) (by rintro i ρ' H' ⟨_, _, _, q, _⟩; exact ⟨_, q _ _ z3⟩) ?_ ?_
        · rintro i ρ₂ H₂ hi ⟨hs', hl', op, y1, y2, y3, I', y4, y5, y6, y7, y8⟩ v H₃ hv hl3 hsrc KQ hKQ
          obtain ⟨b, p, rfl, hp, hb⟩ := pairs_get z4 hv
          obtain ⟨j1, j2, j3⟩ := F.just p (List.mem_of_getElem? hp)
          have hb3 := hl3 _ _ (y1 _ _ hb)
          replace y3 := hl3 _ _ y3
          replace y1 := y1.trans hl3
          clear hl3 hsrc
          refine AT.tuple (vs := [.int (p.1 : Nat), .int (p.2 : Nat)]) ⟨b, rfl, .inl hb3⟩ rfl rfl ?_
          refine AT.name ?_ rfl (.inl rfl)
          refine AT.name (ATS.fin ?_) rfl (.inl rfl)
          have e1 : (nts hs')[((p.1 : Nat) : Int).toNat]? = some (.int (hm hs' p.1 : Nat)) := nts_at (by rw [Int.toNat_natCast]; exact hm_get (by rw [I'.len]; exact j1))
          have e2 : (nts hs')[((p.2 : Nat) : Int).toNat]? = some (.int (hm hs' p.2 : Nat)) := nts_at (by rw [Int.toNat_natCast]; exact hm_get (by rw [I'.len]; exact j2))
          refine EXS.cons ?_
          refine EX.assignT ?_ rfl rfl
          refine EV.tuple (EVL.one ?_) rfl (by decide)
          walk_at "ev"
          walk_at "bi"
          walk_at "go"
          refine SB.list y3 (by omega) (by omega) e1 rfl ?_
          walk_at "go"
          refine SB.list y3 (by omega) (by omega) e2 rfl ?_
          walk_at "go"
          refine CL.min2 ?_
          refine EVL.one ?_
          walk_at "ev"
          walk_at "bi"
          walk_at "go"
          refine SB.list y3 (by omega) (by omega) e1 rfl ?_
          walk_at "go"
          refine SB.list y3 (by omega) (by omega) e2 rfl ?_
          walk_at "go"
          refine CL.max2 ?_
          refine EVL.nil ?_
          intro t hht
          rw [show min ((hm hs' p.1 : Nat) : Int) ((hm hs' p.2 : Nat) : Int) = ((min (hm hs' p.1) (hm hs' p.2) : Nat) : Int) by omega, show max ((hm hs' p.1 : Nat) : Int) ((hm hs' p.2 : Nat) : Int) = ((max (hm hs' p.1) (hm hs' p.2) : Nat) : Int) by omega]
          refine AT.tuple (vs := [.int (min (hm hs' p.1) (hm hs' p.2) : Nat), .int (max (hm hs' p.1) (hm hs' p.2) : Nat)]) ⟨t, rfl, .inl (upd_self ..)⟩ rfl rfl ?_
          refine AT.name ?_ rfl (.inr ⟨rfl, rfl⟩)
          refine AT.name (ATS.fin ?_) rfl (.inr ⟨rfl, rfl⟩)
          have lt := le_upd (o := .tup [.int (min (hm hs' p.1) (hm hs' p.2) : Nat), .int (max (hm hs' p.1) (hm hs' p.2) : Nat)]) hht
          generalize upd H₃ t (.tup [.int (min (hm hs' p.1) (hm hs' p.2) : Nat), .int (max (hm hs' p.1) (hm hs' p.2) : Nat)]) = H5 at lt ⊢
          replace y3 := lt _ _ y3
          replace y1 := y1.trans lt
          clear lt hht
          refine EXS.cons ?_
          refine EX.ifs ?_
          refine TS.cmp ?_ rfl
          walk_at "go"
          refine CO.neInt (TR.bool ?_)
          by_cases q : hm hs' p.1 = hm hs' p.2
          · rw [show (((min (hm hs' p.1) (hm hs' p.2) : Nat) : Int) != ((max (hm hs' p.1) (hm hs' p.2) : Nat) : Int)) = false by rw [q]; simp, if_neg (by decide)]
            refine EXS.nil ?_
            refine EXS.nil ?_
            refine hKQ _ _ _ ?_
            refine ⟨hs', hl', op, y1, by walk_at "lk", y3, I', by walk_at "lk", by walk_at "lk", by walk_at "lk", fun h => ?_, y8⟩
            obtain ⟨w1, w2⟩ := y7 h
            refine ⟨w1, fun j p' hj hp' => ?_⟩
            rcases Nat.lt_succ_iff_lt_or_eq.mp hj with w | w
            · exact w2 j p' w hp'
            · subst w
              rw [hp] at hp'; cases hp'
              rw [← w1]; exact q
          · rw [show (((min (hm hs' p.1) (hm hs' p.2) : Nat) : Int) != ((max (hm hs' p.1) (hm hs' p.2) : Nat) : Int)) = true by rw [bne_iff_ne]; omega, if_pos rfl]
            obtain ⟨I2, hfix⟩ := I'.merge j1 j2 q j3
            refine EXS.cons ?_
            refine EX.assignT ?_ rfl rfl
            refine EV.tuple (EVL.one ?_) rfl (by decide)
            refine EV.comp (0, 22) [("low", .int (min (hm hs' p.1) (hm hs' p.2) : Nat)), ("high", .int (max (hm hs' p.1) (hm hs' p.2) : Nat))] ⟨fun _ => rfl, rfl, rfl, by decide, by decide, by decide⟩ ⟨by walk_at "lk", .inl rfl, .inl rfl, rfl, by walk_at "lk", .inl rfl, .inl rfl, rfl, trivial⟩ ?_
            refine IE.list ?_
            walk_at "ev"
            refine ⟨_, _, _, rfl, y3, ?_⟩
            refine CompOk.pure (nts hs') rfl (by rw [nts_len, I'.len]; omega) ⟨_, y3⟩ rfl rfl (fun H' hl => ⟨_, hl _ _ y3⟩) (mgV (min (hm hs' p.1) (hm hs' p.2)) (max (hm hs' p.1) (hm hs' p.2))) (fun i v H₂ hv => hv) (fun v hv C H₃ hl3 => ?_) fun H7 hl7 a7 ha7 => ?_
            · obtain ⟨k, hk', rfl⟩ := nts_mem hv
              refine EV.ifx ?_
              refine TS.cmp ?_ rfl
              walk_at "go"
              refine CO.eqInt (TR.bool ?_)
              by_cases z : k = max (hm hs' p.1) (hm hs' p.2)
              · rw [show (((k : Nat) : Int) == ((max (hm hs' p.1) (hm hs' p.2) : Nat) : Int)) = true by rw [beq_iff_eq]; omega, if_pos rfl]
                walk_at "ev"
                refine ⟨?_, Le.refl _⟩
                show _ = V.int (if ((k : Nat) : Int) = _ then _ else _)
                rw [if_pos (by omega)]
              · rw [show (((k : Nat) : Int) == ((max (hm hs' p.1) (hm hs' p.2) : Nat) : Int)) = false by rw [beq_eq_false_iff_ne]; omega, if_neg (by decide)]
                walk_at "ev"
                refine ⟨?_, Le.refl _⟩
                show _ = V.int (if ((k : Nat) : Int) = _ then _ else _)
                rw [if_neg (by omega)]
            rw [mgV_map]
            walk_at "go"
            intro t2 ht2
            refine AT.tuple (vs := [.ref a7, .bool true]) ⟨t2, rfl, .inl (upd_self ..)⟩ rfl rfl ?_
            refine AT.name ?_ rfl (.inr ⟨rfl, rfl⟩)
            refine AT.name (ATS.fin ?_) rfl (.inl rfl)
            refine EXS.nil ?_
            refine EXS.nil ?_
            refine hKQ _ _ _ ?_
            refine ⟨_, a7, true, y1.trans ((hl7.trans (le_upd ha7)).trans (le_upd ht2)), by walk_at "lk", upd_fr ht2 (upd_self ..), I2, by walk_at "lk", by walk_at "lk", by walk_at "lk", (fun h => nomatch h), fun _ => ?_⟩
            cases op with
            | false => rw [← (y7 rfl).1]; exact hfix
            | true => exact Nat.lt_trans hfix (y8 rfl)
        · rintro ρ₂ H₂ ⟨hs', hl', op, y1, y2, y3, I', y4, y5, y6, y7, y8⟩
          have hwn : (listShp wl (wrefs.map V.ref)).n = wish.length := by show (wrefs.map V.ref).length = _; rw [List.length_map, z4.1]
          refine EXS.nil ?_
          refine hKQ _ _ _ ?_
          refine ⟨2 * (fixes hs').length + (if op then 1 else 0), ?_, hs', hl', op, rfl, z6.trans y1, y2, y3, I', y4, y5, y6, fun h => ?_⟩
          · cases op with
            | false => rw [(y7 rfl).1]; simp
            | true => have := y8 rfl; simp; omega
          · obtain ⟨w1, w2⟩ := y7 h
            rw [w1]
            refine I.home F fun p hp => ?_
            obtain ⟨j, hj⟩ := List.mem_iff_getElem?.mp hp
            exact w2 j p (by rw [hwn]; exact (List.getElem?_eq_some_iff.mp hj).1) hj
theorem sought_kids {rows : List Row} {h : Nat → Nat} {i j : Nat} {p : Pat} (hv : p.isVar = false) : sought rows h (tabO i j) p = findR rows h p.op (p.kids.map fun q => oV (sought rows h (tabO i j) q)) := by
  cases p with
  | leaf x => unfold sought; rw [notVar_tab hv]; rfl
  | un p => rfl
  | bin p q => rfl
theorem nts_ints (l : List Nat) : nts l = (l.map fun (k : Nat) => (k : Int)).map V.int := by unfold nts; rw [List.map_map]; rfl
theorem t_sought {rw hl t : Addr} {rows : List Row} {hs : List Nat} {i j : Nat} (hz : rows.length ≤ 21) (hlen : hs.length = rows.length) (hk : ∀ r ∈ rows, r.2.length ≤ 2 ∧ ∀ k ∈ r.2, k < rows.length) (hi : i < rows.length) (hj : j < rows.length) : ∀ (n : Nat) (p : Pat), p.depth ≤ n → p.ok → ∀ (dd : Nat), n + 2 ≤ dd → ∀ (H : MH) (a : Addr) (P : V → MH → Prop), RowsAt H rw rows → H hl = some (.lst (0, 22) (nts hs)) → PatAt H p a → TabAt H t i j →
    (∀ H', Le H H' → P (.int (oV (sought rows (hm hs) (tabO i j) p))) H') → CL (DW w mean mg mb bl) dd H (.ref 461) [.ref rw, .ref hl, .ref a, .ref t] P := by
  intro n
  induction n using Nat.strongRecOn with
  | _ n ih =>
  intro p hpd hok dd hdd H a P hrw hhl hpa ht hP
  obtain ⟨d, rfl⟩ : ∃ k, dd = k + 2 := ⟨dd - 2, by omega⟩
  refine' CL.defB (D := DW w mean mg mb bl) ?ho ?hcd ["rows", "homes", "pattern", "table"] rfl ?hbind ?hb ?h
  walk_at "w_enter"
  case hbind => exact all4 fun _ _ _ _ => rfl
  case h =>
    intro L
    obtain ⟨as, h1, h2, h3⟩ := hpa.kids
    have hkl := p.kids_len
    obtain ⟨f, m, ht1, ht2⟩ := ht
    have hget : ∀ k, k < rows.length → (nts hs)[((k : Nat) : Int).toNat]? = some (.int (hm hs k : Nat)) := fun k hk => nts_at (by rw [Int.toNat_natCast]; exact hm_get (by rw [hlen]; exact hk))
    refine EXS.cons ?_
    refine EX.ifs ?_
    refine TS.cmp ?_ rfl
    walk_at "go"
    refine SB.tup (k := 0) h1 (by decide) rfl rfl ?_
    walk_at "go"
    refine CO.inS ht1 (TR.bool ?_)
    rw [ht2]
    by_cases hv : p.isVar = true
    · obtain ⟨y, k, rfl, hk', hk2⟩ := isVar_tab (i := i) (j := j) hv
      have hkl : k < rows.length := by rcases hk2 with rfl | rfl <;> assumption
      rw [show tabO i j (Pat.leaf y).op = some k from hk']
      rw [Option.map_some, Option.isSome_some, if_pos rfl]
      refine EXS.cons ?_
      refine EX.ret ?_
      walk_at "go"
      refine SB.tup (k := 0) h1 (by decide) rfl rfl ?_
      refine SB.dS (v := .int (k : Int)) ht1 (by rw [ht2]; show Option.map _ (tabO i j y) = _; rw [hk']; rfl) rfl ?_
      refine SB.list hhl (by omega) (by omega) (hget k hkl) rfl ?_
      have := hP H (Le.refl _)
      unfold sought at this
      rw [hk'] at this
      exact this
    · have hv' : p.isVar = false := by simpa using hv
      have hno : tabO i j p.op = none := by
        cases p with
        | leaf y => exact notVar_tab hv'
        | un p => rfl
        | bin p q => rfl
      rw [hno, Option.map_none, Option.isSome_none, if_neg (by decide)]
      refine EXS.nil ?_
      refine EXS.cons ?_
      refine EX.assignN ?_ rfl (.inr ⟨rfl, rfl⟩) rfl
      refine EV.comp (0, 10) [("rows", .ref rw), ("homes", .ref hl), ("table", .ref t)] ⟨fun _ => rfl, rfl, rfl, by decide, by decide, by decide⟩ ⟨by walk_at "lk", .inl rfl, .inl rfl, rfl, by walk_at "lk", .inl rfl, .inl rfl, rfl, by walk_at "lk", .inl rfl, .inl rfl, rfl, trivial⟩ ?_
      refine IE.tup ?_
      walk_at "go"
      refine EP.some ?_
      walk_at "go"
      refine EP.none ?_
      refine SL.tupFrom (n := 1) h1 (by decide) (by simp) (by simp; omega) fun t7 ht7 => ?_
      refine ⟨_, _, rfl, upd_self .., ?_⟩
      have l7 := le_upd (o := .tup (as.map V.ref)) ht7
      change CompOk _ _ _ _ _ _ _ _ _ (tupShp t7 (as.map V.ref)) (upd H t7 (.tup (as.map V.ref))) _
      have u7 := upd_self H t7 (.tup (as.map V.ref))
      generalize upd H t7 (.tup (as.map V.ref)) = H7 at l7 u7 ⊢
      refine CompOk.inv (fun m ys H' => Le H7 H' ∧ ys = (p.kids.take m).map fun q => V.int (oV (sought rows (hm hs) (tabO i j) q))) ⟨Le.refl _, by simp⟩ (by show (as.map V.ref).length ≤ _; rw [List.length_map]; omega) (fun m ys H' q => q.1 _ _ u7) rfl rfl ?_ ?_
      · rintro m ys H' v H₂ hm' ⟨hl', rfl⟩ hv2 hle C
        have hv3 : (as.map V.ref)[m]? = some v := hv2
        rw [List.getElem?_map] at hv3
        cases q1 : as[m]? with
        | none => rw [q1] at hv3; cases hv3
        | some b =>
          rw [q1] at hv3; cases hv3
          have hmk : m < p.kids.length := by rw [← h2]; exact (List.getElem?_eq_some_iff.mp q1).1
          have hq : p.kids[m]? = some p.kids[m] := List.getElem?_eq_getElem hmk
          have hmem : p.kids[m] ∈ p.kids := List.getElem_mem hmk
          generalize p.kids[m] = q at hq hmem
          have hd := Pat.kids_depth hmem
          have ll := (l7.trans hl').trans hle
          walk_at "ev"
          refine EV.global gl_law_sought ?_ rfl rfl rfl (by decide)
          refine ⟨ok_461, ?_⟩
          walk_at "go"
          refine ih (n - 1) (by omega) q (by omega) (Pat.kids_ok hok hmem) (d + 1) (by omega) H₂ b _ (hrw.k0 (K0.of ll)) (ll _ _ hhl) (PatAt.le ll (h3 m b q q1 hq)) ⟨f, _, ll _ _ ht1, ht2⟩ fun H' hl2 => ?_
          refine ⟨(hl'.trans hle).trans hl2, ?_⟩
          rw [List.take_add_one, hq]
          simp
      · rintro ys H' ⟨hl', rfl⟩ a8 ha8
        have e8 : (p.kids.take (as.map V.ref).length).map (fun q => V.int (oV (sought rows (hm hs) (tabO i j) q))) = (p.kids.map fun q => oV (sought rows (hm hs) (tabO i j) q)).map V.int := by
          rw [List.length_map, h2, List.take_length, List.map_map]; rfl
        show EXS _ _ _ _ (upd H' a8 (.lst (0, 10) ((p.kids.take (as.map V.ref).length).map fun q => V.int (oV (sought rows (hm hs) (tabO i j) q))))) _ _
        rw [e8]
        have l9 := (l7.trans hl').trans (le_upd (o := .lst (0, 10) ((p.kids.map fun q => oV (sought rows (hm hs) (tabO i j) q)).map V.int)) ha8)
        have u9 := upd_self H' a8 (.lst (0, 10) ((p.kids.map fun q => oV (sought rows (hm hs) (tabO i j) q)).map V.int))
        generalize upd H' a8 (.lst (0, 10) ((p.kids.map fun q => oV (sought rows (hm hs) (tabO i j) q)).map V.int)) = H9 at l9 u9 ⊢
        generalize hks : (p.kids.map fun q => oV (sought rows (hm hs) (tabO i j) q)) = ks at u9 ⊢
        obtain ⟨refs, hrl, hrt⟩ := hrw
        have hrn : refs.length = rows.length := by rw [hrt.1, List.length_map]
        have h1' := h1
        refine EXS.cons ?_
        refine EX.assignComp (0, 10) [("homes", .ref hl), ("kids", .ref a8), ("pattern", .ref a)] ⟨fun _ => rfl, rfl, rfl, by decide, by decide, by decide⟩ ⟨by walk_at "lk", .inl rfl, .inl rfl, rfl, by walk_at "lk", .inl rfl, .inl rfl, rfl, by walk_at "lk", .inl rfl, .inl rfl, rfl, trivial⟩ rfl (.inl rfl) rfl ?_
        refine IE.enum ?_ (EV.builtin bi_enumerate boot_enumerate ⟨rfl, rfl⟩ rfl rfl rfl rfl (by decide) (by decide)) rfl rfl
        walk_at "ev"
        refine ⟨_, _, _, rfl, l9 _ _ hrl, ?_⟩
        refine ⟨fun m ys H' => Le H9 H' ∧ ys = nts (((List.range m).filter (hit rows (hm hs) p.op ks)).map (hm hs)), ⟨Le.refl _, rfl⟩, (by show (refs.map V.ref).length ≤ _; rw [List.length_map]; omega), fun m ys H' q => ⟨_, q.1 _ _ (l9 _ _ hrl)⟩, ?_, ?_⟩
        · rintro m ys H' hm2 ⟨hle, rfl⟩ v H₂ ⟨ta, x, rfl, hta, htx⟩ hl2 _ C
          obtain ⟨b, r, rfl, hr, hb⟩ := rows_get hrt htx
          have ll := (l9.trans hle).trans hl2
          have hb2 := ll _ _ hb
          have hrm : r ∈ rows := List.mem_of_getElem? hr
          obtain ⟨hr2, hrk⟩ := hk r hrm
          have hml : m < rows.length := (List.getElem?_eq_some_iff.mp hr).1
          have hstep : ∀ (ok : Bool), hit rows (hm hs) p.op ks m = ok → (List.range (m + 1)).filter (hit rows (hm hs) p.op ks) = (List.range m).filter (hit rows (hm hs) p.op ks) ++ if ok then [m] else [] := fun ok hok => by
            rw [List.range_succ, List.filter_append]
            cases ok <;> simp [hok]
          refine ⟨_, AC.pair (v₁ := .int (m : Int)) (v₂ := .ref b) ⟨ta, rfl, .inl hta⟩ rfl rfl rfl, ?_, ?_⟩
          · intro y v hy
            unfold lk at hy
            by_cases q : y = "row"
            · subst q; rfl
            · rw [if_neg q] at hy
              unfold lk at hy
              by_cases q' : y = "n"
              · subst q'; rfl
              · rw [if_neg q'] at hy; cases hy
          · show TS _ _ _ _ _ _ _
            have hhit : hit rows (hm hs) p.op ks m = (decide (r.1 = p.op) && decide ((r.2.map fun k => ((hm hs k : Nat) : Int)) = ks)) := by unfold hit; rw [hr]
            refine TS.andCons ?_
            refine TS.cmp ?_ rfl
            walk_at "go"
            refine SB.tup (k := 0) hb2 (by decide) rfl rfl ?_
            walk_at "go"
            refine SB.tup (k := 0) (ll _ _ h1') (by decide) rfl rfl ?_
            refine CO.eqStr (TR.bool ?_)
            by_cases q : r.1 = p.op
            · rw [beq_iff_eq.mpr q, if_pos rfl]
              refine TS.andCons ?_
              refine TS.cmp ?_ rfl
              refine EV.comp (0, 10) [("homes", .ref hl)] ⟨fun _ => rfl, rfl, rfl, by decide, by decide, by decide⟩ ⟨by walk_at "lk", by first | exact .inl rfl | exact .inr ⟨rfl, rfl⟩, by first | exact .inl rfl | exact .inr ⟨rfl, rfl⟩, rfl, trivial⟩ ?_
              refine IE.tup ?_
              walk_at "go"
              refine EP.some ?_
              walk_at "go"
              refine EP.none ?_
              refine SL.tupFrom (n := 1) hb2 (by decide) (by simp) (by simp [nts_len]; omega) fun t7 ht7 => ?_
              refine ⟨_, _, rfl, upd_self .., ?_⟩
              refine CompOk.pure (nts r.2) rfl (by rw [nts_len]; omega) (upd_self ..) rfl rfl (fun H' hl => hl _ _ (upd_self ..)) (hmV hs) (fun i v H₂ hv => hv) (fun v hv C H₃ hl3 => ?_) fun H7' hl7 a7 ha7 => ?_
              · obtain ⟨k, hk', rfl⟩ := nts_mem hv
                have hkl2 := hrk k hk'
                walk_at "go"
                exact SB.list ((((ll.trans (le_upd ht7)).trans hl3)) _ _ hhl) (by omega) (by omega) (hget k (hrk k hk')) rfl ⟨rfl, Le.refl _⟩
              rw [hmV_map]
              have l11 := ((le_upd (o := .tup ((V.str r.1 :: nts r.2).drop 1)) ht7).trans hl7).trans (le_upd (o := .lst (0, 10) (nts (r.2.map (hm hs)))) ha7)
              have u11 := upd_self H7' a7 (.lst (0, 10) (nts (r.2.map (hm hs))))
              generalize upd H7' a7 (.lst (0, 10) (nts (r.2.map (hm hs)))) = H11 at l11 u11 ⊢
              walk_at "go"
              rw [nts_ints] at u11
              refine CO.eqInts u11 (l11 _ _ (hl2 _ _ (hle _ _ u9))) (TR.bool ?_)
              have emap : (r.2.map (hm hs)).map (fun (k : Nat) => (k : Int)) = r.2.map fun k => ((hm hs k : Nat) : Int) := by rw [List.map_map]; rfl
              rw [emap]
              rw [decide_eq_true q, Bool.true_and] at hhit
              cases z : decide ((r.2.map fun k => ((hm hs k : Nat) : Int)) = ks) with
              | true =>
                rw [z] at hhit
                rw [if_pos rfl]
                refine TS.andNil ?_
                rw [if_pos rfl]
                walk_at "go"
                refine SB.list ((ll.trans l11) _ _ hhl) (by omega) (by omega) (hget m hml) rfl ?_
                refine ⟨(hle.trans hl2).trans l11, ?_⟩
                rw [hstep true hhit, List.map_append, nts_append]; rfl
              | false =>
                rw [z] at hhit
                rw [if_neg (by decide), if_neg (by decide)]
                refine ⟨(hle.trans hl2).trans l11, ?_⟩
                rw [hstep false hhit]; simp
            · rw [beq_eq_false_iff_ne.mpr q, if_neg (by decide), if_neg (by decide)]
              rw [decide_eq_false q, Bool.false_and] at hhit
              refine ⟨hle.trans hl2, ?_⟩
              rw [hstep false hhit]; simp
        · rintro ys H' ⟨hle, rfl⟩ a10 ha10
          have hen : (enmShp rw (refs.map V.ref)).n = rows.length := by show (refs.map V.ref).length = _; rw [List.length_map, hrn]
          rw [hen]
          have l12 := (l9.trans hle).trans (le_upd (o := .lst (0, 10) (nts (((List.range rows.length).filter (hit rows (hm hs) p.op ks)).map (hm hs)))) ha10)
          have u12 := upd_self H' a10 (.lst (0, 10) (nts (((List.range rows.length).filter (hit rows (hm hs) p.op ks)).map (hm hs))))
          generalize upd H' a10 (.lst (0, 10) (nts (((List.range rows.length).filter (hit rows (hm hs) p.op ks)).map (hm hs)))) = H12 at l12 u12 ⊢
          have hs' := sought_kids (rows := rows) (h := hm hs) (i := i) (j := j) hv'
          rw [hks] at hs'
          unfold findR at hs'
          generalize ((List.range rows.length).filter (hit rows (hm hs) p.op ks)).map (hm hs) = fl at u12 hs' ⊢
          refine EXS.cons ?_
          refine EX.ret ?_
          refine EV.ifx ?_
          refine TS.cmp ?_ rfl
          walk_at "go"
          refine EV.list (0, 10) (EVL.nil ?_) rfl (by decide)
          intro b13 hb13
          refine CO.neInts (is := fl.map fun (k : Nat) => (k : Int)) (js := []) (upd_fr hb13 (by rw [u12, nts_ints])) (upd_self ..) (TR.bool ?_)
          have l13 := l12.trans (le_upd (o := .lst (0, 10) []) hb13)
          have u13 := upd_fr (o' := .lst (0, 10) []) hb13 u12
          generalize upd H12 b13 (.lst (0, 10) []) = H13 at l13 u13 ⊢
          have fin := hP H13 l13
          rw [hs'] at fin
          cases fl with
          | nil =>
            rw [if_neg (by simp)]
            walk_at "go"
            refine UO.neg ?_
            exact fin
          | cons z zs =>
            rw [if_pos (by simp)]
            walk_at "go"
            exact SB.list (k := 0) u13 (by omega) (by decide) rfl rfl fin
noncomputable def KR (H H' : MH) : Prop := ∀ a o, H a = some o → tg o ≠ (0, 20) → H' a = some o
theorem KR.refl (H : MH) : KR H H := fun _ _ h _ => h
theorem KR.trans {H₁ H₂ H₃ : MH} (x : KR H₁ H₂) (y : KR H₂ H₃) : KR H₁ H₃ := fun a o h ht => y a o (x a o h ht) ht
theorem KR.of {H H' : MH} (h : Le H H') : KR H H' := fun a o x _ => h a o x
theorem KR.updn {H H' : MH} {a : Addr} {o : MO} (h : KR H H') (ha : H a = none) : KR H (upd H' a o) := fun b o' hb ht => by
  rw [upd_ne fun q => by subst q; rw [ha] at hb; cases hb]
  exact h b o' hb ht
theorem PatAt.kr {H H' : MH} (hk : KR H H') {p : Pat} {a : Addr} (h : PatAt H p a) : PatAt H' p a := by
  induction p generalizing a with
  | leaf x => exact hk _ _ h (by simp [tg])
  | un p ih => obtain ⟨b, h1, h2⟩ := h; exact ⟨b, hk _ _ h1 (by simp [tg]), ih h2⟩
  | bin p q ih1 ih2 => obtain ⟨b, c, h1, h2, h3⟩ := h; exact ⟨b, c, hk _ _ h1 (by simp [tg]), ih1 h2, ih2 h3⟩
theorem layI_get (rows : List Row) (r : Row) : ((layR rows r).map keyR)[layI rows r]? = some (keyR r) ∧ ∀ i, i < layI rows r → ((layR rows r).map keyR)[i]? ≠ some (keyR r) := by
  have hlt := layI_lt rows r
  constructor
  · rw [List.getElem?_map, List.getElem?_eq_getElem hlt]
    exact congrArg (fun z => some (keyR z)) (List.getElem_idxOf hlt)
  · intro i hi h
    have hil : i < (layR rows r).length := Nat.lt_trans hi hlt
    rw [List.getElem?_map, List.getElem?_eq_getElem hil] at h
    have h' : keyR (layR rows r)[i] = keyR r := by simpa using h
    have h2 : (layR rows r)[i] = r := keyR_inj h'
    have h3 := List.not_of_lt_findIdx (p := fun x => x == r) (xs := layR rows r) (i := i) hi
    rw [h2] at h3
    simp at h3
theorem mem_keyR {rows : List Row} {r : Row} : keyR r ∈ rows.map keyR ↔ r ∈ rows := by
  constructor
  · intro h
    obtain ⟨r', h1, h2⟩ := List.mem_map.mp h
    rw [← keyR_inj h2]; exact h1
  · exact fun h => List.mem_map_of_mem h
theorem Tups.snoc {H : MH} {refs : List Addr} {ks : List (List Ky)} (x : Tups H refs ks) {a : Addr} {k : List Ky} (ha : H a = some (.tup (k.map Ky.v))) : Tups H (refs ++ [a]) (ks ++ [k]) := by
  refine ⟨by simp [x.1], fun i b q h1 h2 => ?_⟩
  rcases Nat.lt_or_ge i refs.length with w | w
  · rw [List.getElem?_append_left w] at h1
    rw [List.getElem?_append_left (by rw [← x.1]; exact w)] at h2
    exact x.2 i b q h1 h2
  · have hi' := (List.getElem?_eq_some_iff.mp h1).1
    have : i = refs.length := by rw [List.length_append] at hi'; simp at hi'; omega
    subst this
    rw [List.getElem?_append_right (Nat.le_refl _), Nat.sub_self] at h1
    rw [List.getElem?_append_right (by rw [x.1]; exact Nat.le_refl _), x.1, Nat.sub_self] at h2
    cases h1; cases h2; exact ha
theorem Tups.keep {H H' : MH} {refs : List Addr} {ks : List (List Ky)} (x : Tups H refs ks) (hk : ∀ a o, H a = some o → tg o = (0, 1) → H' a = some o) : Tups H' refs ks := ⟨x.1, fun i a r h1 h2 => hk _ _ (x.2 i a r h1 h2) rfl⟩
theorem t_laid {rw t : Addr} {i j : Nat} : ∀ (n : Nat) (p : Pat), p.depth ≤ n → p.ok → ∀ (dd : Nat), n + 2 ≤ dd → ∀ (H : MH) (rows : List Row) (a : Addr) (P : V → MH → Prop), RowsAt H rw rows → rows.length + p.nodes ≤ 40 → PatAt H p a → TabAt H t i j →
    (∀ H', KR H H' → RowsAt H' rw (laid rows (tabO i j) p).1 → P (.int ((laid rows (tabO i j) p).2 : Nat)) H') → CL (DW w mean mg mb bl) dd H (.ref 468) [.ref rw, .ref a, .ref t] P := by
  intro n
  induction n using Nat.strongRecOn with
  | _ n ih =>
  intro p hpd hok dd hdd H rows a P hrw hz hpa ht hP
  obtain ⟨d, rfl⟩ : ∃ k, dd = k + 2 := ⟨dd - 2, by omega⟩
  refine' CL.defB (D := DW w mean mg mb bl) ?ho ?hcd ["rows", "pattern", "table"] rfl ?hbind ?hb ?h
  walk_at "w_enter"
  case hbind => exact all3 fun _ _ _ => rfl
  case h =>
    intro L
    obtain ⟨as, h1, h2, h3⟩ := hpa.kids
    have hkl := p.kids_len
    have hnk := p.nodes_kids
    obtain ⟨f, m, ht1, ht2⟩ := ht
    refine EXS.cons ?_
    refine EX.ifs ?_
    refine TS.cmp ?_ rfl
    walk_at "go"
    refine SB.tup (k := 0) h1 (by decide) rfl rfl ?_
    walk_at "go"
    refine CO.inS ht1 (TR.bool ?_)
    rw [ht2]
    by_cases hv : p.isVar = true
    · obtain ⟨y, k, rfl, hk', hk2⟩ := isVar_tab (i := i) (j := j) hv
      rw [show tabO i j (Pat.leaf y).op = some k from hk']
      rw [Option.map_some, Option.isSome_some, if_pos rfl]
      refine EXS.cons ?_
      refine EX.ret ?_
      walk_at "go"
      refine SB.tup (k := 0) h1 (by decide) rfl rfl ?_
      refine SB.dS (v := .int (k : Int)) ht1 (by rw [ht2]; show Option.map _ (tabO i j y) = _; rw [hk']; rfl) rfl ?_
      have := hP H (KR.refl _)
      unfold laid at this
      rw [hk'] at this
      exact this hrw
    · have hv' : p.isVar = false := by simpa using hv
      have hno : tabO i j p.op = none := by
        cases p with
        | leaf y => exact notVar_tab hv'
        | un p => rfl
        | bin p q => rfl
      rw [hno, Option.map_none, Option.isSome_none, if_neg (by decide)]
      refine EXS.nil ?_
      refine EXS.cons ?_
      refine EX.assignN ?_ rfl (.inl rfl) rfl
      refine EV.list (0, 26) (EVL.nil ?_) rfl (by decide)
      intro kl hkl0
      have l1 := le_upd (o := .lst (0, 26) []) hkl0
      have uk := upd_self H kl (.lst (0, 26) [])
      generalize upd H kl (.lst (0, 26) []) = H1 at l1 uk ⊢
      refine EXS.cons ?_
      refine EX.for ?_ (fun _ => rfl)
      refine IE.tup ?_
      walk_at "go"
      refine EP.some ?_
      walk_at "go"
      refine EP.none ?_
      refine SL.tupFrom (n := 1) (l1 _ _ h1) (by decide) (by simp) (by simp; omega) fun t7 ht7 => ?_
      refine ⟨_, _, rfl, upd_self .., ?_⟩
      have l7 := l1.trans (le_upd (o := .tup (as.map V.ref)) ht7)
      have uk7 := upd_fr (o' := .tup (as.map V.ref)) ht7 uk
      have u7 := upd_self H1 t7 (.tup (as.map V.ref))
      change ForP _ _ _ _ _ _ _ _ (upd H1 t7 (.tup (as.map V.ref)))
      generalize upd H1 t7 (.tup (as.map V.ref)) = H7 at l7 u7 uk7 ⊢
      refine ForP.mk (fun m ρ' H' => C8 (KR H H') (H' t7 = some (.tup (as.map V.ref))) (RowsAt H' rw (laidL rows (tabO i j) (p.kids.take m)).1) (H' kl = some (.lst (0, 26) (nts (laidL rows (tabO i j) (p.kids.take m)).2))) (lk ρ' "rows" = some (.ref rw)) (lk ρ' "pattern" = some (.ref a)) (lk ρ' "table" = some (.ref t)) (lk ρ' "kids" = some (.ref kl))) (⟨KR.of l7, u7, hrw.k0 (K0.of l7), uk7, by walk_at "lk", by walk_at "lk", by walk_at "lk", by walk_at "lk"⟩) (by rintro m ρ' H' ⟨_, q, _⟩; exact q) ?_ ?_
      · rintro m ρ' H' hm' ⟨z1, z2, z3, z4, k1, k2, k3, k4⟩ v H₂ hv2 hle _ KQ hKQ
        have hv3 : (as.map V.ref)[m]? = some v := hv2
        rw [List.getElem?_map] at hv3
        cases q1 : as[m]? with
        | none => rw [q1] at hv3; cases hv3
        | some b =>
          rw [q1] at hv3; cases hv3
          have hmk : m < p.kids.length := by rw [← h2]; exact (List.getElem?_eq_some_iff.mp q1).1
          have hq : p.kids[m]? = some p.kids[m] := List.getElem?_eq_getElem hmk
          have hmem : p.kids[m] ∈ p.kids := List.getElem_mem hmk
          generalize p.kids[m] = q at hq hmem
          have hd := Pat.kids_depth hmem
          have tk : p.kids.take (m + 1) = p.kids.take m ++ [q] := by rw [List.take_add_one, hq]; rfl
          have hn1 := nodesL_snoc (p.kids.take m) q
          have hn2 : nodesL (p.kids.take (m + 1)) ≤ nodesL p.kids := nodesL_take
          rw [tk] at hn2
          have hll := laidL_len (tabO i j) (p.kids.take m) rows
          have ll := z1.trans (KR.of hle)
          refine AT.name ?_ rfl (.inl rfl)
          refine EXS.cons ?_
          refine EX.expr ?_ rfl rfl
          walk_at "go"
          refine GM.list (hle _ _ z4) PySem.F.slot_list_append PySem.F.type_list_append ⟨trivial, EVL.one ?_⟩
          walk_at "ev"
          refine EV.global gl_law_laid ?_ rfl rfl rfl (by decide)
          refine ⟨ok_468, ?_⟩
          walk_at "go"
          refine ih (n - 1) (by omega) q (by omega) (Pat.kids_ok hok hmem) (d + 1) (by omega) H₂ _ b _ (z3.k0 (K0.of hle)) (by omega) (PatAt.kr ll (h3 m b q q1 hq)) ⟨f, _, ll _ _ ht1 (by walk_at "tg"), ht2⟩ fun H3 kr3 r3 => ?_
          refine EVL.nil ?_
          have z4' := kr3 _ _ (hle _ _ z4) (by walk_at "tg")
          have hlen2 := laidL_len2 (tabO i j) (p.kids.take m) rows
          refine CL.append z4' (by rw [nts_len, hlen2, List.length_take]; omega) ?_
          refine ⟨(by intro a h; cases h), ?_⟩
          refine EXS.nil ?_
          refine hKQ _ _ _ ?_
          refine ⟨(ll.trans kr3).updn (none_of (Le.refl _) hkl0), upd_old (kr3 _ _ (hle _ _ z2) (by walk_at "tg")) z4' (by walk_at "tg"), ?_, ?_, lk_tl (by decide) k1, lk_tl (by decide) k2, lk_tl (by decide) k3, lk_tl (by decide) k4⟩
          · rw [tk, laidL_snoc]
            obtain ⟨refs, w1, w2⟩ := r3
            exact ⟨refs, upd_old w1 z4' (by walk_at "tg"), w2.keep fun a o h q => upd_old h z4' (by rw [q]; simp [tg])⟩
          · rw [tk, laidL_snoc, nts_append]
            exact upd_self ..
      · rintro ρ' H' ⟨z1, z2, z3, z4, k1, k2, k3, k4⟩
        have e8 : p.kids.take (as.map V.ref).length = p.kids := by rw [List.length_map, h2, List.take_length]
        have hs : (tupShp t7 ((V.str p.op :: as.map V.ref).drop 1)).n = (as.map V.ref).length := rfl
        rw [hs, e8] at z3 z4
        have e := laid_kids (rows := rows) (i := i) (j := j) hv'
        rw [e] at hP
        have hll := laidL_len (tabO i j) p.kids rows
        have hl2 := laidL_len2 (tabO i j) p.kids rows
        generalize laidL rows (tabO i j) p.kids = LL at *
        refine EXS.cons ?_
        refine EX.assignN ?_ rfl (.inl rfl) rfl
        walk_at "ev"
        walk_at "go"
        refine SB.tup (k := 0) (z1 _ _ h1 (by walk_at "tg")) (by decide) rfl rfl ?_
        walk_at "go"
        intro t9 ht9
        walk_at "ev"
        walk_at "bi"
        walk_at "go"
        refine CL.tupleOf (upd_fr ht9 z4) (by rw [nts_len, hl2]; omega) fun c8 hc8 => ?_
        refine BO.addTup (upd_fr hc8 (upd_self ..)) (upd_self ..) (by simp [nts_len]; omega) fun t10 H10 hl10 h10 => ?_
        rw [show [V.str p.op] ++ nts LL.2 = (keyR (p.op, LL.2)).map Ky.v from (keyV p.op LL.2).symm] at h10
        have l10 : Le H' H10 := (le_upd ht9).trans ((le_upd hc8).trans hl10)
        have z10 := z3.k0 (K0.of l10)
        have kr10 := z1.trans (KR.of l10)
        clear hl10 hc8 ht9
        obtain ⟨refs, w1, w2⟩ := z10
        have hrl : refs.length = LL.1.length := by rw [w2.1, List.length_map]
        refine EXS.cons ?_
        refine EX.ifs ?_
        refine TS.cmp ?_ rfl
        walk_at "go"
        refine CO.notInRows w1 w2 h10 (TR.bool ?_)
        obtain ⟨g1, g2⟩ := layI_get LL.1 (p.op, LL.2)
        have g3 := layI_lt LL.1 (p.op, LL.2)
        have g4 := layR_le LL.1 (p.op, LL.2)
        by_cases hm : (p.op, LL.2) ∈ LL.1
        · rw [decide_eq_true (mem_keyR.mpr hm), if_neg (by decide)]
          have er : layR LL.1 (p.op, LL.2) = LL.1 := if_pos hm
          refine EXS.nil ?_
          refine EXS.cons ?_
          refine EX.ret ?_
          walk_at "go"
          refine GM.list w1 PySem.F.slot_list_index PySem.F.type_list_index ⟨trivial, EVL.one ?_⟩
          walk_at "go"
          rw [er] at g1 g2
          refine CL.indexRows w1 w2 h10 g1 g2 (by omega) ?_
          exact hP H10 kr10 ⟨refs, w1, by rw [er]; exact w2⟩
        · rw [decide_eq_false (fun h => hm (mem_keyR.mp h)), Bool.not_false, if_pos rfl]
          have er : layR LL.1 (p.op, LL.2) = LL.1 ++ [(p.op, LL.2)] := if_neg hm
          refine EXS.cons ?_
          refine EX.expr ?_ rfl rfl
          walk_at "go"
          refine GM.list w1 PySem.F.slot_list_append PySem.F.type_list_append ⟨trivial, EVL.one ?_⟩
          walk_at "go"
          refine CL.append w1 (by rw [List.length_map]; omega) ?_
          refine ⟨(by intro a h; cases h), ?_⟩
          have up : ∀ a o, H10 a = some o → tg o ≠ (0, 20) → upd H10 rw (.lst (0, 20) (refs.map V.ref ++ [.ref t10])) a = some o := fun a o h hne => upd_old h w1 hne
          have v1 : upd H10 rw (.lst (0, 20) (refs.map V.ref ++ [.ref t10])) rw = some (.lst (0, 20) ((refs ++ [t10]).map V.ref)) := by rw [List.map_append]; exact upd_self ..
          have v2 : Tups (upd H10 rw (.lst (0, 20) (refs.map V.ref ++ [.ref t10]))) (refs ++ [t10]) ((LL.1 ++ [(p.op, LL.2)]).map keyR) := by
            rw [List.map_append]
            exact (w2.keep fun a o h q => up a o h (by rw [q]; simp)).snoc (up _ _ h10 (by walk_at "tg"))
          have v3 := up _ _ h10 (by walk_at "tg")
          have v4 : KR H (upd H10 rw (.lst (0, 20) (refs.map V.ref ++ [.ref t10]))) := kr10.trans up
          generalize upd H10 rw (.lst (0, 20) (refs.map V.ref ++ [.ref t10])) = H11 at v1 v2 v3 v4 ⊢
          refine EXS.nil ?_
          refine EXS.cons ?_
          refine EX.ret ?_
          walk_at "go"
          refine GM.list v1 PySem.F.slot_list_index PySem.F.type_list_index ⟨trivial, EVL.one ?_⟩
          walk_at "go"
          rw [er] at g1 g2
          refine CL.indexRows v1 v2 v3 g1 g2 (by omega) ?_
          exact hP H11 v4 ⟨_, v1, by rw [er]; exact v2⟩
theorem and2_fin {D : Wd} {d : Nat} {e : Env} {ρ : List (Str × V)} {H : MH} {x : Expr} {b c : Bool} {P' : V → MH → Prop} (hx : b = true → ∀ Q : V → MH → Prop, Q (.bool c) H → EV D d e ρ H x Q) (h : P' (.bool (if b = true then c else b)) H) : if b = true then EV D d e ρ H x P' else P' (.bool b) H := by
  cases b with
  | true => rw [if_pos rfl] at h ⊢; exact hx rfl P' h
  | false => rw [if_neg (by decide)] at h ⊢; exact h
theorem hs_eq {s : St} {hs : List Nat} {pairs : List (Nat × Nat)} (S : Settled s pairs) (hlen : hs.length = s.rows.length) (Hh : IsHome s.rows pairs (hm hs)) : hs = (List.range s.rows.length).map s.rt := by
  apply List.ext_getElem?
  intro i
  rw [List.getElem?_map]
  by_cases h : i < s.rows.length
  · rw [List.getElem?_range h, hm_get (by rw [hlen]; exact h)]
    show some (hm hs i) = some (s.rt i)
    rw [Hh.unique S.home h]
  · rw [List.getElem?_eq_none (by rw [hlen]; omega), List.getElem?_eq_none (by rw [List.length_range]; omega)]; rfl
theorem t_isright {x : HA} {s : St} {c i j : Nat} {pairs : List (Nat × Nat)} {pl rw pr pt pa pb t : Addr} {p q : Pat} {P : V → MH → Prop} (S : Settled s pairs) (B : s.rows.length ≤ 21) (hk : ∀ r ∈ s.rows, r.2.length ≤ 2) (hi : i < s.rows.length) (hj : j < s.rows.length) (hp : p.depth ≤ 2) (hq : q.depth ≤ 2) (pok : p.ok) (qok : q.ok) (hpz : pairs.length ≤ 10) (hpb : ∀ z ∈ pairs, z.1 < s.rows.length ∧ z.2 < s.rows.length)
    (R : RepH x s c H) (hpl : PlAt H pl x.h) (hrw : RowsAt H rw s.rows) (hpr : PairsAt H (0, 21) pr pairs) (hpt : H pt = some (.lst (0, 23) [.ref pa, .ref pb])) (hpa : PatAt H p pa) (hqb : PatAt H q pb) (ht : TabAt H t i j)
    (hP : ∀ H', Le H H' → P (.bool true) H') : CL (DW w mean mg mb bl) (d + 11) H (.ref 473) [.ref x.h, .ref pl, .ref rw, .ref pr, .ref pt, .ref t] P := by
  refine' CL.defB (D := DW w mean mg mb bl) ?ho ?hcd ["heap", "placer", "rows", "pairs", "patterns", "table"] rfl ?hbind ?hb ?h
  walk_at "w_enter"
  case hbind => exact all6 fun _ _ _ _ _ _ => rfl
  case h =>
    intro L
    have hkk : ∀ r ∈ s.rows, r.2.length ≤ 2 ∧ ∀ k ∈ r.2, k < s.rows.length := fun r hr => ⟨hk r hr, by
      obtain ⟨n, hn⟩ := List.mem_iff_getElem?.mp hr
      exact kids_lt S.1 hn⟩
    refine EXS.cons ?_
    refine EX.assignN ?_ rfl (.inr ⟨rfl, rfl⟩) rfl
    walk_at "ev"
    refine EV.global gl_law_homes ?_ rfl rfl rfl (by decide)
    refine ⟨ok_449, ?_⟩
    walk_at "go"
    refine t_homes hrw hpr B hpz hpb hkk fun hs hl H1 l1 hhl hlen Hh => ?_
    have hhs := hs_eq S hlen Hh
    have R1 := R.le l1
    obtain ⟨refs, w1, w2⟩ := hrw
    have hrn : refs.length = s.rows.length := by rw [w2.1, List.length_map]
    refine EXS.cons ?_
    refine EX.ifs ?_
    refine TS.orCons ?_
    refine TS.cmp ?_ rfl
    walk_at "go"
    refine GM.inst R1.inst mth_Heap_size rfl ⟨ok_326, ?_⟩
    walk_at "go"
    refine t_hsize R1 B ?_
    walk_at "ev"
    walk_at "bi"
    walk_at "go"
    refine CL.lenList (l1 _ _ w1) (by rw [List.length_map]; omega) ?_
    refine CO.neInt (TR.bool ?_)
    rw [List.length_map, hrn, bne_self_eq_false, if_neg (by decide)]
    refine TS.orCons ?_
    refine TS.cmp ?_ rfl
    refine EV.comp (0, 10) [("heap", .ref x.h)] ⟨fun _ => rfl, rfl, rfl, by decide, by decide, by decide⟩ ⟨by walk_at "lk", .inl rfl, .inl rfl, rfl, trivial⟩ ?_
    refine IE.range ?_
    walk_at "ev"
    walk_at "bi"
    refine EVL.one ?_
    walk_at "ev"
    walk_at "bi"
    walk_at "go"
    refine CL.lenList (l1 _ _ w1) (by rw [List.length_map]; omega) ?_
    refine EVL.nil ?_
    rw [List.length_map, hrn]
    refine CL.range fun c2 hc2 => ?_
    refine ⟨c2, s.rows.length, rfl, upd_self .., by omega, ?_⟩
    have l2 := l1.trans (le_upd (o := .rng 0 s.rows.length) hc2)
    have hhl2 := upd_fr (o' := .rng 0 s.rows.length) hc2 hhl
    generalize upd H1 c2 (.rng 0 s.rows.length) = H2 at l2 hhl2 ⊢
    refine CompOk.inv (fun m ys H' => Le H2 H' ∧ ys = nts ((List.range m).map s.rt)) ⟨Le.refl _, rfl⟩ (by show s.rows.length ≤ _; omega) (fun m ys H' q => trivial) rfl rfl ?_ ?_
    · rintro m ys H' v H₂ hm' ⟨hl', rfl⟩ hv hle C
      have hv' : v = .int (m : Int) := hv
      subst hv'
      have hml : m < s.rows.length := hm'
      have R2 := R.le ((l2.trans hl').trans hle)
      walk_at "go"
      refine GM.inst R2.inst mth_Heap_find rfl ⟨ok_355, ?_⟩
      walk_at "go"
      refine t_hfind R2 S.1 B hml ⟨hl'.trans hle, ?_⟩
      rw [List.range_succ, List.map_append, nts_append]; rfl
    rintro ys H' ⟨hl', rfl⟩ a3 ha3
    have l3 := (l2.trans hl').trans (le_upd (o := .lst (0, 10) (nts ((List.range s.rows.length).map s.rt))) ha3)
    have hhl3 := upd_fr (o' := .lst (0, 10) (nts ((List.range s.rows.length).map s.rt))) ha3 (hl' _ _ hhl2)
    have u3 := upd_self H' a3 (.lst (0, 10) (nts ((List.range s.rows.length).map s.rt)))
    show EV _ _ _ _ (upd H' a3 (.lst (0, 10) (nts ((List.range s.rows.length).map s.rt)))) _ _
    generalize upd H' a3 (.lst (0, 10) (nts ((List.range s.rows.length).map s.rt))) = H3 at l3 hhl3 u3 ⊢
    clear hl' ha3 hhl2 l2 hc2
    walk_at "go"
    refine CO.neInts (is := ((List.range s.rows.length).map s.rt).map fun (k : Nat) => (k : Int)) (js := hs.map fun (k : Nat) => (k : Int)) (by rw [u3, nts_ints]) (by rw [hhl3, nts_ints]) (TR.bool ?_)
    rw [hhs, decide_eq_false (by simp), if_neg (by decide)]
    refine TS.orCons ?_
    refine TS.not ?_
    refine TS.plain ?_ rfl
    have R3 := R.le l3
    walk_at "go"
    refine GM.inst R3.inst mth_Heap_is_settled rfl ⟨ok_390, ?_⟩
    walk_at "go"
    refine t_hissettled R3 (by rw [S.2.2]; exact Nat.zero_le _) (TR.bool ?_)
    rw [S.2.2, decide_eq_true rfl, if_neg (by decide)]
    refine TS.orNil ?_
    rw [if_neg (by decide)]
    refine EXS.nil ?_
    have hpt3 := l3 _ _ hpt
    have hpat : ∀ (m : Nat) v, ([V.ref pa, V.ref pb] : List V)[m]? = some v → ∃ b r, v = .ref b ∧ [p, q][m]? = some r ∧ (r = p ∨ r = q) ∧ PatAt H r b ∧ r.depth ≤ 2 ∧ r.ok := fun m v hv => by
      match m with
      | 0 => cases hv; exact ⟨pa, p, rfl, rfl, .inl rfl, hpa, hp, pok⟩
      | 1 => cases hv; exact ⟨pb, q, rfl, rfl, .inr rfl, hqb, hq, qok⟩
      | m + 2 => cases hv
    refine EXS.cons ?_
    refine EX.assignComp (0, 10) [("rows", .ref rw), ("homes", .ref hl), ("table", .ref t)] ⟨fun _ => rfl, rfl, rfl, by decide, by decide, by decide⟩ ⟨by walk_at "lk", .inl rfl, .inl rfl, rfl, by walk_at "lk", .inl rfl, .inl rfl, rfl, by walk_at "lk", .inl rfl, .inl rfl, rfl, trivial⟩ rfl (.inl rfl) rfl ?_
    refine IE.list ?_
    walk_at "ev"
    refine ⟨_, _, _, rfl, hpt3, ?_⟩
    refine CompOk.inv (fun m ys H' => Le H3 H' ∧ ys = (([p, q].take m).map fun r => oV (cls s (tabO i j) r)).map V.int) ⟨Le.refl _, rfl⟩ (by show 2 ≤ 100000; decide) (fun m ys H' z => ⟨_, z.1 _ _ hpt3⟩) rfl rfl ?_ ?_
    · rintro m ys H' v H₂ hm' ⟨hl', rfl⟩ hv hle C
      obtain ⟨b, r, rfl, hr, _, hrb, hrd, hrok⟩ := hpat m v hv
      have ll := (l3.trans hl').trans hle
      walk_at "ev"
      refine EV.global gl_law_sought ?_ rfl rfl rfl (by decide)
      refine ⟨ok_461, ?_⟩
      walk_at "go"
      refine t_sought B hlen hkk hi hj 2 r hrd hrok (d + 10) (by omega) H₂ b _ ⟨refs, ll _ _ w1, w2.keep fun a o h _ => ll a o h⟩ ((hl'.trans hle) _ _ hhl3) (hrb.le ll) (ht.k0 (K0.of ll)) fun H4 l4 => ?_
      refine ⟨(hl'.trans hle).trans l4, ?_⟩
      rw [sought_eq S Hh (tabO_lt hi hj), List.take_add_one, hr]
      simp
    rintro ys H' ⟨hl', rfl⟩ due hdue
    have edue : (([p, q].take 2).map fun r => oV (cls s (tabO i j) r)).map V.int = [V.int (oV (cls s (tabO i j) p)), V.int (oV (cls s (tabO i j) q))] := rfl
    have l4 := (l3.trans hl').trans (le_upd (o := .lst (0, 10) [V.int (oV (cls s (tabO i j) p)), V.int (oV (cls s (tabO i j) q))]) hdue)
    have u4 := upd_self H' due (.lst (0, 10) [V.int (oV (cls s (tabO i j) p)), V.int (oV (cls s (tabO i j) q))])
    show EXS _ _ _ _ (upd H' due (.lst (0, 10) [V.int (oV (cls s (tabO i j) p)), V.int (oV (cls s (tabO i j) q))])) _ _
    generalize upd H' due (.lst (0, 10) [V.int (oV (cls s (tabO i j) p)), V.int (oV (cls s (tabO i j) q))]) = H4 at l4 u4 ⊢
    clear hl' hdue edue
    have hpt4 := l4 _ _ hpt
    refine EXS.cons ?_
    refine EX.ifs ?_
    refine TS.cmp ?_ rfl
    refine EV.comp (0, 10) [("placer", .ref pl), ("table", .ref t)] ⟨fun _ => rfl, rfl, rfl, by decide, by decide, by decide⟩ ⟨by walk_at "lk", .inl rfl, .inl rfl, rfl, by walk_at "lk", .inl rfl, .inl rfl, rfl, trivial⟩ ?_
    refine IE.list ?_
    walk_at "ev"
    refine ⟨_, _, _, rfl, hpt4, ?_⟩
    refine CompOk.inv (fun m ys H' => Le H4 H' ∧ ys = (([p, q].take m).map fun r => oV (cls s (tabO i j) r)).map V.int) ⟨Le.refl _, rfl⟩ (by show 2 ≤ 100000; decide) (fun m ys H' z => ⟨_, z.1 _ _ hpt4⟩) rfl rfl ?_ ?_
    · rintro m ys H' v H₂ hm' ⟨hl', rfl⟩ hv hle C
      obtain ⟨b, r, rfl, hr, _, hrb, hrd, hrok⟩ := hpat m v hv
      have ll := (l4.trans hl').trans hle
      have hpl2 : H₂ pl = some (.inst 219 [("heap", .ref x.h)]) := ll _ _ hpl
      walk_at "go"
      refine GM.inst hpl2 mth_Placer_class_of rfl ⟨ok_209, ?_⟩
      walk_at "go"
      refine t_classof S B hi hj 2 r hrd hrok (d + 10) (by omega) H₂ b _ (R.le ll) hpl2 (hrb.le ll) (ht.k0 (K0.of ll)) fun H5 l5 => ?_
      refine ⟨(hl'.trans hle).trans l5, ?_⟩
      rw [List.take_add_one, hr]
      simp
    rintro ys H' ⟨hl', rfl⟩ a5 ha5
    have l5 := hl'.trans (le_upd (o := .lst (0, 10) [V.int (oV (cls s (tabO i j) p)), V.int (oV (cls s (tabO i j) q))]) ha5)
    have u5 := upd_self H' a5 (.lst (0, 10) [V.int (oV (cls s (tabO i j) p)), V.int (oV (cls s (tabO i j) q))])
    show EV _ _ _ _ (upd H' a5 (.lst (0, 10) [V.int (oV (cls s (tabO i j) p)), V.int (oV (cls s (tabO i j) q))])) _ _
    generalize upd H' a5 (.lst (0, 10) [V.int (oV (cls s (tabO i j) p)), V.int (oV (cls s (tabO i j) q))]) = H5 at l5 u5 ⊢
    clear hl' ha5
    replace u4 := l5 _ _ u4
    replace l4 := l4.trans l5
    clear l5
    walk_at "go"
    refine CO.neInts (is := [oV (cls s (tabO i j) p), oV (cls s (tabO i j) q)]) (js := [oV (cls s (tabO i j) p), oV (cls s (tabO i j) q)]) u5 u4 (TR.bool ?_)
    rw [decide_eq_false (by simp), if_neg (by decide)]
    refine EXS.nil ?_
    refine EXS.cons ?_
    refine EX.assignN ?_ rfl (.inl rfl) rfl
    refine EV.and2 ?_
    walk_at "go"
    refine SB.list (k := 0) u4 (by omega) (by decide) rfl rfl ?_
    walk_at "go"
    refine SB.list (k := 1) u4 (by omega) (by decide) rfl rfl ?_
    refine CO.eqInt (TR.bool ?_)
    refine and2_fin (c := decide (0 ≤ oV (cls s (tabO i j) p))) (fun _ Q hQ => ?_) ?_
    · walk_at "go"
      refine SB.list (k := 0) u4 (by omega) (by decide) rfl rfl ?_
      walk_at "go"
      exact CO.geInt hQ
    have hone : (if (oV (cls s (tabO i j) p) == oV (cls s (tabO i j) q)) = true then decide (0 ≤ oV (cls s (tabO i j) p)) else (oV (cls s (tabO i j) p) == oV (cls s (tabO i j) q))) = ((cls s (tabO i j) p).isSome && decide (cls s (tabO i j) p = cls s (tabO i j) q)) := by
      by_cases e : cls s (tabO i j) p = cls s (tabO i j) q
      · rw [← e, beq_self_eq_true, if_pos rfl, decide_eq_true rfl, Bool.and_true]
        cases hc : cls s (tabO i j) p with
        | none => rfl
        | some k => simp [oV]
      · have e2 : (oV (cls s (tabO i j) p) == oV (cls s (tabO i j) q)) = false := by rw [beq_eq_false_iff_ne]; exact fun z => e (oV_inj z)
        rw [e2, if_neg (by decide), decide_eq_false e, Bool.and_false]
    rw [hone]
    clear hone
    generalize hv1 : ((cls s (tabO i j) p).isSome && decide (cls s (tabO i j) p = cls s (tabO i j) q)) = one
    refine EXS.cons ?_
    refine EX.for ?_ (fun _ => rfl)
    refine IE.tup ?_
    walk_at "go"
    intro tk htk
    refine ⟨_, _, rfl, upd_self .., ?_⟩
    have l6 := l4.trans (le_upd (o := .tup [.str "alike", .str "unlike"]) htk)
    have u6 := upd_self H5 tk (.tup [.str "alike", .str "unlike"])
    generalize upd H5 tk (.tup [.str "alike", .str "unlike"]) = H6 at l6 u6 ⊢
    clear htk
    refine ForP.mk (fun m ρ' H' => C7 (Le H6 H') (lk ρ' "heap" = some (.ref x.h)) (lk ρ' "placer" = some (.ref pl)) (lk ρ' "rows" = some (.ref rw)) (lk ρ' "patterns" = some (.ref pt)) (lk ρ' "table" = some (.ref t)) (lk ρ' "is_one" = some (.bool one))) (⟨Le.refl _, by walk_at "lk", by walk_at "lk", by walk_at "lk", by walk_at "lk", by walk_at "lk", by walk_at "lk"⟩) (by rintro m ρ' H' ⟨z, _⟩; exact z _ _ u6) ?_ ?_
    · rintro m ρ' H' hm' ⟨hl', k1, k2, k3, k4, k5, k6⟩ v H₂ hv hle _ KQ hKQ
      obtain ⟨kd, rfl⟩ : ∃ kd, v = .str kd := by
        have hv' : ([V.str "alike", V.str "unlike"] : List V)[m]? = some v := hv
        match m with
        | 0 => cases hv'; exact ⟨_, rfl⟩
        | 1 => cases hv'; exact ⟨_, rfl⟩
        | m + 2 => cases hv'
      have ll := (l6.trans hl').trans hle
      have hpl2 : H₂ pl = some (.inst 219 [("heap", .ref x.h)]) := ll _ _ hpl
      have hpt2 := ll _ _ hpt
      refine AT.name ?_ rfl (.inl rfl)
      refine EXS.cons ?_
      refine EX.ifs ?_
      refine TS.cmp ?_ rfl
      walk_at "go"
      refine GM.inst hpl2 mth_Placer_holds rfl ⟨ok_216, ?_⟩
      walk_at "go"
      refine SB.list (k := 0) hpt2 (by omega) (by decide) rfl rfl ?_
      walk_at "go"
      refine SB.list (k := 1) hpt2 (by omega) (by decide) rfl rfl ?_
      walk_at "go"
      intro nd hnd
      walk_at "go"
      have l7 := le_upd (o := .tup [.str kd, .ref pa, .ref pb]) hnd
      have ll7 := ll.trans l7
      refine t_holds S B hi hj hp hq pok qok (R.le ll7) (l7 _ _ hpl2) (hpa.le ll7) (hqb.le ll7) (ht.k0 (K0.of ll7)) (upd_self ..) fun H7 l8 => ?_
      rw [hv1]
      walk_at "go"
      refine CO.eqStr ?_
      refine CO.eqBool ?_
      refine CO.neBool (TR.bool ?_)
      rw [bne_self_eq_false, if_neg (by decide)]
      refine EXS.nil ?_
      refine EXS.nil ?_
      refine hKQ _ _ _ ?_
      exact ⟨(hl'.trans hle).trans (l7.trans l8), lk_tl (by decide) k1, lk_tl (by decide) k2, lk_tl (by decide) k3, lk_tl (by decide) k4, lk_tl (by decide) k5, lk_tl (by decide) k6⟩
    · rintro ρ' H' ⟨hl', k1, k2, k3, k4, k5, k6⟩
      have ll := l6.trans hl'
      have R7 := R.le ll
      refine EXS.cons ?_
      refine EX.ret ?_
      walk_at "go"
      refine GM.inst R7.inst mth_Heap_size rfl ⟨ok_326, ?_⟩
      walk_at "go"
      refine t_hsize R7 B ?_
      walk_at "ev"
      walk_at "bi"
      walk_at "go"
      refine CL.lenList (ll _ _ w1) (by rw [List.length_map]; omega) ?_
      refine CO.eqInt ?_
      rw [List.length_map, hrn, beq_self_eq_true]
      exact hP H' ll
theorem Inv.unite' {s : St} {pairs pairs' : List (Nat × Nat)} {todo : List Nat} {a b : Nat} (I : Inv s pairs' todo) (T : Told s pairs) (ha : a < s.rows.length) (hb : b < s.rows.length) (hg : ∀ g, Closed s.rows pairs' g → g a = g b) :
    Inv (s.unite a b) pairs' todo ∧ Told (s.unite a b) pairs ∧ (s.unite a b).rt a = (s.unite a b).rt b := by
  unfold St.unite
  by_cases q : s.rt a = s.rt b
  · rw [if_pos q]; exact ⟨I, T, q⟩
  · rw [if_neg q]
    obtain ⟨h1, h2, h3, h4⟩ := unite_facts I ha hb q
    have rt := rt_join I h1 h2 h3 h4
    refine ⟨I.join h1 h2 h3 h4 fun g hgc => ?_, fun p hp => by rw [rt, rt, T p hp], ?_⟩
    · have e1 := I.fair g hgc a ha
      have e2 := I.fair g hgc b hb
      have e3 := hg g hgc
      rcases Nat.le_total (s.rt a) (s.rt b) with q | q
      · rw [Nat.min_eq_left q, Nat.max_eq_right q, e1, e2, e3]
      · rw [Nat.min_eq_right q, Nat.max_eq_left q, e1, e2, e3]
    · rw [rt, rt]
      rcases Nat.le_total (s.rt a) (s.rt b) with w | w
      · rw [Nat.max_eq_right w, Nat.min_eq_left w, if_pos rfl]; rw [if_neg q]
      · rw [Nat.max_eq_left w, Nat.min_eq_right w, if_pos rfl]; rw [if_neg (Ne.symm q)]
theorem Told.snoc {s : St} {pairs : List (Nat × Nat)} {a b : Nat} (T : Told s pairs) (h : s.rt a = s.rt b) : Told s (pairs ++ [(a, b)]) := fun p hp => by
  rcases List.mem_append.mp hp with q | q
  · exact T p q
  · rw [List.mem_singleton.mp q]; exact h
theorem RepH.kr {x : HA} {s : St} {c : Nat} {H H' : MH} (R : RepH x s c H) (h : KR H H') : RepH x s c H' := R.keep fun a o ha w => h a o ha (by
  rintro q
  rw [q] at w
  simp at w)
theorem RepD.kr {dl : Addr} {b : Nat} {H H' : MH} (R : RepD dl b H) (h : KR H H') : RepD dl b H' := by
  obtain ⟨f, n, cl, cs, t, h1, h2, h3, h4, h5, h6, h7⟩ := R
  exact ⟨f, n, cl, cs, t, h _ _ h1 (by simp [tg]), h2, h3, h4, h5, h _ _ h6 (by simp [tg]), h7⟩
theorem RowsAt.kd {H H' : MH} {a : Addr} {rows : List Row} (x : RowsAt H a rows) (hk : KD H H') : RowsAt H' a rows := let ⟨refs, h1, h2, h3⟩ := x; ⟨refs, hk _ _ h1 (by simp [tg]), h2, fun i a r p q => hk _ _ (h3 i a r p q) (by simp [tg])⟩
theorem PairsAt.kd {H H' : MH} {a : Addr} {ps : List (Nat × Nat)} (x : PairsAt H (0, 21) a ps) (hk : KD H H') : PairsAt H' (0, 21) a ps := let ⟨refs, h1, h2⟩ := x; ⟨refs, hk _ _ h1 (by simp [tg]), h2.keep fun a o h w => hk a o h (by rw [w]; simp)⟩
theorem PairsAt.kr {H H' : MH} {a : Addr} {ps : List (Nat × Nat)} (x : PairsAt H (0, 21) a ps) (hk : KR H H') : PairsAt H' (0, 21) a ps := let ⟨refs, h1, h2⟩ := x; ⟨refs, hk _ _ h1 (by simp [tg]), h2.keep fun a o h w => hk a o h (by rw [w]; simp)⟩
theorem laid_kids2 {tab : Str → Option Nat} : ∀ (p : Pat) (rows : List Row), (∀ r ∈ rows, r.2.length ≤ 2) → ∀ r ∈ (laid rows tab p).1, r.2.length ≤ 2 := by
  have lay : ∀ (rows : List Row) (r : Row), (∀ q ∈ rows, q.2.length ≤ 2) → r.2.length ≤ 2 → ∀ q ∈ layR rows r, q.2.length ≤ 2 := fun rows r h hr q hq => by
    unfold layR at hq
    split at hq
    · exact h q hq
    · rcases List.mem_append.mp hq with z | z
      · exact h q z
      · rw [List.mem_singleton.mp z]; exact hr
  intro p
  induction p with
  | leaf x =>
    intro rows h
    unfold laid
    cases tab x with
    | none => exact lay _ _ h (by simp)
    | some i => exact h
  | un p ih =>
    intro rows h
    exact lay _ _ (ih rows h) (by simp)
  | bin p q ih1 ih2 =>
    intro rows h
    exact lay _ _ (ih2 _ (ih1 rows h)) (by simp)
theorem layR_kids2 {rows : List Row} {r : Row} (h : ∀ q ∈ rows, q.2.length ≤ 2) (hr : r.2.length ≤ 2) : ∀ q ∈ layR rows r, q.2.length ≤ 2 := fun q hq => by
  unfold layR at hq
  split at hq
  · exact h q hq
  · rcases List.mem_append.mp hq with z | z
    · exact h q z
    · rw [List.mem_singleton.mp z]; exact hr
noncomputable def lawDef : List Stmt × Scope := (bd [22], sc [22])
noncomputable def mdV : V → V | .int i => .int (Int.fmod i 1000003) | v => v
theorem mdV_map (ns : List Int) : (zts ns).map mdV = zts (ns.map fun n => Int.fmod n 1000003) := by
  unfold zts; rw [List.map_map, List.map_map]; rfl
theorem zts_mem {l : List Int} {v : V} (h : v ∈ zts l) : ∃ n, v = .int n := by
  unfold zts at h
  obtain ⟨n, h1, h2⟩ := List.mem_map.mp h
  exact ⟨n, h2.symm⟩
theorem fg_pick {t : Nat} (ht : t < 2) : ∃ c, ("fg" : Str).cps[t]? = some c ∧ OpOk ⟨#[c]⟩ := by
  match t, ht with
  | 0, _ => exact ⟨102, rfl, by simp [OpOk]; right; right; right; right; left; rfl⟩
  | 1, _ => exact ⟨103, rfl, by simp [OpOk]; right; right; right; right; right; rfl⟩
noncomputable def KP (H H' : MH) : Prop := ∀ a o, H a = some o → tg o ≠ (0, 21) → H' a = some o
theorem RepH.kp {x : HA} {s : St} {c : Nat} {H H' : MH} (R : RepH x s c H) (h : KP H H') : RepH x s c H' := R.keep fun a o ha w => h a o ha (by
  rintro q
  rw [q] at w
  simp at w)
theorem RepD.kp {dl : Addr} {b : Nat} {H H' : MH} (R : RepD dl b H) (h : KP H H') : RepD dl b H' := by
  obtain ⟨f, n, cl, cs, t, h1, h2, h3, h4, h5, h6, h7⟩ := R
  exact ⟨f, n, cl, cs, t, h _ _ h1 (by simp [tg]), h2, h3, h4, h5, h _ _ h6 (by simp [tg]), h7⟩
theorem RowsAt.kp {H H' : MH} {a : Addr} {rows : List Row} (x : RowsAt H a rows) (hk : KP H H') : RowsAt H' a rows := let ⟨refs, h1, h2, h3⟩ := x; ⟨refs, hk _ _ h1 (by simp [tg]), h2, fun i a r p q => hk _ _ (h3 i a r p q) (by simp [tg])⟩
theorem TabAt.kr {H H' : MH} (hk : KR H H') {t : Addr} {i j : Nat} (h : TabAt H t i j) : TabAt H' t i j := let ⟨f, n, a, b⟩ := h; ⟨f, n, hk _ _ a (by simp [tg]), b⟩
theorem RowsAt.len {H : MH} {a : Addr} {rows : List Row} (x : RowsAt H a rows) : ∃ refs : List Addr, H a = some (.lst (0, 20) (refs.map .ref)) ∧ refs.length = rows.length := let ⟨refs, h1, h2⟩ := x; ⟨refs, h1, by rw [h2.1, List.length_map]⟩
theorem tabAt_made {H : MH} {t : Addr} {i j n : Nat} (h : H t = some (.dS (0, 12) (fun z => if z = ("?y" : Str) then some (V.int (j : Int)) else if z = ("?x" : Str) then some (V.int (i : Int)) else none) n)) : TabAt H t i j := by
  refine ⟨_, n, h, fun x => ?_⟩
  unfold tabO
  show (if x = ("?y" : Str) then some (V.int (j : Int)) else if x = ("?x" : Str) then some (V.int (i : Int)) else none) = _
  by_cases q : x = "?y"
  · rw [if_pos q, if_pos q]; rfl
  · by_cases q' : x = "?x"
    · rw [if_neg q, if_neg q, if_pos q', if_pos q']; rfl
    · rw [if_neg q, if_neg q, if_neg q', if_neg q']; rfl
theorem lay6 {H : MH} {a b c r p t : Addr} {o1 o2 o3 o4 o5 o6 : MO} (h1 : H a = none) (h2 : upd H a o1 b = none) (h3 : upd (upd H a o1) b o2 c = none) (h4 : upd (upd (upd H a o1) b o2) c o3 r = none) (h5 : upd (upd (upd (upd H a o1) b o2) c o3) r o4 p = none) (h6 : upd (upd (upd (upd (upd H a o1) b o2) c o3) r o4) p o5 t = none) :
    ∃ H', H' = upd (upd (upd (upd (upd (upd H a o1) b o2) c o3) r o4) p o5) t o6 ∧ C7 (Le H H') (H' a = some o1) (H' b = some o2) (H' c = some o3) (H' r = some o4) (H' p = some o5) (H' t = some o6) :=
  ⟨_, rfl, (((((le_upd h1).trans (le_upd h2)).trans (le_upd h3)).trans (le_upd h4)).trans (le_upd h5)).trans (le_upd h6), upd_fr h6 (upd_fr h5 (upd_fr h4 (upd_fr h3 (upd_fr h2 (upd_self ..))))), upd_fr h6 (upd_fr h5 (upd_fr h4 (upd_fr h3 (upd_self ..)))), upd_fr h6 (upd_fr h5 (upd_fr h4 (upd_self ..))), upd_fr h6 (upd_fr h5 (upd_self ..)), upd_fr h6 (upd_self ..), upd_self ..⟩
theorem three_rows {i : Nat} {r : Row} (hr : ([("a", []), ("b", []), ("c", [])] : List Row)[i]? = some r) : r.2 = [] ∧ OpOk r.1 ∧ r ∉ ([("a", []), ("b", []), ("c", [])] : List Row).take i ∧ ([("a", []), ("b", []), ("c", [])] : List Row).take i ++ [r] = ([("a", []), ("b", []), ("c", [])] : List Row).take (i + 1) := by
  cases i with
  | zero => cases hr; exact ⟨rfl, by simp [OpOk], by simp, rfl⟩
  | succ i => cases i with
    | zero => cases hr; exact ⟨rfl, by simp [OpOk], by decide, rfl⟩
    | succ i => cases i with
      | zero => cases hr; exact ⟨rfl, by simp [OpOk], by decide, rfl⟩
      | succ i => cases hr
theorem t_law : (fun (p : List Stmt × Scope) => ∀ (L fa : Addr) (cd : Value) (sa : Addr) (its : Array Value) (ns : List Int), IntsAre its.toList ns → its.size ≤ 100 →
    EXS (DW w mean mg mb (some (sa, its))) (d + 40) (envOfC "law" p.2 L fa cd) [("script", .ref sa)] (fun _ => none) p.1 (fun fv _ _ => fv = .ret (.bool true))) lawDef := by
  conv => arg 1; whnf
  intro L fa cd sa its ns hints hsz
  dsimp only
  refine EXS.cons ?_
  refine EX.assignN ?_ rfl (.inr ⟨rfl, rfl⟩) rfl
  refine EV.dict2 (0, 13) (by decide) ?_
  refine EV.comp (0, 14) [] ⟨fun _ => rfl, rfl, rfl, by decide, by decide, by decide⟩ trivial ?_
  refine IE.list ?_
  refine EV.baseSlice (0, 10) rfl hints (by omega) ?_
  walk_at "ev"
  refine ⟨rfl, fun a1 ha1 => ⟨_, _, _, rfl, upd_self .., ?_⟩⟩
  have hl50 : (ns.take 50).length ≤ 50 := by rw [List.length_take]; omega
  have u1 := upd_self (fun _ => none) a1 (.lst (0, 10) (zts (ns.take 50)))
  generalize upd (fun _ => none) a1 (.lst (0, 10) (zts (ns.take 50))) = H1 at u1 ⊢
  refine CompOk.pure (zts (ns.take 50)) rfl (by unfold zts; rw [List.length_map]; omega) ⟨_, u1⟩ rfl rfl (fun H' hl => ⟨_, hl _ _ u1⟩) mdV (fun i v H₂ hv => hv) (fun v hv C H₂ hl2 => ?_) fun H2 hl2 cl hcl => ?_
  · obtain ⟨n, rfl⟩ := zts_mem hv
    walk_at "ev"
    walk_at "ev"
    walk_at "bi"
    walk_at "go"
    refine CL.int ?_
    walk_at "go"
    exact BO.mod (by decide) ⟨rfl, Le.refl _⟩
  rw [mdV_map]
  have hcs : ((ns.take 50).map fun n => Int.fmod n 1000003).length ≤ 50 := by rw [List.length_map]; exact hl50
  generalize ((ns.take 50).map fun n => Int.fmod n 1000003) = cs at hcs ⊢
  walk_at "ev"
  intro dl hdl
  have D3 : RepD dl 2 (upd (upd H2 cl (.lst (0, 14) (zts cs))) dl (.dS (0, 13) (fun z => if z = "at" then some (.int 0) else if z = "cells" then some (.ref cl) else none) 2)) := by
    refine ⟨_, 2, cl, cs, 0, upd_self .., Nat.le_refl _, ?_, ?_, by omega, upd_fr hdl (upd_self ..), hcs⟩
    · show (if ("cells" : Str) = "at" then _ else if ("cells" : Str) = "cells" then _ else _) = _
      rw [if_neg (by decide), if_pos rfl]
    · show (if ("at" : Str) = "at" then _ else _) = _
      rw [if_pos rfl]; rfl
  generalize upd (upd H2 cl (.lst (0, 14) (zts cs))) dl (.dS (0, 13) (fun z => if z = "at" then some (.int 0) else if z = "cells" then some (.ref cl) else none) 2) = H3 at D3 ⊢
  clear hcl hl2 u1 hdl hcs hl50 hints hsz
  refine EXS.cons ?_
  refine EX.assignT ?_ rfl rfl
  refine EV.tuple (EVL.one ?_) rfl (by decide)
  walk_at "ev"
  refine EV.global gl_Heap ?_ rfl rfl rfl (by decide)
  refine ⟨ok_433, EVL.nil ?_⟩
  refine CC.cl (CC.cls cls_Heap.1 cls_Heap.2.1 cls_Heap.2.2 fun ha hha => ?_)
  refine t_hinit (upd_self ..) fun x H4 hxe R4 k4 => ⟨rfl, ?_⟩
  subst hxe
  have D4 : RepD dl 2 H4 := by
    obtain ⟨f, n, cl, cs, t, h1, h2, h3, h4, h5, h6, h7⟩ := D3
    have z : ∀ y o, H3 y = some o → H4 y = some o := fun y o hy => k4 y o (upd_fr hha hy) fun q => by rw [q, hha] at hy; cases hy
    exact ⟨f, n, cl, cs, t, z _ _ h1, h2, h3, h4, h5, z _ _ h6, h7⟩
  clear k4 D3 hha
  refine EVL.one ?_
  refine EV.list (0, 20) ?_ rfl (by decide)
  walk_at "go"
  intro r1 hr1
  walk_at "go"
  intro r2 hr2
  walk_at "go"
  intro r3 hr3
  refine EVL.nil ?_
  intro rw hrw
  refine EVL.one ?_
  refine EV.list (0, 21) (EVL.nil ?_) rfl (by decide)
  intro pr hpr
  refine EVL.nil ?_
  intro t5 ht5
  refine AT.tuple (vs := [.ref x.h, .ref rw, .ref pr]) ⟨t5, rfl, .inl (upd_self ..)⟩ rfl rfl ?_
  refine AT.name ?_ rfl (by first | exact .inl rfl | exact .inr ⟨rfl, rfl⟩)
  refine AT.name ?_ rfl (by first | exact .inl rfl | exact .inr ⟨rfl, rfl⟩)
  refine AT.name (ATS.fin ?_) rfl (by first | exact .inl rfl | exact .inr ⟨rfl, rfl⟩)
  obtain ⟨H5, e5, l5, v1, v2, v3, v4, v5, _⟩ := lay6 (o6 := .tup [.ref x.h, .ref rw, .ref pr]) hr1 hr2 hr3 hrw hpr ht5
  rw [← e5]
  have R5 := R4.le l5
  have D5 := D4.le l5
  clear l5 hr1 hr2 hr3 hrw hpr ht5 R4 D4 e5
  have W5 : RowsAt H5 rw [("a", []), ("b", []), ("c", [])] := by
    refine ⟨[r1, r2, r3], v4, rfl, fun i a r p q => ?_⟩
    match i with
    | 0 => cases p; cases q; exact v1
    | 1 => cases p; cases q; exact v2
    | 2 => cases p; cases q; exact v3
    | i + 3 => cases p
  have Q5 : PairsAt H5 (0, 21) pr [] := ⟨[], v5, rfl, fun i a p h => nomatch h⟩
  clear v1 v2 v3 v4 v5
  refine EXS.cons ?_
  refine EX.for ?_ (fun _ => rfl)
  refine IE.list ?_
  walk_at "ev"
  obtain ⟨refs, w1, w2⟩ := W5
  refine ⟨_, _, _, rfl, w1, ?_⟩
  have hrefs : refs.length = 3 := w2.1
  refine ForP.mk (fun i ρ' H' => E2 fun s c => C10 (RepH x s c H') (Settled s []) (s.rows = ([("a", []), ("b", []), ("c", [])] : List Row).take i) (c ≤ 3 * i) (s.tot = 0) (K0 H5 H') (lk ρ' "heap" = some (.ref x.h)) (lk ρ' "rows" = some (.ref rw)) (lk ρ' "pairs" = some (.ref pr)) (lk ρ' "dial" = some (.ref dl))) (⟨_, 0, R5, settled_nil, rfl, Nat.le_refl _, rfl, K0.refl _, by walk_at "lk", by walk_at "lk", by walk_at "lk", by walk_at "lk"⟩) (by rintro i ρ' H' ⟨_, _, _, _, _, _, _, q, _⟩; exact ⟨_, q _ _ w1 rfl⟩) ?_ ?_
  · rintro i ρ' H' hi ⟨s, c, R, S, er, hc, hto, k0, k1, k2, k3, k4⟩ v H₂ hv hle _ KQ hKQ
    obtain ⟨b, r, rfl, hr, hb⟩ := rows_get w2 hv
    have hi3 : i < 3 := (List.getElem?_eq_some_iff.mp hr).1
    have hrr : r.2 = [] ∧ OpOk r.1 ∧ r ∉ s.rows ∧ s.rows ++ [r] = ([("a", []), ("b", []), ("c", [])] : List Row).take (i + 1) := by
      rw [er]
      exact three_rows hr
    obtain ⟨e1, e2, e3, e4⟩ := hrr
    have R2 := R.le hle
    refine AT.name ?_ rfl (.inl rfl)
    refine EXS.cons ?_
    refine EX.expr ?_ rfl rfl
    walk_at "go"
    refine GM.inst R2.inst mth_Heap_add rfl ⟨ok_336, ?_⟩
    walk_at "go"
    refine SB.tup (k := 0) (hle _ _ (k0 _ _ hb rfl)) (by decide) rfl rfl ?_
    walk_at "go"
    intro te hte
    refine EVL.nil ?_
    refine t_add (ks := []) (R2.le (le_upd hte)) S (by rw [er, List.length_take]; omega) e2 (.inl (upd_self ..)) (by simp) (by simp) (by omega) (by omega) fun n H3 R3 k5 hn => ?_
    refine ⟨(by intro a h; cases h), ?_⟩
    refine EXS.nil ?_
    refine hKQ _ _ _ ?_
    have hat := add_tot (r := (r.1, [])) S (by simp)
    have er' : (r.1, ([] : List Nat)) = r := by rw [← e1]
    rw [er'] at R3 hat
    have S' := S.add (r := r) (by rw [e1]; simp)
    refine ⟨_, _, R3, S', ?_, by omega, by rw [e1] at hat; simp at hat; omega, ((k0.trans (K0.of hle)).trans (K0.of (le_upd hte))).trans k5, lk_tl (by decide) k1, lk_tl (by decide) k2, lk_tl (by decide) k3, lk_tl (by decide) k4⟩
    rw [add_layR]
    unfold layR
    rw [if_neg e3, e4]
  rintro ρ6 H6 ⟨s, c, R, S, er, hc, hto, k0, k1, k2, k3, k4⟩
  have hn3 : (listShp rw (refs.map V.ref)).n = 3 := by show (refs.map V.ref).length = _; rw [List.length_map, hrefs]
  rw [hn3] at er hc
  have D6 := D5.k0 k0
  have W6 : RowsAt H6 rw s.rows := by rw [er]; exact (show RowsAt H5 rw _ from ⟨refs, w1, w2⟩).k0 k0
  have Q6 := Q5.k0 rfl k0
  have hr3 : s.rows.length = 3 := by rw [er]; rfl
  have hk3 : ∀ r ∈ s.rows, r.2.length ≤ 2 := by rw [er]; decide
  clear er k0 w1 w2 hrefs hn3 D5 Q5 R5
  refine EXS.cons ?_
  refine EX.for ?_ (fun _ => rfl)
  refine IE.range ?_
  walk_at "ev"
  walk_at "bi"
  refine EVL.one ?_
  walk_at "ev"
  walk_at "ev"
  walk_at "ev"
  refine EV.global gl_law_turn ?_ rfl rfl rfl (by decide)
  refine ⟨ok_444, ?_⟩
  walk_at "go"
  refine t_turn (m := 3) D6 (by omega) (by decide) fun t0 H7 ht0 D7 kd7 => ?_
  refine BO.add ?_
  refine EVL.nil ?_
  rw [show (2 : Int) + (t0 : Int) = ((2 + t0 : Nat) : Int) by omega]
  refine CL.range fun c8 hc8 => ?_
  refine ⟨c8, 2 + t0, rfl, upd_self .., by omega, ?_⟩
  have l8 := le_upd (o := .rng 0 (2 + t0 : Nat)) hc8
  have R8 := (R.kd kd7).le l8
  have D8 := D7.le l8
  have W8 := (W6.kd kd7).k0 (K0.of l8)
  have Q8 := (Q6.kd kd7).k0 rfl (K0.of l8)
  generalize upd H7 c8 (.rng 0 (2 + t0 : Nat)) = H8 at R8 D8 W8 Q8 ⊢
  clear l8 hc8 kd7 D7 D6 W6 Q6
  refine ForP.mk (fun i ρ' H' => E3 fun s c b => C15 (RepH x s c H') (Settled s []) (RowsAt H' rw s.rows) (PairsAt H' (0, 21) pr []) (RepD dl b H') (b ≤ 3 + 3 * i) (c ≤ 9 + 3 * i) (s.tot ≤ 2 * i) (3 ≤ s.rows.length) (s.rows.length ≤ 3 + i) ((∀ r ∈ s.rows, r.2.length ≤ 2)) (lk ρ' "heap" = some (.ref x.h)) (lk ρ' "rows" = some (.ref rw)) (lk ρ' "pairs" = some (.ref pr)) (lk ρ' "dial" = some (.ref dl))) (⟨s, c, 3, R8, S, W8, Q8, D8, by omega, by omega, by omega, by omega, by omega, hk3, k1, k2, k3, k4⟩) (fun i ρ' H' _ => trivial) ?_ ?_
  · clear k1 k2 k3 k4 R8 S W8 Q8 D8 R hc hto hr3 hk3 s c
    rintro i ρ' H' hi ⟨s, c, b, R, S, W, Q, D, hb, hc, hto, hr3, hr7, hk3, k1, k2, k3, k4⟩ v H₂ hv hle _ KQ hKQ
    have hi4 : i < 4 := by have : i < 2 + t0 := hi; omega
    replace R := R.le hle
    replace W := W.k0 (K0.of hle)
    replace Q := Q.k0 rfl (K0.of hle)
    replace D := D.le hle
    clear hle
    refine AT.name ?_ rfl (.inl rfl)
    refine EXS.cons ?_
    refine EX.assignN ?_ rfl (.inl rfl) rfl
    walk_at "ev"
    walk_at "ev"
    walk_at "ev"
    refine EV.global gl_law_turn ?_ rfl rfl rfl (by decide)
    refine ⟨ok_444, ?_⟩
    walk_at "go"
    refine t_turn (m := 2) D (by omega) (by decide) fun t1 H9 ht1 D9 kd9 => ?_
    refine BO.add ?_
    replace R := R.kd kd9
    replace W := W.kd kd9
    replace Q := Q.kd kd9
    clear kd9 D
    obtain ⟨ch, hch, hop⟩ := fg_pick ht1
    refine EXS.cons ?_
    refine EX.assignN ?_ rfl (.inl rfl) rfl
    walk_at "go"
    refine BO.sub ?_
    rw [show (1 : Int) + (t1 : Int) - 1 = (t1 : Int) by omega]
    refine SB.str (k := t1) (c := ch) (by omega) hch rfl ?_
    walk_at "go"
    intro t10 ht10
    have l10 := le_upd (o := .tup [.str ⟨#[ch]⟩]) ht10
    have u10 := upd_self H9 t10 (.tup [.str ⟨#[ch]⟩])
    replace R := R.le l10
    replace W := W.k0 (K0.of l10)
    replace Q := Q.k0 rfl (K0.of l10)
    replace D9 := D9.le l10
    generalize upd H9 t10 (.tup [.str ⟨#[ch]⟩]) = H10 at R W Q D9 u10 ⊢
    clear l10 ht10
    walk_at "ev"
    walk_at "bi"
    refine EVL.one ?_
    refine EV.comp (0, 10) [("dial", .ref dl), ("rows", .ref rw)] ⟨fun _ => rfl, rfl, rfl, by decide, by decide, by decide⟩ ⟨by walk_at "lk", .inl rfl, .inl rfl, rfl, by walk_at "lk", .inl rfl, .inl rfl, rfl, trivial⟩ ?_
    refine IE.range ?_
    walk_at "ev"
    walk_at "bi"
    walk_at "go"
    rw [show (1 : Int) + (t1 : Int) = ((1 + t1 : Nat) : Int) by omega]
    refine CL.range fun c11 hc11 => ?_
    refine ⟨c11, 1 + t1, rfl, upd_self .., by omega, ?_⟩
    have l11 := le_upd (o := .rng 0 (1 + t1 : Nat)) hc11
    replace R := R.le l11
    replace W := W.k0 (K0.of l11)
    replace Q := Q.k0 rfl (K0.of l11)
    replace D9 := D9.le l11
    replace u10 := l11 _ _ u10
    generalize upd H10 c11 (.rng 0 (1 + t1 : Nat)) = H11 at R W Q D9 u10 ⊢
    clear l11 hc11
    refine CompOk.inv (fun m ys H' => ∃ ks b', ys = nts ks ∧ ks.length = m ∧ (∀ k ∈ ks, k < s.rows.length) ∧ RepD dl b' H' ∧ b' ≤ b + 1 + m ∧ KD H11 H') ⟨[], b + 1, rfl, rfl, by simp, D9, Nat.le_refl _, KD.refl _⟩ (by show 1 + t1 ≤ _; omega) (fun m ys H' _ => trivial) rfl rfl ?_ ?_
    · rintro m ys H' v H₂ hm' ⟨ks, b', rfl, hkl, hkk, D', hb', kd'⟩ hv hle C
      have hm2 : m < 1 + t1 := hm'
      obtain ⟨refs, w1, w2⟩ := W
      have hrn : refs.length = s.rows.length := by rw [w2.1, List.length_map]
      walk_at "ev"
      refine EV.global gl_law_turn ?_ rfl rfl rfl (by decide)
      refine ⟨ok_444, ?_⟩
      walk_at "go"
      walk_at "bi"
      walk_at "go"
      refine CL.lenList (hle _ _ (kd' _ _ w1 (by walk_at "tg"))) (by rw [List.length_map]; omega) ?_
      walk_at "go"
      rw [List.length_map, hrn]
      refine t_turn (m := s.rows.length) (D'.le hle) (by omega) (by omega) fun t2 H3 ht2 D3 kd3 => ?_
      refine ⟨ks ++ [t2], b' + 1, by rw [nts_append]; rfl, by rw [List.length_append, hkl]; rfl, fun k hk => ?_, D3, by omega, (kd'.trans (KD.of hle)).trans kd3⟩
      rcases List.mem_append.mp hk with z | z
      · exact hkk k z
      · rw [List.mem_singleton.mp z]; exact ht2
    rintro ys H' ⟨ks, b', rfl, hkl, hkk, D12, hb', kd'⟩ a12 ha12
    have hkl2 : ks.length = 1 + t1 := hkl
    have hb2 : b' ≤ b + 1 + (1 + t1) := hb'
    replace R := (R.kd kd').le (le_upd (o := .lst (0, 10) (nts ks)) ha12)
    replace W := (W.kd kd').k0 (K0.of (le_upd (o := .lst (0, 10) (nts ks)) ha12))
    replace Q := (Q.kd kd').k0 rfl (K0.of (le_upd (o := .lst (0, 10) (nts ks)) ha12))
    replace D12 := D12.le (le_upd (o := .lst (0, 10) (nts ks)) ha12)
    replace u10 := upd_fr (o' := .lst (0, 10) (nts ks)) ha12 (kd' _ _ u10 (by walk_at "tg"))
    have u12 := upd_self H' a12 (.lst (0, 10) (nts ks))
    generalize upd H' a12 (.lst (0, 10) (nts ks)) = H12 at R W Q D12 u10 u12 ⊢
    clear kd' ha12 D9
    refine EVL.nil ?_
    refine CL.tupleOf u12 (by rw [nts_len]; omega) fun c13 hc13 => ?_
    refine BO.addTup (upd_fr hc13 u10) (upd_self ..) (by simp [nts_len]; omega) fun nd H13 hl13 hnd => ?_
    have l13 := (le_upd (o := .tup (nts ks)) hc13).trans hl13
    replace R := R.le l13
    replace W := W.k0 (K0.of l13)
    replace Q := Q.k0 rfl (K0.of l13)
    replace D12 := D12.le l13
    clear l13 hl13 hc13 u10 u12
    have hnd' : H13 nd = some (.tup (.str ⟨#[ch]⟩ :: nts ks)) := hnd
    refine EXS.cons ?_
    refine EX.ifs ?_
    refine TS.cmp ?_ rfl
    walk_at "go"
    refine GM.inst R.inst mth_Heap_add rfl ⟨ok_336, ?_⟩
    walk_at "go"
    refine SB.tup (k := 0) hnd' (by decide) rfl rfl ?_
    walk_at "go"
    refine EP.some ?_
    walk_at "go"
    refine EP.none ?_
    refine SL.tupFrom (n := 1) hnd' (by decide) (by simp) (by simp [nts_len]; omega) fun t14 ht14 => ?_
    refine EVL.nil ?_
    refine t_add (op := ⟨#[ch]⟩) (ks := ks) (R.le (le_upd ht14)) S (by omega) hop (.inl (upd_self ..)) hkk (by omega) (by omega) (by omega) fun n H15 R15 k15 hn => ?_
    have kk := (K0.of (le_upd (o := .tup ((V.str ⟨#[ch]⟩ :: nts ks).drop 1)) ht14)).trans k15
    replace W := W.k0 kk
    replace Q := Q.k0 rfl kk
    replace D12 := D12.k0 kk
    have hnd15 := kk _ _ hnd' rfl
    have S15 := S.add (r := (⟨#[ch]⟩, ks)) hkk
    have T15 := add_tot (r := (⟨#[ch]⟩, ks)) S hkk
    have T15' : (s.add (⟨#[ch]⟩, ks)).tot ≤ s.tot + 2 := by have : ((⟨#[ch]⟩, ks) : Row).2.length = ks.length := rfl; omega
    have erow := add_layR s (⟨#[ch]⟩, ks)
    have hkids := layR_kids2 (rows := s.rows) (r := (⟨#[ch]⟩, ks)) hk3 (by show ks.length ≤ 2; omega)
    obtain ⟨refs, w1, w2⟩ := W
    have hrn : refs.length = s.rows.length := by rw [w2.1, List.length_map]
    walk_at "ev"
    walk_at "bi"
    walk_at "go"
    refine CL.lenList w1 (by rw [List.length_map]; omega) ?_
    refine CO.eqInt (TR.bool ?_)
    rw [List.length_map, hrn]
    by_cases hm : ((⟨#[ch]⟩, ks) : Row) ∈ s.rows
    · have el : layR s.rows (⟨#[ch]⟩, ks) = s.rows := if_pos hm
      rw [el] at erow
      rw [erow] at hn
      have hnl := (List.getElem?_eq_some_iff.mp hn).1
      rw [show (((n : Nat) : Int) == ((s.rows.length : Nat) : Int)) = false by rw [beq_eq_false_iff_ne]; omega, if_neg (by decide)]
      refine EXS.nil ?_
      refine EXS.nil ?_
      refine hKQ _ _ _ ?_
      exact ⟨_, _, b', R15, S15, by rw [erow]; exact ⟨refs, w1, w2⟩, Q, D12, by omega, by omega, by omega, by rw [erow]; omega, by rw [erow]; omega, by rw [erow]; exact hk3, by walk_at "lk", by walk_at "lk", by walk_at "lk", by walk_at "lk"⟩
    · have el : layR s.rows (⟨#[ch]⟩, ks) = s.rows ++ [(⟨#[ch]⟩, ks)] := if_neg hm
      have hnn : n = s.rows.length := by
        have hnd2 := S15.1.nodup
        rw [erow, el] at hn hnd2
        have := (List.getElem?_eq_some_iff.mp hn).1
        exact (List.getElem?_inj this hnd2).mp (by rw [hn]; simp)
      rw [el] at erow hkids
      rw [hnn, beq_self_eq_true, if_pos rfl]
      refine EXS.cons ?_
      refine EX.expr ?_ rfl rfl
      walk_at "go"
      refine GM.list w1 PySem.F.slot_list_append PySem.F.type_list_append ⟨trivial, EVL.one ?_⟩
      walk_at "go"
      refine CL.append w1 (by rw [List.length_map]; omega) ?_
      refine ⟨(by intro a h; cases h), ?_⟩
      have up : KR H15 (upd H15 rw (.lst (0, 20) (refs.map V.ref ++ [.ref nd]))) := fun a o h hne => upd_old h w1 hne
      refine EXS.nil ?_
      refine EXS.nil ?_
      refine hKQ _ _ _ ?_
      refine ⟨_, _, b', R15.kr up, S15, ?_, Q.kr up, D12.kr up, by omega, by omega, by omega, by rw [erow, List.length_append]; omega, by rw [erow, List.length_append]; simp; omega, by rw [erow]; exact hkids, by walk_at "lk", by walk_at "lk", by walk_at "lk", by walk_at "lk"⟩
      rw [erow]
      refine ⟨refs ++ [nd], by rw [List.map_append]; exact upd_self .., ?_⟩
      rw [List.map_append]
      refine (w2.keep fun a o h q => up a o h (by rw [q]; simp)).snoc (up _ _ (by rw [keyV]; exact hnd15) (by walk_at "tg"))
  clear k1 k2 k3 k4 R8 S W8 Q8 D8 R hc hto hr3 hk3 s c
  rintro ρ16 H16 ⟨s, c, b, R, S, W, Q, D, hb, hc, hto, hr3, hr7, hk3, k1, k2, k3, k4⟩
  have hn4 : (rngShp (2 + t0)).n ≤ 4 := by show 2 + t0 ≤ 4; omega
  have hb' : b ≤ 15 := by omega
  have hc' : c ≤ 21 := by omega
  have hto' : s.tot ≤ 8 := by omega
  have hr7' : s.rows.length ≤ 7 := by omega
  clear hb hc hto hr7 hn4
  refine EXS.cons ?_
  refine EX.for ?_ (fun _ => rfl)
  refine IE.range ?_
  walk_at "ev"
  walk_at "bi"
  refine EVL.one ?_
  walk_at "ev"
  refine EV.global gl_law_turn ?_ rfl rfl rfl (by decide)
  refine ⟨ok_444, ?_⟩
  walk_at "go"
  refine t_turn (m := 3) D (by omega) (by decide) fun t2 H17 ht2 D17 kd17 => ?_
  refine EVL.nil ?_
  refine CL.range fun c18 hc18 => ?_
  refine ⟨c18, t2, rfl, upd_self .., by omega, ?_⟩
  have l18 := le_upd (o := .rng 0 (t2 : Nat)) hc18
  replace R := (R.kd kd17).le l18
  replace D17 := D17.le l18
  replace W := (W.kd kd17).k0 (K0.of l18)
  replace Q := (Q.kd kd17).k0 rfl (K0.of l18)
  generalize upd H17 c18 (.rng 0 (t2 : Nat)) = H18 at R D17 W Q ⊢
  clear l18 hc18 kd17 D
  refine ForP.mk (fun i ρ' H' => E4 fun s' c' b' prs => C17 (RepH x s' c' H') (Inv s' prs []) (Told s' prs) (s'.rows = s.rows) (RowsAt H' rw s.rows) (PairsAt H' (0, 21) pr prs) (prs.length = i) ((∀ z ∈ prs, z.1 < s.rows.length ∧ z.2 < s.rows.length)) (RepD dl b' H') (b' ≤ 16 + 2 * i) (c' ≤ 21 + 2 * i) (s'.tot = s.tot) (s'.waiting.length ≤ 8 * i) (lk ρ' "heap" = some (.ref x.h)) (lk ρ' "rows" = some (.ref rw)) (lk ρ' "pairs" = some (.ref pr)) (lk ρ' "dial" = some (.ref dl))) (⟨s, c, b + 1, [], R, S.1, S.2.1, rfl, W, Q, rfl, by simp, D17, by omega, by omega, rfl, by rw [S.2.2]; exact Nat.zero_le _, k1, k2, k3, k4⟩) (fun i ρ' H' _ => trivial) ?_ ?_
  · clear k1 k2 k3 k4 R W Q D17 hc' hb'
    rintro i ρ' H' hi ⟨s', c', b', prs, R, I, T, er, W, Q, hpl, hpb, D, hb, hc, het, hwt, k1, k2, k3, k4⟩ v H₂ hv hle _ KQ hKQ
    have hi4 : i < 2 := by have : i < t2 := hi; omega
    replace R := R.le hle
    replace W := W.k0 (K0.of hle)
    replace Q := Q.k0 rfl (K0.of hle)
    replace D := D.le hle
    clear hle
    refine AT.name ?_ rfl (.inl rfl)
    refine EXS.cons ?_
    refine EX.assignN ?_ rfl (.inl rfl) rfl
    walk_at "ev"
    refine EV.global gl_law_turn ?_ rfl rfl rfl (by decide)
    refine ⟨ok_444, ?_⟩
    obtain ⟨refs, w1, hrn⟩ := W.len
    walk_at "go"
    walk_at "bi"
    walk_at "go"
    refine CL.lenList w1 (by rw [List.length_map]; omega) ?_
    walk_at "go"
    rw [List.length_map, hrn]
    refine t_turn (m := s.rows.length) D (by omega) (by omega) fun one H3 hone D3 kd3 => ?_
    replace R := R.kd kd3
    replace W := W.kd kd3
    replace Q := Q.kd kd3
    clear kd3 D w1 hrn
    obtain ⟨refs, w1, hrn⟩ := W.len
    obtain ⟨prefs, q1, q2⟩ := Q
    refine EXS.cons ?_
    refine EX.expr ?_ rfl rfl
    walk_at "go"
    refine GM.list q1 PySem.F.slot_list_append PySem.F.type_list_append ⟨trivial, EVL.one ?_⟩
    walk_at "go"
    refine EV.global gl_law_turn ?_ rfl rfl rfl (by decide)
    refine ⟨ok_444, ?_⟩
    walk_at "go"
    walk_at "bi"
    walk_at "go"
    refine CL.lenList w1 (by rw [List.length_map]; omega) ?_
    walk_at "go"
    rw [List.length_map, hrn]
    refine t_turn (m := s.rows.length) D3 (by omega) (by omega) fun two H4 htwo D4 kd4 => ?_
    replace R := R.kd kd4
    replace W := W.kd kd4
    replace q1 := kd4 _ _ q1 (by walk_at "tg")
    replace q2 := q2.keep fun a o h w => kd4 a o h (by rw [w]; simp)
    clear kd4 D3 w1 hrn
    walk_at "go"
    intro tp htp
    refine EVL.nil ?_
    have lp := le_upd (o := .tup [.int (one : Nat), .int (two : Nat)]) htp
    have up := upd_self H4 tp (.tup [.int (one : Nat), .int (two : Nat)])
    replace R := R.le lp
    replace W := W.k0 (K0.of lp)
    replace D4 := D4.le lp
    replace q1 := lp _ _ q1
    replace q2 := q2.keep fun a o h w => lp a o h
    generalize upd H4 tp (.tup [.int (one : Nat), .int (two : Nat)]) = H5' at R W D4 q1 q2 up ⊢
    clear lp htp
    refine CL.append q1 (by rw [List.length_map, q2.1]; omega) ?_
    refine ⟨(by intro a h; cases h), ?_⟩
    have kp : KP H5' (upd H5' pr (.lst (0, 21) (prefs.map V.ref ++ [.ref tp]))) := fun a o h hne => upd_old h q1 hne
    have q3 := upd_self H5' pr (.lst (0, 21) (prefs.map V.ref ++ [.ref tp]))
    replace q2 := q2.keep fun a o h w => kp a o h (by rw [w]; simp)
    replace up := kp _ _ up (by walk_at "tg")
    replace R := R.kp kp
    replace W := W.kp kp
    replace D4 := D4.kp kp
    generalize upd H5' pr (.lst (0, 21) (prefs.map V.ref ++ [.ref tp])) = H6' at R W D4 q2 q3 up ⊢
    clear kp q1
    have Q' : PairsAt H6' (0, 21) pr (prs ++ [(one, two)]) := ⟨prefs ++ [tp], by rw [List.map_append]; exact q3, q2.snoc up⟩
    refine EXS.cons ?_
    refine EX.expr ?_ rfl rfl
    walk_at "go"
    refine GM.inst R.inst mth_Heap_merge rfl ⟨ok_369, ?_⟩
    walk_at "go"
    refine UO.neg ?_
    refine SB.listLast q3 rfl ?_
    walk_at "go"
    refine SB.tup (k := 0) up (by decide) rfl rfl ?_
    walk_at "go"
    refine UO.neg ?_
    refine SB.listLast q3 rfl ?_
    walk_at "go"
    refine SB.tup (k := 1) up (by decide) rfl rfl ?_
    walk_at "go"
    intro tt htt
    refine EVL.nil ?_
    have I' : Inv s' (prs ++ [(one, two)]) [] := I.more fun p hp => List.mem_append_left _ hp
    have h1' : one < s'.rows.length := by rw [er]; exact hone
    have h2' : two < s'.rows.length := by rw [er]; exact htwo
    refine t_hmerge (R.le (le_upd htt)) I' (by rw [er]; omega) h1' h2' (by omega) (by omega) (by omega) fun H7' R7 k7 => ?_
    refine ⟨(by intro a h; cases h), ?_⟩
    refine EXS.nil ?_
    refine hKQ _ _ _ ?_
    obtain ⟨I2, T2, he2⟩ := I'.unite' T h1' h2' fun g hg => hg.1 (one, two) (by simp)
    obtain ⟨e1, e2, e3⟩ := unite_tot I' h1' h2'
    have kk := (K0.of (le_upd (o := .tup [.str "told", .str "t"]) htt)).trans k7
    refine ⟨_, _, b' + 1 + 1, prs ++ [(one, two)], R7, I2, T2.snoc he2, e2.trans er, W.k0 kk, Q'.k0 rfl kk, by rw [List.length_append, hpl]; rfl, fun z hz => ?_, D4.k0 kk, by omega, by omega, e1.trans het, by omega, by walk_at "lk", by walk_at "lk", by walk_at "lk", by walk_at "lk"⟩
    rcases List.mem_append.mp hz with w | w
    · exact hpb z w
    · rw [List.mem_singleton.mp w]; exact ⟨hone, htwo⟩
  clear k1 k2 k3 k4 R W Q D17 hc' hb'
  rintro ρ19 H19 ⟨s', c', b', prs, R, I, T, er, W, Q, hpl, hpb, D, hb, hc, het, hwt, k1, k2, k3, k4⟩
  have hn2 : (rngShp t2).n ≤ 2 := by show t2 ≤ 2; omega
  have hpz : prs.length ≤ 10 := by omega
  have hphi : s'.phi ≤ 72 := by
    have h1 := phi_le s'
    have h2 : s'.rows.length * s'.tot ≤ 7 * 8 := Nat.mul_le_mul (by rw [er]; omega) (by omega)
    omega
  refine EXS.cons ?_
  refine EX.expr ?_ rfl rfl
  walk_at "go"
  refine GM.inst R.inst mth_Heap_settle rfl ⟨ok_383, ?_⟩
  walk_at "go"
  refine t_settle R I T (by rw [er]; omega) (by rw [er]; exact hk3) (by omega) (by omega) fun s2 c2 H20 R20 k20 S2 er2 et2 hc2 => ?_
  refine ⟨(by intro a h; cases h), ?_⟩
  have er3 := er2.trans er
  replace W := W.k0 k20
  replace Q := Q.k0 rfl k20
  replace D := D.k0 k20
  have hr7 : s2.rows.length ≤ 7 := by rw [er3]; omega
  have hr3' : 3 ≤ s2.rows.length := by rw [er3]; omega
  have hk2 : ∀ r ∈ s2.rows, r.2.length ≤ 2 := by rw [er3]; exact hk3
  have hto2 : s2.tot ≤ 8 := by omega
  have hc200 : c2 ≤ 200 := by omega
  have hb30 : b' ≤ 30 := by omega
  rw [← er3] at W hpb
  clear R I T k20 er er2 er3 et2 hc2 het hwt hphi hn2 hb hc hr3 hr7' hk3 hto' S hpl
  refine EXS.cons ?_
  refine EX.assignSw (names := ["patterns", "placer"]) ?_ rfl rfl rfl
  refine EV.tuple (EVL.one ?_) rfl (by decide)
  refine EV.list (0, 23) (EVL.one ?_) rfl (by decide)
  walk_at "ev"
  refine EV.global gl_law_pattern ?_ rfl rfl rfl (by decide)
  refine ⟨ok_456, ?_⟩
  walk_at "go"
  refine t_pattern 2 _ (by omega) H20 b' _ D (by omega) fun p pa H21 pok pd hpa D21 kd21 => ?_
  refine EVL.one ?_
  walk_at "ev"
  refine EV.global gl_law_pattern ?_ rfl rfl rfl (by decide)
  refine ⟨ok_456, ?_⟩
  walk_at "go"
  refine t_pattern 2 _ (by omega) H21 _ _ D21 (by omega) fun q pb H22 qok qd hqb D22 kd22 => ?_
  refine EVL.nil ?_
  intro pt hpt
  have lpt := le_upd (o := .lst (0, 23) [.ref pa, .ref pb]) hpt
  have upt := upd_self H22 pt (.lst (0, 23) [.ref pa, .ref pb])
  have kd := kd21.trans (kd22.trans (KD.of lpt))
  replace R20 := R20.kd kd
  replace W := W.kd kd
  replace Q := Q.kd kd
  replace hpa := (hpa.kd kd22).le lpt
  replace hqb := hqb.le lpt
  replace D22 := D22.le lpt
  generalize upd H22 pt (.lst (0, 23) [.ref pa, .ref pb]) = H23 at R20 W Q hpa hqb D22 upt ⊢
  clear lpt hpt kd kd21 kd22 D21 D
  refine EVL.one ?_
  walk_at "ev"
  refine EV.global gl_Placer ?_ rfl rfl rfl (by decide)
  refine ⟨ok_219, ?_⟩
  walk_at "go"
  refine CC.cl (CC.cls cls_Placer.1 cls_Placer.2.1 cls_Placer.2.2 fun pl hpl => ?_)
  refine t_plinit (upd_self ..) ⟨rfl, ?_⟩
  have lpl : Le H23 (upd (upd H23 pl (.inst 219 [])) pl (.inst 219 [("heap", .ref x.h)])) := le_updn (le_upd hpl) hpl
  have hplA : PlAt (upd (upd H23 pl (.inst 219 [])) pl (.inst 219 [("heap", .ref x.h)])) pl x.h := upd_self ..
  replace R20 := R20.le lpl
  replace W := W.k0 (K0.of lpl)
  replace Q := Q.k0 rfl (K0.of lpl)
  replace hpa := hpa.le lpl
  replace hqb := hqb.le lpl
  replace D22 := D22.le lpl
  replace upt := lpl _ _ upt
  generalize upd (upd H23 pl (.inst 219 [])) pl (.inst 219 [("heap", .ref x.h)]) = H24 at R20 W Q hpa hqb D22 upt hplA ⊢
  clear lpl hpl
  refine EVL.nil ?_
  intro t25 ht25
  refine ⟨[.ref pt, .ref pl], ⟨t25, rfl, .inl (upd_self ..)⟩, rfl, (by intro x hx; rcases List.mem_cons.mp hx with rfl | hx; exact .inl rfl; rcases List.mem_cons.mp hx with rfl | hx; exact .inl rfl; cases hx), ?_⟩
  have l25 := le_upd (o := .tup [.ref pt, .ref pl]) ht25
  replace R20 := R20.le l25
  replace W := W.k0 (K0.of l25)
  replace Q := Q.k0 rfl (K0.of l25)
  replace hpa := hpa.le l25
  replace hqb := hqb.le l25
  replace D22 := D22.le l25
  replace upt := l25 _ _ upt
  replace hplA : PlAt (upd H24 t25 (.tup [.ref pt, .ref pl])) pl x.h := l25 _ _ hplA
  generalize upd H24 t25 (.tup [.ref pt, .ref pl]) = H25 at R20 W Q hpa hqb D22 upt hplA ⊢
  clear l25 ht25
  refine EXS.cons ?_
  refine EX.assignN ?_ rfl (.inl rfl) rfl
  refine EV.dict2 (0, 12) (by decide) ?_
  obtain ⟨refs, w1, hrn⟩ := W.len
  walk_at "ev"
  refine EV.global gl_law_turn ?_ rfl rfl rfl (by decide)
  refine ⟨ok_444, ?_⟩
  walk_at "go"
  walk_at "bi"
  walk_at "go"
  refine CL.lenList w1 (by rw [List.length_map]; omega) ?_
  walk_at "go"
  rw [List.length_map, hrn]
  refine t_turn (m := s2.rows.length) D22 (by omega) (by omega) fun i H26 hi D26 kd26 => ?_
  replace w1 := kd26 _ _ w1 (by walk_at "tg")
  walk_at "ev"
  refine EV.global gl_law_turn ?_ rfl rfl rfl (by decide)
  refine ⟨ok_444, ?_⟩
  walk_at "go"
  walk_at "bi"
  walk_at "go"
  refine CL.lenList w1 (by rw [List.length_map]; omega) ?_
  walk_at "go"
  rw [List.length_map, hrn]
  refine t_turn (m := s2.rows.length) D26 (by omega) (by omega) fun j H27 hj D27 kd27 => ?_
  intro tb htb
  have ltb := le_upd (o := .dS (0, 12) (fun z => if z = ("?y" : Str) then some (V.int (j : Int)) else if z = ("?x" : Str) then some (V.int (i : Int)) else none) 2) htb
  have hT := tabAt_made (upd_self H27 tb (.dS (0, 12) (fun z => if z = ("?y" : Str) then some (V.int (j : Int)) else if z = ("?x" : Str) then some (V.int (i : Int)) else none) 2))
  have kd := kd26.trans (kd27.trans (KD.of ltb))
  replace R20 := R20.kd kd
  replace W := W.kd kd
  replace Q := Q.kd kd
  replace hpa := hpa.kd kd
  replace hqb := hqb.kd kd
  replace upt := kd _ _ upt (by walk_at "tg")
  replace hplA := kd _ _ hplA (by walk_at "tg")
  generalize upd H27 tb (.dS (0, 12) (fun z => if z = ("?y" : Str) then some (V.int (j : Int)) else if z = ("?x" : Str) then some (V.int (i : Int)) else none) 2) = H28 at R20 W Q hpa hqb upt hplA hT ⊢
  clear ltb htb kd kd26 kd27 D26 D27 D22 w1 hrn
  have hpat : ∀ (H' : MH), PatAt H' p pa → PatAt H' q pb → ∀ (m : Nat) v, ([V.ref pa, V.ref pb] : List V)[m]? = some v → ∃ b r, v = .ref b ∧ PatAt H' r b ∧ r.depth ≤ 2 ∧ r.ok ∧ m < 2 := fun H' hpa hqb m v hv => by
    match m with
    | 0 => cases hv; exact ⟨pa, p, rfl, hpa, pd, pok, by omega⟩
    | 1 => cases hv; exact ⟨pb, q, rfl, hqb, qd, qok, by omega⟩
    | m + 2 => cases hv
  refine EXS.cons ?_
  refine EX.for ?_ (fun _ => rfl)
  refine IE.list ?_
  walk_at "ev"
  refine ⟨_, _, _, rfl, upt, ?_⟩
  refine ForP.mk (fun m ρ' H' => E2 fun s' c' => C20 (RepH x s' c' H') (Settled s' prs) (RowsAt H' rw s'.rows) (s2.rows.length ≤ s'.rows.length) (s'.rows.length ≤ 7 + 7 * m) ((∀ r ∈ s'.rows, r.2.length ≤ 2)) (c' ≤ 200 + 21 * m) (s'.tot ≤ 8 + 14 * m) (PairsAt H' (0, 21) pr prs) (PlAt H' pl x.h) (PatAt H' p pa) (PatAt H' q pb) (TabAt H' tb i j) (H' pt = some (.lst (0, 23) [.ref pa, .ref pb])) (lk ρ' "heap" = some (.ref x.h)) (lk ρ' "placer" = some (.ref pl)) (lk ρ' "rows" = some (.ref rw)) (lk ρ' "pairs" = some (.ref pr)) (lk ρ' "patterns" = some (.ref pt)) (lk ρ' "table" = some (.ref tb))) (⟨s2, c2, R20, S2, W, Nat.le_refl _, by omega, hk2, by omega, by omega, Q, hplA, hpa, hqb, hT, upt, by walk_at "lk", by walk_at "lk", by walk_at "lk", by walk_at "lk", by walk_at "lk", by walk_at "lk"⟩) (by rintro m ρ' H' ⟨s', c', _, _, _, _, _, _, _, _, _, _, _, _, _, z, _⟩; exact ⟨_, z⟩) ?_ ?_
  · clear R20 W Q hplA hpa hqb hT upt S2 hk2 hc200 hto2 k1 k2 k3 k4
    rintro m ρ' H' hm ⟨s', c', R, S, W, hge, hle7, hk2, hc, hto, Q, hplA, hpa, hqb, hT, upt, k1, k2, k3, k4, k5, k6⟩ v H₂ hv hle _ KQ hKQ
    replace R := R.le hle
    replace W := W.k0 (K0.of hle)
    replace Q := Q.k0 rfl (K0.of hle)
    replace hpa := hpa.le hle
    replace hqb := hqb.le hle
    replace hT := hT.k0 (K0.of hle)
    replace upt := hle _ _ upt
    replace hplA : PlAt H₂ pl x.h := hle _ _ hplA
    clear hle
    obtain ⟨b, r, rfl, hrb, hrd, hrok, hm2⟩ := hpat H₂ hpa hqb m v hv
    have hnod := Pat.nodes_le r
    have hpow : 2 ^ (r.depth + 1) ≤ 2 ^ 3 := Nat.pow_le_pow_right (by decide) (by omega)
    have hn7 : r.nodes ≤ 7 := by omega
    clear hnod hpow
    refine AT.name ?_ rfl (.inl rfl)
    refine EXS.cons ?_
    refine EX.ifs ?_
    refine TS.not ?_
    refine TS.plain ?_ rfl
    walk_at "ev"
    refine EV.global gl_law_is_right ?_ rfl rfl rfl (by decide)
    refine ⟨ok_473, ?_⟩
    walk_at "go"
    refine t_isright S (by omega) hk2 (by omega) (by omega) pd qd pok qok hpz (fun z hz => by have := hpb z hz; omega) R hplA W Q upt hpa hqb hT fun H3 l3 => ?_
    refine TR.bool ?_
    rw [if_neg (by decide)]
    replace R := R.le l3
    replace W := W.k0 (K0.of l3)
    replace Q := Q.k0 rfl (K0.of l3)
    replace hpa := hpa.le l3
    replace hqb := hqb.le l3
    replace hrb := hrb.le l3
    replace hT := hT.k0 (K0.of l3)
    replace upt := l3 _ _ upt
    replace hplA : PlAt H3 pl x.h := l3 _ _ hplA
    clear l3
    refine EXS.nil ?_
    refine EXS.cons ?_
    refine EX.assignN ?_ rfl (.inl rfl) rfl
    walk_at "ev"
    refine EV.global gl_law_laid ?_ rfl rfl rfl (by decide)
    refine ⟨ok_468, ?_⟩
    walk_at "go"
    refine t_laid 2 r hrd hrok _ (by omega) H3 s'.rows b _ W (by omega) hrb hT fun H4 kr W4 => ?_
    replace R := R.kr kr
    replace Q := Q.kr kr
    replace hpa := hpa.kr kr
    replace hqb := hqb.kr kr
    replace hrb := hrb.kr kr
    replace hT := hT.kr kr
    replace upt := kr _ _ upt (by walk_at "tg")
    replace hplA : H4 pl = some (.inst 219 [("heap", .ref x.h)]) := kr _ _ hplA (by walk_at "tg")
    clear kr W
    refine EXS.cons ?_
    refine EX.ifs ?_
    refine TS.cmp ?_ rfl
    walk_at "go"
    refine GM.inst hplA mth_Placer_put rfl ⟨ok_204, ?_⟩
    walk_at "go"
    refine t_put 2 r hrd hrok _ (by omega) H4 s' c' b _ S (by omega) (by omega) (by omega) (by omega) (by omega) R hplA hrb hT fun s3 c3 H5 R5 S5 k5' er5 ec5 et5 => ?_
    walk_at "go"
    refine CO.neInt (TR.bool ?_)
    rw [bne_self_eq_false, if_neg (by decide)]
    have hll := laid_len (tabO i j) r s'.rows
    have hkk := laid_kids2 (tab := tabO i j) r s'.rows hk2
    rw [← er5] at hll hkk W4
    refine EXS.nil ?_
    refine EXS.nil ?_
    refine hKQ _ _ _ ?_
    exact ⟨s3, c3, R5, S5, W4.k0 k5', by omega, by omega, hkk, by omega, by omega, Q.k0 rfl k5', k5' _ _ hplA rfl, hpa.k0 k5', hqb.k0 k5', hT.k0 k5', k5' _ _ upt rfl, by walk_at "lk", by walk_at "lk", by walk_at "lk", by walk_at "lk", by walk_at "lk", by walk_at "lk"⟩
  clear R20 W Q hplA hpa hqb hT upt S2 hk2 hc200 hto2 k1 k2 k3 k4
  rintro ρ30 H30 ⟨s', c', R, S, W, hge, hle7, hk2, hc, hto, Q, hplA, hpa, hqb, hT, upt, k1, k2, k3, k4, k5, k6⟩
  have h21 : s'.rows.length ≤ 21 := hle7
  refine EXS.cons ?_
  refine EX.ret ?_
  walk_at "ev"
  refine EV.global gl_law_is_right ?_ rfl rfl rfl (by decide)
  refine ⟨ok_473, ?_⟩
  walk_at "go"
  refine t_isright S h21 hk2 (by omega) (by omega) pd qd pok qok hpz (fun z hz => by have := hpb z hz; omega) R hplA W Q upt hpa hqb hT fun H3 l3 => ?_
  rfl
theorem t_law' (L fa : Addr) (cd : Value) (sa : Addr) (its : Array Value) (ns : List Int) (hi : IntsAre its.toList ns) (hz : its.size ≤ 100) :
    EXS (DW w mean mg mb (some (sa, its))) (d + 40) (envOfC "law" lawDef.2 L fa cd) [("script", .ref sa)] (fun _ => none) lawDef.1 (fun fv _ _ => fv = .ret (.bool true)) := t_law L fa cd sa its ns hi hz
end
end Mine
namespace Mine
theorem ws_looks : looksOpen PySem.Challenge.rw_rh0007_01.row.prog = true := by
  unfold looksOpen
  repeat' (with_reducible refine look_both ?_ ?_)
  all_goals decide +kernel
theorem ws_law : OpenLaw.wellSaid PySem.Challenge.rw_rh0007_01 = true := by
  unfold OpenLaw.wellSaid OpenRow.wellSaid OpenRow.partSaid
  repeat' (with_reducible refine look_both ?_ ?_)
  all_goals first | (with_reducible exact ws_looks) | decide +kernel
theorem bridge {D : Wd} {d : Nat} {e : Env} {ρ : List (Str × V)} {body : List Stmt} {A : Around} {h₀ : Heap} {m : Str → Option Value} {cs : Led} {s : Shared} {qk : Flow → Shared → Prop} {ek : Value → Shared → Prop}
    (h : EXS D d e ρ (fun _ => none) body fun fv _ _ => fv = .ret (.bool true)) (hA : Amb D A d h₀ e.locals) (hC : CsOk e cs []) (hV : Vr e e.locals m cs ρ) (F : Fr h₀ e.locals s.heap m) (N : News h₀ e.locals s.heap cs)
    (hq : ∀ h' tk', (∀ b o, h₀.get? b = some o → h'.get? b = some o) → qk (.ret (.bool true)) { s with heap := h', toks := tk' }) : wpAny (model D.prog D.w) A (execs body e) qk ek s := by
  refine wpAny_mono (h A h₀ m cs [] s qk hA hC hV F ?_ ?_) (fun _ _ z => z) fun _ _ z => z.elim
  · rw [List.append_nil]
    exact ⟨cs, N, fun p hp => ⟨hp, rfl, fun a C _ => rfl⟩, fun a o ha => nomatch ha⟩
  · intro f m' cs' ρ' H' h' tk' hp hC' hV' F' X'
    cases f with
    | ret v =>
      have hv : er v = .bool true := by injection hp
      rw [er_bool hv]
      exact hq h' tk' F'.keep
    | next => cases hp
    | brk => cases hp
    | cont => cases hp
theorem csok_law {name : Str} {scope : Scope} {L fa : Addr} {cd : Value} {mm : Str → Option Value} {cells : Led} (Y : CellsAre mm (cellsFrom (L + 1) scope.names []) cells) (hnd : ((cellsFrom 0 scope.names []).map (·.1)).Nodup) : CsOk (envOfC name scope L fa cd) cells [] := by
  have ad := cellsFrom_addrs scope.names (L + 1) [] List.nodup_nil (fun c hc => by simp at hc) (L + 1) (fun c hc => by simp at hc) (Nat.le_refl _)
  refine ⟨cellsAre_map Y, ad.1, ?_, (fun p hp => nomatch hp), cellsAre_cell Y⟩
  show ((cellsFrom (L + 1) scope.names []).map (·.1)).Nodup
  rw [cellsFrom_names scope.names (L + 1) 0 [] [] rfl]; exact hnd
theorem amb_law {w : World} {mean : ExcName → Option Value} {mg mb : Str → Option Value} {h : Heap} {l : Addr} {its : Array Value} {e : Env} {L : Addr} (KX : (Mine.hK w.params).In h) (T : Top Mine.vq (looseW Mine.vq []) mean mg mb h) (K : Below callerA h [] h) (hl : h.IsList l its) (he : e.frame = some L) (hk : e.scope.kind = .function) :
    Amb (DW w mean mg mb (some (l, its))) (callerA.deeper e) 40 h L := by
  refine ⟨KX, T, rfl, (by show callerA.depth + 1 + 40 < recursionLimit; decide), (by show callerA.units + 3 + 8 * 40 + 100 < cLine; decide), e, [], callerA, h, K, rfl, he, hk, fun l' its' q => ?_⟩
  cases q; exact hl
theorem lk_one {x y : Str} {u v : V} (h : lk [(y, u)] x = some v) : x = y ∧ v = u := by
  unfold lk at h
  by_cases q : x = y
  · rw [if_pos q] at h; cases h; exact ⟨q, rfl⟩
  · rw [if_neg q] at h; cases h
end Mine
open Mine
theorem PySem.Challenge.cw_rh0007_01_holds : PySem.Challenge.rw_rh0007_01.Holds := by
  w_on
  refine holds_law ws_law fun said => ?_
  refine holds_open (q := vq) (loose := []) (Xt := fun s => xlAt vq [] s && recOk [] s) (XP := XL vq []) (Yf := Hook.obs (kHook hK kAs kAs_eq)) (Ya := Hook.val (kHook hK kAs kAs_eq)) (YP := Hook.says (kHook hK kAs kAs_eq)) (N := 6258) h3e (Hook.of (kHook hK kAs kAs_eq)) (Hook.keeps (kHook hK kAs kAs_eq)) (fun s e => xl_of s (Bool.and_eq_true_iff.mp e).1) XL.keeps (by rfl) (by rfl) (by rfl) (fun s e => recFacts_of (Bool.and_eq_true_iff.mp e).2) (by rfl) (by first | assumption | decide +kernel) (by decide +kernel) ⟨rfl, rfl, rfl, rfl, rfl, by decide +kernel⟩ ?hw ?hc
  case hw => w_witness2
  case hc =>
    intro w s₀ s₁ mg mb G Y fa o pm cd doc dV kV ho hd hcd hD hmg hg args vals as hpre hlay hrd hwl hlo
    have KX := kIn_of Y
    have X := (Ground.X G).1
    have V := (Ground.X G).2
    refine Ground.open G ?_
    intro T B D TE TW
    try (refine guard_noD D (by decide +kernel) ?_; clear D)
    obtain ⟨_, _, M⟩ := bmod_of_top T
    have TA := at_of_top T
    obtain ⟨_, _, he, B0⟩ := based_of_top T rfl hmg ho hd
    have he' : cd = _ := he
    subst he'
    clear he hmg
    wrow_args hpre hlay hrd hwl hlo
    refine enter_call ?_
    w_top on
    try refine codeAny_mono ?_ (fun _ _ g => GoodW.toG g)
    have K0 := below_caller (Top.heap T)
    w_call any ho hd hcd hD T F
    clear hd TA
    k_drop
    (all_goals try k_fold)
    rename_i ns hs hlay0 hL1 hr1 hl2 w6 w5 sa vs w2 hL ra w1 r0 hI hr hc1 hc2 h1 tk1 wa wb left right N0 X0
    have hg0 := ‹_ = #[]›
    have hlen := IntsAre.length hI
    refine' bridge (D := DW _ _ _ _ (some (sa, _))) (d := 0 + 40) (ρ := [("script", .ref sa)]) ?h (amb_law ?a1 ?a2 ?a3 ?a4 rfl rfl) (csok_law ?c1 (by decide +kernel)) ?v ?f ?n ?q
    case a1 => assumption
    case a2 => assumption
    case a3 => assumption
    case a4 => assumption
    case c1 => assumption
    case f => assumption
    case n => assumption
    case v =>
      intro x v hx
      obtain ⟨rfl, rfl⟩ := lk_one hx
      exact ⟨.ref sa, rfl, .inl ⟨rfl, rfl, rfl⟩⟩
    case q =>
      intro h' tk' hk
      show GoodW _ _ _ _ _ _ _
      refine ⟨.inl ⟨.bool true, .bool true, [], rfl, ?_, .bool true, ?_, fun _ => ⟨List.nodup_nil, fun a h => nomatch h⟩⟩, hk, rfl, hg0⟩
      · intro cls
        first | rfl | exact raisesW_false rfl | skip
      · first | rfl | exact postW_of (by wrow_shape) (w_eq_bool (w_res rfl) w_lit) rfl | skip
    case h =>
      exact t_law' _ _ _ _ _ ns hI (by rw [List.size_toArray]; omega)
