import PyProof.Rows.All
import PyProof.CollectIter
import OpenK.KCell
import Wide.FinOn
import OpenK.AllK
import Wide.All
import PySem.Challenge.RW_pq0707_01
set_option Elab.async false
set_option maxRecDepth 100000
set_option genSizeOf false
set_option genInjectivity false
set_option backward.match.sparseCases false
set_option bootstrap.genMatcherCode false
set_option linter.all false
open PySem
section
open PySem PySem.W PyProof.Rows
noncomputable section
namespace Mine.Internal
noncomputable def Y0f (tb : String -> Option Builtin) (p : Program) (w : World) (n₀ : Nat) (ann : Option Value) : Nat -> SharedT -> Thread -> Option SharedT
 | 0, _, _ => none
 | n + 1, s, t => match through t with
  | true => some s
  | false => match stepOk n₀ ann t with
   | false => none
   | true => match stepT (denote tb) p w s t with
    | some (s', t') => Y0f tb p w n₀ ann n s' t'
    | none => none
noncomputable def Y0g (tb : String -> Option Builtin) (p : Program) (w : World) (n₀ : Nat) (ann : Option Value) : Nat -> SharedT -> Thread -> Option SharedT
 | 0, _, _ => none
 | n + 1, s, t => match through t with
  | true => some s
  | false => match PySem.W.Fast.tw6613529449190102663 n₀ ann t with
   | false => none
   | true => match PySem.W.Fast.tw10156331382660048174 (PySem.W.Fast.tw11892475500146522536 tb) p w s t with
    | some (s', t') => Y0g tb p w n₀ ann n s' t'
    | none => none
theorem topRunQ_eq {tb : String -> Option Builtin} {p : Program} {w : World} {n₀ : Nat} {ann : Option Value} : ∀ (n : Nat) (s : SharedT) (t : Thread), Y0g tb p w n₀ ann n s t = Y0f tb p w n₀ ann n s t
 | 0, _, _ => rfl
 | n + 1, s, t => by
  unfold Y0g Y0f
  rw [<- PySem.W.Fast.te6613529449190102663, <- PySem.W.Fast.te10156331382660048174, <- PySem.W.Fast.te11892475500146522536]
  cases through t with
  | true => rfl
  | false =>
   dsimp only
   cases stepOk n₀ ann t with
   | false => rfl
   | true =>
    dsimp only
    cases stepT (denote tb) p w s t with
    | none => rfl
    | some x => exact topRunQ_eq n x.1 x.2
theorem Z8p {tb : String -> Option Builtin} {p : Program} {w : World} {n₀ : Nat} {ann : Option Value} : ∀ (n : Nat) (s : SharedT) (t : Thread) (s' : SharedT), Y0f tb p w n₀ ann n s t = some s' -> topRun tb p w n₀ ann n s.abs t = some s'.abs
 | 0, _, _, _, h => by cases h
 | n + 1, s, t, s', h => by
  unfold Y0f at h
  unfold topRun
  cases ht : through t with
  | true => rw [ht] at h; cases h; rfl
  | false =>
   rw [ht] at h
   dsimp only at h ⊢
   cases hk : stepOk n₀ ann t with
   | false => rw [hk] at h; cases h
   | true =>
    rw [hk] at h
    dsimp only at h ⊢
    cases hs : stepT (denote tb) p w s t with
    | none => rw [hs] at h; cases h
    | some x =>
     rw [hs] at h
     rw [stepT_spec hs]
     exact Z8p n x.1 x.2 s' h
noncomputable def treeGo : List Obj -> Nat -> BT -> Option BT
 | [], _, t => some t
 | o :: l, n, t => match ((t.ins n o).get n).isSome with
  | true => treeGo l (n + 1) (t.ins n o)
  | false => none
noncomputable def bootT (P : Params) : BT := (treeGo (boot_heap P).objs.toList 0 .nil).getD .nil
noncomputable def bootS (P : Params) (os : OsState) : SharedT := ⟨bootT P, 11, (boot_heap P).life, #[], boot_drawn, boot_toks, os⟩
theorem bootS_abs (P : Params) (os : OsState) : (bootS P os).abs = ⟨boot_heap P, #[], boot_drawn, boot_toks, os⟩ := by kernel_rfl
theorem boot_size (P : Params) : (boot_heap P).objs.size = 11 := by kernel_rfl
theorem boot_ns (P : Params) : (boot_heap P).isNs mainGlobals = true := by kernel_rfl
theorem boot_ann (P : Params) : (boot_heap P).nsMap mainGlobals "__annotations__" = some (.ref 6) := by kernel_rfl
noncomputable def looksAt (p q : Program) (loose : List Str) (Xt : Shared -> Bool) {α : Type} (Yf : Shared -> α) (P : Params) (s : Shared) :=
 (staticsOk (importedModules p.main.body) (boot_heap P) s.heap && namesBound p s.heap && gensDone s && laidKept (boot_heap P) s.heap, openSeen q loose (importedModules p.main.body) Xt true s, Yf s)
theorem left_of_tree {p q : Program} {loose : List Str} {Xt : Shared -> Bool} {α : Type} {Yf : Shared -> α} {Ya : World -> α} {N : Nat}
  (e : opening p = plainProg p.main.scope.names) (hN : Nat.ble 600 N = true) (f : ∀ s, fenceModules? p s = some s)
  (run : ∀ (w : World) (os : OsState), (Y0g treeTable p w 11 (some (.ref 6)) N (bootS w.params os) (topStub p)).map (fun s => looksAt p q loose Xt Yf w.params s.abs) = some (true, openGood q loose, Ya w)) :
  LeftO p q loose Xt Yf Ya N true := fun w => by
 obtain ⟨⟨h, gs, d, k, os⟩, e1, e2⟩ := Option.map_eq_some_iff.mp (boot_open e hN f w)
 obtain ⟨rfl, rfl, rfl, rfl⟩ : h = boot_heap w.params /\ gs = #[] /\ d = boot_drawn /\ k = boot_toks := by simpa using e2
 obtain ⟨sT, r1, r2⟩ := Option.map_eq_some_iff.mp (run w os)
 rw [topRunQ_eq] at r1
 have r := Z8p _ _ _ _ r1
 rw [bootS_abs] at r
 unfold looksAt at r2
 obtain ⟨l1, l2, l3⟩ : _ /\ _ /\ _ := by simpa only [Prod.mk.injEq] using r2
 unfold openEnds
 rw [e1]
 show ((topFrom treeTable p w N ⟨boot_heap w.params, #[], boot_drawn, boot_toks, os⟩)).map _ = _
 have t : topFrom treeTable p w N ⟨boot_heap w.params, #[], boot_drawn, boot_toks, os⟩ = some sT.abs := by
  unfold topFrom
  dsimp only
  rw [boot_ns, boot_ann, boot_size, r]
  show (match staticsOk (importedModules p.main.body) (boot_heap w.params) sT.abs.heap && namesBound p sT.abs.heap && gensDone sT.abs && laidKept (boot_heap w.params) sT.abs.heap with
   | true => some sT.abs
   | false => none) = some sT.abs
  rw [l1]
 rw [t]
 exact congrArg some (Prod.ext l2 l3)
end Mine.Internal
end
end
section
open PySem PySem.W PyProof.Rows
noncomputable section
namespace Mine.Internal
noncomputable abbrev kd (P : Params) (s : Str) (t : Tok) (v : Value) : DictEntry := ⟨PyData.keyHash P s, .str s t, v⟩
noncomputable abbrev pw : Program := PySem.Challenge.pw_pq0707_01
noncomputable def Z6p (i : Nat) (j : Option Nat) : Stmt := match j with
 | none => pw.main.body.getD i (.Pass default)
 | some j => match pw.main.body.getD i (.Pass default) with
  | .ClassDef _ _ _ b .. => b.getD j (.Pass default)
  | _ => .Pass default
noncomputable def argsOf : Stmt -> Arguments
 | .FunctionDef _ a .. => a
 | _ => ⟨[], [], none, [], [], none, []⟩
noncomputable def bodyOf : Stmt -> List Stmt
 | .FunctionDef _ _ b .. => b
 | _ => []
noncomputable def scopeOf : Stmt -> Scope
 | .FunctionDef _ _ _ _ _ _ s .. => s
 | _ => default
noncomputable def fnO (i : Nat) (j : Option Nat) (name qual : Str) (dV pm : Value) (cd : Addr) : Obj :=
 ⟨.type "function", none, .func (fnOf name qual (argsOf (Z6p i j)) (bodyOf (Z6p i j)) (scopeOf (Z6p i j)) dV .none .none pm none (.ref cd) .none), #[]⟩
noncomputable def K (P : Params) : Frag := [
 (1, ⟨.type "dict", none, .dict #[kd P "builtins" 162 (.ref 4), kd P "__main__" 163 (.ref 5)] 2, #[]⟩),
 (3, ⟨.type "dict", none, .dict #[kd P "__name__" 165 (.str "law_pq0707_01" 977), kd P "__doc__" 166 (.none), kd P "__package__" 167 (.none), kd P "__loader__" 168 (.builtin "__main__.__loader__#opaque"), kd P "__spec__" 169 (.none), kd P "__annotations__" 170 (.ref 6), kd P "__builtins__" 171 (.ref 4), kd P "__file__" 173 (.str "/claim/cut.py" 172), kd P "__cached__" 174 (.none), kd P "RowsError" 219 (.ref 32), kd P "KindFault" 235 (.ref 45), kd P "ANY" 240 (.ref 49), kd P "BOTTOM" 242 (.ref 50), kd P "named" 250 (.ref 59), kd P "tuple_of" 258 (.ref 67), kd P "union_of" 268 (.ref 74), kd P "parts_of_kind" 276 (.ref 81), kd P "rebuilt_kind" 286 (.ref 88), kd P "substituted" 292 (.ref 93), kd P "free_vars" 298 (.ref 98), kd P "binder_text" 306 (.ref 105), kd P "kind_text" 312 (.ref 110), kd P "MOST_CASES" 316 (.int 64 315), kd P "Side" 383 (.ref 155), kd P "Sides" 485 (.ref 226), kd P "occurrences" 491 (.ref 235), kd P "bound_occurrences" 501 (.ref 242), kd P "is_diagonal" 511 (.ref 249), kd P "left_cases" 517 (.ref 254), kd P "tuple_cases" 523 (.ref 259), kd P "is_empty" 529 (.ref 264), kd P "tail_of" 536 (.ref 271), kd P "TYPE" 541 (.ref 273), kd P "FUNCTION" 544 (.ref 275), kd P "Search" 679 (.ref 364), kd P "narrowed" 690 (.ref 375), kd P "widened" 700 (.ref 382), kd P "has_within" 708 (.ref 389), kd P "tuple_ways" 714 (.ref 394), kd P "is_subtype" 727 (.ref 402), kd P "SIGNED" 735 (.ref 403), kd P "UNSIGNED" 740 (.ref 404), kd P "PLAIN_ERRORS" 745 (.ref 405), kd P "TEXT_ERRORS" 750 (.ref 406), kd P "CALL_ERRORS" 753 (.ref 407), kd P "Decl" 810 (.ref 441), kd P "Kinds" 934 (.ref 528), kd P "nominal" 944 (.ref 540), kd P "start_kinds" 953 (.ref 547), kd P "start_errors" 962 (.ref 554), kd P "start_rows" 976 (.ref 561), kd P "_law_vat" 987 (.ref 568), kd P "_law_tap" 996 (.ref 575), kd P "_law_any" 1002 (.ref 582), kd P "_law_int" 1008 (.ref 589), kd P "_law_refused" 1016 (.ref 596), kd P "_law_params" 1022 (.ref 601), kd P "_law_drawn" 1028 (.ref 606), kd P "_law_super" 1034 (.ref 611), kd P "_law_decl" 1042 (.ref 618), kd P "_law_chain" 1048 (.ref 623), kd P "_law_is_below" 1056 (.ref 630), kd P "_law_not_let_right" 1062 (.ref 635), kd P "_law_applied" 1071 (.ref 642), kd P "_law_row_right" 1077 (.ref 647), kd P "law" 1083 (.ref 652)] 66, #[]⟩),
 (22, ⟨.type "tuple", none, .seq #[.none] 0, #[]⟩),
 (28, ⟨.type "code", none, .fields #[(.str "__init__" 201), (.str "RowsError.__init__" 202), (.str "/claim/cut.py" 203), (.int 4 0), (.int 3 0), (.int 0 0), (.int 0 0), (.int 3 0), (.ref 23), (.bool true), (.int 181 0), (.ref 24), .none, (.ref 25), (.ref 26), (.ref 27), (.int 207 0), (.int 4 0), (.str "/claim/cut.py" 208)], #[]⟩),
 (29, fnO 1 (some 0) "__init__" "RowsError.__init__" (.ref 22) (.str "methodrows.errors" 187) 28),
 (31, ⟨(.type "dict"), none, .dict #[kd P "__module__" 196 (.str "methodrows.errors" 187), kd P "__firstlineno__" 200 (.int 2 199), kd P "__init__" 209 (.ref 29), kd P "__static_attributes__" 212 (.ref 30), kd P "__weakref__" 214 (.ref 33), kd P "__doc__" 215 (.none)] 3, #[]⟩),
 (32, ⟨.type "type", none, .cls { name := "RowsError", bases := [(.type "Exception")], mro := [(.ref 32), (.type "Exception"), (.type "BaseException"), (.type "object")], ns := 31, qualname := "RowsError", hasDict := true, slotNames := [], subclasses := [(.ref 45)], abstract := false, collection := none, hasDel := false }, #[some (.ref 15), none, some (.str "RowsError" 189), some (.str "RowsError" 197), some (.builtin "Exception.__new__"), some (.bool true)]⟩),
 (44, ⟨(.type "dict"), none, .dict #[kd P "__module__" 227 (.str "methodrows.errors" 187), kd P "__firstlineno__" 231 (.int 8 230), kd P "__static_attributes__" 232 (.ref 43), kd P "__doc__" 233 (.none)] 2, #[]⟩),
 (45, ⟨.type "type", none, .cls { name := "KindFault", bases := [(.ref 32)], mro := [(.ref 45), (.ref 32), (.type "Exception"), (.type "BaseException"), (.type "object")], ns := 44, qualname := "KindFault", hasDict := true, slotNames := [], subclasses := [], abstract := false, collection := none, hasDel := false }, #[some (.ref 36), none, some (.str "KindFault" 220), some (.str "KindFault" 228), some (.builtin "Exception.__new__"), some (.bool true)]⟩),
 (48, ⟨.type "tuple", none, .seq #[] 0, #[]⟩),
 (49, ⟨.type "tuple", none, .seq #[(.str "name" 238), (.str "Any" 239), (.ref 48)] 0, #[]⟩),
 (50, ⟨.type "tuple", none, .seq #[(.str "bottom" 241)] 0, #[]⟩),
 (51, ⟨.type "tuple", none, .seq #[] 0, #[]⟩),
 (52, ⟨.type "tuple", none, .seq #[(.ref 51)] 0, #[]⟩),
 (58, ⟨.type "code", none, .fields #[(.str "named" 243), (.str "named" 244), (.str "/claim/cut.py" 245), (.int 13 0), (.int 2 0), (.int 0 0), (.int 0 0), (.int 3 0), (.ref 53), (.bool true), (.int 181 0), (.ref 54), .none, (.ref 55), (.ref 56), (.ref 57), (.int 248 0), (.int 13 0), (.str "/claim/cut.py" 249)], #[]⟩),
 (59, fnO 6 none "named" "named" (.ref 52) (.str "methodrows.kind_terms" 236) 58),
 (60, ⟨.type "tuple", none, .seq #[.none] 0, #[]⟩),
 (66, ⟨.type "code", none, .fields #[(.str "tuple_of" 251), (.str "tuple_of" 252), (.str "/claim/cut.py" 253), (.int 15 0), (.int 2 0), (.int 0 0), (.int 0 0), (.int 3 0), (.ref 61), (.bool true), (.int 181 0), (.ref 62), .none, (.ref 63), (.ref 64), (.ref 65), (.int 256 0), (.int 15 0), (.str "/claim/cut.py" 257)], #[]⟩),
 (67, fnO 7 none "tuple_of" "tuple_of" (.ref 60) (.str "methodrows.kind_terms" 236) 66),
 (73, ⟨.type "code", none, .fields #[(.str "union_of" 259), (.str "union_of" 260), (.str "/claim/cut.py" 261), (.int 17 0), (.int 1 0), (.int 0 0), (.int 0 0), (.int 3 0), (.ref 68), (.bool true), (.int 181 0), (.ref 69), .none, (.ref 70), (.ref 71), (.ref 72), (.int 266 0), (.int 17 0), (.str "/claim/cut.py" 267)], #[]⟩),
 (74, fnO 8 none "union_of" "union_of" .none (.str "methodrows.kind_terms" 236) 73),
 (80, ⟨.type "code", none, .fields #[(.str "parts_of_kind" 269), (.str "parts_of_kind" 270), (.str "/claim/cut.py" 271), (.int 30 0), (.int 1 0), (.int 0 0), (.int 0 0), (.int 3 0), (.ref 75), (.bool true), (.int 181 0), (.ref 76), .none, (.ref 77), (.ref 78), (.ref 79), (.int 274 0), (.int 30 0), (.str "/claim/cut.py" 275)], #[]⟩),
 (81, fnO 9 none "parts_of_kind" "parts_of_kind" .none (.str "methodrows.kind_terms" 236) 80),
 (87, ⟨.type "code", none, .fields #[(.str "rebuilt_kind" 277), (.str "rebuilt_kind" 278), (.str "/claim/cut.py" 279), (.int 41 0), (.int 2 0), (.int 0 0), (.int 0 0), (.int 3 0), (.ref 82), (.bool true), (.int 181 0), (.ref 83), .none, (.ref 84), (.ref 85), (.ref 86), (.int 284 0), (.int 41 0), (.str "/claim/cut.py" 285)], #[]⟩),
 (88, fnO 10 none "rebuilt_kind" "rebuilt_kind" .none (.str "methodrows.kind_terms" 236) 87),
 (92, ⟨.type "code", none, .fields #[(.str "substituted" 287), (.str "substituted" 288), (.str "/claim/cut.py" 289), (.int 53 0), (.int 2 0), (.int 0 0), (.int 0 0), (.int 3 0), (.ref 89), (.bool true), (.int 181 0), (.ref 90), .none, .none, .none, (.ref 91), (.int 290 0), (.int 53 0), (.str "/claim/cut.py" 291)], #[]⟩),
 (93, fnO 11 none "substituted" "substituted" .none (.str "methodrows.kind_terms" 236) 92),
 (97, ⟨.type "code", none, .fields #[(.str "free_vars" 293), (.str "free_vars" 294), (.str "/claim/cut.py" 295), (.int 63 0), (.int 1 0), (.int 0 0), (.int 0 0), (.int 3 0), (.ref 94), (.bool true), (.int 181 0), (.ref 95), .none, .none, .none, (.ref 96), (.int 296 0), (.int 63 0), (.str "/claim/cut.py" 297)], #[]⟩),
 (98, fnO 12 none "free_vars" "free_vars" .none (.str "methodrows.kind_terms" 236) 97),
 (104, ⟨.type "code", none, .fields #[(.str "binder_text" 299), (.str "binder_text" 300), (.str "/claim/cut.py" 301), (.int 76 0), (.int 1 0), (.int 0 0), (.int 0 0), (.int 3 0), (.ref 99), (.bool true), (.int 181 0), (.ref 100), .none, (.ref 101), (.ref 102), (.ref 103), (.int 304 0), (.int 76 0), (.str "/claim/cut.py" 305)], #[]⟩),
 (105, fnO 13 none "binder_text" "binder_text" .none (.str "methodrows.kind_terms" 236) 104),
 (109, ⟨.type "code", none, .fields #[(.str "kind_text" 307), (.str "kind_text" 308), (.str "/claim/cut.py" 309), (.int 79 0), (.int 1 0), (.int 0 0), (.int 0 0), (.int 3 0), (.ref 106), (.bool true), (.int 181 0), (.ref 107), .none, .none, .none, (.ref 108), (.int 310 0), (.int 79 0), (.str "/claim/cut.py" 311)], #[]⟩),
 (110, fnO 14 none "kind_text" "kind_text" .none (.str "methodrows.kind_terms" 236) 109),
 (123, ⟨.type "code", none, .fields #[(.str "__init__" 329), (.str "Side.__init__" 330), (.str "/claim/cut.py" 331), (.int 102 0), (.int 6 0), (.int 0 0), (.int 0 0), (.int 3 0), (.ref 118), (.bool true), (.int 181 0), (.ref 119), .none, (.ref 120), (.ref 121), (.ref 122), (.int 338 0), (.int 102 0), (.str "/claim/cut.py" 339)], #[]⟩),
 (124, fnO 17 (some 0) "__init__" "Side.__init__" .none (.str "methodrows.subtype_sides" 313) 123),
 (130, ⟨.type "code", none, .fields #[(.str "with_lower" 341), (.str "Side.with_lower" 342), (.str "/claim/cut.py" 343), (.int 109 0), (.int 2 0), (.int 0 0), (.int 0 0), (.int 3 0), (.ref 125), (.bool true), (.int 181 0), (.ref 126), .none, (.ref 127), (.ref 128), (.ref 129), (.int 346 0), (.int 109 0), (.str "/claim/cut.py" 347)], #[]⟩),
 (131, fnO 17 (some 1) "with_lower" "Side.with_lower" .none (.str "methodrows.subtype_sides" 313) 130),
 (137, ⟨.type "code", none, .fields #[(.str "with_upper" 349), (.str "Side.with_upper" 350), (.str "/claim/cut.py" 351), (.int 112 0), (.int 2 0), (.int 0 0), (.int 0 0), (.int 3 0), (.ref 132), (.bool true), (.int 181 0), (.ref 133), .none, (.ref 134), (.ref 135), (.ref 136), (.int 354 0), (.int 112 0), (.str "/claim/cut.py" 355)], #[]⟩),
 (138, fnO 17 (some 2) "with_upper" "Side.with_upper" .none (.str "methodrows.subtype_sides" 313) 137),
 (144, ⟨.type "code", none, .fields #[(.str "lower" 357), (.str "Side.lower" 358), (.str "/claim/cut.py" 359), (.int 115 0), (.int 1 0), (.int 0 0), (.int 0 0), (.int 3 0), (.ref 139), (.bool true), (.int 181 0), (.ref 140), .none, (.ref 141), (.ref 142), (.ref 143), (.int 361 0), (.int 115 0), (.str "/claim/cut.py" 362)], #[]⟩),
 (145, fnO 17 (some 3) "lower" "Side.lower" .none (.str "methodrows.subtype_sides" 313) 144),
 (151, ⟨.type "code", none, .fields #[(.str "upper" 364), (.str "Side.upper" 365), (.str "/claim/cut.py" 366), (.int 118 0), (.int 1 0), (.int 0 0), (.int 0 0), (.int 3 0), (.ref 146), (.bool true), (.int 181 0), (.ref 147), .none, (.ref 148), (.ref 149), (.ref 150), (.int 368 0), (.int 118 0), (.str "/claim/cut.py" 369)], #[]⟩),
 (152, fnO 17 (some 4) "upper" "Side.upper" .none (.str "methodrows.subtype_sides" 313) 151),
 (154, ⟨(.type "dict"), none, .dict #[kd P "__module__" 324 (.str "methodrows.subtype_sides" 313), kd P "__firstlineno__" 328 (.int 100 327), kd P "__init__" 340 (.ref 124), kd P "with_lower" 348 (.ref 131), kd P "with_upper" 356 (.ref 138), kd P "lower" 363 (.ref 145), kd P "upper" 370 (.ref 152), kd P "__static_attributes__" 376 (.ref 153), kd P "__dict__" 378 (.ref 156), kd P "__weakref__" 380 (.ref 157), kd P "__doc__" 381 (.none)] 4, #[]⟩),
 (155, ⟨.type "type", none, .cls { name := "Side", bases := [(.type "object")], mro := [(.ref 155), (.type "object")], ns := 154, qualname := "Side", hasDict := true, slotNames := [], subclasses := [], abstract := false, collection := none, hasDel := false }, #[none, none, some (.str "Side" 317), some (.str "Side" 325), some (.builtin "object.__new__"), some (.bool true)]⟩),
 (167, ⟨.type "tuple", none, .seq #[.none, (.int 0 396)] 0, #[]⟩),
 (173, ⟨.type "code", none, .fields #[(.str "__init__" 397), (.str "Sides.__init__" 398), (.str "/claim/cut.py" 399), (.int 122 0), (.int 3 0), (.int 0 0), (.int 0 0), (.int 3 0), (.ref 168), (.bool true), (.int 181 0), (.ref 169), .none, (.ref 170), (.ref 171), (.ref 172), (.int 403 0), (.int 122 0), (.str "/claim/cut.py" 404)], #[]⟩),
 (174, fnO 18 (some 0) "__init__" "Sides.__init__" (.ref 167) (.str "methodrows.subtype_sides" 313) 173),
 (180, ⟨.type "code", none, .fields #[(.str "copied" 406), (.str "Sides.copied" 407), (.str "/claim/cut.py" 408), (.int 126 0), (.int 1 0), (.int 0 0), (.int 0 0), (.int 3 0), (.ref 175), (.bool true), (.int 181 0), (.ref 176), .none, (.ref 177), (.ref 178), (.ref 179), (.int 410 0), (.int 126 0), (.str "/claim/cut.py" 411)], #[]⟩),
 (181, fnO 18 (some 1) "copied" "Sides.copied" .none (.str "methodrows.subtype_sides" 313) 180),
 (187, ⟨.type "code", none, .fields #[(.str "opened" 413), (.str "Sides.opened" 414), (.str "/claim/cut.py" 415), (.int 129 0), (.int 3 0), (.int 0 0), (.int 0 0), (.int 3 0), (.ref 182), (.bool true), (.int 181 0), (.ref 183), .none, (.ref 184), (.ref 185), (.ref 186), (.int 427 0), (.int 129 0), (.str "/claim/cut.py" 428)], #[]⟩),
 (188, fnO 18 (some 2) "opened" "Sides.opened" .none (.str "methodrows.subtype_sides" 313) 187),
 (194, ⟨.type "code", none, .fields #[(.str "side" 430), (.str "Sides.side" 431), (.str "/claim/cut.py" 432), (.int 138 0), (.int 2 0), (.int 0 0), (.int 0 0), (.int 3 0), (.ref 189), (.bool true), (.int 181 0), (.ref 190), .none, (.ref 191), (.ref 192), (.ref 193), (.int 435 0), (.int 138 0), (.str "/claim/cut.py" 436)], #[]⟩),
 (195, fnO 18 (some 3) "side" "Sides.side" .none (.str "methodrows.subtype_sides" 313) 194),
 (201, ⟨.type "code", none, .fields #[(.str "is_asked" 438), (.str "Sides.is_asked" 439), (.str "/claim/cut.py" 440), (.int 141 0), (.int 2 0), (.int 0 0), (.int 0 0), (.int 3 0), (.ref 196), (.bool true), (.int 181 0), (.ref 197), .none, (.ref 198), (.ref 199), (.ref 200), (.int 443 0), (.int 141 0), (.str "/claim/cut.py" 444)], #[]⟩),
 (202, fnO 18 (some 4) "is_asked" "Sides.is_asked" .none (.str "methodrows.subtype_sides" 313) 201),
 (208, ⟨.type "code", none, .fields #[(.str "add_lower" 446), (.str "Sides.add_lower" 447), (.str "/claim/cut.py" 448), (.int 144 0), (.int 3 0), (.int 0 0), (.int 0 0), (.int 3 0), (.ref 203), (.bool true), (.int 181 0), (.ref 204), .none, (.ref 205), (.ref 206), (.ref 207), (.int 452 0), (.int 144 0), (.str "/claim/cut.py" 453)], #[]⟩),
 (209, fnO 18 (some 5) "add_lower" "Sides.add_lower" .none (.str "methodrows.subtype_sides" 313) 208),
 (215, ⟨.type "code", none, .fields #[(.str "add_upper" 455), (.str "Sides.add_upper" 456), (.str "/claim/cut.py" 457), (.int 147 0), (.int 3 0), (.int 0 0), (.int 0 0), (.int 3 0), (.ref 210), (.bool true), (.int 181 0), (.ref 211), .none, (.ref 212), (.ref 213), (.ref 214), (.int 461 0), (.int 147 0), (.str "/claim/cut.py" 462)], #[]⟩),
 (216, fnO 18 (some 6) "add_upper" "Sides.add_upper" .none (.str "methodrows.subtype_sides" 313) 215),
 (222, ⟨.type "code", none, .fields #[(.str "later_ones" 464), (.str "Sides.later_ones" 465), (.str "/claim/cut.py" 466), (.int 150 0), (.int 3 0), (.int 0 0), (.int 0 0), (.int 3 0), (.ref 217), (.bool true), (.int 181 0), (.ref 218), .none, (.ref 219), (.ref 220), (.ref 221), (.int 473 0), (.int 150 0), (.str "/claim/cut.py" 474)], #[]⟩),
 (223, fnO 18 (some 7) "later_ones" "Sides.later_ones" .none (.str "methodrows.subtype_sides" 313) 222),
 (225, ⟨(.type "dict"), none, .dict #[kd P "__module__" 391 (.str "methodrows.subtype_sides" 313), kd P "__firstlineno__" 395 (.int 120 394), kd P "__init__" 405 (.ref 174), kd P "copied" 412 (.ref 181), kd P "opened" 429 (.ref 188), kd P "side" 437 (.ref 195), kd P "is_asked" 445 (.ref 202), kd P "add_lower" 454 (.ref 209), kd P "add_upper" 463 (.ref 216), kd P "later_ones" 475 (.ref 223), kd P "__static_attributes__" 478 (.ref 224), kd P "__dict__" 480 (.ref 227), kd P "__weakref__" 482 (.ref 228), kd P "__doc__" 483 (.none)] 4, #[]⟩),
 (226, ⟨.type "type", none, .cls { name := "Sides", bases := [(.type "object")], mro := [(.ref 226), (.type "object")], ns := 225, qualname := "Sides", hasDict := true, slotNames := [], subclasses := [], abstract := false, collection := none, hasDel := false }, #[none, none, some (.str "Sides" 384), some (.str "Sides" 392), some (.builtin "object.__new__"), some (.bool true)]⟩),
 (234, ⟨.type "code", none, .fields #[(.str "occurrences" 486), (.str "occurrences" 487), (.str "/claim/cut.py" 488), (.int 157 0), (.int 2 0), (.int 0 0), (.int 0 0), (.int 3 0), (.ref 231), (.bool true), (.int 181 0), (.ref 232), .none, .none, .none, (.ref 233), (.int 489 0), (.int 157 0), (.str "/claim/cut.py" 490)], #[]⟩),
 (235, fnO 19 none "occurrences" "occurrences" .none (.str "methodrows.subtype_sides" 313) 234),
 (241, ⟨.type "code", none, .fields #[(.str "bound_occurrences" 492), (.str "bound_occurrences" 493), (.str "/claim/cut.py" 494), (.int 172 0), (.int 2 0), (.int 0 0), (.int 0 0), (.int 3 0), (.ref 236), (.bool true), (.int 181 0), (.ref 237), .none, (.ref 238), (.ref 239), (.ref 240), (.int 499 0), (.int 172 0), (.str "/claim/cut.py" 500)], #[]⟩),
 (242, fnO 20 none "bound_occurrences" "bound_occurrences" .none (.str "methodrows.subtype_sides" 313) 241),
 (248, ⟨.type "code", none, .fields #[(.str "is_diagonal" 502), (.str "is_diagonal" 503), (.str "/claim/cut.py" 504), (.int 175 0), (.int 2 0), (.int 0 0), (.int 0 0), (.int 3 0), (.ref 243), (.bool true), (.int 181 0), (.ref 244), .none, (.ref 245), (.ref 246), (.ref 247), (.int 509 0), (.int 175 0), (.str "/claim/cut.py" 510)], #[]⟩),
 (249, fnO 21 none "is_diagonal" "is_diagonal" .none (.str "methodrows.subtype_sides" 313) 248),
 (253, ⟨.type "code", none, .fields #[(.str "left_cases" 512), (.str "left_cases" 513), (.str "/claim/cut.py" 514), (.int 178 0), (.int 1 0), (.int 0 0), (.int 0 0), (.int 3 0), (.ref 250), (.bool true), (.int 181 0), (.ref 251), .none, .none, .none, (.ref 252), (.int 515 0), (.int 178 0), (.str "/claim/cut.py" 516)], #[]⟩),
 (254, fnO 22 none "left_cases" "left_cases" .none (.str "methodrows.subtype_sides" 313) 253),
 (258, ⟨.type "code", none, .fields #[(.str "tuple_cases" 518), (.str "tuple_cases" 519), (.str "/claim/cut.py" 520), (.int 189 0), (.int 1 0), (.int 0 0), (.int 0 0), (.int 3 0), (.ref 255), (.bool true), (.int 181 0), (.ref 256), .none, .none, .none, (.ref 257), (.int 521 0), (.int 189 0), (.str "/claim/cut.py" 522)], #[]⟩),
 (259, fnO 23 none "tuple_cases" "tuple_cases" .none (.str "methodrows.subtype_sides" 313) 258),
 (263, ⟨.type "code", none, .fields #[(.str "is_empty" 524), (.str "is_empty" 525), (.str "/claim/cut.py" 526), (.int 197 0), (.int 1 0), (.int 0 0), (.int 0 0), (.int 3 0), (.ref 260), (.bool true), (.int 181 0), (.ref 261), .none, .none, .none, (.ref 262), (.int 527 0), (.int 197 0), (.str "/claim/cut.py" 528)], #[]⟩),
 (264, fnO 24 none "is_empty" "is_empty" .none (.str "methodrows.subtype_sides" 313) 263),
 (270, ⟨.type "code", none, .fields #[(.str "tail_of" 530), (.str "tail_of" 531), (.str "/claim/cut.py" 532), (.int 203 0), (.int 1 0), (.int 0 0), (.int 0 0), (.int 3 0), (.ref 265), (.bool true), (.int 181 0), (.ref 266), .none, (.ref 267), (.ref 268), (.ref 269), (.int 534 0), (.int 203 0), (.str "/claim/cut.py" 535)], #[]⟩),
 (271, fnO 25 none "tail_of" "tail_of" .none (.str "methodrows.subtype_sides" 313) 270),
 (272, ⟨.type "tuple", none, .seq #[] 0, #[]⟩),
 (273, ⟨.type "tuple", none, .seq #[(.str "name" 539), (.str "Type" 540), (.ref 272)] 0, #[]⟩),
 (274, ⟨.type "tuple", none, .seq #[] 0, #[]⟩),
 (275, ⟨.type "tuple", none, .seq #[(.str "name" 542), (.str "Function" 543), (.ref 274)] 0, #[]⟩),
 (288, ⟨.type "code", none, .fields #[(.str "__init__" 557), (.str "Search.__init__" 558), (.str "/claim/cut.py" 559), (.int 210 0), (.int 3 0), (.int 0 0), (.int 0 0), (.int 3 0), (.ref 283), (.bool true), (.int 181 0), (.ref 284), .none, (.ref 285), (.ref 286), (.ref 287), (.int 563 0), (.int 210 0), (.str "/claim/cut.py" 564)], #[]⟩),
 (289, fnO 29 (some 0) "__init__" "Search.__init__" .none (.str "methodrows.subtypes" 537) 288),
 (295, ⟨.type "code", none, .fields #[(.str "run" 566), (.str "Search.run" 567), (.str "/claim/cut.py" 568), (.int 214 0), (.int 3 0), (.int 0 0), (.int 0 0), (.int 3 0), (.ref 290), (.bool true), (.int 181 0), (.ref 291), .none, (.ref 292), (.ref 293), (.ref 294), (.int 576 0), (.int 214 0), (.str "/claim/cut.py" 577)], #[]⟩),
 (296, fnO 29 (some 1) "run" "Search.run" .none (.str "methodrows.subtypes" 537) 295),
 (302, ⟨.type "code", none, .fields #[(.str "settled" 579), (.str "Search.settled" 580), (.str "/claim/cut.py" 581), (.int 223 0), (.int 4 0), (.int 0 0), (.int 0 0), (.int 3 0), (.ref 297), (.bool true), (.int 181 0), (.ref 298), .none, (.ref 299), (.ref 300), (.ref 301), (.int 588 0), (.int 223 0), (.str "/claim/cut.py" 589)], #[]⟩),
 (303, fnO 29 (some 2) "settled" "Search.settled" .none (.str "methodrows.subtypes" 537) 302),
 (309, ⟨.type "code", none, .fields #[(.str "step" 591), (.str "Search.step" 592), (.str "/claim/cut.py" 593), (.int 234 0), (.int 3 0), (.int 0 0), (.int 0 0), (.int 3 0), (.ref 304), (.bool true), (.int 181 0), (.ref 305), .none, (.ref 306), (.ref 307), (.ref 308), (.int 600 0), (.int 234 0), (.str "/claim/cut.py" 601)], #[]⟩),
 (310, fnO 29 (some 3) "step" "Search.step" .none (.str "methodrows.subtypes" 537) 309),
 (316, ⟨.type "code", none, .fields #[(.str "numbers" 603), (.str "Search.numbers" 604), (.str "/claim/cut.py" 605), (.int 250 0), (.int 5 0), (.int 0 0), (.int 0 0), (.int 3 0), (.ref 311), (.bool true), (.int 181 0), (.ref 312), .none, (.ref 313), (.ref 314), (.ref 315), (.int 611 0), (.int 250 0), (.str "/claim/cut.py" 612)], #[]⟩),
 (317, fnO 29 (some 4) "numbers" "Search.numbers" .none (.str "methodrows.subtypes" 537) 316),
 (321, ⟨.type "code", none, .fields #[(.str "below" 614), (.str "Search.below" 615), (.str "/claim/cut.py" 616), (.int 259 0), (.int 4 0), (.int 0 0), (.int 0 0), (.int 3 0), (.ref 318), (.bool true), (.int 181 0), (.ref 319), .none, .none, .none, (.ref 320), (.int 617 0), (.int 259 0), (.str "/claim/cut.py" 618)], #[]⟩),
 (322, fnO 29 (some 5) "below" "Search.below" .none (.str "methodrows.subtypes" 537) 321),
 (326, ⟨.type "code", none, .fields #[(.str "above" 620), (.str "Search.above" 621), (.str "/claim/cut.py" 622), (.int 266 0), (.int 4 0), (.int 0 0), (.int 0 0), (.int 3 0), (.ref 323), (.bool true), (.int 181 0), (.ref 324), .none, .none, .none, (.ref 325), (.int 623 0), (.int 266 0), (.str "/claim/cut.py" 624)], #[]⟩),
 (327, fnO 29 (some 6) "above" "Search.above" .none (.str "methodrows.subtypes" 537) 326),
 (331, ⟨.type "code", none, .fields #[(.str "by_form" 626), (.str "Search.by_form" 627), (.str "/claim/cut.py" 628), (.int 273 0), (.int 4 0), (.int 0 0), (.int 0 0), (.int 3 0), (.ref 328), (.bool true), (.int 181 0), (.ref 329), .none, .none, .none, (.ref 330), (.int 629 0), (.int 273 0), (.str "/claim/cut.py" 630)], #[]⟩),
 (332, fnO 29 (some 7) "by_form" "Search.by_form" .none (.str "methodrows.subtypes" 537) 331),
 (336, ⟨.type "code", none, .fields #[(.str "chosen" 632), (.str "Search.chosen" 633), (.str "/claim/cut.py" 634), (.int 292 0), (.int 4 0), (.int 0 0), (.int 0 0), (.int 3 0), (.ref 333), (.bool true), (.int 181 0), (.ref 334), .none, .none, .none, (.ref 335), (.int 635 0), (.int 292 0), (.str "/claim/cut.py" 636)], #[]⟩),
 (337, fnO 29 (some 8) "chosen" "Search.chosen" .none (.str "methodrows.subtypes" 537) 336),
 (343, ⟨.type "code", none, .fields #[(.str "plain" 638), (.str "Search.plain" 639), (.str "/claim/cut.py" 640), (.int 297 0), (.int 3 0), (.int 0 0), (.int 0 0), (.int 3 0), (.ref 338), (.bool true), (.int 181 0), (.ref 339), .none, (.ref 340), (.ref 341), (.ref 342), (.int 645 0), (.int 297 0), (.str "/claim/cut.py" 646)], #[]⟩),
 (344, fnO 29 (some 9) "plain" "Search.plain" .none (.str "methodrows.subtypes" 537) 343),
 (348, ⟨.type "code", none, .fields #[(.str "nominal" 648), (.str "Search.nominal" 649), (.str "/claim/cut.py" 650), (.int 309 0), (.int 3 0), (.int 0 0), (.int 0 0), (.int 3 0), (.ref 345), (.bool true), (.int 181 0), (.ref 346), .none, .none, .none, (.ref 347), (.int 651 0), (.int 309 0), (.str "/claim/cut.py" 652)], #[]⟩),
 (349, fnO 29 (some 10) "nominal" "Search.nominal" .none (.str "methodrows.subtypes" 537) 348),
 (355, ⟨.type "code", none, .fields #[(.str "are_concrete" 654), (.str "Search.are_concrete" 655), (.str "/claim/cut.py" 656), (.int 315 0), (.int 2 0), (.int 0 0), (.int 0 0), (.int 3 0), (.ref 350), (.bool true), (.int 181 0), (.ref 351), .none, (.ref 352), (.ref 353), (.ref 354), (.int 661 0), (.int 315 0), (.str "/claim/cut.py" 662)], #[]⟩),
 (356, fnO 29 (some 11) "are_concrete" "Search.are_concrete" .none (.str "methodrows.subtypes" 537) 355),
 (360, ⟨.type "code", none, .fields #[(.str "is_one" 664), (.str "Search.is_one" 665), (.str "/claim/cut.py" 666), (.int 322 0), (.int 3 0), (.int 0 0), (.int 0 0), (.int 3 0), (.ref 357), (.bool true), (.int 181 0), (.ref 358), .none, .none, .none, (.ref 359), (.int 667 0), (.int 322 0), (.str "/claim/cut.py" 668)], #[]⟩),
 (361, fnO 29 (some 12) "is_one" "Search.is_one" .none (.str "methodrows.subtypes" 537) 360),
 (363, ⟨(.type "dict"), none, .dict #[kd P "__module__" 552 (.str "methodrows.subtypes" 537), kd P "__firstlineno__" 556 (.int 208 555), kd P "__init__" 565 (.ref 289), kd P "run" 578 (.ref 296), kd P "settled" 590 (.ref 303), kd P "step" 602 (.ref 310), kd P "numbers" 613 (.ref 317), kd P "below" 619 (.ref 322), kd P "above" 625 (.ref 327), kd P "by_form" 631 (.ref 332), kd P "chosen" 637 (.ref 337), kd P "plain" 647 (.ref 344), kd P "nominal" 653 (.ref 349), kd P "are_concrete" 663 (.ref 356), kd P "is_one" 669 (.ref 361), kd P "__static_attributes__" 672 (.ref 362), kd P "__dict__" 674 (.ref 365), kd P "__weakref__" 676 (.ref 366), kd P "__doc__" 677 (.none)] 4, #[]⟩),
 (364, ⟨.type "type", none, .cls { name := "Search", bases := [(.type "object")], mro := [(.ref 364), (.type "object")], ns := 363, qualname := "Search", hasDict := true, slotNames := [], subclasses := [], abstract := false, collection := none, hasDel := false }, #[none, none, some (.str "Search" 545), some (.str "Search" 553), some (.builtin "object.__new__"), some (.bool true)]⟩),
 (374, ⟨.type "code", none, .fields #[(.str "narrowed" 680), (.str "narrowed" 681), (.str "/claim/cut.py" 682), (.int 329 0), (.int 3 0), (.int 0 0), (.int 0 0), (.int 3 0), (.ref 369), (.bool true), (.int 181 0), (.ref 370), .none, (.ref 371), (.ref 372), (.ref 373), (.int 688 0), (.int 329 0), (.str "/claim/cut.py" 689)], #[]⟩),
 (375, fnO 30 none "narrowed" "narrowed" .none (.str "methodrows.subtypes" 537) 374),
 (381, ⟨.type "code", none, .fields #[(.str "widened" 691), (.str "widened" 692), (.str "/claim/cut.py" 693), (.int 335 0), (.int 3 0), (.int 0 0), (.int 0 0), (.int 3 0), (.ref 376), (.bool true), (.int 181 0), (.ref 377), .none, (.ref 378), (.ref 379), (.ref 380), (.int 698 0), (.int 335 0), (.str "/claim/cut.py" 699)], #[]⟩),
 (382, fnO 31 none "widened" "widened" .none (.str "methodrows.subtypes" 537) 381),
 (388, ⟨.type "code", none, .fields #[(.str "has_within" 701), (.str "has_within" 702), (.str "/claim/cut.py" 703), (.int 342 0), (.int 2 0), (.int 0 0), (.int 0 0), (.int 3 0), (.ref 383), (.bool true), (.int 181 0), (.ref 384), .none, (.ref 385), (.ref 386), (.ref 387), (.int 706 0), (.int 342 0), (.str "/claim/cut.py" 707)], #[]⟩),
 (389, fnO 32 none "has_within" "has_within" .none (.str "methodrows.subtypes" 537) 388),
 (393, ⟨.type "code", none, .fields #[(.str "tuple_ways" 709), (.str "tuple_ways" 710), (.str "/claim/cut.py" 711), (.int 344 0), (.int 2 0), (.int 0 0), (.int 0 0), (.int 3 0), (.ref 390), (.bool true), (.int 181 0), (.ref 391), .none, .none, .none, (.ref 392), (.int 712 0), (.int 344 0), (.str "/claim/cut.py" 713)], #[]⟩),
 (394, fnO 33 none "tuple_ways" "tuple_ways" .none (.str "methodrows.subtypes" 537) 393),
 (395, ⟨.type "tuple", none, .seq #[(.int 4000 715)] 0, #[]⟩),
 (401, ⟨.type "code", none, .fields #[(.str "is_subtype" 716), (.str "is_subtype" 717), (.str "/claim/cut.py" 718), (.int 351 0), (.int 4 0), (.int 0 0), (.int 0 0), (.int 3 0), (.ref 396), (.bool true), (.int 181 0), (.ref 397), .none, (.ref 398), (.ref 399), (.ref 400), (.int 725 0), (.int 351 0), (.str "/claim/cut.py" 726)], #[]⟩),
 (402, fnO 34 none "is_subtype" "is_subtype" (.ref 395) (.str "methodrows.subtypes" 537) 401),
 (403, ⟨.type "tuple", none, .seq #[(.str "Int8" 730), (.str "Int16" 731), (.str "Int32" 732), (.str "Int64" 733), (.str "BigInt" 734)] 0, #[]⟩),
 (404, ⟨.type "tuple", none, .seq #[(.str "UInt8" 736), (.str "UInt16" 737), (.str "UInt32" 738), (.str "UInt64" 739)] 0, #[]⟩),
 (405, ⟨.type "tuple", none, .seq #[(.str "DivideError" 741), (.str "InexactError" 742), (.str "TypeError" 743), (.str "StackOverflowError" 744)] 0, #[]⟩),
 (406, ⟨.type "tuple", none, .seq #[(.str "ArgumentError" 746), (.str "OverflowError" 747), (.str "DimensionMismatch" 748), (.str "ErrorException" 749)] 0, #[]⟩),
 (407, ⟨.type "tuple", none, .seq #[(.str "MethodError" 751), (.str "AmbiguousError" 752)] 0, #[]⟩),
 (415, ⟨.type "tuple", none, .seq #[] 0, #[]⟩),
 (416, ⟨.type "tuple", none, .seq #[(.bool false), (.ref 415)] 0, #[]⟩),
 (422, ⟨.type "code", none, .fields #[(.str "__init__" 766), (.str "Decl.__init__" 767), (.str "/claim/cut.py" 768), (.int 367 0), (.int 7 0), (.int 0 0), (.int 0 0), (.int 3 0), (.ref 417), (.bool true), (.int 181 0), (.ref 418), .none, (.ref 419), (.ref 420), (.ref 421), (.int 776 0), (.int 367 0), (.str "/claim/cut.py" 777)], #[]⟩),
 (423, fnO 41 (some 0) "__init__" "Decl.__init__" (.ref 416) (.str "methodrows.kinds" 728) 422),
 (427, ⟨.type "code", none, .fields #[(.str "table_for" 779), (.str "Decl.table_for" 780), (.str "/claim/cut.py" 781), (.int 375 0), (.int 2 0), (.int 0 0), (.int 0 0), (.int 3 0), (.ref 424), (.bool true), (.int 181 0), (.ref 425), .none, .none, .none, (.ref 426), (.int 782 0), (.int 375 0), (.str "/claim/cut.py" 783)], #[]⟩),
 (428, fnO 41 (some 1) "table_for" "Decl.table_for" .none (.str "methodrows.kinds" 728) 427),
 (432, ⟨.type "code", none, .fields #[(.str "whole" 785), (.str "Decl.whole" 786), (.str "/claim/cut.py" 787), (.int 378 0), (.int 1 0), (.int 0 0), (.int 0 0), (.int 3 0), (.ref 429), (.bool true), (.int 181 0), (.ref 430), .none, .none, .none, (.ref 431), (.int 788 0), (.int 378 0), (.str "/claim/cut.py" 789)], #[]⟩),
 (433, fnO 41 (some 2) "whole" "Decl.whole" .none (.str "methodrows.kinds" 728) 432),
 (437, ⟨.type "code", none, .fields #[(.str "field_kinds" 791), (.str "Decl.field_kinds" 792), (.str "/claim/cut.py" 793), (.int 381 0), (.int 2 0), (.int 0 0), (.int 0 0), (.int 3 0), (.ref 434), (.bool true), (.int 181 0), (.ref 435), .none, .none, .none, (.ref 436), (.int 794 0), (.int 381 0), (.str "/claim/cut.py" 795)], #[]⟩),
 (438, fnO 41 (some 3) "field_kinds" "Decl.field_kinds" .none (.str "methodrows.kinds" 728) 437),
 (440, ⟨(.type "dict"), none, .dict #[kd P "__module__" 761 (.str "methodrows.kinds" 728), kd P "__firstlineno__" 765 (.int 365 764), kd P "__init__" 778 (.ref 423), kd P "table_for" 784 (.ref 428), kd P "whole" 790 (.ref 433), kd P "field_kinds" 796 (.ref 438), kd P "__static_attributes__" 803 (.ref 439), kd P "__dict__" 805 (.ref 442), kd P "__weakref__" 807 (.ref 443), kd P "__doc__" 808 (.none)] 4, #[]⟩),
 (441, ⟨.type "type", none, .cls { name := "Decl", bases := [(.type "object")], mro := [(.ref 441), (.type "object")], ns := 440, qualname := "Decl", hasDict := true, slotNames := [], subclasses := [], abstract := false, collection := none, hasDel := false }, #[none, none, some (.str "Decl" 754), some (.str "Decl" 762), some (.builtin "object.__new__"), some (.bool true)]⟩),
 (458, ⟨.type "code", none, .fields #[(.str "__init__" 823), (.str "Kinds.__init__" 824), (.str "/claim/cut.py" 825), (.int 386 0), (.int 1 0), (.int 0 0), (.int 0 0), (.int 3 0), (.ref 453), (.bool true), (.int 181 0), (.ref 454), .none, (.ref 455), (.ref 456), (.ref 457), (.int 827 0), (.int 386 0), (.str "/claim/cut.py" 828)], #[]⟩),
 (459, fnO 42 (some 0) "__init__" "Kinds.__init__" .none (.str "methodrows.kinds" 728) 458),
 (463, ⟨.type "code", none, .fields #[(.str "declare" 830), (.str "Kinds.declare" 831), (.str "/claim/cut.py" 832), (.int 389 0), (.int 2 0), (.int 0 0), (.int 0 0), (.int 3 0), (.ref 460), (.bool true), (.int 181 0), (.ref 461), .none, .none, .none, (.ref 462), (.int 833 0), (.int 389 0), (.str "/claim/cut.py" 834)], #[]⟩),
 (464, fnO 42 (some 1) "declare" "Kinds.declare" .none (.str "methodrows.kinds" 728) 463),
 (470, ⟨.type "code", none, .fields #[(.str "is_declared" 836), (.str "Kinds.is_declared" 837), (.str "/claim/cut.py" 838), (.int 405 0), (.int 2 0), (.int 0 0), (.int 0 0), (.int 3 0), (.ref 465), (.bool true), (.int 181 0), (.ref 466), .none, (.ref 467), (.ref 468), (.ref 469), (.int 841 0), (.int 405 0), (.str "/claim/cut.py" 842)], #[]⟩),
 (471, fnO 42 (some 2) "is_declared" "Kinds.is_declared" .none (.str "methodrows.kinds" 728) 470),
 (477, ⟨.type "code", none, .fields #[(.str "decl" 844), (.str "Kinds.decl" 845), (.str "/claim/cut.py" 846), (.int 408 0), (.int 2 0), (.int 0 0), (.int 0 0), (.int 3 0), (.ref 472), (.bool true), (.int 181 0), (.ref 473), .none, (.ref 474), (.ref 475), (.ref 476), (.int 849 0), (.int 408 0), (.str "/claim/cut.py" 850)], #[]⟩),
 (478, fnO 42 (some 3) "decl" "Kinds.decl" .none (.str "methodrows.kinds" 728) 477),
 (484, ⟨.type "code", none, .fields #[(.str "super_of" 852), (.str "Kinds.super_of" 853), (.str "/claim/cut.py" 854), (.int 413 0), (.int 2 0), (.int 0 0), (.int 0 0), (.int 3 0), (.ref 479), (.bool true), (.int 181 0), (.ref 480), .none, (.ref 481), (.ref 482), (.ref 483), (.int 858 0), (.int 413 0), (.str "/claim/cut.py" 859)], #[]⟩),
 (485, fnO 42 (some 4) "super_of" "Kinds.super_of" .none (.str "methodrows.kinds" 728) 484),
 (491, ⟨.type "code", none, .fields #[(.str "supers" 861), (.str "Kinds.supers" 862), (.str "/claim/cut.py" 863), (.int 423 0), (.int 2 0), (.int 0 0), (.int 0 0), (.int 3 0), (.ref 486), (.bool true), (.int 181 0), (.ref 487), .none, (.ref 488), (.ref 489), (.ref 490), (.int 867 0), (.int 423 0), (.str "/claim/cut.py" 868)], #[]⟩),
 (492, fnO 42 (some 5) "supers" "Kinds.supers" .none (.str "methodrows.kinds" 728) 491),
 (498, ⟨.type "code", none, .fields #[(.str "under" 870), (.str "Kinds.under" 871), (.str "/claim/cut.py" 872), (.int 429 0), (.int 2 0), (.int 0 0), (.int 0 0), (.int 3 0), (.ref 493), (.bool true), (.int 181 0), (.ref 494), .none, (.ref 495), (.ref 496), (.ref 497), (.int 880 0), (.int 429 0), (.str "/claim/cut.py" 881)], #[]⟩),
 (499, fnO 42 (some 6) "under" "Kinds.under" .none (.str "methodrows.kinds" 728) 498),
 (505, ⟨.type "code", none, .fields #[(.str "applied" 883), (.str "Kinds.applied" 884), (.str "/claim/cut.py" 885), (.int 440 0), (.int 3 0), (.int 0 0), (.int 0 0), (.int 3 0), (.ref 500), (.bool true), (.int 181 0), (.ref 501), .none, (.ref 502), (.ref 503), (.ref 504), (.int 894 0), (.int 440 0), (.str "/claim/cut.py" 895)], #[]⟩),
 (506, fnO 42 (some 7) "applied" "Kinds.applied" .none (.str "methodrows.kinds" 728) 505),
 (512, ⟨.type "code", none, .fields #[(.str "is_within" 897), (.str "Kinds.is_within" 898), (.str "/claim/cut.py" 899), (.int 450 0), (.int 4 0), (.int 0 0), (.int 0 0), (.int 3 0), (.ref 507), (.bool true), (.int 181 0), (.ref 508), .none, (.ref 509), (.ref 510), (.ref 511), (.int 904 0), (.int 450 0), (.str "/claim/cut.py" 905)], #[]⟩),
 (513, fnO 42 (some 8) "is_within" "Kinds.is_within" .none (.str "methodrows.kinds" 728) 512),
 (519, ⟨.type "code", none, .fields #[(.str "whole" 907), (.str "Kinds.whole" 908), (.str "/claim/cut.py" 909), (.int 455 0), (.int 2 0), (.int 0 0), (.int 0 0), (.int 3 0), (.ref 514), (.bool true), (.int 181 0), (.ref 515), .none, (.ref 516), (.ref 517), (.ref 518), (.int 917 0), (.int 455 0), (.str "/claim/cut.py" 918)], #[]⟩),
 (520, fnO 42 (some 9) "whole" "Kinds.whole" .none (.str "methodrows.kinds" 728) 519),
 (524, ⟨.type "code", none, .fields #[(.str "is_concrete" 920), (.str "Kinds.is_concrete" 921), (.str "/claim/cut.py" 922), (.int 462 0), (.int 2 0), (.int 0 0), (.int 0 0), (.int 3 0), (.ref 521), (.bool true), (.int 181 0), (.ref 522), .none, .none, .none, (.ref 523), (.int 923 0), (.int 462 0), (.str "/claim/cut.py" 924)], #[]⟩),
 (525, fnO 42 (some 10) "is_concrete" "Kinds.is_concrete" .none (.str "methodrows.kinds" 728) 524),
 (527, ⟨(.type "dict"), none, .dict #[kd P "__module__" 818 (.str "methodrows.kinds" 728), kd P "__firstlineno__" 822 (.int 384 821), kd P "__init__" 829 (.ref 459), kd P "declare" 835 (.ref 464), kd P "is_declared" 843 (.ref 471), kd P "decl" 851 (.ref 478), kd P "super_of" 860 (.ref 485), kd P "supers" 869 (.ref 492), kd P "under" 882 (.ref 499), kd P "applied" 896 (.ref 506), kd P "is_within" 906 (.ref 513), kd P "whole" 919 (.ref 520), kd P "is_concrete" 925 (.ref 525), kd P "__static_attributes__" 927 (.ref 526), kd P "__dict__" 929 (.ref 529), kd P "__weakref__" 931 (.ref 530), kd P "__doc__" 932 (.none)] 4, #[]⟩),
 (528, ⟨.type "type", none, .cls { name := "Kinds", bases := [(.type "object")], mro := [(.ref 528), (.type "object")], ns := 527, qualname := "Kinds", hasDict := true, slotNames := [], subclasses := [], abstract := false, collection := none, hasDel := false }, #[none, none, some (.str "Kinds" 811), some (.str "Kinds" 819), some (.builtin "object.__new__"), some (.bool true)]⟩),
 (533, ⟨.type "tuple", none, .seq #[(.bool false)] 0, #[]⟩),
 (539, ⟨.type "code", none, .fields #[(.str "nominal" 935), (.str "nominal" 936), (.str "/claim/cut.py" 937), (.int 468 0), (.int 4 0), (.int 0 0), (.int 0 0), (.int 3 0), (.ref 534), (.bool true), (.int 181 0), (.ref 535), .none, (.ref 536), (.ref 537), (.ref 538), (.int 942 0), (.int 468 0), (.str "/claim/cut.py" 943)], #[]⟩),
 (540, fnO 43 none "nominal" "nominal" (.ref 533) (.str "methodrows.kinds" 728) 539),
 (546, ⟨.type "code", none, .fields #[(.str "start_kinds" 945), (.str "start_kinds" 946), (.str "/claim/cut.py" 947), (.int 470 0), (.int 0 0), (.int 0 0), (.int 0 0), (.int 3 0), (.ref 541), (.bool true), (.int 181 0), (.ref 542), .none, (.ref 543), (.ref 544), (.ref 545), (.int 951 0), (.int 470 0), (.str "/claim/cut.py" 952)], #[]⟩),
 (547, fnO 44 none "start_kinds" "start_kinds" .none (.str "methodrows.kinds" 728) 546),
 (553, ⟨.type "code", none, .fields #[(.str "start_errors" 954), (.str "start_errors" 955), (.str "/claim/cut.py" 956), (.int 490 0), (.int 1 0), (.int 0 0), (.int 0 0), (.int 3 0), (.ref 548), (.bool true), (.int 181 0), (.ref 549), .none, (.ref 550), (.ref 551), (.ref 552), (.int 960 0), (.int 490 0), (.str "/claim/cut.py" 961)], #[]⟩),
 (554, fnO 45 none "start_errors" "start_errors" .none (.str "methodrows.kinds" 728) 553),
 (560, ⟨.type "code", none, .fields #[(.str "start_rows" 963), (.str "start_rows" 964), (.str "/claim/cut.py" 965), (.int 500 0), (.int 1 0), (.int 0 0), (.int 0 0), (.int 3 0), (.ref 555), (.bool true), (.int 181 0), (.ref 556), .none, (.ref 557), (.ref 558), (.ref 559), (.int 974 0), (.int 500 0), (.str "/claim/cut.py" 975)], #[]⟩),
 (561, fnO 46 none "start_rows" "start_rows" .none (.str "methodrows.kinds" 728) 560),
 (567, ⟨.type "code", none, .fields #[(.str "_law_vat" 979), (.str "_law_vat" 980), (.str "/claim/cut.py" 981), (.int 515 0), (.int 1 0), (.int 0 0), (.int 0 0), (.int 3 0), (.ref 562), (.bool true), (.int 181 0), (.ref 563), .none, (.ref 564), (.ref 565), (.ref 566), (.int 985 0), (.int 515 0), (.str "/claim/cut.py" 986)], #[]⟩),
 (568, fnO 48 none "_law_vat" "_law_vat" .none (.str "law_pq0707_01" 977) 567),
 (574, ⟨.type "code", none, .fields #[(.str "_law_tap" 988), (.str "_law_tap" 989), (.str "/claim/cut.py" 990), (.int 519 0), (.int 2 0), (.int 0 0), (.int 0 0), (.int 3 0), (.ref 569), (.bool true), (.int 181 0), (.ref 570), .none, (.ref 571), (.ref 572), (.ref 573), (.int 994 0), (.int 519 0), (.str "/claim/cut.py" 995)], #[]⟩),
 (575, fnO 49 none "_law_tap" "_law_tap" .none (.str "law_pq0707_01" 977) 574),
 (581, ⟨.type "code", none, .fields #[(.str "_law_any" 997), (.str "_law_any" 998), (.str "/claim/cut.py" 999), (.int 526 0), (.int 0 0), (.int 0 0), (.int 0 0), (.int 3 0), (.ref 576), (.bool true), (.int 181 0), (.ref 577), .none, (.ref 578), (.ref 579), (.ref 580), (.int 1000 0), (.int 526 0), (.str "/claim/cut.py" 1001)], #[]⟩),
 (582, fnO 50 none "_law_any" "_law_any" .none (.str "law_pq0707_01" 977) 581),
 (588, ⟨.type "code", none, .fields #[(.str "_law_int" 1003), (.str "_law_int" 1004), (.str "/claim/cut.py" 1005), (.int 528 0), (.int 0 0), (.int 0 0), (.int 0 0), (.int 3 0), (.ref 583), (.bool true), (.int 181 0), (.ref 584), .none, (.ref 585), (.ref 586), (.ref 587), (.int 1006 0), (.int 528 0), (.str "/claim/cut.py" 1007)], #[]⟩),
 (589, fnO 51 none "_law_int" "_law_int" .none (.str "law_pq0707_01" 977) 588),
 (595, ⟨.type "code", none, .fields #[(.str "_law_refused" 1009), (.str "_law_refused" 1010), (.str "/claim/cut.py" 1011), (.int 530 0), (.int 2 0), (.int 0 0), (.int 0 0), (.int 3 0), (.ref 590), (.bool true), (.int 181 0), (.ref 591), .none, (.ref 592), (.ref 593), (.ref 594), (.int 1014 0), (.int 530 0), (.str "/claim/cut.py" 1015)], #[]⟩),
 (596, fnO 52 none "_law_refused" "_law_refused" .none (.str "law_pq0707_01" 977) 595),
 (600, ⟨.type "code", none, .fields #[(.str "_law_params" 1017), (.str "_law_params" 1018), (.str "/claim/cut.py" 1019), (.int 536 0), (.int 1 0), (.int 0 0), (.int 0 0), (.int 3 0), (.ref 597), (.bool true), (.int 181 0), (.ref 598), .none, .none, .none, (.ref 599), (.int 1020 0), (.int 536 0), (.str "/claim/cut.py" 1021)], #[]⟩),
 (601, fnO 53 none "_law_params" "_law_params" .none (.str "law_pq0707_01" 977) 600),
 (605, ⟨.type "code", none, .fields #[(.str "_law_drawn" 1023), (.str "_law_drawn" 1024), (.str "/claim/cut.py" 1025), (.int 539 0), (.int 3 0), (.int 0 0), (.int 0 0), (.int 3 0), (.ref 602), (.bool true), (.int 181 0), (.ref 603), .none, .none, .none, (.ref 604), (.int 1026 0), (.int 539 0), (.str "/claim/cut.py" 1027)], #[]⟩),
 (606, fnO 54 none "_law_drawn" "_law_drawn" .none (.str "law_pq0707_01" 977) 605),
 (610, ⟨.type "code", none, .fields #[(.str "_law_super" 1029), (.str "_law_super" 1030), (.str "/claim/cut.py" 1031), (.int 547 0), (.int 1 0), (.int 0 0), (.int 0 0), (.int 3 0), (.ref 607), (.bool true), (.int 181 0), (.ref 608), .none, .none, .none, (.ref 609), (.int 1032 0), (.int 547 0), (.str "/claim/cut.py" 1033)], #[]⟩),
 (611, fnO 55 none "_law_super" "_law_super" .none (.str "law_pq0707_01" 977) 610),
 (617, ⟨.type "code", none, .fields #[(.str "_law_decl" 1035), (.str "_law_decl" 1036), (.str "/claim/cut.py" 1037), (.int 552 0), (.int 1 0), (.int 0 0), (.int 0 0), (.int 3 0), (.ref 612), (.bool true), (.int 181 0), (.ref 613), .none, (.ref 614), (.ref 615), (.ref 616), (.int 1040 0), (.int 552 0), (.str "/claim/cut.py" 1041)], #[]⟩),
 (618, fnO 56 none "_law_decl" "_law_decl" .none (.str "law_pq0707_01" 977) 617),
 (622, ⟨.type "code", none, .fields #[(.str "_law_chain" 1043), (.str "_law_chain" 1044), (.str "/claim/cut.py" 1045), (.int 555 0), (.int 2 0), (.int 0 0), (.int 0 0), (.int 3 0), (.ref 619), (.bool true), (.int 181 0), (.ref 620), .none, .none, .none, (.ref 621), (.int 1046 0), (.int 555 0), (.str "/claim/cut.py" 1047)], #[]⟩),
 (623, fnO 57 none "_law_chain" "_law_chain" .none (.str "law_pq0707_01" 977) 622),
 (629, ⟨.type "code", none, .fields #[(.str "_law_is_below" 1049), (.str "_law_is_below" 1050), (.str "/claim/cut.py" 1051), (.int 562 0), (.int 2 0), (.int 0 0), (.int 0 0), (.int 3 0), (.ref 624), (.bool true), (.int 181 0), (.ref 625), .none, (.ref 626), (.ref 627), (.ref 628), (.int 1054 0), (.int 562 0), (.str "/claim/cut.py" 1055)], #[]⟩),
 (630, fnO 58 none "_law_is_below" "_law_is_below" .none (.str "law_pq0707_01" 977) 629),
 (634, ⟨.type "code", none, .fields #[(.str "_law_not_let_right" 1057), (.str "_law_not_let_right" 1058), (.str "/claim/cut.py" 1059), (.int 568 0), (.int 2 0), (.int 0 0), (.int 0 0), (.int 3 0), (.ref 631), (.bool true), (.int 181 0), (.ref 632), .none, .none, .none, (.ref 633), (.int 1060 0), (.int 568 0), (.str "/claim/cut.py" 1061)], #[]⟩),
 (635, fnO 59 none "_law_not_let_right" "_law_not_let_right" .none (.str "law_pq0707_01" 977) 634),
 (641, ⟨.type "code", none, .fields #[(.str "_law_applied" 1063), (.str "_law_applied" 1064), (.str "/claim/cut.py" 1065), (.int 574 0), (.int 3 0), (.int 0 0), (.int 0 0), (.int 3 0), (.ref 636), (.bool true), (.int 181 0), (.ref 637), .none, (.ref 638), (.ref 639), (.ref 640), (.int 1069 0), (.int 574 0), (.str "/claim/cut.py" 1070)], #[]⟩),
 (642, fnO 60 none "_law_applied" "_law_applied" .none (.str "law_pq0707_01" 977) 641),
 (646, ⟨.type "code", none, .fields #[(.str "_law_row_right" 1072), (.str "_law_row_right" 1073), (.str "/claim/cut.py" 1074), (.int 579 0), (.int 4 0), (.int 0 0), (.int 0 0), (.int 3 0), (.ref 643), (.bool true), (.int 181 0), (.ref 644), .none, .none, .none, (.ref 645), (.int 1075 0), (.int 579 0), (.str "/claim/cut.py" 1076)], #[]⟩),
 (647, fnO 61 none "_law_row_right" "_law_row_right" .none (.str "law_pq0707_01" 977) 646),
 (651, ⟨.type "code", none, .fields #[(.str "law" 1078), (.str "law" 1079), (.str "/claim/cut.py" 1080), (.int 596 0), (.int 1 0), (.int 0 0), (.int 0 0), (.int 3 0), (.ref 648), (.bool true), (.int 181 0), (.ref 649), .none, .none, .none, (.ref 650), (.int 1081 0), (.int 596 0), (.str "/claim/cut.py" 1082)], #[]⟩),
 (652, fnO 62 none "law" "law" .none (.str "law_pq0707_01" 977) 651)]
noncomputable def Kas : List Nat := [1, 3, 22, 28, 29, 31, 32, 44, 45, 48, 49, 50, 51, 52, 58, 59, 60, 66, 67, 73, 74, 80, 81, 87, 88, 92, 93, 97, 98, 104, 105, 109, 110, 123, 124, 130, 131, 137, 138, 144, 145, 151, 152, 154, 155, 167, 173, 174, 180, 181, 187, 188, 194, 195, 201, 202, 208, 209, 215, 216, 222, 223, 225, 226, 234, 235, 241, 242, 248, 249, 253, 254, 258, 259, 263, 264, 270, 271, 272, 273, 274, 275, 288, 289, 295, 296, 302, 303, 309, 310, 316, 317, 321, 322, 326, 327, 331, 332, 336, 337, 343, 344, 348, 349, 355, 356, 360, 361, 363, 364, 374, 375, 381, 382, 388, 389, 393, 394, 395, 401, 402, 403, 404, 405, 406, 407, 415, 416, 422, 423, 427, 428, 432, 433, 437, 438, 440, 441, 458, 459, 463, 464, 470, 471, 477, 478, 484, 485, 491, 492, 498, 499, 505, 506, 512, 513, 519, 520, 524, 525, 527, 528, 533, 539, 540, 546, 547, 553, 554, 560, 561, 567, 568, 574, 575, 581, 582, 588, 589, 595, 596, 600, 601, 605, 606, 610, 611, 617, 618, 622, 623, 629, 630, 634, 635, 641, 642, 646, 647, 651, 652]
noncomputable def q : Program := view pw [62]
noncomputable def loose : List Str := (["RowsError", "KindFault", "ANY", "BOTTOM", "named", "tuple_of", "union_of", "parts_of_kind", "rebuilt_kind", "substituted", "free_vars", "binder_text", "kind_text", "MOST_CASES", "Side", "Sides", "occurrences", "bound_occurrences", "is_diagonal", "left_cases", "tuple_cases", "is_empty", "tail_of", "TYPE", "FUNCTION", "Search", "narrowed", "widened", "has_within", "tuple_ways", "is_subtype", "SIGNED", "UNSIGNED", "PLAIN_ERRORS", "TEXT_ERRORS", "CALL_ERRORS", "Decl", "Kinds", "nominal", "start_kinds", "start_errors", "start_rows", "_law_vat", "_law_tap", "_law_any", "_law_int", "_law_refused", "_law_params", "_law_drawn", "_law_super", "_law_decl", "_law_chain", "_law_is_below", "_law_not_let_right", "_law_applied", "_law_row_right"] : List String).map Str.ofString
theorem Kas_eq (P : Params) : Kas = (K P).map (·.1) := rfl
noncomputable abbrev H : Hook := kHook K Kas Kas_eq
end Mine.Internal
end
open Mine.Internal
set_option maxHeartbeats 0 in
theorem Mine.Internal.said : PySem.Challenge.rw_pq0707_01.wellSaid = true := by
 rw [PySem.W.Fast.te9446332074065402090]; kernel_rfl
theorem Mine.Internal.opens : opening pw = plainProg pw.main.scope.names := by kernel_rfl
theorem Mine.Internal.fence (s : Shared) : fenceModules? pw s = some s := by kernel_rfl
theorem Mine.Internal.run_ok (w : World) (os : OsState) : (Y0g treeTable pw w 11 (some (.ref 6)) 8400 (bootS w.params os) (topStub pw)).map (fun s => looksAt pw q loose (fun s => xlAt q [] s && recOk [] s) H.obs w.params s.abs) = some (true, openGood q loose, H.val w) := by
 rw [PySem.W.Fast.te14364793385576792824]
 unfold looksAt
 rw [PySem.W.Fast.te4187177175401517315]
 kernel_rfl
end
section
open PySem PySem.W PyProof.Rows
set_option maxHeartbeats 0
noncomputable def Mine.Internal.posOf : Stmt -> Pos
 | .FunctionDef _ _ _ _ _ _ _ _ _ p => p
 | _ => default
theorem Mine.Internal.left : LeftO pw Mine.Internal.q Mine.Internal.loose (fun s => xlAt Mine.Internal.q [] s && recOk [] s) H.obs H.val 8400 true :=
 left_of_tree Mine.Internal.opens (by decide) Mine.Internal.fence Mine.Internal.run_ok
theorem Mine.Internal.top (call : WalkO Mine.Internal.q Mine.Internal.loose (XL Mine.Internal.q []) H.says PySem.Challenge.rw_pq0707_01.row.toRowW
  ⟨"law", argsOf (Z6p 62 none), bodyOf (Z6p 62 none), scopeOf (Z6p 62 none), posOf (Z6p 62 none)⟩ [] fun f vs => PySem.call f vs) : PySem.Challenge.rw_pq0707_01.Holds := by
 refine holds_law Mine.Internal.said fun said => ?_
 refine holds_open (q := Mine.Internal.q) (loose := Mine.Internal.loose) (Xt := fun s => xlAt Mine.Internal.q [] s && recOk [] s) (XP := XL Mine.Internal.q []) (Yf := H.obs) (Ya := H.val) (YP := H.says) (N := 8400) Mine.Internal.left H.of H.keeps (fun s e => xl_of s (Bool.and_eq_true_iff.mp e).1) XL.keeps (by kernel_rfl) (by kernel_rfl) (by kernel_rfl) (fun s e => recFacts_of (Bool.and_eq_true_iff.mp e).2) (by rfl) said ?h5 ?h6 ?hw call
 case h5 => decide +kernel
 case h6 => exact ⟨rfl, rfl, rfl, rfl, rfl, by decide +kernel⟩
 case hw => exact ⟨[.list []], by decide +kernel, by decide +kernel⟩
end
section
open PySem
namespace Mine.Internal
inductive BI | len | list | tuple | dict | range | zip | sorted | str | int
inductive PV
 | none
 | bool (b : Bool)
 | int (i : Int)
 | str (s : Str)
 | tup (l : List PV)
 | lst (l : List PV)
 | dct (es : List (Str × PV))
 | obj (c : Addr) (fs : List (Str × PV))
 | fn (a : Addr)
 | cls (c : Addr)
 | bi (b : BI)
 | rng (n : Int)
inductive MV
 | pv (p : PV)
 | ref (i : Nat)
 | oref (l i : Nat)
 | tup (l : List MV)
 | exc
inductive MO
 | lst (l : List MV)
 | dct (es : List (Str × MV))
 | obj (c : Addr) (fs : List (Str × MV))
 | gone
noncomputable abbrev Hp := List MO
noncomputable abbrev Z0c := List Hp
noncomputable abbrev Mm (α : Type) := Z0c -> Hp -> Option (α × Hp)
noncomputable abbrev Vars := List (Str × Option MV)
inductive Fl | next | ret (v : MV)
noncomputable def ret {α : Type} (a : α) : Mm α := fun _ σ => some (a, σ)
noncomputable def bad {α : Type} : Mm α := fun _ _ => none
noncomputable def bnd {α β : Type} (m : Mm α) (f : α -> Mm β) : Mm β := fun O σ => match m O σ with
 | some (a, σ') => f a O σ'
 | none => none
noncomputable def gd {α : Type} (c : Bool) (m : Mm α) : Mm α := fun O σ => match c with
 | true => m O σ
 | false => none
noncomputable def ofO {α : Type} (x : Option α) : Mm α := fun _ σ => match x with
 | some a => some (a, σ)
 | none => none
noncomputable def natsEq : List Nat -> List Nat -> Bool
 | [], [] => true
 | a :: x, b :: y => match Nat.beq a b with | true => natsEq x y | false => false
 | _, _ => false
noncomputable def Z0g (a b : Str) : Bool := natsEq a.cps.toList b.cps.toList
noncomputable def look {α : Type} : List (Str × α) -> Str -> Option α
 | [], _ => none
 | (k, v) :: r, x => match Z0g k x with | true => some v | false => look r x
noncomputable def put {α : Type} : List (Str × α) -> Str -> α -> List (Str × α)
 | [], x, a => [(x, a)]
 | (k, v) :: r, x, a => match Z0g k x with | true => (k, a) :: r | false => (k, v) :: put r x a
noncomputable def Z2c (ρ : Vars) (x : Str) : Option MV := match look ρ x with
 | some (some v) => some v
 | _ => none
noncomputable def Z0z : List MV -> Option (List PV)
 | [] => some []
 | .pv p :: r => match Z0z r with | some ps => some (p :: ps) | none => none
 | _ :: _ => none
noncomputable def lim : Nat := 1000000
noncomputable def small {α : Type} (l : List α) : Bool := Nat.ble l.length lim
noncomputable def Y1e (l : List MV) : MV := match Z0z l with
 | some ps => .pv (.tup ps)
 | none => .tup l
noncomputable def Z4h (l : List MV) : Mm MV := gd (small l) (ret (Y1e l))
noncomputable def toPV : MV -> Option PV
 | .pv p => some p
 | _ => none
noncomputable def pvs (l : List PV) : List MV := l.map .pv
noncomputable def pvs2 (es : List (Str × PV)) : List (Str × MV) := es.map fun e => (e.1, .pv e.2)
noncomputable def asPV2 : List (Str × MV) -> Option (List (Str × PV))
 | [] => some []
 | (k, .pv p) :: r => match asPV2 r with | some ps => some ((k, p) :: ps) | none => none
 | _ :: _ => none
noncomputable def alloc (o : MO) : Mm MV := fun _ σ => some (.ref σ.length, σ ++ [o])
noncomputable def Z1w (mu : Bool) (l : List MV) : Mm MV := gd (small l) (match mu with
  | true => alloc (.lst l)
  | false => bnd (ofO (Z0z l)) fun ps => ret (.pv (.lst ps)))
noncomputable def Z7r (mu : Bool) (es : List (Str × MV)) : Mm MV := gd (small es) (match mu with
  | true => alloc (.dct es)
  | false => bnd (ofO (asPV2 es)) fun ps => ret (.pv (.dct ps)))
noncomputable def lift (l : Nat) : MV -> MV
 | .pv p => .pv p
 | .ref i => .oref l i
 | .oref k i => .oref (k + l + 1) i
 | .tup _ => .ref 0
 | .exc => .exc
noncomputable def Z0k : MV -> Bool
 | .tup _ => false
 | .exc => false
 | _ => true
noncomputable def liftAll (l : Nat) (vs : List MV) : Option (List MV) := match vs.all Z0k with
 | true => some (vs.map (lift l))
 | false => none
noncomputable def Z4s (l : Nat) : MO -> Option MO
 | .lst vs => match vs.all Z0k with | true => some (.lst (vs.map (lift l))) | false => none
 | .dct es => match es.all (fun e => Z0k e.2) with | true => some (.dct (es.map fun e => (e.1, lift l e.2))) | false => none
 | .obj c es => match es.all (fun e => Z0k e.2) with | true => some (.obj c (es.map fun e => (e.1, lift l e.2))) | false => none
 | .gone => none
noncomputable def Z0n : MV -> Mm MO
 | .pv (.lst l) => ret (.lst (pvs l))
 | .pv (.dct es) => ret (.dct (pvs2 es))
 | .pv (.obj c fs) => ret (.obj c (pvs2 fs))
 | .ref i => fun _ σ => match σ[i]? with | some o => some (o, σ) | none => none
 | .oref l i => fun O σ => match O[l]? with
  | some σo => match σo[i]? with
   | some o => match Z4s l o with | some o' => some (o', σ) | none => none
   | none => none
  | none => none
 | _ => bad
noncomputable def Z5y (b : Bool) : Int := match b with | true => 1 | false => 0
noncomputable def intEq (a b : Int) : Bool := decide (a = b)
mutual
noncomputable def pvEq : PV -> PV -> Bool
 | .none, .none => true
 | .bool a, .bool b => intEq (Z5y a) (Z5y b)
 | .bool a, .int b => intEq (Z5y a) b
 | .int a, .bool b => intEq a (Z5y b)
 | .int a, .int b => intEq a b
 | .str a, .str b => Z0g a b
 | .tup a, .tup b => pvsEq a b
 | .lst a, .lst b => pvsEq a b
 | _, _ => false
noncomputable def pvsEq : List PV -> List PV -> Bool
 | [], [] => true
 | a :: r, b :: t => match pvEq a b with
  | true => pvsEq r t
  | false => false
 | _, _ => false
end
noncomputable def Z0p : Nat -> PV -> Bool
 | _, .none | _, .bool _ | _, .int _ | _, .str _ => true
 | n + 1, .tup l => l.all (Z0p n)
 | n + 1, .lst l => l.all (Z0p n)
 | _, _ => false
noncomputable def eqPV (x y : PV) : Option Bool := match Z0p 60 x && Z0p 60 y with
 | true => some (pvEq x y)
 | false => none
noncomputable def Z1x : List MV -> Option (List Int)
 | [] => some []
 | .pv (.int i) :: r => match Z1x r with | some l => some (i :: l) | none => none
 | _ :: _ => none
noncomputable def Z4c : List MV -> Option (List Str)
 | [] => some []
 | .pv (.str s) :: r => match Z4c r with | some l => some (s :: l) | none => none
 | _ :: _ => none
noncomputable def lstM : MO -> Mm (List MV)
 | .lst l => ret l
 | _ => bad
noncomputable def seqM (v : MV) : Mm (List MV) := match v with
 | .pv (.tup l) => ret (pvs l)
 | .tup l => ret l
 | v => bnd (Z0n v) lstM
noncomputable def Z0w : MV -> Bool
 | .pv (.tup _) => true
 | .tup _ => true
 | _ => false
inductive Src | items (l : List MV) | zipped (l : List MV) | live (v : MV)
noncomputable def Z3m : Nat -> Int -> List MV
 | 0, _ => []
 | n + 1, i => .pv (.int i) :: Z3m n (i + 1)
noncomputable def srcM (v : MV) : Mm Src := match v with
 | .pv (.tup l) => ret (.items (pvs l))
 | .pv (.lst l) => ret (.items (pvs l))
 | .pv (.rng n) => gd (decide (n.natAbs < 1000000)) (ret (.items (Z3m n.toNat 0)))
 | .ref i => bnd (Z0n (.ref i)) fun o => bnd (lstM o) fun _ => ret (.live (.ref i))
 | .oref k i => bnd (Z0n (.oref k i)) fun o => bnd (lstM o) fun _ => ret (.live (.oref k i))
 | _ => bad
noncomputable def Z8n (v : MV) : Mm Bool := match v with
 | .pv (.bool b) => ret b
 | _ => bad
noncomputable def eqL (l r : List MV) : Option Bool := match Nat.beq l.length r.length with
 | false => some false
 | true => match Z0z l, Z0z r with
  | some p, some q => eqPV (.lst p) (.lst q)
  | _, _ => none
noncomputable def eqO (x y : MO) : Mm Bool := match x, y with
 | .lst l, .lst r => ofO (eqL l r)
 | _, _ => bad
noncomputable def eqRef (a b : MV) : Mm Bool := bnd (Z0n a) fun x => bnd (Z0n b) fun y => eqO x y
noncomputable def Z3w : PV -> Bool
 | .lst _ => true
 | _ => false
noncomputable def eqM (a b : MV) : Mm Bool := match a, b with
 | .pv x, .pv y => match Z3w x && Z3w y with
  | true => eqRef (.pv x) (.pv y)
  | false => ofO (eqPV x y)
 | a, b => eqRef a b
noncomputable def Z5r (x : PV) (l : List PV) : Option Bool := match Z0p 60 x && l.all (Z0p 60) with
 | true => some (l.any fun y => pvEq y x)
 | false => none
noncomputable def inL (p : PV) : MO -> Option Bool
 | .lst l => match Z0z l with | some ps => Z5r p ps | none => none
 | .dct es => match p with
  | .str k => some (look es k).isSome
  | _ => none
 | _ => none
noncomputable def inM (x c : MV) : Mm Bool := match x with
 | .pv p => match c with
  | .pv (.tup l) => ofO (Z5r p l)
  | c => bnd (Z0n c) fun o => ofO (inL p o)
 | _ => bad
noncomputable def isNone : MV -> Bool
 | .pv .none => true
 | _ => false
noncomputable def bv (b : Bool) : MV := .pv (.bool b)
noncomputable def int2 {α : Type} (f : Int -> Int -> Mm α) (a b : MV) : Mm α := match a, b with
 | .pv (.int x), .pv (.int y) => f x y
 | _, _ => bad
noncomputable def cmpM (op : CmpOp) (a b : MV) : Mm MV := match op with
 | .Eq => bnd (eqM a b) fun r => ret (bv r)
 | .NotEq => bnd (eqM a b) fun r => ret (bv (!r))
 | .In => bnd (inM a b) fun r => ret (bv r)
 | .NotIn => bnd (inM a b) fun r => ret (bv (!r))
 | .Is => gd (isNone b) (ret (bv (isNone a)))
 | .IsNot => gd (isNone b) (ret (bv (!isNone a)))
 | .LtE => int2 (fun x y => ret (bv (decide (x <= y)))) a b
 | .Gt => int2 (fun x y => ret (bv (decide (y < x)))) a b
 | .GtE => int2 (fun x y => ret (bv (decide (y <= x)))) a b
 | _ => bad
noncomputable def Z8f {α : Type} : Nat -> List α -> List α
 | 0, _ => []
 | n + 1, l => l ++ Z8f n l
noncomputable def okS (s : Str) : Bool := s.cps.toList.all (Nat.blt · 1114112)
noncomputable def Z1d (x : Int) : Bool := decide (x.natAbs < 18446744073709551616)
noncomputable def addL (x y : MO) : Option (List MV) := match x, y with
 | .lst l, .lst r => some (l ++ r)
 | _, _ => none
noncomputable def addRef (mu : Bool) (a b : MV) : Mm MV := bnd (Z0n a) fun x => bnd (Z0n b) fun y => bnd (ofO (addL x y)) fun l => Z1w mu l
noncomputable def intK {α : Type} (y : PV) (f : Int -> Mm α) : Mm α := match y with
 | .int j => f j
 | _ => bad
noncomputable def strK {α : Type} (y : PV) (f : Str -> Mm α) : Mm α := match y with
 | .str j => f j
 | _ => bad
noncomputable def tupK {α : Type} (y : PV) (f : List PV -> Mm α) : Mm α := match y with
 | .tup j => f j
 | _ => bad
noncomputable def addP (mu : Bool) (x y : PV) : Mm MV := match x with
 | .int i => intK y fun j => ret (.pv (.int (i + j)))
 | .str i => strK y fun j => gd (Nat.ble (i.cps.toList.length + j.cps.toList.length) lim) (ret (.pv (.str (i ++ j))))
 | .tup i => tupK y fun j => gd (Nat.ble (i.length + j.length) lim) (ret (.pv (.tup (i ++ j))))
 | x => addRef mu (.pv x) (.pv y)
noncomputable def addM (mu : Bool) (a b : MV) : Mm MV := match a, b with
 | .pv x, .pv y => addP mu x y
 | a, b => addRef mu a b
noncomputable def mulP (mu : Bool) (x : PV) (n : Int) : Mm MV := match x with
 | .int x => gd (Z1d x && Z1d n) (ret (.pv (.int (x * n))))
 | .lst l => gd (decide (n < 1000) && decide (-1000 < n) && Nat.ble l.length 1000) (Z1w mu (pvs (Z8f n.toNat l)))
 | _ => bad
noncomputable def mulM (mu : Bool) (a b : MV) : Mm MV := match a, b with
 | .pv x, .pv y => intK y (mulP mu x)
 | _, _ => bad
noncomputable def binM (mu : Bool) (op : Operator) (a b : MV) : Mm MV := match op with
 | .Add => addM mu a b
 | .Sub => int2 (fun x y => ret (.pv (.int (x - y)))) a b
 | .Mult => mulM mu a b
 | .FloorDiv => int2 (fun x y => gd (decide (0 < y) && decide (y < 1073741824)) (ret (.pv (.int (Int.fdiv x y))))) a b
 | .Mod => int2 (fun x y => gd (decide (0 < y)) (ret (.pv (.int (Int.fmod x y))))) a b
 | .Pow => int2 (fun x y => gd (decide (x = 10) && decide (y = 18)) (ret (.pv (.int 1000000000000000000)))) a b
 | _ => bad
noncomputable def idxOf (k : Int) (n : Nat) : Option Nat := match decide (0 <= k) with
 | true => some k.toNat
 | false => match decide (0 <= k + n) with | true => some (k + n).toNat | false => none
noncomputable def getKey (x : MO) (k : Str) : Option MV := match x with
 | .dct es => look es k
 | _ => none
noncomputable def charM (s : Str) (k : Int) : Option MV := match decide (0 <= k) && decide (k < 1000) with
 | true => (match s.cps[k.toNat]? with | some c => some (.pv (.str ⟨#[c]⟩)) | none => none)
 | false => none
noncomputable def subI (o : MV) (k : Int) : Mm MV := bnd (seqM o) fun l => bnd (ofO (idxOf k l.length)) fun j => gd (small l) (ofO l[j]?)
noncomputable def subM (o i : MV) : Mm MV := match i with
 | .pv (.int k) => match o with
  | .pv (.str s) => ofO (charM s k)
  | o => subI o k
 | .pv (.str k) => bnd (Z0n o) fun x => ofO (getKey x k)
 | _ => bad
noncomputable def cutL (u st : Option MV) (l : List MV) : Option (List MV) := match u, st with
 | none, some (.pv (.int k)) => match decide (k = -1) with | true => some l.reverse | false => none
 | some (.pv (.int j)), some (.pv (.int k)) => match decide (j = 0) && decide (k = -1) with | true => some (l.drop 1).reverse | false => none
 | some (.pv (.int j)), none => match decide (0 <= j) with | true => some (l.take j.toNat) | false => none
 | _, _ => none
noncomputable def isNone? (x : Option MV) : Bool := match x with
 | none => true
 | some _ => false
noncomputable def cutM (mu : Bool) (o : MV) (u st : Option MV) : Mm MV := bnd (seqM o) fun l => gd (small l) (bnd (ofO (cutL u st l)) fun r => match Z0w o with
 | true => gd (isNone? st) (Z4h r)
 | false => Z1w mu r)
noncomputable def setAt (i : Nat) (o : MO) : Mm Unit := fun _ σ => some ((), σ.set i o)
noncomputable def Z8g (x : MO) (i v : MV) : Option MO := match x, i with
 | .lst l, .pv (.int k) => match decide (0 <= k) && Nat.blt k.toNat l.length && small l with | true => some (.lst (l.set k.toNat v)) | false => none
 | .dct es, .pv (.str k) => match small es with | true => some (.dct (put es k v)) | false => none
 | _, _ => none
noncomputable def Z9j (o i v : MV) : Mm Unit := match o with
 | .ref r => bnd (Z0n o) fun x => bnd (ofO (Z8g x i v)) fun x' => setAt r x'
 | _ => bad
noncomputable def attrOf (x : MO) (a : Str) : Option (Addr × MV) := match x with
 | .obj c fs => match look fs a with | some v => some (c, v) | none => none
 | _ => none
noncomputable def putAttr (x : MO) (a : Str) (v : MV) : Option (Addr × MO) := match x with
 | .obj c fs => match Nat.ble fs.length 100 with | true => some (c, .obj c (put fs a v)) | false => none
 | _ => none
noncomputable def leStr : List Nat -> List Nat -> Bool
 | [], _ => true
 | _ :: _, [] => false
 | a :: x, b :: y => match Nat.blt a b with | true => true | false => match Nat.beq a b with | true => leStr x y | false => false
noncomputable def insK {α : Type} (x : Str × α) : List (Str × α) -> List (Str × α)
 | [] => [x]
 | y :: r => match leStr x.1.cps.toList y.1.cps.toList with | true => x :: y :: r | false => y :: insK x r
noncomputable def sortK {α : Type} : List (Str × α) -> List (Str × α)
 | [] => []
 | x :: r => insK x (sortK r)
structure FnRow where
 params : List Str
 dflts : List PV
 body : List Stmt
 scope : Scope
 isPure : Bool
 lent : Option Bool
structure ClsRow where
 init : Addr
 meths : List (Str × Addr)
 attrs : List Str
 isFrozen : Bool
structure Cfg where
 fns : Addr -> Option FnRow
 cls : Addr -> Option ClsRow
 glob : Str -> Option PV
 muts : Pos -> Bool
 exc : Str
 excC : Addr
noncomputable abbrev Z0j := PV -> List MV -> Mm MV
noncomputable def mem (x : Str) : List Str -> Bool
 | [] => false
 | y :: r => match Z0g y x with | true => true | false => mem x r
noncomputable def okAttr (cfg : Cfg) (c : Addr) (a : Str) : Bool := match cfg.cls c with
 | some row => mem a row.attrs
 | none => false
noncomputable def Z9x (cfg : Cfg) (o : MV) (a : Str) : Mm MV := bnd (Z0n o) fun x => bnd (ofO (attrOf x a)) fun p => gd (okAttr cfg p.1 a) (ret p.2)
noncomputable def Z9k (cfg : Cfg) (o : MV) (a : Str) (v : MV) : Mm Unit := match o with
 | .ref r => bnd (Z0n o) fun x => bnd (ofO (putAttr x a v)) fun p => gd (okAttr cfg p.1 a) (setAt r p.2)
 | _ => bad
noncomputable def methOf (cfg : Cfg) (c : Addr) (name : Str) : Option Addr := match cfg.cls c with
 | some row => look row.meths name
 | none => none
noncomputable def pairs (l : List MV) : Option (List (Str × MV)) := match l with
 | [] => some []
 | .pv (.tup [.str k, v]) :: r => match pairs r with | some es => some ((k, .pv v) :: es) | none => none
 | _ => none
noncomputable def Z4w : List (Str × MV) -> List (Str × MV) -> List (Str × MV)
 | acc, [] => acc
 | acc, (k, v) :: r => Z4w (put acc k v) r
noncomputable def lenO : MO -> Option Nat
 | .lst l => some l.length
 | .dct es => some es.length
 | _ => none
noncomputable def lenM (v : MV) : Mm MV := match Z0w v with
 | true => bnd (seqM v) fun l => gd (small l) (ret (.pv (.int l.length)))
 | false => bnd (Z0n v) fun o => bnd (ofO (lenO o)) fun n => gd (Nat.ble n lim) (ret (.pv (.int n)))
noncomputable def dictO : MO -> Option (List (Str × MV))
 | .dct es => some es
 | .lst l => match small l with | true => (match pairs l with | some es => some (Z4w [] es) | none => none) | false => none
 | _ => none
noncomputable def Y0m : MO -> Option (List Str)
 | .lst l => Z4c l
 | .dct es => some (es.map (·.1))
 | _ => none
noncomputable def Z2t (l : List Str) : List Str := (sortK (l.map fun x => (x, ()))).map (·.1)
noncomputable def isStrV : MV -> Bool
 | .pv (.str _) => true
 | _ => false
noncomputable def rangeM (v : MV) : Mm MV := match v with
 | .pv (.int n) => gd (Z1d n) (ret (.pv (.rng n)))
 | _ => bad
noncomputable def strM (v : MV) : Mm MV := match v with
 | .pv (.int i) => gd (Z1d i && okS (Str.ofString (toString i))) (ret (.pv (.str (Str.ofString (toString i)))))
 | _ => bad
noncomputable def intM (v : MV) : Mm MV := match v with
 | .pv (.int i) => ret (.pv (.int i))
 | .pv (.bool b) => ret (.pv (.int (Z5y b)))
 | _ => bad
noncomputable def bi1 (mu : Bool) (b : BI) (v : MV) : Mm MV := match b with
 | .len => lenM v
 | .list => bnd (seqM v) fun l => Z1w mu l
 | .tuple => bnd (seqM v) fun l => Z4h l
 | .dict => bnd (Z0n v) fun o => bnd (ofO (dictO o)) fun es => Z7r mu es
 | .range => rangeM v
 | .sorted => bnd (Z0n v) fun o => bnd (ofO (Y0m o)) fun l => gd (Nat.blt l.length 64) (Z1w mu ((Z2t l).map fun x => .pv (.str x)))
 | .str => strM v
 | .int => intM v
 | _ => bad
noncomputable def biM (mu : Bool) (b : BI) (args : List MV) : Mm MV := match args with
 | [v] => bi1 mu b v
 | _ => bad
noncomputable def callM (C : Z0j) (mu : Bool) (fv : MV) (vs : List MV) : Mm MV := match fv with
 | .pv p => match p with
  | .bi b => biM mu b vs
  | p => C p vs
 | _ => bad
inductive Meth | join | get | pop | append | extend | own
noncomputable def methTab : List (Str × Meth) := [("join", .join), ("get", .get), ("pop", .pop), ("append", .append), ("extend", .extend)]
noncomputable def Z3t (name : Str) : Meth := match look methTab name with
 | some m => m
 | none => .own
noncomputable def joinM (s : Str) (v : MV) : Mm MV := bnd (seqM v) fun l => gd (!Z0w v) (bnd (ofO (Z4c l)) fun xs => gd (JoinOk s xs && okS (Txt.join s xs)) (ret (.pv (.str (Txt.join s xs)))))
noncomputable def dgetM (k : Str) (d : MV) (o : MO) : Mm MV := match o with
 | .dct es => ret (match look es k with | some v => v | none => d)
 | _ => bad
noncomputable def getM (v : MV) (k : Str) (d : MV) : Mm MV := bnd (Z0n v) (dgetM k d)
noncomputable def Y1f : MO -> Option (List MV)
 | .lst l => match small l with | true => some l | false => none
 | _ => none
noncomputable def popM (i : Nat) : Mm MV := bnd (Z0n (.ref i)) fun o => bnd (ofO (Y1f o)) fun l => bnd (ofO l.getLast?) fun v => bnd (setAt i (.lst l.dropLast)) fun _ => ret v
noncomputable def appendM (i : Nat) (v : MV) : Mm MV := bnd (Z0n (.ref i)) fun o => bnd (ofO (Y1f o)) fun l => bnd (setAt i (.lst (l ++ [v]))) fun _ => ret (.pv .none)
noncomputable def extendM (i : Nat) (v : MV) : Mm MV := bnd (Z0n (.ref i)) fun o => bnd (ofO (Y1f o)) fun l => bnd (seqM v) fun r => gd (small r && !Z0w v) (bnd (setAt i (.lst (l ++ r))) fun _ => ret (.pv .none))
noncomputable def clsOf (name : Str) : MO -> Option Addr
 | .obj c fs => match look fs name with | none => some c | some _ => none
 | _ => none
inductive Callee | join (s : Str) | get | pop | append | extend | own (f : Addr)
noncomputable def getCal : MO -> Mm Callee
 | .dct _ => ret .get
 | _ => bad
noncomputable def preC (cfg : Cfg) (o : MV) (name : Str) (m : Meth) : Mm Callee := match m, o with
 | .join, .pv (.str s) => ret (.join s)
 | .get, o => bnd (Z0n o) getCal
 | .pop, .ref i => bnd (Z0n (.ref i)) fun x => bnd (ofO (Y1f x)) fun _ => ret .pop
 | .append, .ref i => bnd (Z0n (.ref i)) fun x => bnd (ofO (Y1f x)) fun _ => ret .append
 | .extend, .ref i => bnd (Z0n (.ref i)) fun x => bnd (ofO (Y1f x)) fun _ => ret .extend
 | .own, o => bnd (Z0n o) fun x => bnd (ofO (clsOf name x)) fun c => bnd (ofO (methOf cfg c name)) fun f => ret (.own f)
 | _, _ => bad
noncomputable def preM (cfg : Cfg) (o : MV) (name : Str) : Mm Callee := preC cfg o name (Z3t name)
noncomputable def arg1 (f : MV -> Mm MV) : List MV -> Mm MV
 | [v] => f v
 | _ => bad
noncomputable def arg0 (m : Mm MV) : List MV -> Mm MV
 | [] => m
 | _ => bad
noncomputable def strA {α : Type} (f : Str -> Mm α) : MV -> Mm α
 | .pv (.str s) => f s
 | _ => bad
noncomputable def arg2 (f : MV -> MV -> Mm MV) : List MV -> Mm MV
 | [v, w] => f v w
 | _ => bad
noncomputable def refA (f : Nat -> Mm MV) : MV -> Mm MV
 | .ref i => f i
 | _ => bad
noncomputable def runM (C : Z0j) (mu : Bool) (c : Callee) (o : MV) (args : List MV) : Mm MV := match c with
 | .join s => arg1 (joinM s) args
 | .get => arg2 (fun k d => strA (fun k => getM o k d) k) args
 | .pop => refA (fun i => arg0 (popM i) args) o
 | .append => refA (fun i => arg1 (appendM i) args) o
 | .extend => refA (fun i => arg1 (extendM i) args) o
 | .own f => C (.fn f) (o :: args)
end Mine.Internal
end
section
open PySem
namespace Mine.Internal
noncomputable def constM : Const -> Mm MV
 | .none => ret (.pv .none)
 | .bool b => ret (.pv (.bool b))
 | .int i => ret (.pv (.int i))
 | .str s => gd (okS s) (ret (.pv (.str s)))
 | _ => bad
noncomputable def Z8w (x : Str) : Bool := match x.cps.toList with
 | 95 :: 95 :: _ => false
 | _ => true
noncomputable def nameM (cfg : Cfg) (sc : Scope) (ρ : Vars) (x : Str) : Mm MV := gd (Z8w x) <| match look sc.names x with
 | some .local => ofO (Z2c ρ x)
 | some .cell => ofO (Z2c ρ x)
 | some .free => ofO (Z2c ρ x)
 | some .globalImplicit => match cfg.glob x with | some p => ret (.pv p) | none => bad
 | _ => bad
noncomputable def putV (ρ : Vars) (x : Str) (v : MV) : Option Vars := match look ρ x with
 | some _ => some (put ρ x (some v))
 | none => none
noncomputable def setV (sc : Scope) (ρ : Vars) (x : Str) (v : MV) : Option Vars := match look sc.names x with
 | some .local => putV ρ x v
 | some .cell => putV ρ x v
 | _ => none
noncomputable def seqAll : List (Mm MV) -> Mm (List MV)
 | [] => ret []
 | m :: r => bnd m fun v => bnd (seqAll r) fun l => ret (v :: l)
noncomputable def boolM (op : BoolOp) : List (Mm MV) -> Mm MV
 | [] => bad
 | [x] => x
 | x :: r => bnd x fun v => bnd (Z8n v) fun b => match op, b with
  | .And, false => ret v
  | .Or, true => ret v
  | _, _ => boolM op r
noncomputable def Z6j {α : Type} (f : MV -> α -> Mm (Option MV × α)) : List MV -> α -> Mm (Option MV × α)
 | [], a => ret (none, a)
 | x :: r, a => bnd (f x a) fun t => match t with
  | (none, a') => Z6j f r a'
  | (some v, a') => ret (some v, a')
noncomputable def big : Nat := 1000000000000
noncomputable def Z3b : PySem.Expr -> Bool
 | .Tuple .. => true
 | _ => false
noncomputable def Z7c {α : Type} (f : MV -> α -> Mm (Option MV × α)) (v : MV) : Nat -> Nat -> α -> Mm (Option MV × α)
 | 0, _, _ => bad
 | n + 1, k, a => bnd (Z0n v) fun o => bnd (lstM o) fun l => match l[k]? with
  | none => ret (none, a)
  | some x => bnd (f x a) fun t => match t with
   | (none, a') => Z7c f v n (k + 1) a'
   | (some r, a') => ret (some r, a')
noncomputable def Z2k {α : Type} (tup : Bool) (s : Src) (f : MV -> α -> Mm (Option MV × α)) (a : α) : Mm (Option MV × α) := match s with
 | .items l => Z6j f l a
 | .zipped l => gd tup (Z6j f l a)
 | .live v => Z7c f v 1000 0 a
noncomputable def Z3s (t : Vars -> Mm Bool) (body : Vars -> Mm (Option MV × Vars)) : Nat -> Vars -> Mm (Option MV × Vars)
 | 0, _ => bad
 | n + 1, ρ => bnd (t ρ) fun b => match b with
  | false => ret (none, ρ)
  | true => bnd (body ρ) fun r => match r with
   | (none, ρ') => Z3s t body n ρ'
   | (some v, ρ') => ret (some v, ρ')
noncomputable def names? : List PySem.Expr -> Option (List Str)
 | [] => some []
 | .Name x _ :: r => match names? r with | some l => some (x :: l) | none => none
 | _ :: _ => none
noncomputable def Z2m (sc : Scope) : Vars -> List Str -> List MV -> Option Vars
 | ρ, [], [] => some ρ
 | ρ, x :: r, v :: t => match setV sc ρ x v with | some ρ' => Z2m sc ρ' r t | none => none
 | _, _, _ => none
noncomputable def Z3x : List Str -> Bool
 | [] => true
 | x :: r => match mem x r with | true => false | false => Z3x r
noncomputable def Z1g (t : PySem.Expr) (v : MV) (sc : Scope) (ρ : Vars) : Mm Vars := match t with
 | .Name x _ => ofO (setV sc ρ x v)
 | .Tuple es _ _ => match names? es with
  | some xs => bnd (seqM v) fun l => gd (Z0w v && Z3x xs) (ofO (Z2m sc ρ xs l))
  | none => bad
 | _ => bad
noncomputable def Z7j (names : List (Str × NameKind)) : Vars := match names with
 | [] => []
 | (x, .local) :: r => (x, none) :: Z7j r
 | (x, .cell) :: r => (x, none) :: Z7j r
 | _ :: r => Z7j r
noncomputable def Z2a (ρ : Vars) (names : List (Str × NameKind)) : Vars := match names with
 | [] => []
 | (x, .local) :: r => (x, none) :: Z2a ρ r
 | (x, .free) :: r => (x, Z2c ρ x) :: Z2a ρ r
 | _ :: r => Z2a ρ r
noncomputable def isFun : ScopeKind -> Bool
 | .function => true
 | _ => false
noncomputable def seen (out : List (Str × NameKind)) (x : Str) : Bool := match look out x with
 | some .cell => true
 | some .free => true
 | _ => false
noncomputable def Z3r (out all : List (Str × NameKind)) : List (Str × NameKind) -> Bool
 | [] => true
 | (x, .local) :: r => match look all x with | some .local => Z3r out all r | _ => false
 | (x, .free) :: r => match seen out x with | true => Z3r out all r | false => false
 | (_, .globalImplicit) :: r => Z3r out all r
 | _ :: _ => false
noncomputable def sync : Comprehension -> Bool
 | ⟨_, _, _, 0⟩ => true
 | _ => false
noncomputable def Z8c : PySem.Expr -> Bool
 | .Call (.Name _ _) [] [] _ => false
 | _ => true
noncomputable def zipL : List MV -> List MV -> List MV
 | x :: r, y :: t => Y1e [x, y] :: zipL r t
 | _, _ => []
noncomputable def isZip (cfg : Cfg) (sc : Scope) : PySem.Expr -> Bool
 | .Name x _ => match Z8w x with
  | true => (match look sc.names x with
   | some .globalImplicit => match cfg.glob x with | some (.bi .zip) => true | _ => false
   | _ => false)
  | false => false
 | _ => false
noncomputable def Z3p : MV -> Bool
 | .pv _ => true
 | .tup _ => true
 | _ => false
noncomputable def negM : MV -> Mm MV
 | .pv (.int i) => ret (.pv (.int (-i)))
 | _ => bad
noncomputable def Z7p : List (Option (Mm MV) × Mm MV) -> Mm (List (Str × MV))
 | [] => ret []
 | (some k, v) :: r => bnd k fun kv => bnd v fun vv => strA (fun s => bnd (Z7p r) fun l => ret ((s, vv) :: l)) kv
 | _ => bad
noncomputable def isComp : PySem.Expr -> Bool
 | .ListComp .. => true
 | .SetComp .. => true
 | .DictComp .. => true
 | _ => false
noncomputable def isExc (cfg : Cfg) (sc : Scope) : PySem.Expr -> Bool
 | .Name x _ => match Z0g cfg.exc x with
  | true => (match look sc.names x with | some .globalImplicit => true | _ => false)
  | false => false
 | _ => false
noncomputable def noExc (v : MV) : Mm MV := match v with
 | .exc => bad
 | v => ret v
noncomputable def calm (C : Z0j) : Z0j := fun p vs => bnd (C p vs) noExc
noncomputable def Y0j : PySem.Expr -> PySem.Expr -> Bool
 | .Tuple _ _ _, .Tuple vs _ _ => vs.all (foldedForSure 8) || !(vs.all (constantsAlone 8))
 | _, _ => true
structure Ix where
 e : PySem.Expr -> Scope -> Vars -> Mm MV
 t : PySem.Expr -> Scope -> Vars -> Mm Bool
 s : PySem.Expr -> Scope -> Vars -> Mm Src
 x : Stmt -> Scope -> Vars -> Mm (Option MV × Vars)
section
variable (cfg : Cfg) (C : Z0j)
variable (I : Ix)
noncomputable def tstAll (op : BoolOp) (sc : Scope) (ρ : Vars) : List PySem.Expr -> Mm Bool
 | [] => ret (match op with | .And => true | .Or => false)
 | x :: r => bnd (I.t x sc ρ) fun b => match op, b with
  | .And, false => ret false
  | .Or, true => ret true
  | _, _ => tstAll op sc ρ r
noncomputable def tsts (sc : Scope) (ρ : Vars) : List PySem.Expr -> Mm Bool
 | [] => ret true
 | x :: r => bnd (I.t x sc ρ) fun b => match b with | true => tsts sc ρ r | false => ret false
noncomputable def Z5s (t : PySem.Expr) (ifs : List PySem.Expr) (sc : Scope) (rest : Vars -> List MV -> Mm (List MV × Vars)) (x : MV) (acc : List MV × Vars) : Mm (Option MV × (List MV × Vars)) :=
 bnd (Z1g t x sc acc.2) fun ρ' => bnd (tsts I sc ρ' ifs) fun ok => match ok with
  | false => ret (none, (acc.1, ρ'))
  | true => bnd (rest ρ' acc.1) fun r => ret (none, r)
noncomputable def comp (elt : PySem.Expr) (sc : Scope) : List Comprehension -> Vars -> List MV -> Mm (List MV × Vars)
 | [], ρ, acc => bnd (I.e elt sc ρ) fun v => gd (small acc) (ret (acc ++ [v], ρ))
 | ⟨t, it, ifs, 0⟩ :: rest, ρ, acc => bnd (I.s it sc ρ) fun s =>
   bnd (Z2k (Z3b t) s (Z5s I t ifs sc (comp elt sc rest)) (acc, ρ)) fun r => ret r.2
 | _, _, _ => bad
noncomputable def Z5e (es : List PySem.Expr) (sc : Scope) (ρ : Vars) : Mm (List MV) := seqAll (es.map fun e => I.e e sc ρ)
noncomputable def mcallE (args : List PySem.Expr) (sc : Scope) (ρ : Vars) (apos pos : Pos) (o : PySem.Expr) (name : Str) : Mm MV :=
 gd (Nat.beq apos.endLine pos.line && Nat.blt args.length 30 && Z8c o) <| bnd (I.e o sc ρ) fun ov => bnd (preM cfg ov name) fun c => bnd (Z5e I args sc ρ) fun vs => runM C (cfg.muts pos) c ov vs
noncomputable def mopt (u : Option PySem.Expr) (sc : Scope) (ρ : Vars) : Mm (Option MV) := match u with
 | none => ret none
 | some e => bnd (I.e e sc ρ) fun v => ret (some v)
noncomputable def msub (v i : PySem.Expr) (sc : Scope) (ρ : Vars) : Mm MV := bnd (I.e v sc ρ) fun o => bnd (I.e i sc ρ) fun k => subM o k
noncomputable def mcall1 (f : PySem.Expr) (args : List PySem.Expr) (pos : Pos) (sc : Scope) (ρ : Vars) : Mm MV := bnd (I.e f sc ρ) fun fv => bnd (Z5e I args sc ρ) fun vs => callM C (cfg.muts pos) fv vs
noncomputable def mE (e : PySem.Expr) (sc : Scope) (ρ : Vars) : Mm MV := match e with
 | .Constant c _ _ => constM c
 | .Name x _ => nameM cfg sc ρ x
 | .BoolOp op vs _ => boolM op (vs.map fun e => I.e e sc ρ)
 | .BinOp l op r pos => bnd (I.e l sc ρ) fun a => bnd (I.e r sc ρ) fun b => binM (cfg.muts pos) op a b
 | .UnaryOp op x _ => (match op with
  | .Not => bnd (I.e x sc ρ) fun v => bnd (Z8n v) fun b => ret (bv (!b))
  | .USub => bnd (I.e x sc ρ) negM
  | _ => bad)
 | .IfExp t b o _ => bnd (I.t t sc ρ) fun c => match c with | true => I.e b sc ρ | false => I.e o sc ρ
 | .Dict ks vs pos => gd (Nat.ble vs.length 15 && Nat.beq ks.length vs.length) <| bnd (Z7p ((ks.map fun o => o.map fun e => I.e e sc ρ).zip (vs.map fun e => I.e e sc ρ))) fun es => Z7r (cfg.muts pos) (Z4w [] es)
 | .ListComp elt gens scope pos => (match gens with
  | ⟨t, it, ifs, 0⟩ :: rest => gd (isFun scope.kind && Z3r sc.names scope.names scope.names && rest.all sync) <| bnd (I.s it sc ρ) fun s =>
   bnd (Z2k (Z3b t) s (Z5s I t ifs scope (comp I elt scope rest)) ([], Z2a ρ scope.names)) fun r => Z1w (cfg.muts pos) r.2.1
  | _ => bad)
 | .Compare l ops rs _ => (match ops, rs with
  | [op], [r] => bnd (I.e l sc ρ) fun a => bnd (I.e r sc ρ) fun b => cmpM op a b
  | _, _ => bad)
 | .Call f args kws pos => (match kws with
  | [] => (match f with
   | .Attribute o name apos => mcallE cfg C I args sc ρ apos pos o name
   | .Name x p => mcall1 cfg C I (.Name x p) args pos sc ρ
   | _ => bad)
  | _ => bad)
 | .Attribute v a _ => gd (Z8c v) <| bnd (I.e v sc ρ) fun o => Z9x cfg o a
 | .Subscript v i pos => (match i with
  | .Slice l u st _ => (match l with
   | none => bnd (I.e v sc ρ) fun o => bnd (mopt I u sc ρ) fun uv => bnd (mopt I st sc ρ) fun sv => cutM (cfg.muts pos) o uv sv
   | some _ => bad)
  | .Constant c k p => msub I v (.Constant c k p) sc ρ
  | .Name x p => msub I v (.Name x p) sc ρ
  | .UnaryOp op x p => msub I v (.UnaryOp op x p) sc ρ
  | .Subscript x j p => msub I v (.Subscript x j p) sc ρ
  | .Call f args kws p => msub I v (.Call f args kws p) sc ρ
  | _ => bad)
 | .List es pos => bnd (Z5e I es sc ρ) fun vs => Z1w (cfg.muts pos) vs
 | .Tuple es _ _ => bnd (Z5e I es sc ρ) fun vs => Z4h vs
 | _ => bad
noncomputable def mtv (e : PySem.Expr) (sc : Scope) (ρ : Vars) : Mm Bool := bnd (mE cfg C I e sc ρ) Z8n
noncomputable def mT (e : PySem.Expr) (sc : Scope) (ρ : Vars) : Mm Bool := match e with
 | .UnaryOp op x _ => (match op with
  | .Not => bnd (I.t x sc ρ) fun b => ret (!b)
  | _ => bad)
 | .BoolOp op vs _ => tstAll I op sc ρ vs
 | .Compare l ops rs p => mtv cfg C I (.Compare l ops rs p) sc ρ
 | .Call f args kws p => mtv cfg C I (.Call f args kws p) sc ρ
 | .Name x p => mtv cfg C I (.Name x p) sc ρ
 | .Attribute x a p => mtv cfg C I (.Attribute x a p) sc ρ
 | .Subscript x a p => mtv cfg C I (.Subscript x a p) sc ρ
 | _ => bad
noncomputable def msv (e : PySem.Expr) (sc : Scope) (ρ : Vars) : Mm Src := bnd (mE cfg C I e sc ρ) srcM
noncomputable def mS (e : PySem.Expr) (sc : Scope) (ρ : Vars) : Mm Src := match e with
 | .Call f args kws pos => (match isZip cfg sc f, kws, args with
  | true, [], [a, b] => bnd (I.e a sc ρ) fun x => bnd (I.e b sc ρ) fun y => gd (Z3p x && Z3p y) <| bnd (seqM x) fun l => bnd (seqM y) fun r => ret (.zipped (zipL l r))
  | false, kws, args => msv cfg C I (.Call f args kws pos) sc ρ
  | _, _, _ => bad)
 | .Name x p => msv cfg C I (.Name x p) sc ρ
 | .Attribute x a p => msv cfg C I (.Attribute x a p) sc ρ
 | .Subscript x a p => msv cfg C I (.Subscript x a p) sc ρ
 | .Tuple es c p => msv cfg C I (.Tuple es c p) sc ρ
 | .List es p => msv cfg C I (.List es p) sc ρ
 | _ => bad
noncomputable def putM (o i : PySem.Expr) (v : MV) (sc : Scope) (ρ : Vars) : Mm Vars := bnd (I.e o sc ρ) fun ov => bnd (I.e i sc ρ) fun iv => bnd (Z9j ov iv v) fun _ => ret ρ
noncomputable def Z4g (sc : Scope) (ρ : Vars) : List PySem.Expr -> List MV -> Mm Vars
 | [], [] => ret ρ
 | .Subscript o i _ :: r, v :: t => bnd (putM I o i v sc ρ) fun _ => Z4g sc ρ r t
 | _, _ => bad
noncomputable def Z8k (t : PySem.Expr) (v : MV) (sc : Scope) (ρ : Vars) : Mm Vars := match t with
 | .Attribute o a _ => bnd (I.e o sc ρ) fun ov => bnd (Z9k cfg ov a v) fun _ => ret ρ
 | .Subscript o i _ => putM I o i v sc ρ
 | .Name x c => Z1g (.Name x c) v sc ρ
 | .Tuple es c p => match names? es with
  | some _ => Z1g (.Tuple es c p) v sc ρ
  | none => bnd (seqM v) fun l => gd (Z0w v) (Z4g I sc ρ es l)
 | _ => bad
noncomputable def exs (sc : Scope) : List Stmt -> Vars -> Mm (Option MV × Vars)
 | [], ρ => ret (none, ρ)
 | s :: r, ρ => bnd (I.x s sc ρ) fun t => match t with
  | (none, ρ') => exs sc r ρ'
  | (some v, ρ') => ret (some v, ρ')
noncomputable def mturn (t : PySem.Expr) (b : List Stmt) (sc : Scope) (x : MV) (ρ : Vars) : Mm (Option MV × Vars) := bnd (Z1g t x sc ρ) fun ρ' => exs I sc b ρ'
noncomputable def ownM (c : Callee) (o : MV) (vs : List MV) : Mm MV := match c with
 | .own f => C (.fn f) (o :: vs)
 | _ => bad
noncomputable def mcallX (e : PySem.Expr) (sc : Scope) (ρ : Vars) : Mm MV := match e with
 | .Call f args kws pos => (match kws, f with
  | [], .Attribute o name apos => gd (Nat.beq apos.endLine pos.line && Nat.blt args.length 30 && Z8c o) <| bnd (I.e o sc ρ) fun ov => bnd (preM cfg ov name) fun c => bnd (Z5e I args sc ρ) fun vs => ownM C c ov vs
  | _, _ => bad)
 | _ => bad
noncomputable def Y0e (isR : Bool) (h : PySem.Expr) (z : MV) (ρ : Vars) : Mm (Option MV × Vars) := match z with
 | .exc => (match h with
  | .Constant c _ _ => (match c with
   | .bool b => ret (some (.pv (.bool b)), ρ)
   | .none => ret (some (.pv .none), ρ)
   | _ => bad)
  | _ => bad)
 | z => match isR with
  | true => ret (some z, ρ)
  | false => match z with
   | .pv .none => ret (none, ρ)
   | _ => bad
noncomputable def retOf : List Stmt -> Option PySem.Expr
 | [s] => (match s with | .Return h _ => h | _ => none)
 | _ => none
noncomputable def Z3n : ExceptHandler -> Option (PySem.Expr × PySem.Expr)
 | .ExceptHandler t n b _ => match t, n, retOf b with
  | some t, none, some h => some (t, h)
  | _, _, _ => none
noncomputable def mTry (isR : Bool) (v : PySem.Expr) (hs : List ExceptHandler) (sc : Scope) (ρ : Vars) : Mm (Option MV × Vars) := match hs with
 | [x] => (match Z3n x with
  | some th => gd (isExc cfg sc th.1) <| bnd (mcallX cfg C I v sc ρ) fun z => Y0e isR th.2 z ρ
  | none => bad)
 | _ => bad
noncomputable def tryM (b : List Stmt) (hs : List ExceptHandler) (sc : Scope) (ρ : Vars) : Mm (Option MV × Vars) := match b with
 | [s] => (match s with
  | .Expr v _ => mTry cfg C I false v hs sc ρ
  | .Return v _ => (match v with
   | some v => mTry cfg C I true v hs sc ρ
   | none => bad)
  | _ => bad)
 | _ => bad
noncomputable def raiseM (x y : Option PySem.Expr) (sc : Scope) (ρ : Vars) : Mm (Option MV × Vars) := match x, y with
 | some x, none => (match x with
  | .Call f args kws _ => (match args, kws with
   | [a], [] => gd (isExc cfg sc f) <| bnd (I.e a sc ρ) fun v => gd (isStrV v) (ret (some .exc, ρ))
   | _, _ => bad)
  | _ => bad)
 | _, _ => bad
noncomputable def mX (s : Stmt) (sc : Scope) (ρ : Vars) : Mm (Option MV × Vars) := match s with
 | .Expr v _ => gd (!isComp v) <| bnd (I.e v sc ρ) fun r => match r with
  | .pv .none => ret (none, ρ)
  | _ => bad
 | .Pass _ => ret (none, ρ)
 | .Return e _ => (match e with
  | none => ret (some (.pv .none), ρ)
  | some e => bnd (I.e e sc ρ) fun v => ret (some v, ρ))
 | .Assign ts v _ => (match ts with
  | [t] => gd (Y0j t v) <| bnd (I.e v sc ρ) fun x => bnd (Z8k cfg I t x sc ρ) fun ρ' => ret (none, ρ')
  | _ => bad)
 | .If t b o _ => bnd (I.t t sc ρ) fun c => match c with | true => exs I sc b ρ | false => exs I sc o ρ
 | .While t b o _ => (match o with
  | [] => Z3s (I.t t sc) (exs I sc b) big ρ
  | _ => bad)
 | .For t it b o _ => (match o with
  | [] => bnd (I.s it sc ρ) fun s => Z2k (Z3b t) s (mturn I t b sc) ρ
  | _ => bad)
 | .Raise x y _ => raiseM cfg I x y sc ρ
 | .Try b hs o fin _ => (match o, fin with
  | [], [] => tryM cfg C I b hs sc ρ
  | _, _ => bad)
 | _ => bad
noncomputable def stepI : Ix := ⟨mE cfg (calm C) I, mT cfg (calm C) I, mS cfg (calm C) I, mX cfg C I⟩
end
noncomputable def ix0 : Ix := ⟨fun _ _ _ => bad, fun _ _ _ => bad, fun _ _ _ => bad, fun _ _ _ => bad⟩
noncomputable def ix (cfg : Cfg) (C : Z0j) (n : Nat) : Ix := Nat.rec ix0 (fun _ I => stepI cfg C I) n
end Mine.Internal
end
section
open PySem
namespace Mine.Internal
theorem Z0a {α : Type} {a : α} {P : Prop} (e : (none : Option α) = some a) : P := nomatch e
theorem Z0y {P : Prop} (e : false = true) : P := nomatch e
theorem no_tf {P : Prop} (e : true = false) : P := nomatch e
noncomputable def mapO {α β : Type} (f : α -> Option β) : List α -> Option (List β)
 | [] => some []
 | x :: r => match f x with
  | some y => match mapO f r with | some l => some (y :: l) | none => none
  | none => none
noncomputable def mapO2 {α β : Type} (f : α -> Option β) : List (Str × α) -> Option (List (Str × β))
 | [] => some []
 | (k, x) :: r => match f x with
  | some y => match mapO2 f r with | some l => some ((k, y) :: l) | none => none
  | none => none
noncomputable def Z0f : Nat -> Hp -> MV -> Option PV
 | 0, _, v => match v with | .pv p => some p | _ => none
 | n + 1, σ, v => match v with
  | .pv p => some p
  | .tup l => match mapO (Z0f n σ) l with | some ps => some (.tup ps) | none => none
  | .ref i => match σ[i]? with
   | some (.lst l) => match mapO (Z0f n σ) l with | some ps => some (.lst ps) | none => none
   | some (.dct es) => match mapO2 (Z0f n σ) es with | some ps => some (.dct ps) | none => none
   | some (.obj c es) => match mapO2 (Z0f n σ) es with | some ps => some (.obj c ps) | none => none
   | some .gone => none
   | none => none
  | .oref _ _ => none
  | .exc => none
noncomputable def binds (r : FnRow) (args : List MV) : Option Vars :=
 match Nat.ble args.length r.params.length && Nat.ble (r.params.length - args.length) r.dflts.length with
 | true => Z2m r.scope (Z7j r.scope.names) r.params (args ++ (r.dflts.drop (r.dflts.length - (r.params.length - args.length))).map .pv)
 | false => none
noncomputable def outV : Option MV × Vars -> MV
 | (some v, _) => v
 | (none, _) => .pv .none
noncomputable abbrev topI (cfg : Cfg) (C : Z0j) : Ix := ix cfg C 40
noncomputable def openM (cfg : Cfg) (C : Z0j) (r : FnRow) (args : List MV) : Mm MV := match binds r args with
 | some ρ => bnd (exs (topI cfg C) r.scope r.body ρ) fun t => ret (outV t)
 | none => bad
noncomputable def frz (σ σl : Hp) (v : MV) : Option (MV × Hp) := match Z0f 30 σl v with
 | some p => some (.pv p, σ)
 | none => none
noncomputable def Y0z (cfg : Cfg) (C : Z0j) (r : FnRow) (args : List MV) (g : Z0c -> Hp -> Z0c) : Mm MV := match binds r args with
 | some ρ => fun O σ => match exs (topI cfg C) r.scope r.body ρ (g O σ) [] with
  | some (t, σl) => frz σ σl (outV t)
  | none => none
 | none => bad
noncomputable def Z4n (w : Bool) (σ : Hp) (l : List MV) : Option (List MV) := match w with
 | true => (match mapO (Z0f 30 σ) l with | some ps => some (pvs ps) | none => none)
 | false => liftAll 0 l
noncomputable def atomP : PV -> Bool
 | .none => true
 | .bool _ => true
 | .int _ => true
 | .str _ => true
 | _ => false
noncomputable def Z3k (w : Bool) (σ : Hp) (i : Nat) (v : MV) (σl : Hp) : Option (MV × Hp) := match σl with
 | .lst l :: σr => match Z1x l with
  | some _ => match Z0f 30 (.gone :: σr) v with
   | some p => match !w || atomP p with
    | true => some (.pv p, σ.set i (.lst l))
    | false => none
   | none => none
  | none => none
 | _ => none
noncomputable def lentO (w : Bool) (σ : Hp) (i : Nat) (O : Z0c) : Z0c := match w with
 | true => []
 | false => σ.set i .gone :: O
noncomputable def Y1j (cfg : Cfg) (C : Z0j) (r : FnRow) (w : Bool) (i : Nat) (l : List MV) (rest : List MV) : Mm MV := fun O σ => match binds r (.ref 0 :: rest) with
 | some ρ => match exs (topI cfg C) r.scope r.body ρ (lentO w σ i O) [.lst l] with
  | some (t, σl) => Z3k w σ i (outV t) σl
  | none => none
 | none => none
noncomputable def Z6e (σ : Hp) (i : Nat) : Option (List MV) := match σ[i]? with
 | some (.lst l) => match Z1x l with | some _ => some l | none => none
 | _ => none
noncomputable def lentM (cfg : Cfg) (C : Z0j) (r : FnRow) (w : Bool) (args : List MV) : Mm MV := match args with
 | .ref i :: rest => fun O σ => match Z6e σ i with
  | some l => match Z4n w (σ.set i .gone) rest with
   | some rest' => Y1j cfg C r w i l rest' O σ
   | none => none
  | none => none
 | _ => bad
noncomputable def fnM (cfg : Cfg) (C : Z0j) (r : FnRow) (args : List MV) : Mm MV := match r.isPure with
 | false => openM cfg C r args
 | true => match r.lent with
  | some w => lentM cfg C r w args
  | none => match Z0z args with
   | some _ => Y0z cfg C r args fun _ _ => []
   | none => match args.all Z0k with
    | true => Y0z cfg C r (args.map (lift 0)) fun O σ => σ :: O
    | false => bad
noncomputable def noneV (x : Option (MV × Hp)) (f : Hp -> Option (MV × Hp)) : Option (MV × Hp) := match x with
 | some (.pv .none, σl) => f σl
 | _ => none
noncomputable def clsM (C : Z0j) (c : Addr) (row : ClsRow) (args : List MV) : Mm MV := match row.isFrozen with
 | true => (match Z0z args with
  | some _ => fun _ σ => noneV (C (.fn row.init) (.ref 0 :: args) [] [.obj c []]) fun σl => frz σ σl (.ref 0)
  | none => bad)
 | false => fun O σ => noneV (C (.fn row.init) (.ref σ.length :: args) O (σ ++ [.obj c []])) fun σ' => some (.ref σ.length, σ')
noncomputable def callF (cfg : Cfg) (C : Z0j) (f : PV) (args : List MV) : Mm MV := match f with
 | .fn a => (match cfg.fns a with
  | some r => fnM cfg C r args
  | none => bad)
 | .cls c => (match cfg.cls c with
  | some row => clsM C c row args
  | none => bad)
 | _ => bad
noncomputable def mraw (cfg : Cfg) (n : Nat) : PV -> List MV -> Mm MV := Nat.rec (fun _ _ => bad) (fun _ C => callF cfg C) n
noncomputable abbrev Z0d (cfg : Cfg) (n : Nat) : PV -> List MV -> Mm MV := calm (mraw cfg n)
section
variable {cfg : Cfg} {C : Z0j} {r : FnRow} {args : List MV} {n : Nat} {a : Addr}
theorem Y1d (h : cfg.fns a = some r) : mraw cfg (n + 1) (.fn a) args = fnM cfg (mraw cfg n) r args := by
 show (match cfg.fns a with | some r => fnM cfg (mraw cfg n) r args | none => bad) = _
 rw [h]
theorem clsM_o {c : Addr} {row : ClsRow} (h : row.isFrozen = false) (O : Z0c) (σ : Hp) : clsM C c row args O σ = noneV (C (.fn row.init) (.ref σ.length :: args) O (σ ++ [.obj c []])) fun σ' => some (.ref σ.length, σ') := by
 unfold clsM; rw [h]
theorem fnM_o (h : r.isPure = false) : fnM cfg C r args = openM cfg C r args := by
 unfold fnM; rw [h]
theorem fnM_l {w : Bool} (h : r.isPure = true) (hw : r.lent = some w) : fnM cfg C r args = lentM cfg C r w args := by
 unfold fnM; rw [h, hw]
theorem fnM_p {ps : List PV} (h : r.isPure = true) (hw : r.lent = none) (ha : Z0z args = some ps) : fnM cfg C r args = Y0z cfg C r args fun _ _ => [] := by
 unfold fnM; rw [h, hw]
 show (match Z0z args with | some _ => Y0z cfg C r args fun _ _ => [] | none => _) = _
 rw [ha]
theorem fnM_r (h : r.isPure = true) (hw : r.lent = none) (ha : Z0z args = none) (hl : args.all Z0k = true) : fnM cfg C r args = Y0z cfg C r (args.map (lift 0)) fun O σ => σ :: O := by
 unfold fnM; rw [h, hw]
 show (match Z0z args with | some _ => _ | none => match args.all Z0k with | true => Y0z cfg C r (args.map (lift 0)) fun O σ => σ :: O | false => bad) = _
 rw [ha, hl]
end
end Mine.Internal
end
section
open PySem PySem.W PyProof.Rows
namespace Mine.Internal
noncomputable def row (i : Nat) (j : Option Nat) (d : List PV) (p : Bool) (w : Option Bool) : FnRow :=
 ⟨(argsOf (Z6p i j)).args.map (·.arg), d, bodyOf (Z6p i j), scopeOf (Z6p i j), p, w⟩
noncomputable def fr (a : Nat) (r : FnRow) : Nat × FnRow := (a, r)
noncomputable def fnTab : List (Nat × FnRow) := [
 fr 59 (row 6 none [.tup []] true none),
 fr 81 (row 9 none [] true none),
 fr 88 (row 10 none [] true none),
 fr 93 (row 11 none [] true none),
 fr 98 (row 12 none [] true none),
 fr 110 (row 14 none [] true none),
 fr 174 (row 18 (some 0) [.none, .int 0] false none),
 fr 202 (row 18 (some 4) [] true none),
 fr 254 (row 22 none [] true none),
 fr 264 (row 24 none [] true none),
 fr 289 (row 29 (some 0) [] false none),
 fr 296 (row 29 (some 1) [] false none),
 fr 303 (row 29 (some 2) [] false none),
 fr 310 (row 29 (some 3) [] false none),
 fr 332 (row 29 (some 7) [] false none),
 fr 344 (row 29 (some 9) [] true none),
 fr 349 (row 29 (some 10) [] true none),
 fr 356 (row 29 (some 11) [] true none),
 fr 402 (row 34 none [.int 4000] true none),
 fr 423 (row 41 (some 0) [.bool false, .tup []] false none),
 fr 428 (row 41 (some 1) [] true none),
 fr 433 (row 41 (some 2) [] true none),
 fr 438 (row 41 (some 3) [] true none),
 fr 459 (row 42 (some 0) [] false none),
 fr 464 (row 42 (some 1) [] false none),
 fr 471 (row 42 (some 2) [] true none),
 fr 478 (row 42 (some 3) [] true none),
 fr 485 (row 42 (some 4) [] true none),
 fr 492 (row 42 (some 5) [] true none),
 fr 499 (row 42 (some 6) [] true none),
 fr 506 (row 42 (some 7) [] false none),
 fr 513 (row 42 (some 8) [] true none),
 fr 525 (row 42 (some 10) [] true none),
 fr 540 (row 43 none [.bool false] false none),
 fr 547 (row 44 none [] false none),
 fr 554 (row 45 none [] false none),
 fr 561 (row 46 none [] false none),
 fr 568 (row 48 none [] false none),
 fr 575 (row 49 none [] false none),
 fr 582 (row 50 none [] true none),
 fr 589 (row 51 none [] true none),
 fr 596 (row 52 none [] false none),
 fr 601 (row 53 none [] true none),
 fr 606 (row 54 none [] true (some false)),
 fr 611 (row 55 none [] true none),
 fr 618 (row 56 none [] true none),
 fr 623 (row 57 none [] true none),
 fr 630 (row 58 none [] true none),
 fr 635 (row 59 none [] false none),
 fr 642 (row 60 none [] true none),
 fr 647 (row 61 none [] true (some true)),
 fr 652 (row 62 none [] false none)]
noncomputable def clsTab : List (Nat × ClsRow) := [
 (226, ⟨174, [("__init__", 174), ("is_asked", 202)], ["rows", "many"], false⟩),
 (364, ⟨289, [("__init__", 289), ("run", 296), ("settled", 303), ("step", 310), ("by_form", 332), ("plain", 344), ("nominal", 349), ("are_concrete", 356)], ["kinds", "fuel"], false⟩),
 (441, ⟨423, [("__init__", 423), ("table_for", 428), ("whole", 433), ("field_kinds", 438)], ["name", "params", "super", "is_abstract", "is_mutable", "fields"], true⟩),
 (528, ⟨459, [("__init__", 459), ("declare", 464), ("is_declared", 471), ("decl", 478), ("super_of", 485), ("supers", 492), ("under", 499), ("applied", 506), ("is_within", 513), ("is_concrete", 525)], ["decls"], false⟩)]
noncomputable def gb (k : String) (v : PV) : Str × PV := (Str.ofString k, v)
noncomputable def globTab : List (Str × PV) := [
 gb "KindFault" (.cls 45),
 gb "ANY" (.tup [(.str "name"), (.str "Any"), (.tup [])]),
 gb "BOTTOM" (.tup [(.str "bottom")]),
 gb "named" (.fn 59),
 gb "parts_of_kind" (.fn 81),
 gb "rebuilt_kind" (.fn 88),
 gb "substituted" (.fn 93),
 gb "free_vars" (.fn 98),
 gb "kind_text" (.fn 110),
 gb "MOST_CASES" (.int 64),
 gb "Sides" (.cls 226),
 gb "left_cases" (.fn 254),
 gb "is_empty" (.fn 264),
 gb "TYPE" (.tup [(.str "name"), (.str "Type"), (.tup [])]),
 gb "FUNCTION" (.tup [(.str "name"), (.str "Function"), (.tup [])]),
 gb "Search" (.cls 364),
 gb "is_subtype" (.fn 402),
 gb "SIGNED" (.tup [(.str "Int8"), (.str "Int16"), (.str "Int32"), (.str "Int64"), (.str "BigInt")]),
 gb "UNSIGNED" (.tup [(.str "UInt8"), (.str "UInt16"), (.str "UInt32"), (.str "UInt64")]),
 gb "PLAIN_ERRORS" (.tup [(.str "DivideError"), (.str "InexactError"), (.str "TypeError"), (.str "StackOverflowError")]),
 gb "TEXT_ERRORS" (.tup [(.str "ArgumentError"), (.str "OverflowError"), (.str "DimensionMismatch"), (.str "ErrorException")]),
 gb "CALL_ERRORS" (.tup [(.str "MethodError"), (.str "AmbiguousError")]),
 gb "Decl" (.cls 441),
 gb "Kinds" (.cls 528),
 gb "nominal" (.fn 540),
 gb "start_kinds" (.fn 547),
 gb "start_errors" (.fn 554),
 gb "start_rows" (.fn 561),
 gb "_law_vat" (.fn 568),
 gb "_law_tap" (.fn 575),
 gb "_law_any" (.fn 582),
 gb "_law_int" (.fn 589),
 gb "_law_refused" (.fn 596),
 gb "_law_params" (.fn 601),
 gb "_law_drawn" (.fn 606),
 gb "_law_super" (.fn 611),
 gb "_law_decl" (.fn 618),
 gb "_law_chain" (.fn 623),
 gb "_law_is_below" (.fn 630),
 gb "_law_not_let_right" (.fn 635),
 gb "_law_applied" (.fn 642),
 gb "_law_row_right" (.fn 647),
 gb "law" (.fn 652),
 gb "len" (.bi .len),
 gb "list" (.bi .list),
 gb "tuple" (.bi .tuple),
 gb "dict" (.bi .dict),
 gb "range" (.bi .range),
 gb "zip" (.bi .zip),
 gb "sorted" (.bi .sorted),
 gb "str" (.bi .str),
 gb "int" (.bi .int)]
noncomputable def mutTab : List (Nat × Nat × Nat) := [(64, 19, 21), (64, 23, 35), (123, 20, 22), (215, 18, 40), (215, 20, 31), (387, 21, 57), (424, 16, 22), (430, 23, 25), (430, 27, 33), (518, 11, 70), (542, 10, 118), (543, 40, 42), (556, 12, 43), (569, 10, 147), (597, 57, 59)]
noncomputable def lookN {α : Type} : List (Nat × α) -> Nat -> Option α
 | [], _ => none
 | (k, v) :: r, x => match Nat.beq k x with | true => some v | false => lookN r x
noncomputable def inMut : List (Nat × Nat × Nat) -> Pos -> Bool
 | [], _ => false
 | (l, c, e) :: r, p => match Nat.beq l p.line && Nat.beq c p.col && Nat.beq e p.endCol with | true => true | false => inMut r p
noncomputable def cfg : Cfg := ⟨lookN fnTab, lookN clsTab, look globTab, inMut mutTab, "KindFault", 45⟩
end Mine.Internal
end
section
open PySem.W PyProof.Rows PySem.SeqAt
namespace Mine.Internal
structure Gl where
 prog : Program
 w : World
 hb : Heap
 os : OsState
 K : Frag
 cfg : Cfg
noncomputable abbrev Gl.M (g : Gl) : Model := model g.prog g.w
noncomputable abbrev Gl.sk (g : Gl) := PySem.strKind g.prog g.w
inductive Ow | mine (i : Nat) | priv | outer | frm
noncomputable abbrev AMap := List (Addr × Addr)
structure St where
 s : Shared
 own : Addr -> Option Ow
 μ : AMap
 μo : List AMap
noncomputable abbrev St.h (st : St) : Heap := st.s.heap
noncomputable def biVal : BI -> Value
 | .len => .builtin "len" | .list => .type "list" | .tuple => .type "tuple" | .dict => .type "dict" | .range => .type "range" | .zip => .type "zip"
 | .sorted => .builtin "sorted" | .str => .type "str" | .int => .type "int"
noncomputable abbrev Kp (h h' : Heap) (a : Addr) : Prop := ∀ o, h.get? a = some o -> h'.get? a = some o
noncomputable def InsO (h : Heap) (c a d : Addr) : Prop := ∃ sl, h.get? a = some ⟨.ref c, some d, .plain, sl⟩
theorem InsO.at {h h' : Heap} {c a d : Addr} (x : InsO h c a d) (e : Kp h h' a) : InsO h' c a d := let ⟨sl, q⟩ := x; ⟨sl, e _ q⟩
noncomputable def LX (h : Heap) (a : Addr) (vs : List Value) : Prop := ∃ n, h.get? a = some { cls := .type "list", dict := none, data := .seq vs.toArray n, slots := #[] }
noncomputable def TX (h : Heap) (a : Addr) (vs : List Value) : Prop := ∃ n, h.get? a = some { cls := .type "tuple", dict := none, data := .seq vs.toArray n, slots := #[] }
theorem LX.at {h h' : Heap} {a : Addr} {vs : List Value} (x : LX h a vs) (e : Kp h h' a) : LX h' a vs := let ⟨n, q⟩ := x; ⟨n, e _ q⟩
theorem TX.at {h h' : Heap} {a : Addr} {vs : List Value} (x : TX h a vs) (e : Kp h h' a) : TX h' a vs := let ⟨n, q⟩ := x; ⟨n, e _ q⟩
theorem LX.is {h : Heap} {a : Addr} {vs : List Value} (x : LX h a vs) : h.IsList a vs.toArray := let ⟨n, q⟩ := x; ⟨_, q, rfl, n, rfl⟩
theorem TX.is {h : Heap} {a : Addr} {vs : List Value} (x : TX h a vs) : IsTup h a vs.toArray := let ⟨n, q⟩ := x; ⟨_, q, rfl, n, rfl⟩
theorem LX.live {h : Heap} {a : Addr} {vs : List Value} (x : LX h a vs) : ∃ o, h.get? a = some o := let ⟨_, q⟩ := x; ⟨_, q⟩
theorem Z4y {prog : Program} {w : World} {K : Type} [DecidableEq K] {knd : KeyKind prog w K} {h h' : Heap} {a : Addr} {kvs : List (K × Value)} (x : h.DictOf knd a kvs) (e : Kp h h' a) : h'.DictOf knd a kvs :=
 let ⟨o, es, ep, q, r⟩ := x; ⟨o, es, ep, e _ q, r⟩
theorem Z2w {prog : Program} {w : World} {K : Type} [DecidableEq K] {knd : KeyKind prog w K} {h : Heap} {a : Addr} {kvs : List (K × Value)} (x : h.DictOf knd a kvs) : ∃ o, h.get? a = some o := let ⟨o, _, _, q, _⟩ := x; ⟨o, q⟩
section
variable {α β : Type}
inductive A2 (R : α -> β -> Prop) : List α -> List β -> Prop
 | nil : A2 R [] []
 | cons {x : α} {v : β} {l : List α} {vs : List β} : R x v -> A2 R l vs -> A2 R (x :: l) (v :: vs)
variable {R R' : α -> β -> Prop} {l r : List α} {vs ws : List β} {x : α} {v : β}
@[elab_as_elim] theorem A2.nilE (h : A2 R [] vs) {P : List β -> Prop} (k : P []) : P vs := by cases h; exact k
@[elab_as_elim] theorem A2.consE (h : A2 R (x :: l) vs) {P : List β -> Prop} (k : ∀ v ws, R x v -> A2 R l ws -> P (v :: ws)) : P vs := by cases h with | cons a b => exact k _ _ a b
theorem A2.len (h : A2 R l vs) : vs.length = l.length := by
 induction h with
 | nil => rfl
 | cons a b ih => exact congrArg (· + 1) ih
theorem A2.at (h : A2 R l vs) : ∀ {i : Nat} {a : α}, l[i]? = some a -> ∃ u, vs[i]? = some u /\ R a u := by
 induction h with
 | nil => intro i a e; exact nomatch e
 | cons a b ih =>
  intro i x e
  cases i with
  | zero => cases e; exact ⟨_, rfl, a⟩
  | succ i => exact ih e
theorem A2.idx (h : A2 R l vs) (i : Nat) (a : α) (b : β) (e : l[i]? = some a) (f : vs[i]? = some b) : R a b := by
 obtain ⟨u, q, r⟩ := h.at e
 cases f.symm.trans q; exact r
theorem A2.of : ∀ {l : List α} {vs : List β}, vs.length = l.length -> (∀ (i : Nat) a b, l[i]? = some a -> vs[i]? = some b -> R a b) -> A2 R l vs
 | [], [], _, _ => .nil
 | x :: l, v :: vs, e, k => .cons (k 0 x v rfl rfl) (A2.of (Nat.succ.inj e) fun i a b e f => k (i + 1) a b e f)
theorem A2.imp (h : A2 R l vs) (k : ∀ a b, R a b -> R' a b) : A2 R' l vs := by
 induction h with
 | nil => exact .nil
 | cons a b ih => exact .cons (k _ _ a) ih
theorem A2.app (h : A2 R l vs) (k : A2 R r ws) : A2 R (l ++ r) (vs ++ ws) := by
 induction h with
 | nil => exact k
 | cons a b ih => exact .cons a ih
theorem A2.set (h : A2 R l vs) (k : R x v) : ∀ i, A2 R (l.set i x) (vs.set i v) := by
 induction h with
 | nil => exact fun _ => .nil
 | cons a b ih =>
  intro i
  cases i with
  | zero => exact .cons k b
  | succ i => exact .cons a (ih i)
theorem A2.init (h : A2 R l vs) : A2 R l.dropLast vs.dropLast := by
 induction h with
 | nil => exact .nil
 | cons a b ih =>
  cases b with
  | nil => exact .nil
  | cons b c => exact .cons a ih
theorem A2.rev (h : A2 R l vs) : A2 R l.reverse vs.reverse := by
 induction h with
 | nil => exact .nil
 | cons a b ih => rw [List.reverse_cons, List.reverse_cons]; exact ih.app (.cons a .nil)
theorem A2.drop (h : A2 R l vs) : ∀ n, A2 R (l.drop n) (vs.drop n) := by
 induction h with
 | nil => intro n; rw [List.drop_nil, List.drop_nil]; exact .nil
 | cons a b ih =>
  intro n
  cases n with
  | zero => exact .cons a b
  | succ n => exact ih n
theorem A2.take (h : A2 R l vs) : ∀ n, A2 R (l.take n) (vs.take n) := by
 induction h with
 | nil => intro n; rw [List.take_nil, List.take_nil]; exact .nil
 | cons a b ih =>
  intro n
  cases n with
  | zero => exact .nil
  | succ n => exact .cons a (ih n)
theorem A2.last (h : A2 R l vs) (e : l.getLast? = some x) : ∃ u, vs.getLast? = some u /\ R x u := by
 rw [List.getLast?_eq_getElem?] at e
 obtain ⟨u, hu, r⟩ := h.at e
 exact ⟨u, by rw [List.getLast?_eq_getElem?, h.len]; exact hu, r⟩
theorem A2.map {γ : Type} {f : γ -> α} {l : List γ} (h : A2 (fun c b => R (f c) b) l vs) : A2 R (l.map f) vs := by
 induction h with
 | nil => exact .nil
 | cons a b ih => exact .cons a ih
end
noncomputable def ER {α : Type} (R : α -> Value -> Prop) (e : Str × α) (d : Str × Value) : Prop := (d.1 = e.1 /\ PyData.strOk e.1 = true) /\ R e.2 d.2
theorem ER.imp {α : Type} {R R' : α -> Value -> Prop} (k : ∀ a b, R a b -> R' a b) (e : Str × α) (d : Str × Value) (h : ER R e d) : ER R' e d := ⟨h.1, k _ _ h.2⟩
noncomputable def FT (st : St) (a : Addr) (vs : List Value) : Prop := st.own a = none /\ TX st.h a vs
noncomputable def FL (st : St) (a : Addr) (vs : List Value) : Prop := st.own a = none /\ LX st.h a vs
noncomputable def FD (g : Gl) (st : St) (a : Addr) (kvs : List (Str × Value)) : Prop := st.own a = none /\ (a == sysModules) = false /\ st.h.DictOf g.sk a kvs
noncomputable def FO (g : Gl) (st : St) (c a : Addr) (kvs : List (Str × Value)) : Prop := ∃ d, (st.own a = none /\ InsO st.h c a d) /\ st.own d = none /\ st.h.DictOf g.sk d kvs
noncomputable def FR (st : St) (n : Int) (a : Addr) : Prop := st.own a = none /\ ∃ t u v, IsRange st.h a 0 n 1 t u v
inductive VP (g : Gl) (st : St) : PV -> Value -> Prop
 | none : VP g st .none .none
 | bool (b : Bool) : VP g st (.bool b) (.bool b)
 | int (i : Int) (t : Tok) : VP g st (.int i) (.int i t)
 | str (s : Str) (t : Tok) (hs : PyData.strOk s = true) : VP g st (.str s) (.str s t)
 | tup {l : List PV} {a : Addr} {vs : List Value} : FT st a vs -> vs.length = l.length -> (∀ (i : Nat) p v, l[i]? = some p -> vs[i]? = some v -> VP g st p v) -> VP g st (.tup l) (.ref a)
 | lst {l : List PV} {a : Addr} {vs : List Value} : FL st a vs -> vs.length = l.length -> (∀ (i : Nat) p v, l[i]? = some p -> vs[i]? = some v -> VP g st p v) -> VP g st (.lst l) (.ref a)
 | dct {es : List (Str × PV)} {a : Addr} {kvs : List (Str × Value)} : FD g st a kvs -> kvs.length = es.length -> (∀ (i : Nat) e d, es[i]? = some e -> kvs[i]? = some d -> d.1 = e.1 /\ PyData.strOk e.1 = true) -> (∀ (i : Nat) e d, es[i]? = some e -> kvs[i]? = some d -> VP g st e.2 d.2) -> VP g st (.dct es) (.ref a)
 | obj {c : Addr} {es : List (Str × PV)} {a : Addr} {kvs : List (Str × Value)} : FO g st c a kvs -> kvs.length = es.length -> (∀ (i : Nat) e d, es[i]? = some e -> kvs[i]? = some d -> d.1 = e.1 /\ PyData.strOk e.1 = true) -> (∀ (i : Nat) e d, es[i]? = some e -> kvs[i]? = some d -> VP g st e.2 d.2) -> VP g st (.obj c es) (.ref a)
 | fn (a : Addr) : VP g st (.fn a) (.ref a)
 | cls (a : Addr) : VP g st (.cls a) (.ref a)
 | bi (b : BI) : VP g st (.bi b) (biVal b)
 | rng {n : Int} {a : Addr} : FR st n a -> VP g st (.rng n) (.ref a)
inductive VM (g : Gl) (st : St) : MV -> Value -> Prop
 | pv {p : PV} {v : Value} : VP g st p v -> VM g st (.pv p) v
 | ref {i : Nat} {a d : Addr} : st.μ[i]? = some (a, d) -> VM g st (.ref i) (.ref a)
 | oref {l i : Nat} {μl : AMap} {a d : Addr} : st.μo[l]? = some μl -> μl[i]? = some (a, d) -> VM g st (.oref l i) (.ref a)
 | tup {l : List MV} {a : Addr} {vs : List Value} : FT st a vs -> vs.length = l.length -> (∀ (i : Nat) p v, l[i]? = some p -> vs[i]? = some v -> VM g st p v) -> VM g st (.tup l) (.ref a)
noncomputable abbrev VPs (g : Gl) (st : St) : List PV -> List Value -> Prop := A2 (VP g st)
noncomputable abbrev VEs (g : Gl) (st : St) : List (Str × PV) -> List (Str × Value) -> Prop := A2 (ER (VP g st))
noncomputable abbrev VMs (g : Gl) (st : St) : List MV -> List Value -> Prop := A2 (VM g st)
noncomputable abbrev VMes (g : Gl) (st : St) : List (Str × MV) -> List (Str × Value) -> Prop := A2 (ER (VM g st))
section
variable {g : Gl} {st st' : St} {v : Value} {a d : Addr} {vs : List Value} {kvs : List (Str × Value)}
theorem A2.keys {α : Type} {R : α -> Value -> Prop} {es : List (Str × α)} (h : A2 (ER R) es kvs) (i : Nat) (e : Str × α) (d : Str × Value) (p : es[i]? = some e) (q : kvs[i]? = some d) : d.1 = e.1 /\ PyData.strOk e.1 = true := (h.idx i e d p q).1
theorem A2.vals {α : Type} {R : α -> Value -> Prop} {es : List (Str × α)} (h : A2 (ER R) es kvs) (i : Nat) (e : Str × α) (d : Str × Value) (p : es[i]? = some e) (q : kvs[i]? = some d) : R e.2 d.2 := (h.idx i e d p q).2
theorem A2.ents {α : Type} {R : α -> Value -> Prop} {es : List (Str × α)} (h : kvs.length = es.length) (k : ∀ (i : Nat) e d, es[i]? = some e -> kvs[i]? = some d -> d.1 = e.1 /\ PyData.strOk e.1 = true) (j : ∀ (i : Nat) e d, es[i]? = some e -> kvs[i]? = some d -> R e.2 d.2) : A2 (ER R) es kvs := .of h fun i e d p q => ⟨k i e d p q, j i e d p q⟩
theorem VP.tupI {l : List PV} (h : FT st a vs) (r : VPs g st l vs) : VP g st (.tup l) (.ref a) := .tup h r.len r.idx
theorem VP.lstI {l : List PV} (h : FL st a vs) (r : VPs g st l vs) : VP g st (.lst l) (.ref a) := .lst h r.len r.idx
theorem VP.dctI {es : List (Str × PV)} (h : FD g st a kvs) (r : VEs g st es kvs) : VP g st (.dct es) (.ref a) := .dct h r.len r.keys r.vals
theorem VP.objI {c : Addr} {es : List (Str × PV)} (h : FO g st c a kvs) (r : VEs g st es kvs) : VP g st (.obj c es) (.ref a) := .obj h r.len r.keys r.vals
theorem VM.tupI {l : List MV} (h : FT st a vs) (r : VMs g st l vs) : VM g st (.tup l) (.ref a) := .tup h r.len r.idx
@[elab_as_elim] theorem VP.noneE (r : VP g st .none v) {P : Value -> Prop} (k : P .none) : P v := by cases r; exact k
@[elab_as_elim] theorem VP.boolE {b : Bool} (r : VP g st (.bool b) v) {P : Value -> Prop} (k : P (.bool b)) : P v := by cases r; exact k
@[elab_as_elim] theorem VP.intE {i : Int} (r : VP g st (.int i) v) {P : Value -> Prop} (k : ∀ t, P (.int i t)) : P v := by cases r; exact k _
@[elab_as_elim] theorem VP.strE {s : Str} (r : VP g st (.str s) v) {P : Value -> Prop} (k : ∀ t, PyData.strOk s = true -> P (.str s t)) : P v := by cases r; exact k _ ‹_›
@[elab_as_elim] theorem VP.tupE {l : List PV} (r : VP g st (.tup l) v) {P : Value -> Prop} (k : ∀ a vs, FT st a vs -> VPs g st l vs -> P (.ref a)) : P v := by cases r with | tup a b c => exact k _ _ a (.of b c)
@[elab_as_elim] theorem VP.lstE {l : List PV} (r : VP g st (.lst l) v) {P : Value -> Prop} (k : ∀ a vs, FL st a vs -> VPs g st l vs -> P (.ref a)) : P v := by cases r with | lst a b c => exact k _ _ a (.of b c)
@[elab_as_elim] theorem VP.dctE {es : List (Str × PV)} (r : VP g st (.dct es) v) {P : Value -> Prop} (k : ∀ a kvs, FD g st a kvs -> VEs g st es kvs -> P (.ref a)) : P v := by cases r with | dct a b c d => exact k _ _ a (.ents b c d)
@[elab_as_elim] theorem VP.objE {c : Addr} {es : List (Str × PV)} (r : VP g st (.obj c es) v) {P : Value -> Prop} (k : ∀ a kvs, FO g st c a kvs -> VEs g st es kvs -> P (.ref a)) : P v := by cases r with | obj a b c d => exact k _ _ a (.ents b c d)
@[elab_as_elim] theorem VP.fnE {b : Addr} (r : VP g st (.fn b) v) {P : Value -> Prop} (k : P (.ref b)) : P v := by cases r; exact k
@[elab_as_elim] theorem VP.clsE {b : Addr} (r : VP g st (.cls b) v) {P : Value -> Prop} (k : P (.ref b)) : P v := by cases r; exact k
@[elab_as_elim] theorem VP.biE {b : BI} (r : VP g st (.bi b) v) {P : Value -> Prop} (k : P (biVal b)) : P v := by cases r; exact k
@[elab_as_elim] theorem VP.rngE {n : Int} (r : VP g st (.rng n) v) {P : Value -> Prop} (k : ∀ a, FR st n a -> P (.ref a)) : P v := by cases r; exact k _ ‹_›
theorem VM.p {p : PV} (r : VM g st (.pv p) v) : VP g st p v := by cases r; assumption
@[elab_as_elim] theorem VM.refE {i : Nat} (r : VM g st (.ref i) v) {P : Value -> Prop} (k : ∀ a d, st.μ[i]? = some (a, d) -> P (.ref a)) : P v := by cases r; exact k _ _ ‹_›
@[elab_as_elim] theorem VM.orefE {l i : Nat} (r : VM g st (.oref l i) v) {P : Value -> Prop} (k : ∀ μl a d, st.μo[l]? = some μl -> μl[i]? = some (a, d) -> P (.ref a)) : P v := by cases r; exact k _ _ _ ‹_› ‹_›
@[elab_as_elim] theorem VM.tupE {l : List MV} (r : VM g st (.tup l) v) {P : Value -> Prop} (k : ∀ a vs, FT st a vs -> VMs g st l vs -> P (.ref a)) : P v := by cases r with | tup a b c => exact k _ _ a (.of b c)
noncomputable abbrev Fz (st st' : St) : Prop := ∀ a o, st.own a = none -> st.h.get? a = some o -> st'.h.get? a = some o /\ st'.own a = none
theorem Fz.kp (x : Fz st st') (n : st.own a = none) : Kp st.h st'.h a := fun o e => (x a o n e).1
theorem FT.ext (x : Fz st st') (h : FT st a vs) : FT st' a vs := let ⟨n, q⟩ := h.2; ⟨(x a _ h.1 q).2, n, (x a _ h.1 q).1⟩
theorem FL.ext (x : Fz st st') (h : FL st a vs) : FL st' a vs := let ⟨n, q⟩ := h.2; ⟨(x a _ h.1 q).2, n, (x a _ h.1 q).1⟩
theorem FD.ext (x : Fz st st') (h : FD g st a kvs) : FD g st' a kvs := let ⟨o, q⟩ := Z2w h.2.2; ⟨(x a o h.1 q).2, h.2.1, Z4y h.2.2 (Fz.kp x h.1)⟩
theorem FO.ext (x : Fz st st') {c : Addr} (h : FO g st c a kvs) : FO g st' c a kvs := let ⟨d, ⟨n, sl, q⟩, m, e⟩ := h; let ⟨o, q'⟩ := Z2w e; ⟨d, ⟨(x a _ n q).2, sl, (x a _ n q).1⟩, (x d o m q').2, Z4y e (Fz.kp x m)⟩
theorem FR.ext (x : Fz st st') {n : Int} (h : FR st n a) : FR st' n a := let ⟨m, t, u, v, q⟩ := h; ⟨(x a _ m q).2, t, u, v, (x a _ m q).1⟩
theorem VP.ext (x : Fz st st') {p : PV} (r : VP g st p v) : VP g st' p v := by
 induction r with
 | none => exact .none
 | bool b => exact .bool b
 | int i t => exact .int i t
 | str s t hs => exact .str s t hs
 | tup a b c ih => exact .tup (a.ext x) b ih
 | lst a b c ih => exact .lst (a.ext x) b ih
 | dct a b c d ih => exact .dct (a.ext x) b c ih
 | obj a b c d ih => exact .obj (a.ext x) b c ih
 | fn a => exact .fn a
 | cls a => exact .cls a
 | bi b => exact .bi b
 | rng h => exact .rng (h.ext x)
structure Ext (st st' : St) : Prop where
 fz : Fz st st'
 mu : ∀ (i : Nat) p, st.μ[i]? = some p -> st'.μ[i]? = some p
 mo : st'.μo = st.μo
theorem VM.ext (x : Ext st st') {p : MV} (r : VM g st p v) : VM g st' p v := by
 induction r with
 | pv a => exact .pv (a.ext x.fz)
 | ref a => exact .ref (x.mu _ _ a)
 | oref a b => exact .oref (x.mo ▸ a) b
 | tup a b c ih => exact .tup (a.ext x.fz) b ih
theorem VMs.ext (x : Ext st st') {l : List MV} (r : VMs g st l vs) : VMs g st' l vs := r.imp fun _ _ r => r.ext x
theorem VMes.ext (x : Ext st st') {l : List (Str × MV)} (r : VMes g st l kvs) : VMes g st' l kvs := r.imp (ER.imp fun _ _ r => r.ext x)
noncomputable def RO (g : Gl) (st : St) : MO -> Addr -> Addr -> Prop
 | .lst l, a, _ => ∃ vs, LX st.h a vs /\ VMs g st l vs
 | .dct es, a, _ => ∃ kvs, (a == sysModules) = false /\ st.h.DictOf g.sk a kvs /\ VMes g st es kvs
 | .obj c es, a, d => ∃ kvs, InsO st.h c a d /\ st.h.DictOf g.sk d kvs /\ VMes g st es kvs
 | .gone, _, _ => True
theorem RO.ext (x : Ext st st') (ka : Kp st.h st'.h a) (kd : Kp st.h st'.h d) : ∀ {o : MO}, RO g st o a d -> RO g st' o a d
 | .lst _, ⟨vs, p, q⟩ => ⟨vs, p.at ka, VMs.ext x q⟩
 | .dct _, ⟨vs, z, p, q⟩ => ⟨vs, z, Z4y p ka, VMes.ext x q⟩
 | .obj _ _, ⟨vs, z, p, q⟩ => ⟨vs, z.at ka, Z4y p kd, VMes.ext x q⟩
 | .gone, _ => trivial
structure RH (g : Gl) (st : St) (σ : Hp) : Prop where
 len : st.μ.length = σ.length
 at_ : ∀ (i : Nat) (o : MO) (p : Addr × Addr), σ[i]? = some o -> st.μ[i]? = some p -> RO g st o p.1 p.2
noncomputable def Here (m : AMap) (σ : Hp) (p : Addr × Addr) : Prop := ∃ (i : Nat) (o : MO), m[i]? = some p /\ σ[i]? = some o /\ o ≠ .gone
theorem RH.toH {σ : Hp} (r : RH g st σ) (x : Ext st st') (hm : st'.μ = st.μ) (k : ∀ p, Here st.μ σ p -> Kp st.h st'.h p.1 /\ Kp st.h st'.h p.2) : RH g st' σ := by
 refine ⟨hm ▸ r.len, fun i o p e f => ?_⟩
 have f' := hm ▸ f
 by_cases q : o = .gone
 ·subst q; exact trivial
 ·have h := k p ⟨i, o, f', e, q⟩
  exact (r.at_ i o p e f').ext x h.1 h.2
theorem RH.to {σ : Hp} (r : RH g st σ) (x : Ext st st') (hm : st'.μ = st.μ) (k : ∀ (i : Nat) p, st.μ[i]? = some p -> Kp st.h st'.h p.1 /\ Kp st.h st'.h p.2) : RH g st' σ := r.toH x hm fun p h => let ⟨i, _, e, _⟩ := h; k i p e
theorem RH.upd {σ : Hp} (r : RH g st σ) (x : Ext st st') (hm : st'.μ = st.μ) {i : Nat} {o : MO} (k : ∀ (j : Nat) p, j ≠ i -> st.μ[j]? = some p -> Kp st.h st'.h p.1 /\ Kp st.h st'.h p.2) (n : ∀ p, st.μ[i]? = some p -> RO g st' o p.1 p.2) : RH g st' (σ.set i o) := by
 refine ⟨by rw [List.length_set, hm]; exact r.len, fun j o' p e f => ?_⟩
 rw [hm] at f
 by_cases q : j = i
 ·subst q
  rw [List.getElem?_set_self (r.len ▸ (List.getElem?_eq_some_iff.mp f).1)] at e
  cases e; exact n p f
 ·rw [List.getElem?_set_ne (Ne.symm q)] at e
  exact (r.at_ j o' p e f).ext x (k j p q f).1 (k j p q f).2
theorem snoc_at {α : Type} {l : List α} {x y : α} {i : Nat} (e : (l ++ [x])[i]? = some y) : l[i]? = some y \/ (i = l.length /\ y = x) := by
 by_cases hi : i < l.length
 ·rw [List.getElem?_append_left hi] at e; exact .inl e
 ·rw [List.getElem?_append_right (Nat.le_of_not_lt hi)] at e
  cases hz : i - l.length with
  | zero => rw [hz] at e; cases e; exact .inr ⟨Nat.le_antisymm (Nat.le_of_sub_eq_zero hz) (Nat.le_of_not_lt hi), rfl⟩
  | succ n => rw [hz] at e; exact nomatch e
theorem snoc_old {α : Type} {l : List α} {x y : α} {i : Nat} (e : l[i]? = some y) : (l ++ [x])[i]? = some y := by rw [List.getElem?_append_left (List.getElem?_eq_some_iff.mp e).1]; exact e
theorem snoc_new {α : Type} {l : List α} {x : α} : (l ++ [x])[l.length]? = some x := by rw [List.getElem?_append_right (Nat.le_refl _), Nat.sub_self]; rfl
theorem RH.add {σ : Hp} (r : RH g st σ) (x : Ext st st') {q : Addr × Addr} (hm : st'.μ = st.μ ++ [q]) {o : MO} (k : ∀ (j : Nat) p, st.μ[j]? = some p -> Kp st.h st'.h p.1 /\ Kp st.h st'.h p.2) (n : RO g st' o q.1 q.2) : RH g st' (σ ++ [o]) := by
 refine ⟨by rw [hm, List.length_append, List.length_append, r.len]; rfl, fun j o' p e f => ?_⟩
 rw [hm] at f
 rcases snoc_at e with e | ⟨e1, rfl⟩ <;> rcases snoc_at f with f | ⟨f1, rfl⟩
 ·exact (r.at_ j o' p e f).ext x (k j p f).1 (k j p f).2
 ·rw [f1, r.len] at e; exact absurd (List.getElem?_eq_some_iff.mp e).1 (Nat.lt_irrefl _)
 ·rw [e1, <- r.len] at f; exact absurd (List.getElem?_eq_some_iff.mp f).1 (Nat.lt_irrefl _)
 ·exact n
noncomputable def St.lv (st : St) (l : Nat) (m : AMap) : St := ⟨st.s, st.own, m, st.μo.drop (l + 1)⟩
theorem Ext.lv (x : Ext st st') (l : Nat) (m : AMap) : Ext (st.lv l m) (st'.lv l m) := ⟨x.fz, fun _ _ e => e, congrArg (List.drop (l + 1)) x.mo⟩
structure ROut (g : Gl) (st : St) (O : Z0c) : Prop where
 len : st.μo.length = O.length
 at_ : ∀ (l : Nat) σl m, O[l]? = some σl -> st.μo[l]? = some m -> RH g (st.lv l m) σl
end
theorem Z0h (h : Heap) : h.get? h.objs.size = none := by
 cases q : h.get? h.objs.size with
 | none => rfl
 | some o => exact absurd (Heap.lt_size q) (Nat.lt_irrefl _)
noncomputable def KpS (h h' : Heap) (a : Addr) : Prop := ∀ o, h.get? a = some o -> ∃ sl, h'.get? a = some { o with slots := sl }
noncomputable def Kx (x : Option Ow) (h h' : Heap) (a : Addr) : Prop := match x with
 | some .frm => KpS h h' a
 | _ => Kp h h' a
noncomputable abbrev Prv (x : Option Ow) : Prop := x = some .priv \/ x = some .frm
section
variable {x : Option Ow} {h h1 h2 : Heap} {a : Addr}
theorem Kx.kp (k : Kx x h h1 a) (n : x ≠ some .frm) : Kp h h1 a := by
 cases x with
 | none => exact k
 | some o => cases o <;> first | exact k | exact absurd rfl n
theorem KpS.of (k : Kp h h1 a) : KpS h h1 a := fun o e => ⟨o.slots, k o e⟩
theorem Kx.of (k : Kp h h1 a) : Kx x h h1 a := by
 cases x with
 | none => exact k
 | some o => cases o <;> first | exact k | exact .of k
theorem Kx.s (k : Kx x h h1 a) : KpS h h1 a := by
 cases x with
 | none => exact .of k
 | some o => cases o <;> first | exact k | exact .of k
theorem Kx.trans (k : Kx x h h1 a) (j : (∃ o, h.get? a = some o) -> Kx x h1 h2 a) : Kx x h h2 a := by
 by_cases n : x = some .frm
 ·subst n
  exact fun o e => let ⟨_, e1⟩ := k o e; let ⟨sl, e2⟩ := j ⟨o, e⟩ _ e1; ⟨sl, e2⟩
 ·exact .of fun o e => (j ⟨o, e⟩).kp n _ (k.kp n o e)
theorem KpS.live (k : KpS h h1 a) (e : ∃ o, h.get? a = some o) : ∃ o, h1.get? a = some o := let ⟨o, e⟩ := e; let ⟨_, q⟩ := k o e; ⟨_, q⟩
theorem KpS.ns {m : Str -> Option Value} (k : KpS h h1 a) (n : h.Ns a m) : h1.Ns a m := let ⟨o, es, ep, e, r⟩ := n; let ⟨_, q⟩ := k o e; ⟨_, es, ep, q, r⟩
end
structure Step (W : List Addr) (st st' : St) : Prop where
 live : ∀ a o, st.h.get? a = some o -> ∃ o', st'.h.get? a = some o'
 keep : ∀ a, (Prv (st.own a) -> a ∉ W) -> (∀ i, st.own a ≠ some (.mine i)) -> Kx (st.own a) st.h st'.h a
 own : ∀ a o, st.h.get? a = some o -> st'.own a = st.own a
 mu : ∀ (i : Nat) p, st.μ[i]? = some p -> st'.μ[i]? = some p
 mo : st'.μo = st.μo
section
variable {W W' T : List Addr} {st st1 st' : St} {a : Addr}
theorem Step.refl (W : List Addr) (st : St) : Step W st st := ⟨fun _ o e => ⟨o, e⟩, fun _ _ _ => .of fun _ e => e, fun _ _ _ => rfl, fun _ _ e => e, rfl⟩
theorem Step.trans (x : Step W st st1) (y : Step W st1 st') : Step W st st' :=
 ⟨fun a o e => let ⟨o', e'⟩ := x.live a o e; y.live a o' e',
  fun a h k => (x.keep a h k).trans fun ⟨o, e⟩ => have q := x.own a o e; q ▸ y.keep a (q ▸ h) (q ▸ k),
  fun a o e => let ⟨o', e'⟩ := x.live a o e; (y.own a o' e').trans (x.own a o e), fun i p e => y.mu i p (x.mu i p e), y.mo.trans x.mo⟩
theorem Step.weak (x : Step W st st') (h : ∀ a ∈ W, a ∈ W') : Step W' st st' := ⟨x.live, fun a p q => x.keep a (fun e m => p e (h a m)) q, x.own, x.mu, x.mo⟩
theorem Step.w0 (x : Step [] st st') (W : List Addr) : Step W st st' := x.weak fun _ h => nomatch h
theorem Step.shed (x : Step (T ++ W) st st') (hd : ∀ a ∈ T, st.h.get? a = none) : Step W st st' := by
 refine ⟨x.live, fun a p q => ?_, x.own, x.mu, x.mo⟩
 by_cases m : a ∈ T
 ·exact .of fun o e => Z0a ((hd a m).symm.trans e)
 ·exact x.keep a (fun r m' => (List.mem_append.mp m').elim m (p r)) q
theorem Step.kp (x : Step W st st') {y : Option Ow} (h : st.own a = y) (n1 : ¬ Prv y) (n2 : ∀ i, y ≠ some (.mine i)) : Kp st.h st'.h a := by
 subst h; exact (x.keep a (fun q => absurd q n1) n2).kp fun q => n1 (.inr q)
theorem Step.ext (x : Step W st st') : Ext st st' := ⟨fun a o n e => ⟨x.kp n (by rintro (q | q) <;> exact nomatch q) (fun _ q => nomatch q) o e, (x.own a o e).trans n⟩, x.mu, x.mo⟩
theorem Step.outer (x : Step W st st') (n : st.own a = some .outer) : Kp st.h st'.h a := x.kp n (by rintro (q | q) <;> exact nomatch q) (fun _ q => nomatch q)
theorem Step.prv (x : Step W st st') (h : st.own a = some .priv) (n : a ∉ W) : Kp st.h st'.h a := (x.keep a (fun _ => n) fun _ q => nomatch h.symm.trans q).kp fun q => nomatch h.symm.trans q
theorem Step.frm (x : Step W st st') (h : Prv (st.own a)) (n : a ∉ W) : KpS st.h st'.h a := (x.keep a (fun _ => n) fun _ q => h.elim (fun h => nomatch h.symm.trans q) fun h => nomatch h.symm.trans q).s
theorem Step.dead (x : Step W st st') (h : st'.h.get? a = none) : st.h.get? a = none := by
 cases q : st.h.get? a with
 | none => rfl
 | some o => obtain ⟨o', e⟩ := x.live a o q; exact Z0a (h.symm.trans e)
end
theorem own_ne {st : St} {a b : Addr} {x y : Option Ow} (h : st.own b = x) (k : st.own a = y) (n : x ≠ y) : b ≠ a := fun q => n (h.symm.trans (q ▸ k))
section
variable {g : Gl} {W : List Addr} {st st' : St} {v : Value} {vs : List Value} {kvs : List (Str × Value)}
theorem VM.go {p : MV} (r : VM g st p v) (x : Step W st st') : VM g st' p v := r.ext x.ext
theorem VMs.go {p : List MV} (r : VMs g st p vs) (x : Step W st st') : VMs g st' p vs := VMs.ext x.ext r
theorem VMes.go {p : List (Str × MV)} (r : VMes g st p kvs) (x : Step W st st') : VMes g st' p kvs := VMes.ext x.ext r
end
structure Inv (g : Gl) (O : Z0c) (st : St) (σ : Hp) : Prop where
 gens : st.s.gens = #[]
 os_ : st.s.os = g.os
 base : ∀ a o, g.hb.get? a = some o -> st.h.get? a = some o /\ st.own a = none
 live : ∀ a, st.own a ≠ none -> ∃ o, st.h.get? a = some o
 mine : ∀ (i : Nat) p, st.μ[i]? = some p -> st.own p.1 = some (.mine i) /\ st.own p.2 = some (.mine i)
 out : ∀ (l : Nat) m σl, st.μo[l]? = some m -> O[l]? = some σl -> ∀ p, Here m σl p -> st.own p.1 = some .outer /\ st.own p.2 = some .outer
 heap : RH g st σ
 outer : ROut g st O
 frms : ∀ a, st.own a = some .frm -> ∃ m, st.h.Ns a m
section
variable {g : Gl} {O : Z0c} {W D N : List Addr} {st st0 : St} {σ : Hp} {a d : Addr}
theorem Inv.fresh (I : Inv g O st σ) (h : st.h.get? a = none) : st.own a = none := by
 cases q : st.own a with
 | none => rfl
 | some o => obtain ⟨o, e⟩ := I.live a (fun z => nomatch q.symm.trans z); exact Z0a (h.symm.trans e)
theorem Inv.ns (I : Inv g O st σ) {h' : Heap} (n : st.own a = some .frm) (k : KpS st.h h' a) : ∃ m, h'.Ns a m := let ⟨m, q⟩ := I.frms a n; ⟨m, k.ns q⟩
theorem Inv.up (I : Inv g O st σ) : ∀ a o, g.hb.get? a = some o -> st.h.get? a = some o := fun a o e => (I.base a o e).1
theorem Inv.to (I : Inv g O st σ) {s' : Shared} {own' : Addr -> Option Ow} {μ' : AMap} {σ' : Hp} (hg : s'.gens = st.s.gens) (ho : s'.os = st.s.os) (kp : ∀ a, (st.own a = none \/ st.own a = some .outer) -> ∀ o, st.h.get? a = some o -> s'.heap.get? a = some o /\ own' a = st.own a)
  (lv : ∀ a, own' a ≠ none -> ∃ o, s'.heap.get? a = some o) (mn : ∀ (i : Nat) p, μ'[i]? = some p -> own' p.1 = some (.mine i) /\ own' p.2 = some (.mine i)) (mu : ∀ (i : Nat) p, st.μ[i]? = some p -> μ'[i]? = some p) (fm : ∀ a, own' a = some .frm -> ∃ m, s'.heap.Ns a m) (hp : Ext st ⟨s', own', μ', st.μo⟩ -> RH g ⟨s', own', μ', st.μo⟩ σ') : Inv g O ⟨s', own', μ', st.μo⟩ σ' := by
 have x : Ext st ⟨s', own', μ', st.μo⟩ := ⟨fun a o n e => have := kp a (.inl n) o e; ⟨this.1, this.2.trans n⟩, mu, rfl⟩
 have ot : ∀ a, st.own a = some .outer -> Kp st.h s'.heap a /\ own' a = some .outer := fun a n => ⟨fun o e => (kp a (.inr n) o e).1, by
  obtain ⟨o, e⟩ := I.live a (fun z => nomatch n.symm.trans z)
  exact (kp a (.inr n) o e).2.trans n⟩
 refine ⟨hg.trans I.gens, ho.trans I.os_, fun a o e => ?_, lv, mn, fun l m σl f e p h => have o := I.out l m σl f e p h; ⟨(ot _ o.1).2, (ot _ o.2).2⟩, hp x, ⟨I.outer.len, fun l σl m e f => (I.outer.at_ l σl m e f).toH (x.lv l m) rfl fun p h => ?_⟩, fm⟩
 ·obtain ⟨p, q⟩ := I.base a o e
  have := kp a (.inl q) o p; exact ⟨this.1, this.2.trans q⟩
 ·have o := I.out l m σl f e p h
  exact ⟨(ot _ o.1).1, (ot _ o.2).1⟩
noncomputable abbrev St.put (st : St) (s : Shared) : St := ⟨s, st.own, st.μ, st.μo⟩
theorem Inv.mineK (I : Inv g O st σ) {h' : Heap} (k : ∀ b, (∃ i, st.own b = some (.mine i)) -> Kp st.h h' b) : ∀ (i : Nat) p, st.μ[i]? = some p -> Kp st.h h' p.1 /\ Kp st.h h' p.2 := fun i p e => ⟨k _ ⟨i, (I.mine i p e).1⟩, k _ ⟨i, (I.mine i p e).2⟩⟩
theorem Inv.grow (I : Inv g O st σ) {s' : Shared} (hk : ∀ a, Kp st.h s'.heap a) (hg : s'.gens = st.s.gens) (ho : s'.os = st.s.os) : Inv g O (st.put s') σ :=
 I.to hg ho (fun a _ o e => ⟨hk a o e, rfl⟩) (fun a n => let ⟨o, e⟩ := I.live a n; ⟨o, hk a o e⟩) I.mine (fun _ _ e => e) (fun a n => I.ns n (.of (hk a))) fun x => I.heap.to x rfl (I.mineK fun b _ => hk b)
theorem Step.grow {s' : Shared} (hk : ∀ a, Kp st.h s'.heap a) : Step [] st (st.put s') := ⟨fun a o e => ⟨o, hk a o e⟩, fun a _ _ => .of (hk a), fun _ _ _ => rfl, fun _ _ e => e, rfl⟩
theorem Inv.growX (I : Inv g O st σ) {s' : Shared} (hk : ∀ a, Kx (st.own a) st.h s'.heap a) (hg : s'.gens = st.s.gens) (ho : s'.os = st.s.os) : Inv g O (st.put s') σ := by
 have kp : ∀ {a : Addr} {y : Option Ow}, st.own a = y -> y ≠ some .frm -> Kp st.h s'.heap a := fun h n => (hk _).kp (h ▸ n)
 exact I.to hg ho (fun a n o e => ⟨n.elim (fun n => kp n nofun o e) fun n => kp n nofun o e, rfl⟩) (fun a n => (hk a).s.live (I.live a n)) I.mine (fun _ _ e => e) (fun a n => I.ns n (hk a).s) fun x => I.heap.to x rfl (I.mineK fun b ⟨i, q⟩ => kp q nofun)
theorem Step.growX {s' : Shared} (hk : ∀ a, Kx (st.own a) st.h s'.heap a) : Step [] st (st.put s') := ⟨fun a o e => (hk a).s.live ⟨o, e⟩, fun a _ _ => hk a, fun _ _ _ => rfl, fun _ _ e => e, rfl⟩
theorem Inv.own (I : Inv g O st σ) {s' : Shared} (hD : ∀ a ∈ D, Prv (st.own a)) (hk : ∀ a, a ∉ D -> Kp st.h s'.heap a) (hl : ∀ a ∈ D, ∃ o, s'.heap.get? a = some o) (hF : ∀ a ∈ D, st.own a = some .frm -> ∃ m, s'.heap.Ns a m) (hg : s'.gens = st.s.gens) (ho : s'.os = st.s.os) : Inv g O (st.put s') σ := by
 have nd : ∀ {a : Addr} {o : Option Ow}, st.own a = o -> ¬ Prv o -> a ∉ D := fun e n m => n (e ▸ hD _ m)
 refine I.to hg ho (fun a n o e => ⟨hk a (n.elim (nd · (by rintro (q | q) <;> exact nomatch q)) (nd · (by rintro (q | q) <;> exact nomatch q))) o e, rfl⟩) (fun a n => ?_) I.mine (fun _ _ e => e) (fun a n => if q : a ∈ D then hF a q n else I.ns n (.of (hk a q))) fun x => I.heap.to x rfl (I.mineK fun b ⟨i, q⟩ => hk b (nd q (by rintro (q | q) <;> exact nomatch q)))
 by_cases q : a ∈ D
 ·exact hl a q
 ·obtain ⟨o, e⟩ := I.live a n; exact ⟨o, hk a q o e⟩
theorem Step.put {s' : Shared} (hD : ∀ a ∈ D, a ∈ W) (hp : ∀ a ∈ D, Prv (st.own a)) (hk : ∀ a, a ∉ D -> Kp st.h s'.heap a) (hl : ∀ a ∈ D, ∃ o, s'.heap.get? a = some o) : Step W st (st.put s') := by
 refine ⟨fun a o e => ?_, fun a p _ => .of (hk a fun m => p (hp a m) (hD a m)), fun _ _ _ => rfl, fun _ _ e => e, rfl⟩
 by_cases q : a ∈ D
 ·exact hl a q
 ·exact ⟨o, hk a q o e⟩
theorem Inv.upd (I : Inv g O st σ) {s' : Shared} {i : Nat} {o : MO} {c : Addr} (e : st.μ[i]? = some (a, d)) (hc : c = a \/ c = d) (hk : ∀ b, b ≠ c -> Kp st.h s'.heap b) (hl : ∃ o, s'.heap.get? c = some o) (hg : s'.gens = st.s.gens) (ho : s'.os = st.s.os)
  (ro : Ext st (st.put s') -> RO g (st.put s') o a d) : Inv g O (st.put s') (σ.set i o) := by
 have oc : st.own c = some (.mine i) := by
  rcases hc with rfl | rfl
  ·exact (I.mine i _ e).1
  ·exact (I.mine i _ e).2
 have nc : ∀ {b : Addr} {o : Option Ow}, st.own b = o -> o ≠ some (.mine i) -> b ≠ c := fun e n q => n (e.symm.trans (q ▸ oc))
 refine I.to hg ho (fun a n o e => ⟨hk a (n.elim (nc · nofun) (nc · nofun)) o e, rfl⟩) (fun b n => ?_) I.mine (fun _ _ e => e) (fun b n => I.ns n (.of (hk b (nc n nofun)))) fun x => I.heap.upd x rfl (fun j p n f => ?_) fun p f => ?_
 ·by_cases q : b = c
  ·exact q ▸ hl
  ·obtain ⟨o, e⟩ := I.live b n; exact ⟨o, hk b q o e⟩
 ·have m := I.mine j p f
  have ne : (some (Ow.mine j)) ≠ some (.mine i) := fun q => n (by injection q with q; injection q)
  exact ⟨hk _ (nc m.1 ne), hk _ (nc m.2 ne)⟩
 ·cases e.symm.trans f; exact ro x
theorem Step.upd (I : Inv g O st σ) {s' : Shared} {i : Nat} {c : Addr} (e : st.μ[i]? = some (a, d)) (hc : c = a \/ c = d) (hk : ∀ b, b ≠ c -> Kp st.h s'.heap b) (hl : ∃ o, s'.heap.get? c = some o) : Step [] st (st.put s') := by
 refine ⟨fun b o q => ?_, fun b _ n => .of (hk b fun q => ?_), fun _ _ _ => rfl, fun _ _ e => e, rfl⟩
 ·by_cases z : b = c
  ·exact z ▸ hl
  ·exact ⟨o, hk b z o q⟩
 ·subst q
  rcases hc with rfl | rfl
  ·exact n i (I.mine i _ e).1
  ·exact n i (I.mine i _ e).2
noncomputable def St.res (st : St) (s : Shared) (N : List Addr) (L : Option Addr := none) : St := ⟨s, fun a => if a ∈ N then (if L = some a then some .frm else some .priv) else st.own a, st.μ, st.μo⟩
theorem Z8t {st : St} {N : List Addr} {a : Addr} {s : Shared} (h : a ∈ N) : (st.res s N).own a = some .priv := (if_pos h).trans (if_neg nofun)
theorem res_fr {st : St} {N : List Addr} {a : Addr} {s : Shared} (h : a ∈ N) : (st.res s N (some a)).own a = some .frm := (if_pos h).trans (if_pos rfl)
theorem res_prv {st : St} {N : List Addr} {a : Addr} {s : Shared} {L : Option Addr} (h : a ∈ N) : Prv ((st.res s N L).own a) := by
 rw [show (st.res s N L).own a = if L = some a then some .frm else some .priv from if_pos h]
 by_cases q : L = some a
 ·rw [if_pos q]; exact .inr rfl
 ·rw [if_neg q]; exact .inl rfl
theorem Z8e {st : St} {N : List Addr} {a : Addr} {s : Shared} {L : Option Addr} (h : a ∉ N) : (st.res s N L).own a = st.own a := if_neg h
theorem Inv.res (I : Inv g O st σ) {s' : Shared} {L : Option Addr} (hk : ∀ a, Kp st.h s'.heap a) (hN : ∀ a ∈ N, st.h.get? a = none /\ ∃ o, s'.heap.get? a = some o) (hg : s'.gens = st.s.gens) (ho : s'.os = st.s.os) (hL : ∀ a, L = some a -> ∃ m, s'.heap.Ns a m := by nofun) : Inv g O (st.res s' N L) σ := by
 have nn : ∀ {b : Addr}, st.own b ≠ none -> b ∉ N := fun n m => n (I.fresh (hN _ m).1)
 refine I.to hg ho (fun a _ o e => ⟨hk a o e, Z8e (s := s') fun m => Z0a ((hN a m).1.symm.trans e)⟩) (fun b n => ?_) (fun i p e => ?_) (fun _ _ e => e) (fun b n => ?_) fun x => I.heap.to x rfl (I.mineK fun b _ => hk b)
 rotate_right
 ·by_cases q : b ∈ N
  ·replace n : (if b ∈ N then (if L = some b then some Ow.frm else some .priv) else st.own b) = some .frm := n
   rw [if_pos q] at n
   by_cases z : L = some b
   ·exact hL b z
   ·rw [if_neg z] at n; exact nomatch n
  ·exact I.ns ((Z8e (s := s') q).symm.trans n) (.of (hk b))
 ·by_cases q : b ∈ N
  ·exact (hN b q).2
  ·obtain ⟨o, e⟩ := I.live b fun z => n ((Z8e (s := s') q).trans z); exact ⟨o, hk b o e⟩
 ·have m := I.mine i p e
  exact ⟨(Z8e (s := s') (nn fun z => nomatch m.1.symm.trans z)).trans m.1, (Z8e (s := s') (nn fun z => nomatch m.2.symm.trans z)).trans m.2⟩
theorem Step.res {s' : Shared} {L : Option Addr} (hk : ∀ a, Kp st.h s'.heap a) (hN : ∀ a ∈ N, st.h.get? a = none) : Step [] st (st.res s' N L) := ⟨fun a o e => ⟨o, hk a o e⟩, fun a _ _ => .of (hk a), fun a o e => Z8e fun m => Z0a ((hN a m).symm.trans e), fun _ _ e => e, rfl⟩
noncomputable def St.adopt (st : St) (a d : Addr) : St := ⟨st.s, fun b => if b = a \/ b = d then some (.mine st.μ.length) else st.own b, st.μ ++ [(a, d)], st.μo⟩
theorem Inv.adopt (I : Inv g O st σ) {o : MO} (ha : st.own a = some .priv) (hd : st.own d = some .priv) (ro : Ext st (st.adopt a d) -> RO g (st.adopt a d) o a d) : Inv g O (st.adopt a d) (σ ++ [o]) := by
 have no : ∀ {b : Addr} {o : Option Ow}, st.own b = o -> o ≠ some .priv -> (st.adopt a d).own b = o := fun e n => (if_neg (not_or.mpr ⟨own_ne e ha n, own_ne e hd n⟩)).trans e
 refine I.to rfl rfl (fun b n o e => ⟨e, n.elim (fun n => (no n nofun).trans n.symm) fun n => (no n nofun).trans n.symm⟩) (fun b n => ?_) (fun i p e => ?_) (fun _ _ e => snoc_old e) (fun b n => I.frms b (by
  by_cases q : b = a \/ b = d
  ·exact nomatch (if_pos q).symm.trans n
  ·exact (if_neg q).symm.trans n)) fun x => I.heap.add x rfl (fun _ _ _ => ⟨fun _ e => e, fun _ e => e⟩) (ro x)
 ·by_cases q : b = a \/ b = d
  ·exact q.elim (fun q => q ▸ I.live a fun z => nomatch ha.symm.trans z) fun q => q ▸ I.live d fun z => nomatch hd.symm.trans z
  ·exact I.live b fun z => n ((if_neg q).trans z)
 ·rcases snoc_at e with e | ⟨rfl, rfl⟩
  ·have m := I.mine i p e
   exact ⟨no m.1 nofun, no m.2 nofun⟩
  ·exact ⟨if_pos (.inl rfl), if_pos (.inr rfl)⟩
theorem Step.adopt (x : Step W st0 st) (ha : st0.h.get? a = none) (hd : st0.h.get? d = none) : Step W st0 (st.adopt a d) :=
 ⟨x.live, x.keep, fun b o e => (if_neg (not_or.mpr ⟨fun q => Z0a (ha.symm.trans (q ▸ e)), fun q => Z0a (hd.symm.trans (q ▸ e))⟩)).trans (x.own b o e), fun i p e => snoc_old (x.mu i p e), x.mo⟩
theorem adopt_at (a d : Addr) (I : Inv g O st σ) : (st.adopt a d).μ[σ.length]? = some (a, d) := I.heap.len ▸ snoc_new
noncomputable def St.drop (st : St) (s : Shared) (T : List Addr) : St := ⟨s, fun b => if b ∈ T then none else st.own b, st.μ, st.μo⟩
theorem Y1v {st : St} {T : List Addr} {a : Addr} {s : Shared} (h : a ∈ T) : (st.drop s T).own a = none := if_pos h
theorem Z1z {st : St} {T : List Addr} {a : Addr} {s : Shared} (h : a ∉ T) : (st.drop s T).own a = st.own a := if_neg h
theorem Inv.drop (I : Inv g O st σ) {s' : Shared} (hT : ∀ a ∈ N, st.own a = some .priv) (hk : ∀ a, a ∉ N -> Kp st.h s'.heap a) (hg : s'.gens = st.s.gens) (ho : s'.os = st.s.os) : Inv g O (st.drop s' N) σ := by
 have no : ∀ {b : Addr} {o : Option Ow}, st.own b = o -> o ≠ some .priv -> b ∉ N := fun e n m => n (e.symm.trans (hT _ m))
 refine I.to hg ho (fun b n o e => have q : b ∉ N := n.elim (no · nofun) (no · nofun); ⟨hk b q o e, Z1z (s := s') q⟩) (fun b n => ?_) (fun i p e => have m := I.mine i p e; ⟨(Z1z (s := s') (no m.1 nofun)).trans m.1, (Z1z (s := s') (no m.2 nofun)).trans m.2⟩) (fun _ _ e => e) (fun b n => ?_) fun x => I.heap.to x rfl (I.mineK fun b ⟨i, q⟩ => hk b (no q nofun))
 ·by_cases q : b ∈ N
  ·exact absurd (Y1v (s := s') q) n
  ·obtain ⟨o, e⟩ := I.live b fun z => n ((Z1z (s := s') q).trans z)
   exact ⟨o, hk b q o e⟩
 ·by_cases q : b ∈ N
  ·exact nomatch (Y1v (s := s') q).symm.trans n
  ·exact I.ns ((Z1z (s := s') q).symm.trans n) (.of (hk b q))
theorem Ext.drop {s' : Shared} (hT : ∀ a ∈ N, st.own a = some .priv) (hk : ∀ a, a ∉ N -> Kp st.h s'.heap a) : Ext st (st.drop s' N) := ⟨fun b o n e => have q : b ∉ N := fun m => nomatch n.symm.trans (hT b m); ⟨hk b q o e, (Z1z q).trans n⟩, fun _ _ e => e, rfl⟩
theorem Step.drop {s' : Shared} (x : Step (N ++ W) st0 st) (hd : ∀ a ∈ N, st0.h.get? a = none) (hk : ∀ a, a ∉ N -> Kp st.h s'.heap a) : Step W st0 (st.drop s' N) := by
 have nd : ∀ {b : Addr} {o : Obj}, st0.h.get? b = some o -> b ∉ N := fun e m => Z0a ((hd _ m).symm.trans e)
 have y := x.shed hd
 exact ⟨fun b o e => let ⟨o', e'⟩ := y.live b o e; ⟨o', hk b (nd e) o' e'⟩, fun b p q => (y.keep b p q).trans fun ⟨o, e⟩ => .of (hk b (nd e)), fun b o e => (Z1z (nd e)).trans (y.own b o e), y.mu, y.mo⟩
noncomputable abbrev St.free (st : St) (d : Addr) : St := st.drop st.s [d]
theorem Inv.free (I : Inv g O st σ) (hd : st.own d = some .priv) : Inv g O (st.free d) σ := I.drop (fun a h => List.mem_singleton.mp h ▸ hd) (fun _ _ _ e => e) rfl rfl
theorem Step.free (x : Step W st0 st) (hd : st0.h.get? d = none) : Step W st0 (st.free d) := .drop (x.weak fun a h => .tail _ h) (fun a h => List.mem_singleton.mp h ▸ hd) fun _ _ _ e => e
theorem Ext.free (hd : st.own d = some .priv) : Ext st (st.free d) := .drop (fun a h => List.mem_singleton.mp h ▸ hd) fun _ _ _ e => e
noncomputable def dOwn : Option Ow -> Option Ow
 | some (.mine _) => some .outer
 | x => x
noncomputable def St.deep (st : St) (m : List AMap) : St := ⟨st.s, fun a => dOwn (st.own a), [], m⟩
theorem dOwn_none {x : Option Ow} (h : dOwn x = none) : x = none := by
 cases x with
 | none => rfl
 | some o => cases o <;> exact nomatch h
theorem dOwn_mine {x : Option Ow} {i : Nat} (h : dOwn x = some (.mine i)) : False := by
 cases x with
 | none => exact nomatch h
 | some o => cases o <;> exact nomatch h
theorem dOwn_frm {x : Option Ow} (h : dOwn x = some .frm) : x = some .frm := by
 cases x with
 | none => exact nomatch h
 | some o => cases o <;> first | rfl | exact nomatch h
theorem Inv.deep (I : Inv g O st σ) {m : List AMap} {O' : Z0c} (hm : ∀ (l : Nat) m' σl, m[l]? = some m' -> O'[l]? = some σl -> ∀ p, Here m' σl p -> dOwn (st.own p.1) = some .outer /\ dOwn (st.own p.2) = some .outer) (ho : ROut g (st.deep m) O') : Inv g O' (st.deep m) [] :=
 ⟨I.gens, I.os_, fun a o e => have h := I.base a o e; ⟨h.1, congrArg dOwn h.2⟩, fun a n => I.live a fun e => n (congrArg dOwn e), fun i p e => (nomatch e), hm, ⟨rfl, fun i o p e => nomatch e⟩, ho, fun a n => I.frms a (dOwn_frm n)⟩
theorem Inv.inner (I : Inv g O st σ) : Inv g (σ :: O) (st.deep (st.μ :: st.μo)) [] := by
 have x : ∀ l m, Ext (st.lv l m) ((st.deep (st.μ :: st.μo)).lv (l + 1) m) := fun l m => ⟨fun a o n e => ⟨e, congrArg dOwn n⟩, fun _ _ e => e, rfl⟩
 have k : ∀ {m : AMap} (i : Nat) p, m[i]? = some p -> Kp st.h st.h p.1 /\ Kp st.h st.h p.2 := fun _ _ _ => ⟨fun _ e => e, fun _ e => e⟩
 refine I.deep (fun l m σl e f p h => ?_) ⟨congrArg (· + 1) I.outer.len, fun l σl m e f => ?_⟩
 ·cases l with
  | zero => cases e; exact let ⟨i, _, q, _⟩ := h; have z := I.mine i p q; ⟨congrArg dOwn z.1, congrArg dOwn z.2⟩
  | succ l => have z := I.out l m σl e f p h; exact ⟨congrArg dOwn z.1, congrArg dOwn z.2⟩
 cases l with
 | zero => cases e; cases f; exact I.heap.to ⟨fun a o n e => ⟨e, congrArg dOwn n⟩, fun _ _ e => e, rfl⟩ rfl k
 | succ l => exact (I.outer.at_ l σl m e f).to (x l m) rfl k
theorem Inv.blank (I : Inv g O st σ) : Inv g [] (st.deep []) [] := I.deep (fun l m σl e => nomatch e) ⟨rfl, fun l σl m e => nomatch e⟩
end
structure RoomC (A : Around) (n : Nat) : Prop where
 handled : A.handled = none
 depth : A.depth + 3 * n + 10 <= 900
 units : A.units + 40 * n + 390 < 9900
noncomputable def FrA (A : Around) (st : St) : Prop := ∃ l, A.frames = some l /\ ∀ env ∈ l, env.scope.kind ≠ .module /\ ∃ L, env.frame = some L /\ st.own L = some .frm /\ ∃ o, st.h.get? L = some o
theorem FrA.go {A : Around} {W : List Addr} {st st' : St} (f : FrA A st) (x : Step W st st') : FrA A st' := let ⟨l, e, h⟩ := f; ⟨l, e, fun env m => let ⟨k, L, p, q, o, r⟩ := h env m; ⟨k, L, p, (x.own L o r).trans q, x.live L o r⟩⟩
theorem FrA.to {A : Around} {st st' : St} (f : FrA A st) (hs : st'.s = st.s) (ho : ∀ a, st.own a = some .frm -> st'.own a = some .frm) : FrA A st' := let ⟨l, e, h⟩ := f; ⟨l, e, fun env m => let ⟨k, L, p, q, r⟩ := h env m; ⟨k, L, p, ho L q, (congrArg (fun s : Shared => ∃ o, s.heap.get? L = some o) hs).mpr r⟩⟩
noncomputable def Lz (g : Gl) (A : Around) (st : St) (e : Value) (s' : Shared) : Prop := ∃ a l a0 B, e = .ref a /\ A.frames = some l /\ s'.gens = st.s.gens /\ s'.os = st.s.os /\ (∀ b o, st.h.get? b = some o -> st.own b ≠ some .frm -> B.get? b = some o) /\ Heap.FlyingW B l a (.ref g.cfg.excC) a0 s'.heap /\ st.h.UpToSlots s'.heap
noncomputable def AftE (g : Gl) (A : Around) (O : Z0c) (st : St) (σ' : Hp) (E : Value -> Shared -> Prop) : Prop := ∀ st' e s', Inv g O st' σ' -> Step [] st st' -> Lz g A st' e s' -> E e s'
noncomputable def Aft (g : Gl) (O : Z0c) (st : St) (z : MV) (σ' : Hp) (Q : Value -> Shared -> Prop) : Prop := ∀ st' u, Inv g O st' σ' -> Step [] st st' -> VM g st' z u -> Q u st'.s
noncomputable def Z9z (K : Frag) (c : Addr) (a : Str) : Bool := plainGet K c a && hasDictIn K c && (match findIn K (.ref c) a with | some x => noGet K x | none => false)
noncomputable def Z4f (K : Frag) (c : Addr) (a : Str) : Bool := (findIn K (.ref c) "__setattr__" == some (some (.builtin "object.__setattr__"))) && plainOver K c && (takerIn K c a == some none) && hasDictIn K c
noncomputable def methGood (K : Frag) (c : Addr) (m : Str × Addr) : Bool := (findIn K (.ref c) m.1 == some (some (.ref m.2))) && (typeIn K (.ref m.2) == some (.type "function")) && plainGet K c m.1
structure PFc (cfg : Cfg) (K : Frag) : Prop where
 attr : ∀ c row, cfg.cls c = some row -> ∀ a ∈ row.attrs, Z9z K c a = true /\ Z4f K c a = true
 txt : ∀ c row, cfg.cls c = some row -> ∀ a ∈ row.attrs, PyData.strOk a = true
 meth : ∀ c row, cfg.cls c = some row -> ∀ m ∈ row.meths, methGood K c m = true
structure CallX (g : Gl) (n : Nat) (C : Z0j) : Prop where
 sound : ∀ {O : Z0c} {st : St} {σ : Hp} {A : Around} {E : Value -> Shared -> Prop} {p : PV} {args : List MV} {u : Value} {vs : List Value} {z : MV} {σ' : Hp} {Q : Value -> Shared -> Prop}, RoomC A n -> FrA A st -> Inv g O st σ -> VM g st (.pv p) u -> VMs g st args vs -> C p args O σ = some (z, σ') -> Aft g O st z σ' Q -> (z = .exc -> AftE g A O st σ' E) -> wpAny g.M A (call u vs) Q E st.s
 keep : ∀ {p : PV} {args : List MV} {O : Z0c} {σ : Hp} {r : MV × Hp}, C p args O σ = some r -> ∃ a, (p = .fn a \/ p = .cls a) /\ keepIn g.K (.ref a) = true
structure CallS (g : Gl) (n : Nat) (C : Z0j) : Prop where
 sound : ∀ {O : Z0c} {st : St} {σ : Hp} {A : Around} {E : Value -> Shared -> Prop} {p : PV} {args : List MV} {u : Value} {vs : List Value} {z : MV} {σ' : Hp} {Q : Value -> Shared -> Prop}, RoomC A n -> FrA A st -> Inv g O st σ -> VM g st (.pv p) u -> VMs g st args vs -> C p args O σ = some (z, σ') -> Aft g O st z σ' Q -> wpAny g.M A (call u vs) Q E st.s
 keep : ∀ {p : PV} {args : List MV} {O : Z0c} {σ : Hp} {r : MV × Hp}, C p args O σ = some r -> ∃ a, (p = .fn a \/ p = .cls a) /\ keepIn g.K (.ref a) = true
noncomputable def Gl.st0 (g : Gl) : St := ⟨{ heap := g.hb }, fun _ => none, [], []⟩
structure PFw (g : Gl) : Prop where
 kin : g.K.In g.hb
 nolimit : g.hb.NoLimit
 names : ∃ mg mb, g.hb.Ns mainGlobals mg /\ g.hb.Ns builtinsNs mb /\ ∀ x p, g.cfg.glob x = some p -> ∃ u, VP g g.st0 p u /\ (mg x = some u \/ (mg x = none /\ mb x = some u))
 pfc : PFc g.cfg g.K
 sys : ∃ o, g.hb.get? sysModules = some o
structure FnAt (g : Gl) (a : Addr) (r : FnRow) : Prop where
 obj : ∃ oc od osl name qual params dV kV doc pm an cdv ct, g.K.lookup a = some ⟨oc, od, .func (fnOf name qual params r.body r.scope dV kV doc pm an cdv ct), osl⟩ /\ codeIn g.K cdv qual = true /\ params.posonlyargs = [] /\ params.vararg = none /\ params.kwonlyargs = [] /\ params.kwarg = none /\
  params.args.map (·.arg) = r.params /\ ((dV = .none /\ r.dflts = []) \/ ∃ T ds, dV = .ref T /\ TX g.hb T ds /\ VPs g g.st0 r.dflts ds)
 keep : keepIn g.K (.ref a) = true
 kind : r.scope.kind = .function
 co : r.scope.isCoroutine = false
 gen : r.scope.isGenerator = false
 nd : r.params.Nodup
 pk : ∀ x ∈ r.params, look r.scope.names x = some .local \/ look r.scope.names x = some .cell
 nofree : ∀ x ∈ r.scope.names, x.2 ≠ .free
 dl : r.dflts.length <= r.params.length
structure ClsAt (g : Gl) (c : Addr) (row : ClsRow) : Prop where
 keep : keepIn g.K (.ref c) = true
 makes : makesIn g.K c = true
 init : findIn g.K (.ref c) "__init__" = some (some (.ref row.init))
 fn : typeIn g.K (.ref row.init) = some (.type "function")
 op : ∃ r, g.cfg.fns row.init = some r /\ r.isPure = false
noncomputable abbrev kfObj (nm q : Str) (C N B : Addr) (bs : List Value) (sn : List Str) (sub : List Value) (ab : Bool) (col : Option Bool) (dd : Option Addr) (k0 k1 k2 k3 k5 : Option Value) (newId : String) : Obj :=
 excClassObj nm q C N bs [.ref B, .type "Exception", .type "BaseException", .type "object"] true sn sub ab col dd k0 k1 k2 k3 k5 newId
noncomputable def excOver (K : Frag) (C : Addr) : Prop := ∃ cd a b, clsIn K C = some cd /\ cd.mro = [.ref a, .ref b, .type "Exception", .type "BaseException", .type "object"] /\ cd.hasDict = true
noncomputable def initBody (r : FnRow) : Prop := ∃ p1 p2 p3 p4 p5 p6 q1 q2 q3 q4 s1 s2 s3 s4, r.body = [
 .Expr (.Call (.Attribute (.Name "Exception" p1) "__init__" p2) [.Name "self" p3, .Name "message" p4] [] p5) p6,
 .Assign [.Attribute (.Name "self" q1) "message" q2] (.Name "message" q3) q4,
 .Assign [.Attribute (.Name "self" s1) "spot" s2] (.Name "spot" s3) s4] /\ p2.endLine = p5.line
structure InitRow (r : FnRow) : Prop where
 params : r.params = [("self" : Str), "message", "spot"]
 dflts : r.dflts = [.none]
 self : look r.scope.names "self" = some .local
 message : look r.scope.names "message" = some .local
 spot : look r.scope.names "spot" = some .local
 exc : look r.scope.names "Exception" = some .globalImplicit
 vars : ∀ x ∈ r.params, (look (Z7j r.scope.names) x).isSome = true
 body : initBody r
structure ExcAt (g : Gl) : Prop where
 over : excOver g.K g.cfg.excC
 obj : ∃ nm q N B bs sn sub ab col dd k0 k1 k2 k3 k5, g.K.lookup g.cfg.excC = some (kfObj nm q g.cfg.excC N B bs sn sub ab col dd k0 k1 k2 k3 k5 "Exception.__new__")
 setA : findIn g.K (.ref g.cfg.excC) "__setattr__" = some (some (.builtin "object.__setattr__"))
 noM : findIn g.K (.ref g.cfg.excC) "message" = some none
 noS : findIn g.K (.ref g.cfg.excC) "spot" = some none
 init : ∃ fI r, findIn g.K (.ref g.cfg.excC) "__init__" = some (some (.ref fI)) /\ typeIn g.K (.ref fI) = some (.type "function") /\ FnAt g fI r /\ InitRow r
 initB : findCls g.K (.type "Exception") (.type "type") "__init__" = some (.val (.builtin "Exception.__init__"))
 keep : keepIn g.K (.ref g.cfg.excC) = true
 glob : g.cfg.glob g.cfg.exc = some (.cls g.cfg.excC)
 ok : Z8w g.cfg.exc = true
 name : ∃ mg mb, g.hb.Ns mainGlobals mg /\ g.hb.Ns builtinsNs mb /\ mg "Exception" = none /\ mb "Exception" = some (.type "Exception")
noncomputable def Goal (g : Gl) : Prop := PFw g -> (∀ a r, g.cfg.fns a = some r -> FnAt g a r) -> (∀ c row, g.cfg.cls c = some row -> ClsAt g c row) -> ExcAt g -> CallS g 150 (Z0d g.cfg 150)
theorem gl_any : Nonempty Gl := ⟨⟨default, ⟨fun _ _ => 0, { strHash := fun _ => 0, shareClass := fun _ => 0, mergeTok := fun t => t, idOf := fun _ => 0, idOfShared := fun _ _ => 0, followText := fun _ => false, idOfImm := fun _ => 0 }⟩, default, default, [], ⟨fun _ => none, fun _ => none, fun _ => none, fun _ => false, "", 0⟩⟩⟩
@[irreducible] noncomputable def g : Gl := @Classical.epsilon Gl gl_any fun g => ¬ Goal g
theorem goal_all (h : Goal g) (g' : Gl) : Goal g' := Classical.byContradiction fun n => (show ¬ Goal g by unfold g; exact Classical.epsilon_spec (p := fun g => ¬ Goal g) ⟨g', n⟩) h
theorem natsEq_iff : ∀ a b : List Nat, natsEq a b = true ↔ a = b
 | [], [] => ⟨fun _ => rfl, fun _ => rfl⟩
 | [], _ :: _ => ⟨nofun, nofun⟩
 | _ :: _, [] => ⟨nofun, nofun⟩
 | a :: x, b :: y => by
  show (match Nat.beq a b with | true => natsEq x y | false => false) = true ↔ _
  cases h : Nat.beq a b with
  | true => exact (natsEq_iff x y).trans ⟨fun e => Nat.eq_of_beq_eq_true h ▸ e ▸ rfl, fun e => (List.cons.inj e).2⟩
  | false => exact ⟨nofun, fun e => absurd (List.cons.inj e).1 (Nat.ne_of_beq_eq_false h)⟩
theorem strEq_true {a b : Str} : Z0g a b = true ↔ a = b := (natsEq_iff _ _).trans ⟨fun h => by cases a; cases b; exact congrArg Str.mk (Array.toList_inj.mp h), fun e => e ▸ rfl⟩
theorem Z1f (a : Str) : Z0g a a = true := strEq_true.mpr rfl
theorem Z9h {a b : Str} (h : a ≠ b) : Z0g a b = false := Bool.eq_false_iff.mpr fun e => h (strEq_true.mp e)
theorem Z4e (a b : Str) : Z0g a b = decide (a = b) := by
 by_cases h : a = b
 ·rw [decide_eq_true h]; exact strEq_true.mpr h
 ·rw [decide_eq_false h]; exact Z9h h
mutual
noncomputable def pd : PV -> PyData
 | .none => .none
 | .bool b => .bool b
 | .int i => .int i
 | .str s => .str s
 | .tup l => .tuple (pds l)
 | .lst l => .list (pds l)
 | _ => .none
noncomputable def pds : List PV -> List PyData
 | [] => []
 | p :: l => pd p :: pds l
end
theorem dat_elim {n : Nat} {x : PV} (h : Z0p n x = true) {P : PV -> Prop} (no : P .none) (bo : ∀ b, P (.bool b)) (it : ∀ i, P (.int i)) (st : ∀ s, P (.str s)) (tu : ∀ k l, n = k + 1 -> l.all (Z0p k) = true -> P (.tup l)) (ls : ∀ k l, n = k + 1 -> l.all (Z0p k) = true -> P (.lst l)) : P x := by
 cases x with
 | none => exact no
 | bool b => exact bo b
 | int i => exact it i
 | str s => exact st s
 | tup l => cases n with
  | zero => exact nomatch h
  | succ k => exact tu k l rfl h
 | lst l => cases n with
  | zero => exact nomatch h
  | succ k => exact ls k l rfl h
 | _ => cases n <;> exact nomatch h
noncomputable def Rd (h : Heap) (n : Nat) (p : PV) (v : Value) : Prop := ∃ as, Reads h v (pd p) as /\ (pd p).canLay0 = true /\ (pd p).depth <= n
section
variable {st : St} {h : Heap}
theorem rd_all {n : Nat} {l : List PV} {vs : List Value} (r : A2 (Rd h n) l vs) : ∃ as, ReadsAll h vs (pds l) as /\ PyData.canLayAll0 (pds l) = true /\ PyData.depthAll (pds l) <= n := by
 induction r with
 | nil => exact ⟨_, .nil, rfl, Nat.zero_le _⟩
 | cons a b ih =>
  obtain ⟨as, r, c, d⟩ := a
  obtain ⟨bs, r', c', d'⟩ := ih
  exact ⟨_, .cons r r', Bool.and_eq_true_iff.mpr ⟨c, c'⟩, Nat.max_le.mpr ⟨d, d'⟩⟩
theorem all_at {α : Type} {f : α -> Bool} {l : List α} (h : l.all f = true) {i : Nat} {a : α} (e : l[i]? = some a) : f a = true := List.all_eq_true.mp h a (List.mem_of_getElem? e)
theorem vp_rd {p : PV} {v : Value} (r : VP g st p v) : ∀ n, Z0p n p = true -> Rd st.h n p v := by
 induction r with
 | none => exact fun n _ => ⟨_, .none, rfl, Nat.zero_le _⟩
 | bool b => exact fun n _ => ⟨_, .bool b, rfl, Nat.zero_le _⟩
 | int i t => exact fun n _ => ⟨_, .int i t, rfl, Nat.zero_le _⟩
 | str s t hs => exact fun n _ => ⟨_, .str s t, hs, Nat.zero_le _⟩
 | tup a b c ih =>
  intro n hd
  cases n with
  | zero => exact nomatch hd
  | succ n =>
   obtain ⟨as, r, c, d⟩ := rd_all (.of b fun i p v e f => ih i p v e f n (all_at hd e))
   obtain ⟨k, e⟩ := a.2
   exact ⟨as, .tuple e rfl rfl r, c, Nat.succ_le_succ d⟩
 | lst a b c ih =>
  intro n hd
  cases n with
  | zero => exact nomatch hd
  | succ n =>
   obtain ⟨as, r, c, d⟩ := rd_all (.of b fun i p v e f => ih i p v e f n (all_at hd e))
   obtain ⟨k, e⟩ := a.2
   exact ⟨_, .list e rfl rfl r, c, Nat.succ_le_succ d⟩
 | _ => intro n hd; cases n <;> exact nomatch hd
theorem vps_rd {l : List PV} {vs : List Value} (r : VPs g st l vs) (n : Nat) (hd : l.all (Z0p n) = true) : ∃ as, ReadsAll st.h vs (pds l) as /\ PyData.canLayAll0 (pds l) = true /\ PyData.depthAll (pds l) <= n :=
 rd_all (.of r.len fun i p v e f => vp_rd (r.idx i p v e f) n (all_at hd e))
end
theorem eqv_all {n m : Nat} (h : ∀ x y, Z0p n x = true -> Z0p m y = true -> PyData.eqv (pd x) (pd y) = pvEq x y) : ∀ l r, l.all (Z0p n) = true -> r.all (Z0p m) = true -> PyData.eqvAll (pds l) (pds r) = pvsEq l r
 | [], [], _, _ => rfl
 | [], _ :: _, _, _ => rfl
 | _ :: _, [], _, _ => rfl
 | x :: l, y :: r, a, b => by
  obtain ⟨a1, a2⟩ := Bool.and_eq_true_iff.mp a
  obtain ⟨b1, b2⟩ := Bool.and_eq_true_iff.mp b
  show (PyData.eqv (pd x) (pd y) && PyData.eqvAll (pds l) (pds r)) = (match pvEq x y with | true => pvsEq l r | false => false)
  rw [h x y a1 b1, eqv_all h l r a2 b2]
  cases pvEq x y <;> rfl
noncomputable abbrev Eqd (x y : PV) : Prop := PyData.eqv (pd x) (pd y) = pvEq x y
theorem Z6v {m : Nat} {x y : PV} (h : Z0p m y = true) (no : Eqd x .none) (bo : ∀ b, Eqd x (.bool b)) (it : ∀ i, Eqd x (.int i)) (st : ∀ s, Eqd x (.str s)) (tu : ∀ k l, m = k + 1 -> l.all (Z0p k) = true -> Eqd x (.tup l)) (ls : ∀ k l, m = k + 1 -> l.all (Z0p k) = true -> Eqd x (.lst l)) : Eqd x y := dat_elim h no bo it st tu ls
theorem eqv_pd : ∀ (n m : Nat) (x y : PV), Z0p n x = true -> Z0p m y = true -> PyData.eqv (pd x) (pd y) = pvEq x y := by
 intro n
 induction n with
 | zero =>
  intro m x y hx hy
  refine dat_elim hx (P := fun x => Eqd x y) ?_ ?_ ?_ ?_ (fun _ _ e _ => nomatch e) (fun _ _ e _ => nomatch e)
  ·exact Z6v hy rfl (fun _ => rfl) (fun _ => rfl) (fun _ => rfl) (fun _ _ _ _ => rfl) (fun _ _ _ _ => rfl)
  ·exact fun a => Z6v hy rfl (fun b => by cases a <;> cases b <;> rfl) (fun b => by cases a <;> rfl) (fun _ => rfl) (fun _ _ _ _ => rfl) (fun _ _ _ _ => rfl)
  ·exact fun a => Z6v hy rfl (fun b => by cases b <;> rfl) (fun _ => rfl) (fun _ => rfl) (fun _ _ _ _ => rfl) (fun _ _ _ _ => rfl)
  ·exact fun a => Z6v hy rfl (fun _ => rfl) (fun _ => rfl) (fun b => (Z4e a b).symm) (fun _ _ _ _ => rfl) (fun _ _ _ _ => rfl)
 | succ n ih =>
  intro m x y hx hy
  refine dat_elim hx (P := fun x => Eqd x y) ?_ ?_ ?_ ?_ ?_ ?_
  ·exact Z6v hy rfl (fun _ => rfl) (fun _ => rfl) (fun _ => rfl) (fun _ _ _ _ => rfl) (fun _ _ _ _ => rfl)
  ·exact fun a => Z6v hy rfl (fun b => by cases a <;> cases b <;> rfl) (fun b => by cases a <;> rfl) (fun _ => rfl) (fun _ _ _ _ => rfl) (fun _ _ _ _ => rfl)
  ·exact fun a => Z6v hy rfl (fun b => by cases b <;> rfl) (fun _ => rfl) (fun _ => rfl) (fun _ _ _ _ => rfl) (fun _ _ _ _ => rfl)
  ·exact fun a => Z6v hy rfl (fun _ => rfl) (fun _ => rfl) (fun b => (Z4e a b).symm) (fun _ _ _ _ => rfl) (fun _ _ _ _ => rfl)
  ·exact fun k l e hl => Z6v hy rfl (fun _ => rfl) (fun _ => rfl) (fun _ => rfl) (fun j r _ hr => eqv_all (ih j) l r (Nat.succ.inj e ▸ hl) hr) (fun _ _ _ _ => rfl)
  ·exact fun k l e hl => Z6v hy rfl (fun _ => rfl) (fun _ => rfl) (fun _ => rfl) (fun _ _ _ _ => rfl) (fun j r _ hr => eqv_all (ih j) l r (Nat.succ.inj e ▸ hl) hr)
theorem any_pd {x : PV} {n m : Nat} (hx : Z0p n x = true) : ∀ l : List PV, l.all (Z0p m) = true -> ((pds l).any fun y => PyData.eqv y (pd x)) = l.any fun y => pvEq y x
 | [], _ => rfl
 | a :: l, h => by
  obtain ⟨h1, h2⟩ := Bool.and_eq_true_iff.mp h
  show (PyData.eqv (pd a) (pd x) || (pds l).any fun y => PyData.eqv y (pd x)) = (pvEq a x || l.any fun y => pvEq y x)
  rw [eqv_pd m n a x h1 hx, any_pd hx l h2]
structure Room (A : Around) (n : Nat) : Prop where
 handled : A.handled = none
 depth : A.depth + 3 * n + 10 <= 900
 units : A.units + 40 * n + 400 < 9900
section
variable {A : Around} {n : Nat}
theorem Room.c (r : Room A n) : RoomC A n := ⟨r.handled, r.depth, Nat.lt_of_le_of_lt (Nat.add_le_add_left (by decide) _) r.units⟩
theorem Room.u (r : Room A n) : A.units + 64 < cLine := by have := r.units; show A.units + 64 < 9900; omega
theorem Room.u1 (r : Room A n) : A.units < cLine := Nat.lt_of_le_of_lt (Nat.le_add_right _ _) r.u
theorem Room.min (r : Room A n) {a b : Nat} (h : b <= 60) : A.units + 1 + min a b < cLine := by have := r.units; show _ < 9900; omega
end
section
variable {α β : Type} {O : Z0c} {σ σ' : Hp}
theorem bE {m : Mm α} {f : α -> Mm β} {r : β × Hp} (e : bnd m f O σ = some r) {P : Prop} (k : ∀ a s, m O σ = some (a, s) -> f a O s = some r -> P) : P := by
 unfold bnd at e
 cases h : m O σ with
 | none => rw [h] at e; exact Z0a e
 | some p => rw [h] at e; exact k p.1 p.2 h e
theorem gd1 {c : Bool} {m : Mm α} {r : α × Hp} (e : gd c m O σ = some r) : c = true := by
 cases c with
 | true => rfl
 | false => exact Z0a e
theorem gd2 {c : Bool} {m : Mm α} {r : α × Hp} (e : gd c m O σ = some r) : m O σ = some r := by
 cases c with
 | true => exact e
 | false => exact Z0a e
theorem gd3 {c d : Bool} {m : Mm α} {r : α × Hp} (e : gd (c && d) m O σ = some r) {P : Prop} (k : c = true -> d = true -> m O σ = some r -> P) : P :=
 have h := Bool.and_eq_true_iff.mp (gd1 e)
 k h.1 h.2 (gd2 e)
theorem oE {x : Option α} {f : α -> Mm β} {r : β × Hp} (e : bnd (ofO x) f O σ = some r) {P : Prop} (k : ∀ a, x = some a -> f a O σ = some r -> P) : P := by
 cases x with
 | none => exact Z0a e
 | some a => exact k a rfl e
theorem Z8x {x : Option α} {r : α × Hp} (e : ofO x O σ = some r) : x = some r.1 /\ r.2 = σ := by
 cases x with
 | none => exact Z0a e
 | some a => cases e; exact ⟨rfl, rfl⟩
theorem Z0q {x z : α} (e : ret x O σ = some (z, σ')) : x = z /\ σ = σ' := Prod.mk.inj (Option.some.inj e)
theorem calmE {C : Z0j} {p : PV} {args : List MV} {z : MV} (e : calm C p args O σ = some (z, σ')) : C p args O σ = some (z, σ') /\ z ≠ .exc :=
 bE e fun v s e1 e2 => by cases v <;> first | exact Z0a e2 | (cases e2; exact ⟨e1, nofun⟩)
theorem CallX.calm {n : Nat} {C : Z0j} (h : CallX g n C) : CallS g n (calm C) := ⟨fun rm f I rp ra e k => have q := calmE e; h.sound rm f I rp ra q.1 k fun z => absurd z q.2, fun {p args O σ r} e => h.keep (calmE (z := r.1) (σ' := r.2) e).1⟩
theorem int2E {f : Int -> Int -> Mm α} {x y : MV} {r : α × Hp} (e : int2 f x y O σ = some r) {P : Prop} (k : ∀ i j, x = .pv (.int i) -> y = .pv (.int j) -> f i j O σ = some r -> P) : P := by
 cases x with
 | pv p => cases p with
  | int i => cases y with
   | pv q => cases q with
    | int j => exact k i j rfl rfl e
    | _ => exact Z0a e
   | _ => exact Z0a e
  | _ => exact Z0a e
 | _ => exact Z0a e
theorem asPVs_pvs : ∀ l : List PV, Z0z (pvs l) = some l
 | [] => rfl
 | p :: l => by
  show (match Z0z (pvs l) with | some ps => some (p :: ps) | none => none) = _
  rw [asPVs_pvs l]
theorem asPVs_cons {p : MV} {l : List MV} {ps : List PV} (e : Z0z (p :: l) = some ps) : ∃ q qs, p = .pv q /\ Z0z l = some qs /\ ps = q :: qs := by
 cases p with
 | pv q =>
  replace e : (match Z0z l with | some ps => some (q :: ps) | none => none) = some ps := e
  cases h : Z0z l with
  | none => rw [h] at e; exact Z0a e
  | some qs => rw [h] at e; cases e; exact ⟨q, qs, rfl, rfl, rfl⟩
 | _ => exact Z0a e
theorem asPV2_cons {k : Str} {p : MV} {l : List (Str × MV)} {ps : List (Str × PV)} (e : asPV2 ((k, p) :: l) = some ps) : ∃ q qs, p = .pv q /\ asPV2 l = some qs /\ ps = (k, q) :: qs := by
 cases p with
 | pv q =>
  replace e : (match asPV2 l with | some ps => some ((k, q) :: ps) | none => none) = some ps := e
  cases h : asPV2 l with
  | none => rw [h] at e; exact Z0a e
  | some qs => rw [h] at e; cases e; exact ⟨q, qs, rfl, rfl, rfl⟩
 | _ => exact Z0a e
theorem Z1s {l : List α} (e : small l = true) : l.length <= 1000000 := Nat.le_of_ble_eq_true e
theorem Z3v {n : Nat} (e : n <= 1000000) : n <= sizeLine := Nat.le_trans e (by decide)
end
section
variable {st st' : St} {vs : List Value} {kvs : List (Str × Value)}
theorem Z3g {l : List PV} (r : VPs g st l vs) : VMs g st (pvs l) vs := A2.map (r.imp fun _ _ a => .pv a)
theorem vmes_pvs {l : List (Str × PV)} (r : VEs g st l kvs) : VMes g st (pvs2 l) kvs := A2.map (r.imp fun _ _ a => ⟨a.1, .pv a.2⟩)
theorem Y0b {l : List MV} (r : VMs g st l vs) : ∀ {ps : List PV}, Z0z l = some ps -> VPs g st ps vs := by
 induction r with
 | nil => intro ps e; cases e; exact .nil
 | cons a b ih => intro ps e; obtain ⟨q, qs, rfl, h, rfl⟩ := asPVs_cons e; exact .cons a.p (ih h)
theorem ves_of {l : List (Str × MV)} (r : VMes g st l kvs) : ∀ {ps : List (Str × PV)}, asPV2 l = some ps -> VEs g st ps kvs := by
 induction r with
 | nil => intro ps e; cases e; exact .nil
 | @cons x v l vs a b ih => intro ps e; obtain ⟨k, p⟩ := x; obtain ⟨q, qs, rfl, h, rfl⟩ := asPV2_cons e; exact .cons ⟨a.1, a.2.p⟩ (ih h)
theorem vm_lift {l : Nat} {m : AMap} (e : st.μo[l]? = some m) {v : MV} {u : Value} (h : Z0k v = true) (r : VM g (st.lv l m) v u) : VM g st (lift l v) u := by
 cases v with
 | pv p => exact show VM g st (.pv p) u from .pv (VP.ext (st := st.lv l m) (st' := st) (fun _ _ n e => ⟨e, n⟩) r.p)
 | ref i => exact r.refE fun a d q => .oref e q
 | oref k i => exact r.orefE fun μl a d q q' => .oref (l := k + l + 1) (by rw [<- q]; exact (congrArg (st.μo[·]?) (Nat.add_comm (l + 1) k)).symm.trans (List.getElem?_drop ..).symm) q'
 | _ => exact Z0y h
theorem vms_lift {l : Nat} {m : AMap} (e : st.μo[l]? = some m) {l' : List MV} (r : VMs g (st.lv l m) l' vs) (h : l'.all Z0k = true) : VMs g st (l'.map (lift l)) vs :=
 A2.map (.of r.len fun i a b p q => vm_lift e (all_at h p) (r.idx i a b p q))
theorem vmes_lift {l : Nat} {m : AMap} (e : st.μo[l]? = some m) {l' : List (Str × MV)} (r : VMes g (st.lv l m) l' kvs) (h : (l'.all fun e => Z0k e.2) = true) : VMes g st (l'.map fun e => (e.1, lift l e.2)) kvs :=
 A2.map (.of r.len fun i a b p q => have x := r.idx i a b p q; ⟨x.1, vm_lift e (all_at h p) x.2⟩)
theorem ro_lift {l : Nat} {m : AMap} (e : st.μo[l]? = some m) {o o' : MO} {a d : Addr} (r : RO g (st.lv l m) o a d) (q : Z4s l o = some o') : RO g st o' a d := by
 cases o with
 | lst vs =>
  replace q : (match vs.all Z0k with | true => some (MO.lst (vs.map (lift l))) | false => none) = some o' := q
  cases h : vs.all Z0k with
  | false => rw [h] at q; exact Z0a q
  | true => rw [h] at q; cases q; obtain ⟨us, x, y⟩ := r; exact ⟨us, x, vms_lift e y h⟩
 | dct es =>
  replace q : (match es.all (fun e => Z0k e.2) with | true => some (MO.dct (es.map fun e => (e.1, lift l e.2))) | false => none) = some o' := q
  cases h : es.all (fun e => Z0k e.2) with
  | false => rw [h] at q; exact Z0a q
  | true => rw [h] at q; cases q; obtain ⟨us, z, x, y⟩ := r; exact ⟨us, z, x, vmes_lift e y h⟩
 | obj c es =>
  replace q : (match es.all (fun e => Z0k e.2) with | true => some (MO.obj c (es.map fun e => (e.1, lift l e.2))) | false => none) = some o' := q
  cases h : es.all (fun e => Z0k e.2) with
  | false => rw [h] at q; exact Z0a q
  | true => rw [h] at q; cases q; obtain ⟨us, z, x, y⟩ := r; exact ⟨us, z, x, vmes_lift e y h⟩
 | gone => exact Z0a q
end
section
variable {O : Z0c} {st st1 : St} {σ σ' : Hp} {v : MV} {u : Value} {α β : Type} {f : MO -> Mm β} {r : β × Hp}
theorem Z9n {i : Nat} {p : MO × Hp} (e : Z0n (.ref i) O σ = some p) : σ[i]? = some p.1 /\ p.2 = σ := by
 replace e : (match σ[i]? with | some o => some (o, σ) | none => none) = some p := e
 cases q : σ[i]? with
 | none => rw [q] at e; exact Z0a e
 | some o => rw [q] at e; cases e; exact ⟨rfl, rfl⟩
theorem oref_some {l i : Nat} {p : MO × Hp} (e : Z0n (.oref l i) O σ = some p) : ∃ σo o, O[l]? = some σo /\ σo[i]? = some o /\ Z4s l o = some p.1 /\ p.2 = σ := by
 replace e : (match O[l]? with | some σo => (match σo[i]? with | some o => (match Z4s l o with | some o' => some (o', σ) | none => none) | none => none) | none => none) = some p := e
 cases q : O[l]? with
 | none => rw [q] at e; exact Z0a e
 | some σo =>
  rw [q] at e
  replace e : (match σo[i]? with | some o => (match Z4s l o with | some o' => some (o', σ) | none => none) | none => none) = some p := e
  cases q1 : σo[i]? with
  | none => rw [q1] at e; exact Z0a e
  | some o =>
   rw [q1] at e
   replace e : (match Z4s l o with | some o' => some (o', σ) | none => none) = some p := e
   cases q2 : Z4s l o with
   | none => rw [q2] at e; exact Z0a e
   | some o' => rw [q2] at e; cases e; exact ⟨σo, o, rfl, q1, q2, rfl⟩
@[elab_as_elim] theorem obj_at (I : Inv g O st σ) (r : VM g st v u) {p : MO × Hp} (e : Z0n v O σ = some p) {P : Value -> Prop} (k : p.2 = σ -> ∀ a d, RO g st p.1 a d -> P (.ref a)) : P u := by
 cases v with
 | pv q =>
  cases q with
  | lst l => cases e; exact r.p.lstE fun a vs h y => k rfl a a ⟨vs, h.2, Z3g y⟩
  | dct l => cases e; exact r.p.dctE fun a vs h y => k rfl a a ⟨vs, h.2.1, h.2.2, vmes_pvs y⟩
  | obj c l => cases e; exact r.p.objE fun a vs ⟨d, h, h'⟩ y => k rfl a d ⟨vs, h.2, h'.2, vmes_pvs y⟩
  | _ => exact Z0a e
 | ref i => exact r.refE fun a d q => k (Z9n e).2 a d (I.heap.at_ i _ _ (Z9n e).1 q)
 | oref l i =>
  obtain ⟨σo, o, h1, h2, h3, h4⟩ := oref_some e
  exact r.orefE fun m a d q q' => k h4 a d (ro_lift q ((I.outer.at_ l _ m h1 q).at_ i _ _ h2 q') h3)
 | _ => exact Z0a e
@[elab_as_elim] theorem oR (I : Inv g O st σ) (r : VM g st v u) {y : β × Hp} (e : bnd (Z0n v) f O σ = some y) {P : Value -> Prop} (k : ∀ o a d, RO g st o a d -> f o O σ = some y -> P (.ref a)) : P u :=
 bE e fun o s e1 e2 => obj_at I r e1 fun h a d ro => k o a d ro ((show s = σ from h) ▸ e2)
theorem rR {i : Nat} {y : β × Hp} (e : bnd (Z0n (.ref i)) f O σ = some y) {P : Prop} (k : ∀ o, σ[i]? = some o -> f o O σ = some y -> P) : P :=
 bE e fun o s e1 e2 => k o (Z9n e1).1 ((show s = σ from (Z9n e1).2) ▸ e2)
noncomputable def SQ (st : St) (v : MV) (a : Addr) (vs : List Value) : Prop := (Z0w v = true /\ FT st a vs) \/ (Z0w v = false /\ LX st.h a vs)
@[elab_as_elim] theorem seq_obj {l : List MV} (I : Inv g O st σ) (r : VM g st v u) (e : bnd (Z0n v) lstM O σ = some (l, σ')) (h : Z0w v = false) {P : Value -> Prop} (k : σ' = σ -> ∀ a vs, VMs g st l vs -> SQ st v a vs -> P (.ref a)) : P u :=
 oR I r e fun o a d ro f => by
  cases o with
  | lst l' => obtain ⟨vs, x, y⟩ := ro; cases f; exact k rfl a vs y (.inr ⟨h, x⟩)
  | _ => exact Z0a f
@[elab_as_elim] theorem seq_at (I : Inv g O st σ) (r : VM g st v u) {l : List MV} (e : seqM v O σ = some (l, σ')) {P : Value -> Prop} (k : σ' = σ -> ∀ a vs, VMs g st l vs -> SQ st v a vs -> P (.ref a)) : P u := by
 cases v with
 | pv p =>
  cases p with
  | tup l' => cases e; exact r.p.tupE fun a vs h y => k rfl a vs (Z3g y) (.inl ⟨rfl, h⟩)
  | _ => exact seq_obj I r e rfl k
 | tup l' => cases e; exact r.tupE fun a vs h y => k rfl a vs y (.inl ⟨rfl, h⟩)
 | _ => exact seq_obj I r e rfl k
@[elab_as_elim] theorem sR {f : List MV -> Mm β} (I : Inv g O st σ) (r : VM g st v u) {y : β × Hp} (e : bnd (seqM v) f O σ = some y) {P : Value -> Prop} (k : ∀ l a vs, VMs g st l vs -> SQ st v a vs -> f l O σ = some y -> P (.ref a)) : P u :=
 bE e fun l s e1 e2 => seq_at I r e1 fun h a vs y q => k l a vs y q (h ▸ e2)
theorem SQ.lst {a : Addr} {vs : List Value} (h : SQ st v a vs) (n : (!Z0w v) = true) : LX st.h a vs := h.elim (fun q => by rw [q.1] at n; exact Z0y n) fun q => q.2
noncomputable def AftU (g : Gl) (O : Z0c) (st : St) (σ' : Hp) (Q : Shared -> Prop) : Prop := ∀ st', Inv g O st' σ' -> Step [] st st' -> Q st'.s
variable {Q : Value -> Shared -> Prop} {z z' : MV}
theorem Aft.after (x : Step [] st st1) (k : Aft g O st z σ' Q) : Aft g O st1 z σ' Q := fun st' u I y r => k st' u I (x.trans y) r
theorem Aft.ret (e : ret z' O σ = some (z, σ')) (k : Aft g O st z σ' Q) : Aft g O st z' σ Q := by cases e; exact k
theorem Aft.ofO {x : Option MV} (e : ofO x O σ = some (z, σ')) (k : Aft g O st z σ' Q) {P : Prop} (j : ∀ w, x = some w -> Aft g O st w σ Q -> P) : P := by
 cases x with
 | none => exact Z0a e
 | some w => cases e; exact j z rfl k
theorem Aft.here (k : Aft g O st z σ Q) (I : Inv g O st σ) (r : VM g st z u) : Q u st.s := k st u I (.refl [] st) r
theorem Aft.new (k : Aft g O st z σ Q) (I : Inv g O st σ) {s' : Shared} (hk : ∀ a, Kp st.h s'.heap a) (r : VM g (st.put s') z u) (hg : s'.gens = st.s.gens := by rfl) (ho : s'.os = st.s.os := by rfl) : Q u s' := k _ u (I.grow hk hg ho) (.grow hk) r
theorem VM.put {s' : Shared} (r : VM g st v u) (hk : ∀ a, Kp st.h s'.heap a) : VM g (st.put s') v u := r.go (Step.grow hk)
theorem Aft.tok (k : Aft g O st z σ Q) (I : Inv g O st σ) (r : VM g st z u) (t : Nat) : Q u { st.s with toks := t } := k.new I (s' := { st.s with toks := t }) (fun _ _ e => e) (r.put fun _ _ e => e)
theorem Z1v (h : Heap) (o : Obj) : ∀ a, Kp h (h.push o) a := fun b x e => Heap.get?_push_of_some o e
theorem Z4b {h : Heap} {o : Obj} (f : o.isFreed = false) : (h.push o).get? h.objs.size = some o := Heap.get?_push_size _ f
theorem mk_some {mu : Bool} {o : MO} {x : Option α} {h : α -> PV} (e : (match mu with | true => alloc o | false => bnd (Mine.Internal.ofO x) fun ps => Mine.Internal.ret (.pv (h ps)) : Mm MV) O σ = some (z, σ')) {P : Prop} (k1 : z = .ref σ.length -> σ' = σ ++ [o] -> P) (k2 : ∀ ps, x = some ps -> z = .pv (h ps) -> σ' = σ -> P) : P := by
 cases mu with
 | true => cases e; exact k1 rfl rfl
 | false =>
  cases x with
  | none => exact Z0a e
  | some ps => cases e; exact k2 ps rfl rfl rfl
theorem hand {W : List Addr} {st0 : St} {D : Addr} {mu : Bool} {o : MO} {x : Option α} {h : α -> PV} (I : Inv g O st σ) (hD : st.own D = some .priv) (hd : st0.h.get? D = none) (X : Step W st0 st)
  (e : (match mu with | true => alloc o | false => bnd (Mine.Internal.ofO x) fun ps => Mine.Internal.ret (.pv (h ps)) : Mm MV) O σ = some (z, σ')) (ro : ∀ st', Ext st st' -> st'.s = st.s -> RO g st' o D D) (fz : ∀ ps, x = some ps -> VP g (st.free D) (h ps) (.ref D)) {P : Prop}
  (k : ∀ st', st'.s = st.s -> (∀ a, a ≠ D -> st'.own a = st.own a) -> Inv g O st' σ' -> Step W st0 st' -> VM g st' z (.ref D) -> P) : P :=
 mk_some e (fun hz hs => k (st.adopt D D) rfl (fun a n => if_neg fun m => n (m.elim id id)) (hs ▸ I.adopt hD hD fun x => ro _ x rfl) (X.adopt hd hd) (hz ▸ .ref (adopt_at D D I)))
  fun ps hp hz hs => k (st.free D) rfl (fun a n => Z1z fun m => n (List.mem_singleton.mp m)) (hs ▸ I.free hD) (X.free hd) (hz ▸ .pv (fz ps hp))
theorem made {D : Addr} {mu : Bool} {o : MO} {x : Option α} {h : α -> PV} {s' : Shared} (I : Inv g O st σ) (hd : st.h.get? D = none) (hk : ∀ a, Kp st.h s'.heap a) (hl : ∃ o, s'.heap.get? D = some o)
  (e : (match mu with | true => alloc o | false => bnd (Mine.Internal.ofO x) fun ps => Mine.Internal.ret (.pv (h ps)) : Mm MV) O σ = some (z, σ')) (ro : ∀ st', Ext st st' -> st'.h = s'.heap -> RO g st' o D D) (fz : ∀ ps st', x = some ps -> Ext st st' -> st'.h = s'.heap -> st'.own D = none -> VP g st' (h ps) (.ref D))
  (k : Aft g O st z σ' Q) (hg : s'.gens = st.s.gens := by rfl) (ho : s'.os = st.s.os := by rfl) : Q (.ref D) s' := by
 have hN : ∀ a ∈ [D], st.h.get? a = none /\ ∃ o, s'.heap.get? a = some o := fun a h => List.mem_singleton.mp h ▸ ⟨hd, hl⟩
 have X : Step [] st (st.res s' [D]) := .res hk fun a h => (hN a h).1
 have hp : (st.res s' [D]).own D = some .priv := Z8t (.head _)
 have ex : ∀ {st'}, Ext (st.res s' [D]) st' -> Ext st st' := fun y => ⟨fun a o n e => have q := X.ext.fz a o n e; y.fz a o q.2 q.1, fun i p e => y.mu i p (X.mu i p e), y.mo.trans X.mo⟩
 refine hand (I.res hk hN hg ho) hp hd X e (fun st' y hs => ro st' (ex y) (congrArg Shared.heap hs)) (fun ps hx => fz ps _ hx (ex (.free hp)) rfl (Y1v (.head _))) fun st' hs _ I' X' r => ?_
 exact (show st'.s = s' from hs) ▸ k st' _ I' X' r
end
section
variable {O : Z0c} {st : St} {σ σ' : Hp} {A : Around} {n : Nat} {E : Value -> Shared -> Prop} {Q : Value -> Shared -> Prop} {x y z : MV} {u v : Value} {b : Bool}
theorem datE {c d : Bool} {α : Type} {a r : α} (e : (match c && d with | true => some a | false => none) = some r) {P : Prop} (k : c = true -> d = true -> a = r -> P) : P := by
 cases h : c && d with
 | false => rw [h] at e; exact Z0a e
 | true => rw [h] at e; have h := Bool.and_eq_true_iff.mp h; exact k h.1 h.2 (Option.some.inj e)
noncomputable def EqR (A : Around) (s : Shared) (u v : Value) (b : Bool) : Prop := RcAt A s u v b /\ RcNeAt A s u v (!b)
theorem eq_rd (rm : Room A n) {p q : PV} (hx : Z0p 60 p = true) (hy : Z0p 60 q = true) (rx : Rd st.h 60 p u) (ry : Rd st.h 60 q v) (e : pvEq p q = b) : EqR A st.s u v b := by
 obtain ⟨as, r1, c1, d1⟩ := rx
 obtain ⟨bs, r2, c2, d2⟩ := ry
 have hu : A.units + min (pd p).depth (pd q).depth < cLine := Nat.lt_of_le_of_lt (Nat.add_le_add_right (Nat.le_succ _) _) (rm.min d2)
 rw [<- (eqv_pd 60 60 p q hx hy).trans e]
 exact ⟨rcAt_reads r1 r2 c1 c2 hu, rcNeAt_reads r1 r2 c1 c2 hu⟩
theorem eq_pv (rm : Room A n) {p q : PV} (e : eqPV p q = some b) (rx : ∀ n, Z0p n p = true -> Rd st.h n p u) (ry : ∀ n, Z0p n q = true -> Rd st.h n q v) : EqR A st.s u v b :=
 datE e fun hx hy h => eq_rd rm hx hy (rx _ hx) (ry _ hy) h
theorem rd_lst {l : List PV} {vs : List Value} {a : Addr} (h : LX st.h a vs) (r : VPs g st l vs) (n : Nat) (hd : Z0p n (.lst l) = true) : Rd st.h n (.lst l) (.ref a) := by
 cases n with
 | zero => exact Z0y hd
 | succ n =>
  obtain ⟨as, r, c, d⟩ := vps_rd r n hd
  obtain ⟨k, e⟩ := h
  exact ⟨_, .list e rfl rfl r, c, Nat.succ_le_succ d⟩
theorem eqL_some {l r : List MV} (e : eqL l r = some b) : (l.length ≠ r.length /\ b = false) \/ ∃ p q, Z0z l = some p /\ Z0z r = some q /\ eqPV (.lst p) (.lst q) = some b := by
 replace e : (match Nat.beq l.length r.length with | false => some false | true => (match Z0z l, Z0z r with | some p, some q => eqPV (.lst p) (.lst q) | _, _ => none)) = some b := e
 cases h : Nat.beq l.length r.length with
 | false => rw [h] at e; cases e; exact .inl ⟨Nat.ne_of_beq_eq_false h, rfl⟩
 | true =>
  rw [h] at e
  replace e : (match Z0z l, Z0z r with | some p, some q => eqPV (.lst p) (.lst q) | _, _ => none) = some b := e
  cases hp : Z0z l with
  | none => rw [hp] at e; exact Z0a e
  | some p =>
   cases hq : Z0z r with
   | none => rw [hp, hq] at e; exact Z0a e
   | some q => rw [hp, hq] at e; exact .inr ⟨p, q, rfl, rfl, e⟩
theorem eq_ref (rm : Room A n) (I : Inv g O st σ) (rx : VM g st x u) (ry : VM g st y v) {p : Bool × Hp} (e : eqRef x y O σ = some p) : p.2 = σ /\ EqR A st.s u v p.1 := by
 refine oR I rx e fun o a d ro f => oR I ry f fun o' a' d' ro' f' => ?_
 cases o with
 | lst l => cases o' with
  | lst r =>
   obtain ⟨vs, x1, y1⟩ := ro
   obtain ⟨ws, x2, y2⟩ := ro'
   obtain ⟨h1, h2⟩ := Z8x (show ofO (eqL l r) O σ = some p from f')
   refine ⟨h2, ?_⟩
   rcases eqL_some h1 with ⟨hne, hb⟩ | ⟨p', q', hp, hq, h⟩
   ·have hsz : (vs.toArray.size != ws.toArray.size) = true := bne_iff_ne.mpr fun q => hne (y1.len.symm.trans (q.trans y2.len))
    rw [hb]
    exact ⟨RcAt.lists_lengths x1.is x2.is hsz rm.u1, RcNeAt.lists_lengths x1.is x2.is hsz rm.u1⟩
   ·exact eq_pv rm h (rd_lst x1 (Y0b y1 hp)) (rd_lst x2 (Y0b y2 hq))
  | _ => exact Z0a f'
 | _ => exact Z0a f'
theorem eq_at (rm : Room A n) (I : Inv g O st σ) (rx : VM g st x u) (ry : VM g st y v) {p : Bool × Hp} (e : eqM x y O σ = some p) : p.2 = σ /\ EqR A st.s u v p.1 := by
 cases x with
 | pv a => cases y with
  | pv b =>
   replace e : (match Z3w a && Z3w b with | true => eqRef (.pv a) (.pv b) | false => ofO (eqPV a b)) O σ = some p := e
   cases h : Z3w a && Z3w b with
   | true => rw [h] at e; exact eq_ref rm I rx ry e
   | false => rw [h] at e; exact have h := Z8x e; ⟨h.2, eq_pv rm h.1 (fun n => vp_rd rx.p n) (fun n => vp_rd ry.p n)⟩
  | _ => exact eq_ref rm I rx ry e
 | _ => exact eq_ref rm I rx ry e
theorem Z1a (k : Str) (t : Tok) : g.sk.is k (.str k t) = true := by simp [PySem.strKind, Value.isStrOf]
theorem at_cons {k' : Str} {v : Value} {kvs : List (Str × Value)} (k : Str) : valueAt ((k', v) :: kvs) k = if k' = k then some v else valueAt kvs k := by
 unfold valueAt
 by_cases q : k' = k
 ·rw [if_pos q, List.find?_cons_of_pos (by simpa using q)]; rfl
 ·rw [if_neg q, List.find?_cons_of_neg (by simpa using q)]
theorem Z2v {α : Type} {k' : Str} {v : α} {es : List (Str × α)} (k : Str) : look ((k', v) :: es) k = if k' = k then some v else look es k := by
 show (match Z0g k' k with | true => some v | false => look es k) = _
 by_cases q : k' = k
 ·rw [if_pos q, strEq_true.mpr q]
 ·rw [if_neg q, Z9h q]
theorem at_look {α : Type} {R : α -> Value -> Prop} {es : List (Str × α)} {kvs : List (Str × Value)} (k : Str) (r : A2 (ER R) es kvs) : (∃ v u, look es k = some v /\ valueAt kvs k = some u /\ R v u) \/ (look es k = none /\ valueAt kvs k = none) := by
 induction r with
 | nil => exact .inr ⟨rfl, rfl⟩
 | @cons e d es kvs h _ ih =>
  obtain ⟨k1, v⟩ := e
  obtain ⟨k2, w⟩ := d
  obtain ⟨⟨h1, -⟩, h3⟩ := h
  rw [Z2v, at_cons, show k2 = k1 from h1]
  by_cases q : k1 = k
  ·rw [if_pos q, if_pos q]; exact .inl ⟨_, _, rfl, rfl, h3⟩
  ·rw [if_neg q, if_neg q]; exact ih
theorem at_some {α : Type} {R : α -> Value -> Prop} {es : List (Str × α)} {kvs : List (Str × Value)} {k : Str} {z : α} (r : A2 (ER R) es kvs) (e : look es k = some z) : ∃ w, valueAt kvs k = some w /\ R z w := by
 rcases at_look k r with ⟨v, u, h1, h2, h3⟩ | ⟨h1, h2⟩
 ·cases e.symm.trans h1; exact ⟨u, h2, h3⟩
 ·exact Z0a (h1.symm.trans e)
theorem at_none {α : Type} {R : α -> Value -> Prop} {es : List (Str × α)} {kvs : List (Str × Value)} {k : Str} (r : A2 (ER R) es kvs) (e : look es k = none) : valueAt kvs k = none := by
 rcases at_look k r with ⟨v, u, h1, h2, h3⟩ | ⟨h1, h2⟩
 ·exact Z0a (e.symm.trans h1)
 ·exact h2
theorem at_isSome {α : Type} {R : α -> Value -> Prop} {es : List (Str × α)} {kvs : List (Str × Value)} (k : Str) (r : A2 (ER R) es kvs) : (valueAt kvs k).isSome = (look es k).isSome := by
 rcases at_look k r with ⟨v, u, h1, h2, -⟩ | ⟨h1, h2⟩ <;> rw [h1, h2] <;> rfl
noncomputable def InR (g : Gl) (A : Around) (s : Shared) (u v : Value) (b : Bool) : Prop := ∀ (E Q : Value -> Shared -> Prop), ((∀ k, Q (.bool b) { s with toks := k }) -> wpAny g.M A (compareOp .In u v) Q E s) /\ ((∀ k, Q (.bool (!b)) { s with toks := k }) -> wpAny g.M A (compareOp .NotIn u v) Q E s)
theorem in_mem (rm : Room A n) {p : PV} {l : List PV} (rx : VP g st p u) {vs : List Value} (r : VPs g st l vs) (e : Z5r p l = some b) {P : Prop}
  (k : ∀ as bs d, d.canLay0 = true -> PyData.canLayAll0 (pds l) = true -> A.units + 1 + min (PyData.depthAll (pds l)) d.depth < cLine -> Reads st.h u d as -> ReadsAll st.h vs (pds l) bs -> ((pds l).any fun y => PyData.eqv y d) = b -> P) : P :=
 datE e fun h1 h2 h3 => let ⟨as, r1, c1, d1⟩ := vp_rd rx 60 h1; let ⟨bs, r2, c2, d2⟩ := vps_rd r 60 h2; k as bs (pd p) c1 c2 (rm.min d1) r1 r2 ((any_pd h1 l h2).trans h3)
theorem in_lstS (rm : Room A n) {p : PV} {l : List PV} (rx : VP g st p u) {vs : List Value} {a : Addr} (h : LX st.h a vs) (r : VPs g st l vs) (e : Z5r p l = some b) : InR g A st.s u (.ref a) b :=
 in_mem rm rx r e fun as bs d c1 c2 hu r1 r2 q E Q => let ⟨m, ho⟩ := h; ⟨fun k => in_list_reads (.list ho rfl rfl r2) r1 c2 c1 hu (q ▸ k st.s.toks), fun k => notIn_list_reads (.list ho rfl rfl r2) r1 c2 c1 hu (q ▸ k st.s.toks)⟩
theorem in_tup (rm : Room A n) {p : PV} {l : List PV} (rx : VP g st p u) {vs : List Value} {a : Addr} (h : TX st.h a vs) (r : VPs g st l vs) (e : Z5r p l = some b) : InR g A st.s u (.ref a) b :=
 in_mem rm rx r e fun as bs d c1 c2 hu r1 r2 q E Q => let ⟨m, ho⟩ := h; ⟨fun k => in_tuple_reads (.tuple ho rfl rfl r2) r1 c2 c1 hu (q ▸ k st.s.toks), fun k => notIn_tuple_reads (.tuple ho rfl rfl r2) r1 c2 c1 hu (q ▸ k st.s.toks)⟩
theorem in_dct {c : Str} {es : List (Str × MV)} {kvs : List (Str × Value)} {a : Addr} {t : Tok} (z : (a == sysModules) = false) (h : st.h.DictOf g.sk a kvs) (r : VMes g st es kvs) (e : (look es c).isSome = b) : InR g A st.s (.str c t) (.ref a) b := by
 have e' := (at_isSome c r).trans e
 exact fun E Q => ⟨fun k => wpAny_in_of (Z1a c t) z h.mapOf (by rw [e']; exact k _), fun k => wpAny_notIn_of (Z1a c t) z h.mapOf (by rw [e']; exact k _)⟩
theorem in_obj (rm : Room A n) (I : Inv g O st σ) {q : PV} (rx : VP g st q u) (ry : VM g st y v) {p : Bool × Hp} (e : bnd (Z0n y) (fun o => ofO (inL q o)) O σ = some p) : p.2 = σ /\ InR g A st.s u v p.1 := by
 refine oR I ry e fun o a d ro f => ?_
 obtain ⟨h1, h2⟩ := Z8x f
 refine ⟨h2, ?_⟩
 cases o with
 | lst l =>
  obtain ⟨vs, x1, y1⟩ := ro
  replace h1 : (match Z0z l with | some ps => Z5r q ps | none => none) = some p.1 := h1
  cases hp : Z0z l with
  | none => rw [hp] at h1; exact Z0a h1
  | some ps => rw [hp] at h1; exact in_lstS rm rx x1 (Y0b y1 hp) h1
 | dct es => cases q with
  | str c => obtain ⟨kvs, z, x1, y1⟩ := ro; exact rx.strE fun t _ => in_dct z x1 y1 (Option.some.inj h1)
  | _ => exact Z0a h1
 | _ => exact Z0a h1
theorem in_at (rm : Room A n) (I : Inv g O st σ) (rx : VM g st x u) (ry : VM g st y v) {p : Bool × Hp} (e : inM x y O σ = some p) : p.2 = σ /\ InR g A st.s u v p.1 := by
 cases x with
 | pv q => cases y with
  | pv c => cases c with
   | tup l => exact ry.p.tupE fun a vs h r => have k := Z8x (show ofO (Z5r q l) O σ = some p from e); ⟨k.2, in_tup rm rx.p h.2 r k.1⟩
   | _ => exact in_obj rm I rx.p ry e
  | _ => exact in_obj rm I rx.p ry e
 | _ => exact Z0a e
theorem vm_none (r : VM g st y v) : (v == Value.none) = isNone y := by
 cases r with
 | pv p => cases p with
  | bi b => cases b <;> rfl
  | _ => rfl
 | _ => rfl
theorem Aft.bool {c : Bool} (I : Inv g O st σ) (k : Aft g O st (.pv (.bool c)) σ Q) (t : Nat) : Q (.bool c) { st.s with toks := t } := k.tok I (.pv (.bool c)) t
@[elab_as_elim] theorem eq_none (I : Inv g O st σ) (ry : VM g st y v) (e : gd (isNone y) (ret (bv b)) O σ = some (z, σ')) (k : Aft g O st z σ' Q) {P : Value -> Prop} (j : Q (.bool b) st.s -> P .none) : P v :=
 (beq_iff_eq.mp ((vm_none ry).trans (gd1 e))).symm ▸ j ((k.ret (gd2 e)).bool I st.s.toks)
@[elab_as_elim] theorem num_at (I : Inv g O st σ) (rx : VM g st x u) (ry : VM g st y v) {f : Int -> Int -> Bool} (e : int2 (fun i j => ret (bv (f i j))) x y O σ = some (z, σ')) (k : Aft g O st z σ' Q) {P : Value -> Value -> Prop} (h : ∀ i j t t', Q (.bool (f i j)) st.s -> P (.int i t) (.int j t')) : P u v :=
 int2E e fun i j ex ey e => have rx : VM g st (.pv (.int i)) u := ex ▸ rx; have ry : VM g st (.pv (.int j)) v := ey ▸ ry; rx.p.intE fun t => ry.p.intE fun t' => h i j t t' ((k.ret e).bool I st.s.toks)
theorem cmp_sound (rm : Room A n) (I : Inv g O st σ) {op : CmpOp} (rx : VM g st x u) (ry : VM g st y v) (e : cmpM op x y O σ = some (z, σ')) (k : Aft g O st z σ' Q) : wpAny g.M A (compareOp op u v) Q E st.s := by
 cases op with
 | Eq => exact bE e fun b s e1 e2 => have h := eq_at rm I rx ry e1; h.2.1 _ _ E Q ((k.ret ((show s = σ from h.1) ▸ e2)).bool I st.s.toks)
 | NotEq => exact bE e fun b s e1 e2 => have h := eq_at rm I rx ry e1; h.2.2 _ _ E Q ((k.ret ((show s = σ from h.1) ▸ e2)).bool I st.s.toks)
 | In => exact bE e fun b s e1 e2 => have h := in_at rm I rx ry e1; (h.2 E Q).1 ((k.ret ((show s = σ from h.1) ▸ e2)).bool I)
 | NotIn => exact bE e fun b s e1 e2 => have h := in_at rm I rx ry e1; (h.2 E Q).2 ((k.ret ((show s = σ from h.1) ▸ e2)).bool I)
 | Is => exact eq_none I ry e k fun h => is_none (by rw [vm_none rx]; exact h)
 | IsNot => exact eq_none I ry e k fun h => isNot_none (by rw [vm_none rx]; exact h)
 | Lt => exact Z0a e
 | LtE => exact num_at (f := fun i j => decide (i <= j)) I rx ry e k fun i j t t' h => PySem.P.le_int h
 | Gt => exact num_at (f := fun i j => decide (j < i)) I rx ry e k fun i j t t' h => PySem.P.gt_int h
 | GtE => exact num_at (f := fun i j => decide (j <= i)) I rx ry e k fun i j t t' h => PySem.P.ge_int h
end
noncomputable abbrev lstO (vs : List Value) : Obj := { cls := .type "list", data := .seq vs.toArray }
noncomputable abbrev tupO (vs : List Value) : Obj := { cls := .type "tuple", data := .seq vs.toArray }
theorem strOk_append {x y : Str} (hx : PyData.strOk x = true) (hy : PyData.strOk y = true) : PyData.strOk (x ++ y) = true := by
 unfold PyData.strOk at *
 rw [PySem.Str.cps_append, Array.all_append, hx, hy]; rfl
theorem Z5k {x : Int} (h : Z1d x = true) : -(2 ^ 64) < x /\ x < 2 ^ 64 := by
 have := of_decide_eq_true (show decide (x.natAbs < 18446744073709551616) = true from h)
 omega
theorem repeat_eq (vs : List Value) (k : Nat) : (List.foldl (fun x1 x2 => x1 ++ x2) #[] (List.replicate k vs.toArray)) = (List.flatten (List.replicate k vs)).toArray := by
 have h : ∀ (k : Nat) (acc : Array Value), List.foldl (fun x1 x2 => x1 ++ x2) acc (List.replicate k vs.toArray) = acc ++ (List.flatten (List.replicate k vs)).toArray := by
  intro k
  induction k with
  | zero => intro acc; exact Array.append_empty.symm
  | succ k ih => intro acc; rw [List.replicate_succ, List.foldl_cons, ih, List.replicate_succ, List.flatten_cons, <- List.append_toArray, Array.append_assoc]
 rw [h, Array.empty_append]
section
variable {O : Z0c} {st : St} {σ σ' : Hp} {A : Around} {n : Nat} {E : Value -> Shared -> Prop} {Q : Value -> Shared -> Prop} {x y z : MV} {u v : Value} {mu : Bool} {l : List MV} {vs : List Value} {r : MV × Hp}
@[elab_as_elim] theorem int_at (rx : VM g st x u) (ry : VM g st y v) {α : Type} {f : Int -> Int -> Mm α} {r : α × Hp} (e : int2 f x y O σ = some r) {P : Value -> Value -> Prop} (h : ∀ i j t t', f i j O σ = some r -> P (.int i t) (.int j t')) : P u v :=
 int2E e fun i j ex ey e => have rx : VM g st (.pv (.int i)) u := ex ▸ rx; have ry : VM g st (.pv (.int j)) v := ey ▸ ry; rx.p.intE fun t => ry.p.intE fun t' => h i j t t' e
theorem mkL_len (e : Z1w mu l O σ = some r) (h : VMs g st l vs) : vs.length <= 1000000 := h.len ▸ Z1s (gd1 e)
theorem list_put {D : Addr} {s' : Shared} (I : Inv g O st σ) (r : VMs g st l vs) (e : Z1w mu l O σ = some (z, σ')) (hd : st.h.get? D = none) (hk : ∀ a, Kp st.h s'.heap a) (hx : LX s'.heap D vs) (k : Aft g O st z σ' Q) (hg : s'.gens = st.s.gens := by rfl) (ho : s'.os = st.s.os := by rfl) : Q (.ref D) s' :=
 made I hd hk hx.live (gd2 e) (fun st' x hs => ⟨vs, hs.symm ▸ hx, VMs.ext x r⟩) (fun ps st' hp x hs hn => .lstI ⟨hn, hs.symm ▸ hx⟩ (Y0b (VMs.ext x r) hp)) k hg ho
theorem Z9s (I : Inv g O st σ) (r : VMs g st l vs) (e : Z1w mu l O σ = some (z, σ')) (k : Aft g O st z σ' Q) (t : Nat) : Q (.ref st.h.objs.size) { st.s with heap := st.h.push (lstO vs), toks := t } :=
 list_put I r e (Z0h _) (Z1v _ _) ⟨0, Z4b rfl⟩ k
theorem dict_put {D : Addr} {s' : Shared} {es : List (Str × MV)} {kvs : List (Str × Value)} (I : Inv g O st σ) (r : VMes g st es kvs) (e : Z7r mu es O σ = some (z, σ')) (hd : st.h.get? D = none) (hk : ∀ a, Kp st.h s'.heap a) (hz : (D == sysModules) = false) (hx : s'.heap.DictOf g.sk D kvs) (k : Aft g O st z σ' Q) (hg : s'.gens = st.s.gens := by rfl) (ho : s'.os = st.s.os := by rfl) : Q (.ref D) s' :=
 made I hd hk (Z2w hx) (gd2 e) (fun st' x hs => ⟨kvs, hz, hs.symm ▸ hx, VMes.ext x r⟩) (fun ps st' hp x hs hn => .dctI ⟨hn, hz, hs.symm ▸ hx⟩ (ves_of (VMes.ext x r) hp)) k hg ho
theorem vm_tup {a : Addr} (h : FT st a vs) (r : VMs g st l vs) : VM g st (Y1e l) (.ref a) := by
 unfold Y1e
 cases hp : Z0z l with
 | none => exact .tupI h r
 | some ps => exact .pv (.tupI h (Y0b r hp))
theorem tup_put {D : Addr} {s' : Shared} (I : Inv g O st σ) (r : VMs g st l vs) (hd : st.h.get? D = none) (hk : ∀ a, Kp st.h s'.heap a) (hx : TX s'.heap D vs) (k : Aft g O st (Y1e l) σ Q) (hg : s'.gens = st.s.gens := by rfl) (ho : s'.os = st.s.os := by rfl) : Q (.ref D) s' :=
 k.new I hk (vm_tup ⟨I.fresh hd, hx⟩ (r.go (.grow hk))) hg ho
theorem tup_new (I : Inv g O st σ) (r : VMs g st l vs) (k : Aft g O st (Y1e l) σ Q) (t : Nat) : Q (.ref st.h.objs.size) { st.s with heap := st.h.push (tupO vs), toks := t } :=
 tup_put I r (Z0h _) (Z1v _ _) ⟨0, Z4b rfl⟩ k
theorem intKE {α : Type} {q : PV} {f : Int -> Mm α} {r : α × Hp} (e : intK q f O σ = some r) {P : Prop} (k : ∀ j, q = .int j -> f j O σ = some r -> P) : P := by
 cases q with
 | int j => exact k j rfl e
 | _ => exact Z0a e
theorem strKE {α : Type} {q : PV} {f : Str -> Mm α} {r : α × Hp} (e : strK q f O σ = some r) {P : Prop} (k : ∀ j, q = .str j -> f j O σ = some r -> P) : P := by
 cases q with
 | str j => exact k j rfl e
 | _ => exact Z0a e
theorem tupKE {α : Type} {q : PV} {f : List PV -> Mm α} {r : α × Hp} (e : tupK q f O σ = some r) {P : Prop} (k : ∀ j, q = .tup j -> f j O σ = some r -> P) : P := by
 cases q with
 | tup j => exact k j rfl e
 | _ => exact Z0a e
theorem addL_some {a b : MO} {l : List MV} (e : addL a b = some l) : ∃ p q, a = .lst p /\ b = .lst q /\ l = p ++ q := by
 cases a with
 | lst p => cases b with
  | lst q => cases e; exact ⟨p, q, rfl, rfl, rfl⟩
  | _ => exact Z0a e
 | _ => exact Z0a e
theorem add_ref (I : Inv g O st σ) (rx : VM g st x u) (ry : VM g st y v) (e : addRef mu x y O σ = some (z, σ')) (k : Aft g O st z σ' Q) : wpAny g.M A (binaryOp .Add u v) Q E st.s := by
 refine oR I rx e fun o a d ro f => oR I ry f fun o' a' d' ro' f' => oE f' fun l h f => ?_
 obtain ⟨p, q, rfl, rfl, rfl⟩ := addL_some h
 obtain ⟨vs, ⟨n1, h1⟩, y1⟩ := ro
 obtain ⟨ws, ⟨n2, h2⟩, y2⟩ := ro'
 have r := y1.app y2
 refine PySem.P.add_list h1 h2 ?_ (List.length_append ▸ Z3v (mkL_len f r))
 rw [List.append_toArray]; exact Z9s I r f k st.s.toks
theorem add_tup (I : Inv g O st σ) {i j : List PV} {vs ws : List Value} {a b : Addr} (ha : FT st a vs) (hb : FT st b ws) (r1 : VPs g st i vs) (r2 : VPs g st j ws) (hl : i.length + j.length <= lim) (k : Aft g O st (.pv (.tup (i ++ j))) σ Q) : wpAny g.M A (binaryOp .Add (.ref a) (.ref b)) Q E st.s := by
 obtain ⟨n1, ho⟩ := id ha.2
 obtain ⟨n2, ho2⟩ := id hb.2
 cases r1 with
 | nil => exact concat_meets ⟨_, ho, rfl⟩ ⟨_, ho2, rfl⟩ noFill_tuple_add seq_tuple_add PySem.F.slot_tuple_add PySem.F.entry_tuple_add (PySem.F.args_tuple_add_2 _ _) (tuple_addW0 a b _ ws.toArray n1 n2 none none #[] #[] rfl) ⟨ho, ho2, k.here I (.pv (.tupI hb r2))⟩
 | cons p1 q1 =>
  cases r2 with
  | nil =>
   rw [List.append_nil] at k
   exact concat_meets ⟨_, ho, rfl⟩ ⟨_, ho2, rfl⟩ noFill_tuple_add seq_tuple_add PySem.F.slot_tuple_add PySem.F.entry_tuple_add (PySem.F.args_tuple_add_2 _ _) (tuple_addW1 a b _ _ n1 n2 none none #[] #[] (by simp) rfl) ⟨ho, ho2, k.here I (.pv (.tupI ha (.cons p1 q1)))⟩
  | cons p2 q2 =>
   have r := (A2.cons p1 q1).app (A2.cons p2 q2)
   have em : ∀ l : List PV, Y1e (pvs l) = .pv (.tup l) := fun l => by unfold Y1e; rw [asPVs_pvs]
   refine concat_meets ⟨_, ho, rfl⟩ ⟨_, ho2, rfl⟩ noFill_tuple_add seq_tuple_add PySem.F.slot_tuple_add PySem.F.entry_tuple_add (PySem.F.args_tuple_add_2 _ _) (tuple_addW2 a b _ _ n1 n2 none none #[] #[] (by simp) (by simp) (Z3v (Nat.le_trans (Nat.le_of_eq ((List.length_append ▸ r.len : _ = _).trans List.length_append)) hl))) ⟨ho, ho2, ?_⟩
   rw [List.append_toArray]
   exact tup_new I (Z3g r) (em _ ▸ k) st.s.toks
theorem add_sound (I : Inv g O st σ) (rx : VM g st x u) (ry : VM g st y v) (e : addM mu x y O σ = some (z, σ')) (k : Aft g O st z σ' Q) : wpAny g.M A (binaryOp .Add u v) Q E st.s := by
 cases x with
 | pv p => cases y with
  | pv q =>
   replace e : addP mu p q O σ = some (z, σ') := e
   cases p with
   | int i => exact intKE e fun j h e => have ry : VM g st (.pv (.int j)) v := h ▸ ry; rx.p.intE fun t => ry.p.intE fun t' => PySem.P.add_int ((k.ret e).tok I (.pv (.int _ _)) _)
   | str i => exact strKE e fun j h e => have ry : VM g st (.pv (.str j)) v := h ▸ ry; rx.p.strE fun t h1 => ry.p.strE fun t' h2 => PyProof.Rows.add_str (fun t' tk => (k.ret (gd2 e)).tok I (.pv (.str _ _ (strOk_append h1 h2))) tk) (Z3v (Nat.le_of_ble_eq_true (gd1 e)))
   | tup i => exact tupKE e fun j h e => have ry : VM g st (.pv (.tup j)) v := h ▸ ry; rx.p.tupE fun a vs ha r1 => ry.p.tupE fun b ws hb r2 => add_tup I ha hb r1 r2 (Nat.le_of_ble_eq_true (gd1 e)) (k.ret (gd2 e))
   | _ => exact add_ref I rx ry e k
  | _ => exact add_ref I rx ry e k
 | _ => exact add_ref I rx ry e k
theorem vps_repeat {l : List PV} (r : VPs g st l vs) : ∀ k : Nat, VMs g st (pvs (Z8f k l)) (List.flatten (List.replicate k vs))
 | 0 => .nil
 | k + 1 => by
  rw [List.replicate_succ, List.flatten_cons, show pvs (Z8f (k + 1) l) = pvs l ++ pvs (Z8f k l) from List.map_append]
  exact (Z3g r).app (vps_repeat r k)
theorem mul_list (I : Inv g O st σ) {l : List PV} {j : Int} {a : Addr} {t : Tok} (h : LX st.h a vs) (r : VPs g st l vs) (h1 : j < 1000) (h2 : -1000 < j) (h3 : l.length <= 1000) (e : Z1w mu (pvs (Z8f j.toNat l)) O σ = some (z, σ')) (k : Aft g O st z σ' Q) : wpAny g.M A (binaryOp .Mult (.ref a) (.int j t)) Q E st.s := by
 obtain ⟨n1, hl⟩ := h
 have hlen : vs.toArray.size <= 1000 := Nat.le_trans (Nat.le_of_eq r.len) h3
 have hj : j.toNat <= 1000 := by omega
 have hprod : vs.toArray.size * j.toNat <= 1000000 := Nat.mul_le_mul hlen hj
 have he : List.foldl (fun x1 x2 => x1 ++ x2) #[] (List.replicate (if vs.toArray.isEmpty = true then 0 else j.toNat) vs.toArray) = (List.flatten (List.replicate j.toNat vs)).toArray := by
  cases vs with
  | nil => rw [<- repeat_eq]; generalize j.toNat = k; induction k with
   | zero => rfl
   | succ k ih => rw [List.replicate_succ]; exact ih
  | cons v vs => exact repeat_eq _ _
 refine wpAny_binaryOp_repeat_ref (T := "list") (U := "int") (by decide) ⟨_, hl, rfl⟩ (fun s' => typeIs_int s' j t) noFill_list_mul PySem.F.fills_int_mul PySem.F.slot_int_rmul repeat_list PySem.F.slot_int_index.lookup
  (call_meets PySem.F.slot_int_rmul (typeIs_int st.s j t) PySem.F.entry_int_rmul (PySem.F.args_int_rmul_2 _ _) (int___rmul___int_list j t a vs.toArray n1)
   ⟨hl, rfl, ⟨_, hl, rfl⟩, call_meets PySem.F.slot_list_mul ⟨_, hl, rfl⟩ PySem.F.entry_list_mul (PySem.F.args_list_mul_2 _ _)
    (AutoListH.list___mul___list_int_3 a vs.toArray n1 j t (by simp [Builtin.List.listFitsIndex]; omega) (by omega) (by simp [Builtin.List.listTooLong, sizeLine] at hprod ⊢; omega)) ⟨hl, ?_⟩⟩)
 rw [he]
 exact Z9s I (vps_repeat r j.toNat) e k st.s.toks
theorem mul_sound (I : Inv g O st σ) (rx : VM g st x u) (ry : VM g st y v) (e : mulM mu x y O σ = some (z, σ')) (k : Aft g O st z σ' Q) : wpAny g.M A (binaryOp .Mult u v) Q E st.s := by
 cases x with
 | pv p => cases y with
  | pv q =>
   refine intKE (show intK q (mulP mu p) O σ = some (z, σ') from e) fun j h e => ?_
   rw [h] at ry
   cases p with
   | int i => exact gd3 e fun h1 h2 e => rx.p.intE fun t => ry.p.intE fun t' => PySem.P.mul_int ((k.ret e).tok I (.pv (.int _ _)) _) (IntMulOk.of_left (intBits_le_64 (Z5k h1).1 (Z5k h1).2))
   | lst l => exact gd3 e fun h h3 e => rx.p.lstE fun a vs h' r => ry.p.intE fun t => mul_list I h'.2 r (of_decide_eq_true (Bool.and_eq_true_iff.mp h).1) (of_decide_eq_true (Bool.and_eq_true_iff.mp h).2) (Nat.le_of_ble_eq_true h3) e k
   | _ => exact Z0a e
  | _ => exact Z0a e
 | _ => exact Z0a e
theorem bin_sound (I : Inv g O st σ) {op : Operator} (rx : VM g st x u) (ry : VM g st y v) (e : binM mu op x y O σ = some (z, σ')) (k : Aft g O st z σ' Q) : wpAny g.M A (binaryOp op u v) Q E st.s := by
 cases op with
 | Add => exact add_sound I rx ry e k
 | Mult => exact mul_sound I rx ry e k
 | Sub => exact int_at rx ry e fun i j t t' e => PySem.P.sub_int ((k.ret e).tok I (.pv (.int _ _)) _)
 | FloorDiv => exact int_at rx ry e fun i j t t' e => gd3 e fun h1 h2 e => have h1 := of_decide_eq_true h1; have h2 := of_decide_eq_true h2; floordiv_int (Int.ne_of_gt h1) ((k.ret e).tok I (.pv (.int _ _)) _) (.inl (PyProof.noPylong_small (by omega)))
 | Mod => exact int_at rx ry e fun i j t t' e => mod_int' (Int.ne_of_gt (of_decide_eq_true (gd1 e))) ((k.ret (gd2 e)).tok I (.pv (.int _ _)) _)
 | Pow =>
  refine int_at rx ry e fun i j t t' e => gd3 e fun h1 h2 e => ?_
  obtain rfl := of_decide_eq_true h1
  obtain rfl := of_decide_eq_true h2
  refine pow_int (by decide) (by decide +kernel) ?_
  have : (10 : Int) ^ (18 : Int).toNat = 1000000000000000000 := by decide +kernel
  rw [this]
  exact (k.ret e).tok I (.pv (.int _ _)) _
 | _ => exact Z0a e
end
theorem Z2h (slice : PySem.Expr) (o i : Value) : ∃ ops, subscripted slice false o i = operate ops (getItem o i) := by
 cases slice with
 | Slice l u s p => cases s <;> exact ⟨_, rfl⟩
 | _ => exact ⟨_, rfl⟩
theorem setItem_list {prog : Program} {w : World} {A : Around} {E : Value -> Shared -> Prop} {s : Shared} {l : Addr} {vs : List Value} {k : Int} {t : Tok} {v : Value} {Q : Unit -> Shared -> Prop} (hl : LX s.heap l vs)
  (h0 : 0 <= k) (hn : k.toNat < vs.length) (hfit : k < 2 ^ 63) (hQ : ∀ h', LX h' l (vs.set k.toNat v) -> Heap.SameBut l s.heap h' -> Q () { s with heap := h' }) :
  wpAny (model prog w) A (setItem (.ref l) (.int k t) v) Q E s := by
 obtain ⟨ne, ho⟩ := hl
 have hl : s.heap.IsList l vs.toArray := ⟨_, ho, rfl, ne, rfl⟩
 unfold setItem
 refine wpAny_holding ?_
 refine wpAny_bind (wpAny_sequenceKey hl.typeIs (by decide) ?_)
 refine wpAny_bind (wpAny_callSpecial?_slot (name := Str.ofString "__setitem__") hl.typeIs slot_list_setitem
  (wpAny_call_entry slot_list_setitem hl.typeIs entry_list_setitem ?_ (args_list_setitem _ _ _)))
 show wpAny _ _ (Builtin.List.listSubscript? (.int k t) >>= _) _ _ s
 refine wpAny_bind (wpAny_listSubscript_int (fitsIndex_of h0 hfit) ?_)
 clear hfit
 obtain ⟨j, rfl⟩ := Int.eq_ofNat_of_zero_le h0
 have hj : j < vs.toArray.size := by simpa using hn
 have hx' : vs.toArray[j]? = some vs.toArray[j] := Array.getElem?_eq_getElem hj
 show wpAny _ _ ((seqItemAt l j >>= fun r => pure (r.map (j, ·))) >>= _) _ _ s
 refine wpAny_bind (wpAny_bind (wpAny_seqItemAt ho rfl (wpAny_pure ?_)))
 rw [hx']
 show wpAny _ _ (setSeqItemAt l j v >>= _) _ _ s
 have hfin : LX (s.heap.update l (Obj.mapSeq (·.setIfInBounds j v))) l (vs.set j v) := by
  refine ⟨ne, (Heap.get?_update_self _ ho rfl).trans ?_⟩
  simp [Obj.mapSeq]
 refine wpAny_bind (wpAny_setSeqItemAt ho rfl ?_)
 first
  | exact wpAny_bind (wpAny_pure (wpAny_pure ⟨.none, rfl, wpAny_pure (hQ _ hfin (Heap.SameBut.update ..))⟩))
  | exact wpAny_pure ⟨.none, rfl, wpAny_pure (hQ _ hfin (Heap.SameBut.update ..))⟩
theorem pick_rev (vs : List Value) : slicePick vs.toArray none none (some (-1)) = vs.reverse.toArray := by rw [krv_pick]
theorem pick_upto (vs : List Value) (j : Nat) : slicePick vs.toArray none (some (j : Int)) none = (vs.take j).toArray := slicePick_upto' _ _
theorem pick_rev1 (vs : List Value) : slicePick vs.toArray none (some 0) (some (-1)) = (vs.drop 1).reverse.toArray := by
 cases vs with
 | nil => rfl
 | cons x r =>
  have e : sliceBounds none (some 0) (some (-1)) (x :: r).toArray.size = (((r.length : Nat) : Int), 0, -1) := by
   simp only [sliceBounds, Option.getD_some, List.size_toArray, List.length_cons]
   have h1 : ¬ ((-1 : Int) > 0) := by decide
   have h2 : ¬ ((0 : Int) < 0) := by decide
   simp only [h1, h2, if_false]
   congr 1
   ·omega
   ·congr 1
    omega
  unfold slicePick
  rw [e]
  have e2 : sliceRange ((r.length : Nat) : Int) 0 (-1) = (List.range r.length).map fun k => r.length - k := by
   unfold sliceRange
   have h1 : ¬ ((-1 : Int) > 0) := by decide
   simp only [h1, if_false]
   have hc : (if ((r.length : Nat) : Int) > 0 then (((r.length : Nat) : Int) - 0 - -1 - 1) / (- -1) else 0).toNat = r.length := by
    split
    ·rename_i h; simp
    ·rename_i h; omega
   rw [hc]
   apply List.map_congr_left
   intro k hk
   have := List.mem_range.mp hk
   omega
  rw [e2]
  congr 1
  rw [List.filterMap_map]
  have : ∀ n, n <= r.length -> (List.range n).filterMap ((fun x_1 => (x :: r).toArray[x_1]?) ∘ fun k => r.length - k) = ((r.drop (r.length - n))).reverse := by
   intro n
   induction n with
   | zero => intro _; simp
   | succ n ih =>
    intro hn
    rw [List.range_succ, List.filterMap_append, ih (by omega)]
    have hlt : r.length - (n + 1) < r.length := by omega
    have e3 : r.length - n = (r.length - (n + 1)) + 1 := by omega
    simp only [List.filterMap_cons, List.filterMap_nil, Function.comp_apply, List.getElem?_toArray]
    rw [e3, List.getElem?_cons_succ, List.getElem?_eq_getElem hlt]
    rw [<- List.getElem_cons_drop hlt, List.reverse_cons]
  have := this r.length (Nat.le_refl _)
  simpa using this
theorem idxOf_some {k : Int} {m j : Nat} (e : idxOf k m = some j) (hj : j < m) : seqIndex? k m = some j /\ ((0 <= k /\ k.toNat = j) \/ (k < 0 /\ -(m : Int) <= k /\ (k + m).toNat = j)) := by
 replace e : (match decide (0 <= k) with | true => some k.toNat | false => (match decide (0 <= k + m) with | true => some (k + m).toNat | false => none)) = some j := e
 cases h : decide (0 <= k) with
 | true =>
  rw [h] at e; cases e
  have h := of_decide_eq_true h
  refine ⟨?_, .inl ⟨h, rfl⟩⟩
  unfold seqIndex?
  rw [if_neg (Int.not_lt.mpr h)]
  exact if_pos (Bool.and_eq_true_iff.mpr ⟨decide_eq_true h, decide_eq_true (by omega)⟩)
 | false =>
  rw [h] at e
  have h := Int.not_le.mp (of_decide_eq_false h)
  replace e : (match decide (0 <= k + m) with | true => some (k + m).toNat | false => none) = some j := e
  cases h2 : decide (0 <= k + m) with
  | false => rw [h2] at e; exact Z0a e
  | true =>
   rw [h2] at e; cases e
   have h2 := of_decide_eq_true h2
   exact ⟨PySem.seqIndex_neg h (by omega), .inr ⟨h, by omega, rfl⟩⟩
theorem adjust_upto (b n : Nat) : Builtin.Slice.sliceAdjust none (some (b : Int)) 1 (n : Int) = (0, ((min b n : Nat) : Int)) := by
 unfold Builtin.Slice.sliceAdjust
 have h1 : ¬ ((1 : Int) < 0) := by decide
 have h2 : ¬ ((b : Int) < 0) := by omega
 simp only [h1, h2, if_false]
 congr 1
 omega
theorem places_upto (n : Nat) : Builtin.Slice.slicePlaces 0 (n : Int) 1 = n := by
 unfold Builtin.Slice.slicePlaces
 have h1 : (1 : Int) > 0 := by decide
 simp only [h1, if_true, Int.ediv_one]
 split <;> omega
theorem pick_first (vs : List Value) : ∀ m, m <= vs.length -> (List.range m).filterMap (fun k : Nat => vs.toArray[((0 : Int) + (k : Int) * 1).toNat]?) = vs.take m
 | 0, _ => rfl
 | m + 1, h => by
  have e : ((0 : Int) + (m : Int) * 1).toNat = m := by omega
  rw [List.range_succ, List.filterMap_append, pick_first vs m (by omega), List.filterMap_cons, e, List.getElem?_toArray, List.getElem?_eq_getElem h, List.take_succ_eq_append_getElem h]
  rfl
theorem getItem_upto {prog : Program} {w : World} {A : Around} {E : Value -> Shared -> Prop} {s : Shared} {t sl : Addr} {vs : List Value} {b : Nat} {u : Tok} {Q : Value -> Shared -> Prop} (ht : TX s.heap t vs) (hs : s.heap.IsSliceOf sl .none (.int b u) .none) (hsz : vs.length <= sizeLine)
  (h1 : vs.take b = vs -> Q (.ref t) s) (h2 : Q (.ref s.heap.objs.size) { s with heap := s.heap.push { cls := .type "tuple", data := .seq (vs.take b).toArray } }) : wpAny (model prog w) A (getItem (.ref t) (.ref sl)) Q E s := by
 have ht := ht.is
 obtain ⟨os, hos, hcs, hds⟩ := id hs
 have hTs : s.TypeIs (.ref sl) "slice" := ⟨os, hos, hcs⟩
 unfold getItem
 try with_reducible refine wpAny_holding ?_
 first | refine wpAny_bind (wpAny_pure ?_) | skip
 refine wpAny_bind (wpAny_sequenceKey ht.typeIs (by decide) ?_)
 refine wpAny_bind (wpAny_callSpecial?_slot (name := Str.ofString "__getitem__") ht.typeIs slot_tuple_getitem
  (wpAny_call_entry slot_tuple_getitem ht.typeIs entry_tuple_getitem ?_ (args_tuple_getitem _ _)))
 show wpAny _ _ (Builtin.Tuple.tupleItemsOf (.ref t) >>= _) _ _ s
 refine wpAny_bind (tupleItemsOf_ ht ?_)
 refine wpAny_bind (wpAny_typeOf hTs ?_)
 rw [if_pos (by decide)]
 refine wpAny_bind ?_
 unfold Builtin.Slice.sliceApplied Builtin.Slice.sliceFields
 refine wpAny_bind (wpAny_bind (wpAny_field hos hds (x := .none) rfl (wpAny_bind (wpAny_field hos hds (x := .int b u) rfl (wpAny_bind (wpAny_field hos hds (x := .none) rfl (wpAny_pure ?_)))))))
 refine wpAny_bind (slicePart_none ?_)
 show wpAny _ _ (if ((1 : Int) == 0) = true then _ else _) _ _ s
 rw [if_neg (by decide)]
 refine wpAny_bind (slicePart_none (wpAny_bind (slicePart_int (wpAny_bind (wpAny_pure ?_)))))
 show wpAny _ _ (match Builtin.Slice.sliceAdjust none (some (b : Int)) 1 (vs.toArray.size : Int) with | (lo, hi) => pure (lo, (1 : Int), Builtin.Slice.slicePlaces lo hi 1)) _ _ s
 rw [adjust_upto b vs.toArray.size]
 show wpAny _ _ (pure ((0 : Int), (1 : Int), Builtin.Slice.slicePlaces 0 ((min b vs.toArray.size : Nat) : Int) 1)) _ _ s
 rw [places_upto]
 refine wpAny_pure ?_
 have hp := pick_first vs (min b vs.toArray.size) (by rw [List.size_toArray]; exact Nat.min_le_right _ _)
 have ht' : vs.take (min b vs.toArray.size) = vs.take b := by rw [List.size_toArray, <- List.take_eq_take_min]
 show wpAny _ _ (if ((0 : Int) == 0 && (1 : Int) == 1 && (min b vs.toArray.size) == vs.toArray.size) = true then _ else _) _ _ s
 by_cases q : ((0 : Int) == 0 && (1 : Int) == 1 && (min b vs.toArray.size) == vs.toArray.size) = true
 ·rw [if_pos q]
  have hq : min b vs.toArray.size = vs.toArray.size := by simpa using q
  have hv := h1 (by rw [<- ht', hq, List.size_toArray, List.take_length])
  unfold Builtin.Tuple.tupleIsExact
  refine wpAny_bind (wpAny_bind (wpAny_typeOf ht.typeIs (wpAny_pure ?_)))
  first
   | exact wpAny_pure ⟨_, rfl, wpAny_pure hv⟩
   | exact wpAny_bind (wpAny_rule (wpAny_bind (wpAny_pure (wpAny_pure ⟨_, rfl, wpAny_pure hv⟩))))
   | exact wpAny_bind (wpAny_rule (wpAny_pure ⟨_, rfl, wpAny_pure hv⟩))
 ·rw [if_neg q, hp, ht']
  have hd : sizeOk (.seq (vs.take b).toArray) := by
   show (vs.take b).toArray.size <= sizeLine
   rw [List.size_toArray]
   exact Nat.le_trans (List.length_take_le' _ _) hsz
  first
   | exact wpAny_bind (m := Builtin.Tuple.tupleExact _) (wpAny_newObj_type (wpAny_pure ⟨_, rfl, wpAny_pure h2⟩) hd)
   | exact wpAny_bind (m := Builtin.Tuple.tupleExact _) (wpAny_newObj_type (wpAny_bind (wpAny_pure (wpAny_pure ⟨_, rfl, wpAny_pure h2⟩))) hd)
   | exact wpAny_bind (wpAny_bind (m := Builtin.Tuple.tupleExact _) (wpAny_newObj_type (wpAny_pure (wpAny_pure ⟨_, rfl, wpAny_pure h2⟩)) hd))
   | exact wpAny_bind (wpAny_bind (m := Builtin.Tuple.tupleExact _) (wpAny_newObj_type (wpAny_pure ⟨_, rfl, wpAny_pure h2⟩) hd))
inductive PartIs : Option MV -> Option Int -> Prop
 | none : PartIs none none
 | int (i : Int) : PartIs (some (.pv (.int i))) (some i)
theorem cutL_some {u st : Option MV} {l r : List MV} (e : cutL u st l = some r) {P : Prop} (k : ∀ hi step, PartIs u hi -> PartIs st step -> step ≠ some 0 -> (∀ {R : MV -> Value -> Prop} {vs : List Value}, A2 R l vs -> ∃ ws, slicePick vs.toArray none hi step = ws.toArray /\ A2 R r ws) -> P) : P := by
 have ck : ∀ {c : Bool} {a : List MV}, (match c with | true => some a | false => none) = some r -> c = true /\ a = r := fun {c a} h => by cases c with
  | true => exact ⟨rfl, Option.some.inj h⟩
  | false => exact Z0a h
 cases u with
 | none => cases st with
  | none => exact Z0a e
  | some w => cases w with
   | pv p => cases p with
    | int i =>
     obtain ⟨h, rfl⟩ := ck (show (match decide (i = -1) with | true => some l.reverse | false => none) = some r from e)
     obtain rfl := of_decide_eq_true h
     exact k _ _ .none (.int _) (by decide) fun rv => ⟨_, pick_rev _, rv.rev⟩
    | _ => exact Z0a e
   | _ => exact Z0a e
 | some w => cases w with
  | pv p => cases p with
   | int j => cases st with
    | none =>
     obtain ⟨h, rfl⟩ := ck (show (match decide (0 <= j) with | true => some (l.take j.toNat) | false => none) = some r from e)
     obtain ⟨m, rfl⟩ := Int.eq_ofNat_of_zero_le (of_decide_eq_true h)
     exact k _ _ (.int _) .none nofun fun rv => ⟨_, pick_upto _ m, rv.take m⟩
    | some w => cases w with
     | pv p => cases p with
      | int i =>
       obtain ⟨h, rfl⟩ := ck (show (match decide (j = 0) && decide (i = -1) with | true => some (l.drop 1).reverse | false => none) = some r from e)
       have h := Bool.and_eq_true_iff.mp h
       obtain rfl := of_decide_eq_true h.1
       obtain rfl := of_decide_eq_true h.2
       exact k _ _ (.int _) (.int _) (by decide) fun rv => ⟨_, pick_rev1 _, (rv.drop 1).rev⟩
      | _ => exact Z0a e
     | _ => exact Z0a e
   | _ => exact Z0a e
  | _ => exact Z0a e
section
variable {O : Z0c} {st : St} {σ σ' : Hp} {A : Around} {n : Nat} {E : Value -> Shared -> Prop} {Q : Value -> Shared -> Prop} {x y z : MV} {u v : Value} {mu : Bool} {l : List MV} {vs : List Value} {value slice : PySem.Expr}
theorem sub_int (I : Inv g O st σ) (rx : VM g st x u) {i : Int} {t : Tok} (e : (bnd (seqM x) fun l => bnd (ofO (idxOf i l.length)) fun j => gd (small l) (ofO l[j]?)) O σ = some (z, σ')) (k : Aft g O st z σ' Q) : wpAny g.M A (subscriptTail value slice u (.int i t)) Q E st.s := by
 refine sR I rx e fun l a vs rv hq f => oE f fun j hj f => k.ofO (gd2 f) fun w hz k => ?_
 have hsm := Z1s (gd1 f)
 have hlen := rv.len
 have hjl : j < l.length := (List.getElem?_eq_some_iff.mp hz).1
 obtain ⟨hi, hb2⟩ := idxOf_some hj hjl
 obtain ⟨uu, hu, ru⟩ := rv.at hz
 have hu : vs.toArray[j]? = some uu := (List.getElem?_toArray ..).trans hu
 have hl : vs.toArray.size = l.length := hlen
 obtain ⟨ops, hops⟩ := Z2h slice (.ref a) (.int i t)
 have q := k.here I ru
 clear k
 rcases hq with ⟨_, hx⟩ | ⟨_, hx⟩
 ·exact tail_any hx.2.is.typeIs slot_tuple_getitem.lookup (PyProof.Rows.getItem_tuple hx.2.is (by omega) (by omega) (hl ▸ hi) hu q) hops
 ·rcases hb2 with ⟨h0, h1⟩ | ⟨h0, h1, h2⟩
  ·exact tail_any hx.is.typeIs slot_list_getitem.lookup (wpAny_getItem_list hx.is h0 (by omega) (h1 ▸ hu) q) hops
  ·exact tail_any hx.is.typeIs slot_list_getitem.lookup (wpAny_getItem_list_neg hx.is h0 (hl ▸ h1) (by omega) (by rw [hl, h2]; exact hu) q) hops
theorem sub_str (I : Inv g O st σ) (rx : VM g st x u) {c : Str} {t : Tok} (e : bnd (Z0n x) (fun o => ofO (getKey o c)) O σ = some (z, σ')) (k : Aft g O st z σ' Q) : wpAny g.M A (subscriptTail value slice u (.str c t)) Q E st.s := by
 refine oR I rx e fun o a d ro f => k.ofO f fun w h k => ?_
 cases o with
 | dct es =>
  obtain ⟨kvs, hz, x1, y1⟩ := ro
  obtain ⟨ops, hops⟩ := Z2h slice (.ref a) (.str c t)
  obtain ⟨w', h2, h3⟩ := at_some y1 (show look es c = some w from h)
  exact tail_any x1.mapOf.typeIs slot_dict_getitem.lookup (wpAny_getItem_of (Z1a c t) x1.mapOf h2 (k.tok I h3 _)) hops
 | _ => exact Z0a h
theorem sub_char {s : Str} (I : Inv g O st σ) (rx : VM g st (.pv (.str s)) u) {i : Int} {t : Tok} (e : ofO (charM s i) O σ = some (z, σ')) (k : Aft g O st z σ' Q) : wpAny g.M A (subscriptTail value slice u (.int i t)) Q E st.s := by
 refine k.ofO e fun w h k => rx.p.strE fun t' hs => ?_
 replace h : (match decide (0 <= i) && decide (i < 1000) with | true => (match s.cps[i.toNat]? with | some c => some (MV.pv (.str ⟨#[c]⟩)) | none => none) | false => none) = some w := h
 cases h0 : decide (0 <= i) && decide (i < 1000) with
 | false => rw [h0] at h; exact Z0a h
 | true =>
  rw [h0] at h
  have h0 := Bool.and_eq_true_iff.mp h0
  have hlt := of_decide_eq_true h0.2
  obtain ⟨j, rfl⟩ := Int.eq_ofNat_of_zero_le (of_decide_eq_true h0.1)
  replace h : (match s.cps[j]? with | some c => some (MV.pv (.str ⟨#[c]⟩)) | none => none) = some w := h
  cases hc : s.cps[j]? with
  | none => rw [hc] at h; exact Z0a h
  | some c =>
   rw [hc] at h
   cases h
   obtain ⟨ops, hops⟩ := Z2h slice (.str s t') (.int j t)
   have hm : (seqIndex? (j : Int) s.length).bind (s.cps[·]?) = some c := by
    have hj : j < s.length := (Array.getElem?_eq_some_iff.mp hc).1
    have e : seqIndex? (j : Int) s.length = some j := by
     unfold seqIndex?
     rw [if_neg (Int.not_lt.mpr (Int.natCast_nonneg j))]
     exact if_pos (Bool.and_eq_true_iff.mpr ⟨decide_eq_true (Int.natCast_nonneg j), decide_eq_true (by omega)⟩)
    rw [e]; exact hc
   have ok : PyData.strOk ⟨#[c]⟩ = true := by
    have := Array.all_eq_true_iff_forall_mem.mp hs c (Array.mem_of_getElem? hc)
    simpa [PyData.strOk] using this
   exact tail_any (typeIs_str _ _ _) PySem.F.slot_str_getitem.lookup (P.getItem_str (Bool.or_eq_false_iff.mpr ⟨decide_eq_false (by omega), decide_eq_false (by omega)⟩) hm (k.tok I (.pv (.str _ _ ok)) _)) hops
theorem sub_sound (I : Inv g O st σ) (rx : VM g st x u) (ry : VM g st y v) (e : subM x y O σ = some (z, σ')) (k : Aft g O st z σ' Q) : wpAny g.M A (subscriptTail value slice u v) Q E st.s := by
 cases y with
 | pv q => cases q with
  | int i =>
   refine ry.p.intE fun t => ?_
   cases x with
   | pv p => cases p with
    | str s => exact sub_char I rx e k
    | _ => exact sub_int I rx e k
   | _ => exact sub_int I rx e k
  | str c => exact ry.p.strE fun t _ => sub_str I rx e k
  | _ => exact Z0a e
 | _ => exact Z0a e
noncomputable def OptIs (g : Gl) (st : St) (o : Option MV) (u : Value) : Prop := match o with | some p => VM g st p u | none => u = .none
theorem OptIs.go {W : List Addr} {st' : St} {o : Option MV} (r : OptIs g st o u) (x : Step W st st') : OptIs g st' o u := by
 cases o with
 | none => exact r
 | some p => exact VM.go r x
theorem OptIs.part {o : Option MV} {i : Option Int} (h : PartIs o i) (r : OptIs g st o u) : IsPart u i := by
 cases h with
 | none => exact (show u = .none from r) ▸ .none
 | int i => exact VP.intE (VM.p r) fun t => .int _ _
theorem cut_sound (I : Inv g O st σ) {ou ost : Option MV} {vu vst : Value} (rx : VM g st x u) (ru : OptIs g st ou vu) (rs : OptIs g st ost vst) (e : cutM mu x ou ost O σ = some (z, σ')) (k : Aft g O st z σ' Q) :
  wpAny g.M A (subscriptTail value slice u (.ref st.h.objs.size)) Q E { st.s with heap := st.h.push { cls := .type "slice", data := .fields #[.none, vu, vst] } } := by
 refine sR I rx e fun l a vs rv hq f => oE (gd2 f) fun r hc f2 => cutL_some hc fun hi step p1 p2 p3 p4 => ?_
 have hs := gd1 f
 have hlen : vs.length <= sizeLine := Nat.le_trans (Nat.le_of_eq rv.len) (Z3v (Z1s hs))
 obtain ⟨ops, hops⟩ := Z2h slice (.ref a) (.ref st.h.objs.size)
 have hpush := Z1v st.h { cls := .type "slice", data := .fields #[.none, vu, vst] }
 obtain ⟨ws, hw, rw'⟩ := p4 rv
 have x1 := Step.grow (s' := { st.s with heap := st.h.push { cls := .type "slice", data := .fields #[.none, vu, vst] } }) hpush
 have I1 := I.grow (s' := { st.s with heap := st.h.push { cls := .type "slice", data := .fields #[.none, vu, vst] } }) hpush rfl rfl
 replace f2 : (match Z0w x with | true => gd (isNone? ost) (Z4h r) | false => Z1w mu r) O σ = some (z, σ') := f2
 rcases hq with ⟨ht, hq⟩ | ⟨ht, hq⟩
 ·rw [ht] at f2
  have f3 := gd2 f2
  cases ost with
  | some w => exact Z0y (gd1 f2)
  | none =>
   obtain rfl : vst = .none := rs
   cases p1 with
   | none => exact Z0a (show (none : Option (List MV)) = some r from hc)
   | int j =>
    refine VP.intE (VM.p ru) fun t => ?_
    replace hc : (match decide (0 <= j) with | true => some (l.take j.toNat) | false => none) = some r := hc
    cases h0 : decide (0 <= j) with
    | false => rw [h0] at hc; exact Z0a hc
    | true =>
     rw [h0] at hc
     cases hc
     obtain ⟨m, rfl⟩ := Int.eq_ofNat_of_zero_le (of_decide_eq_true h0)
     have I1 := I.grow (s' := { st.s with heap := st.h.push { cls := .type "slice", data := .fields #[.none, .int m t, .none] } }) (Z1v _ _) rfl rfl
     have x1 := Step.grow (st := st) (s' := { st.s with heap := st.h.push { cls := .type "slice", data := .fields #[.none, .int m t, .none] } }) (Z1v _ _)
     have rt := VMs.go (rv.take m) x1
     have hx := hq.2.at (Z1v st.h { cls := .type "slice", data := .fields #[.none, .int m t, .none] } a)
     have f4 := gd2 f3
     have k1 := (k.after x1).ret (show ret (Y1e (l.take m)) O σ = some (z, σ') from f4)
     refine tail_any (s := { st.s with heap := st.h.push { cls := .type "slice", data := .fields #[.none, .int m t, .none] } }) hx.is.typeIs slot_tuple_getitem.lookup (getItem_upto (b := m) hx (Heap.IsSliceOf.new ..) hlen (fun e => ?_) ?_) hops
     ·exact k1.here I1 (vm_tup (e ▸ FT.ext x1.ext.fz hq) (e ▸ rt))
     ·exact tup_new I1 rt k1 st.s.toks
 ·rw [ht] at f2
  have hx := hq.at (hpush a)
  have fin := Z9s (st := st.put { st.s with heap := st.h.push { cls := .type "slice", data := .fields #[.none, vu, vst] } }) I1 (VMs.go rw' x1) f2 (k.after x1) st.s.toks
  exact tail_any (Heap.IsList.typeIs (s := { st.s with heap := st.h.push { cls := .type "slice", data := .fields #[.none, vu, vst] } }) hx.is) list_getitem_lookup
   (wpAny_getItem_list_slice hx.is (Heap.IsSliceOf.new ..) .none (ru.part p1) (rs.part p2) p3 (by rw [hw]; exact fin) hlen) hops
end
structure EntOk (g : Gl) (es : List DictEntry) (kvs : List (Str × Value)) : Prop where
 keys : ∀ e ∈ es, ∃ k, g.sk.is k e.key = true /\ e.hash = hashStr g.w k
 pairs : Pairs g.sk es kvs
 nodup : (kvs.map (·.1)).Nodup
section
variable {h : Heap} {d : Addr} {es : List DictEntry} {kvs : List (Str × Value)} {ep : Nat} {k k' : Str} {v v' : Value}
theorem Z7z (x : h.DictOf g.sk d kvs) : ∃ es ep, h.get? d = some (dictOf es ep) /\ EntOk g es kvs := by
 obtain ⟨⟨c, dd, da, sl⟩, es, ep, ho, ⟨h1, h2, h3⟩, hd, hk, hp, hn⟩ := x
 cases h1; cases h2; cases h3; cases hd
 exact ⟨es.toList, ep, ho, ⟨fun e he => hk e (Array.mem_toList_iff.mp he), hp, hn⟩⟩
theorem dict_of (e : h.get? d = some (dictOf es ep)) (x : EntOk g es kvs) : h.DictOf g.sk d kvs :=
 ⟨_, es.toArray, ep, e, ⟨rfl, rfl, rfl⟩, rfl, fun e he => x.keys e (List.mem_toArray.mp he), x.pairs, x.nodup⟩
theorem is_isStr (k : Str) (v : Value) : g.sk.is k v = v.isStr k := g.sk.strs k k 0 v (Z1a k 0)
theorem EntOk.look (x : EntOk g es kvs) (k : Str) (ep : Nat) : W.lookIn k (dictOf es ep) = some (valueAt kvs k) := by
 have f := x.pairs.find k
 show (match es.find? (fun e => e.key.isStr k) with
   | some e => some (some e.val)
   | none => if es.any (·.refKey) then none else some none) = _
 rw [show (fun e : DictEntry => g.sk.is k e.key) = fun e => e.key.isStr k from funext fun e => is_isStr k e.key] at f
 cases q : es.find? (fun e => e.key.isStr k) with
 | some e => rw [q] at f; rw [<- f]; rfl
 | none =>
  rw [q] at f
  have : es.any (·.refKey) = false := List.any_eq_false.mpr fun e he => by
   obtain ⟨k', h1, _⟩ := x.keys e he
   obtain ⟨t, ht⟩ := Value.isStrOf_shape h1
   simp [DictEntry.refKey, ht]
  rw [<- f]
  exact if_neg (this ▸ Bool.false_ne_true)
theorem Z6m (h : k' ≠ k) : stored ((k', v') :: kvs) k v = (k', v') :: stored kvs k v := by
 unfold stored
 simp only [List.any_cons, h, decide_false, Bool.false_or, List.map_cons, if_false]
 cases kvs.any fun kv => decide (kv.1 = k) <;> rfl
theorem Z6n (h : k ∉ kvs.map (·.1)) : stored ((k, v') :: kvs) k v = (k, v) :: kvs := by
 unfold stored
 simp only [List.any_cons, decide_true, Bool.true_or, if_true, List.map_cons]
 rw [map_store_of_not_mem kvs k v h]
theorem Z8y (hn : (kvs.map (·.1)).Nodup) (k : Str) (v : Value) : ((stored kvs k v).map (·.1)).Nodup := by
 unfold stored
 split
 ·rw [List.map_map]
  have : ((fun x : Str × Value => x.1) ∘ fun kv => if kv.1 = k then (kv.1, v) else kv) = fun x => x.1 := by
   funext kv; simp only [Function.comp_apply]; split <;> rfl
  rw [this]; exact hn
 ·rename_i h
  rw [List.map_append, List.nodup_append]
  refine ⟨hn, by simp, fun a ha b hb hab => ?_⟩
  simp at hb
  subst hb hab
  obtain ⟨p, hp, e⟩ := List.mem_map.mp ha
  exact h (List.any_eq_true.mpr ⟨p, hp, by simp [e]⟩)
theorem EntOk.put : ∀ {es : List DictEntry} {kvs : List (Str × Value)} (k : Str) (t : Tok) (v : Value), EntOk g es kvs -> EntOk g (putL k (PyData.keyHash g.w.params k) (.str k t) v es) (stored kvs k v)
 | [], [], k, t, v, x => ⟨fun e he => ⟨k, List.mem_singleton.mp he ▸ Z1a k t, List.mem_singleton.mp he ▸ rfl⟩, .cons (Z1a k t) rfl .nil, List.nodup_cons.mpr ⟨nofun, .nil⟩⟩
 | e :: es, (k', v') :: kvs, k, t, v, ⟨h1, .cons p1 p2 p3, h3⟩ => by
  have hn := List.nodup_cons.mp h3
  by_cases q : k' = k
  ·subst q
   rw [Z6n hn.1]
   show EntOk g (if e.key.isStr k' = true then _ else _) _
   rw [if_pos (is_isStr k' e.key ▸ p1)]
   refine ⟨fun e' he => ?_, .cons p1 rfl p3, h3⟩
   rcases List.mem_cons.mp he with rfl | he
   ·exact h1 e (.head _)
   ·exact h1 e' (.tail _ he)
  ·have ne : ¬ e.key.isStr k = true := by
    rw [<- is_isStr, KeyKind.is_eq_decide p1 k]
    exact fun z => q (of_decide_eq_true z).symm
   have nd := Z8y h3 k v
   rw [Z6m q] at nd ⊢
   have ih := EntOk.put k t v ⟨fun e he => h1 e (.tail _ he), p3, hn.2⟩
   show EntOk g (if e.key.isStr k = true then _ else _) _
   rw [if_neg ne]
   refine ⟨fun e' he => ?_, .cons p1 p2 ih.pairs, nd⟩
   rcases List.mem_cons.mp he with rfl | he
   ·exact h1 _ (.head _)
   ·exact ih.keys e' he
 | [], _ :: _, _, _, _, ⟨_, p, _⟩ => nomatch p
 | _ :: _, [], _, _, _, ⟨_, p, _⟩ => nomatch p
theorem Z4q (k : Str) (hs : Int) (key v : Value) : ∀ es : List DictEntry, (putL k hs key v es).length <= es.length + 1
 | [] => Nat.le_refl _
 | e :: es => by
  show (if e.key.isStr k = true then _ else _ : List DictEntry).length <= _
  by_cases q : e.key.isStr k = true
  ·rw [if_pos q]; exact Nat.le_succ _
  ·rw [if_neg q]; exact Nat.succ_le_succ (Z4q k hs key v es)
theorem put_cons {α : Type} {k' : Str} {w : α} {es : List (Str × α)} (k : Str) (v : α) : Mine.Internal.put ((k', w) :: es) k v = if k' = k then (k', v) :: es else (k', w) :: Mine.Internal.put es k v := by
 show (match Z0g k' k with | true => (k', v) :: es | false => (k', w) :: Mine.Internal.put es k v) = _
 by_cases q : k' = k
 ·rw [if_pos q, strEq_true.mpr q]
 ·rw [if_neg q, Z9h q]
theorem put_ents {α : Type} {R : α -> Value -> Prop} {z : α} {u : Value} (hk : PyData.strOk k = true) (hv : R z u) {es : List (Str × α)} (r : A2 (ER R) es kvs) : (kvs.map (·.1)).Nodup -> A2 (ER R) (Mine.Internal.put es k z) (stored kvs k u) := by
 induction r with
 | nil => exact fun _ => .cons ⟨⟨rfl, hk⟩, hv⟩ .nil
 | @cons e d es ds a b ih =>
  intro hn
  obtain ⟨k1, w⟩ := e
  obtain ⟨k2, x⟩ := d
  obtain rfl : k2 = k1 := a.1.1
  have hn := List.nodup_cons.mp hn
  rw [put_cons]
  by_cases q : k2 = k
  ·subst q
   rw [Z6n hn.1, if_pos rfl]
   exact .cons ⟨a.1, hv⟩ b
  ·rw [Z6m q, if_neg q]
   exact .cons a (ih hn.2)
theorem vm_handed {st : St} {y : MV} (r : VM g st y v) : handedIn v = true := by
 cases r with
 | pv p => cases p with
  | bi b => cases b <;> first | rfl | decide +kernel
  | _ => rfl
 | _ => rfl
end
theorem mem_some {x : Str} : ∀ {l : List Str}, mem x l = true -> x ∈ l
 | y :: r, e => by
  replace e : (match Z0g y x with | true => true | false => mem x r) = true := e
  cases h : Z0g y x with
  | true => rw [strEq_true.mp h]; exact .head _
  | false => rw [h] at e; exact .tail _ (mem_some e)
theorem Z3e {α : Type} {k : Str} {v : α} : ∀ {l : List (Str × α)}, look l k = some v -> (k, v) ∈ l
 | (k', v') :: r, e => by
  rw [Z2v] at e
  by_cases q : k' = k
  ·rw [if_pos q] at e; cases e; exact q ▸ .head _
  ·rw [if_neg q] at e; exact .tail _ (Z3e e)
theorem Y1c {cfg : Cfg} {c : Addr} {a : Str} (e : okAttr cfg c a = true) : ∃ row, cfg.cls c = some row /\ a ∈ row.attrs := by
 replace e : (match cfg.cls c with | some row => mem a row.attrs | none => false) = true := e
 cases h : cfg.cls c with
 | none => rw [h] at e; exact Z0y e
 | some row => rw [h] at e; exact ⟨row, rfl, mem_some e⟩
section
variable {A : Around} {E : Value -> Shared -> Prop} {s : Shared} {K : Frag} {x C dx : Addr} {name : Str} {v : Value} {es : List DictEntry} {n : Nat}
theorem store_good (q : Z4f K C name = true) : findIn K (.ref C) "__setattr__" = some (some (.builtin "object.__setattr__")) /\ plainOver K C = true /\ takerIn K C name = some none /\ hasDictIn K C = true := by
 have ⟨q, hh⟩ := Bool.and_eq_true_iff.mp q
 have ⟨q, ht⟩ := Bool.and_eq_true_iff.mp q
 have ⟨hs, hp⟩ := Bool.and_eq_true_iff.mp q
 exact ⟨beq_iff_eq.mp hs, hp, beq_iff_eq.mp ht, hh⟩
theorem no_refkey (hl : (W.lookIn name (dictOf es n)).isSome = true) : (!es.toArray.any (·.key.isStr name) && es.toArray.any (·.refKey)) = false := by
 rw [<- Array.any_toList, <- Array.any_toList]
 replace hl : ((match es.find? (fun e => e.key.isStr name) with | some e => some (some e.val) | none => if es.any (·.refKey) then none else some none) : Option (Option Value)).isSome = true := hl
 cases he : es.find? (fun e => e.key.isStr name) with
 | some en => rw [List.any_eq_true.mpr ⟨en, List.mem_of_find?_eq_some he, List.find?_some he⟩]; rfl
 | none =>
  rw [he] at hl
  cases z : es.any (·.refKey) with
  | false => exact Bool.and_false _
  | true => rw [z] at hl; exact nomatch hl
theorem osa_mine {R : Result -> Shared -> Prop} {tk : Tok} (X : K.In s.heap) (i : InsO s.heap C x dx) (e : s.heap.get? dx = some (dictOf es n)) (q : Z4f K C name = true) (hl : (W.lookIn name (dictOf es n)).isSome = true) (hz : es.length <= 900)
  (h : ∀ h', h'.get? dx = some (dictOf (putL name (PyData.keyHash g.w.params name) (.str name s.toks) v es) (putN name es n)) -> Heap.SameBut dx s.heap h' -> R (.ok (.ret .none)) { s with heap := h', toks := s.toks + 1 }) :
  codeAny g.M A (.call (.builtin "object.__setattr__") ⟨[.ref x, .str name tk, v], []⟩) R s := by
 obtain ⟨sl, i⟩ := i
 obtain ⟨-, hp, ht, hh⟩ := store_good q
 refine osa_open X (od := some (dictOf es n)) ⟨i, rfl, rfl, e⟩ hp ht fun b => ?_
 obtain ⟨cd, hc, hd'⟩ := any_some hh
 have D' : (s.heap.update dx (Obj.putName name (PyData.keyHash g.w.params name) (.str name s.toks) v)).get? dx = some (dictOf (putL name (PyData.keyHash g.w.params name) (.str name s.toks) v es) (putN name es n)) := by
  rw [<- putName_dict]
  exact Heap.get?_update_self _ e (by rw [putName_dict]; rfl)
 refine wpAny_bind (wpAny_pure (wpAny_bind (wpAny_bind (wpAny_loadPart i (wpAny_bind ((looks_clsIn X hc).here ?_))))))
 rw [hd']
 refine wpAny_pure (a := some dx) (wpAny_bind (wpAny_pure (wpAny_bind ?_)))
 unfold nsSet
 refine wpAny_bind (wpAny_bind (wpAny_askSetting (wpAny_pure (wpAny_bind (wpAny_mkText (wpAny_bind (wpAny_loadPart e ?_)))))))
 dsimp only
 rw [aRefKeyMayBeTheName_at, no_refkey hl]
 refine wpAny_updatePart e (wpAny_bind (wpAny_lookBehind D' (pastItsLine_dict ?_) (wpAny_pure (h _ D' (Heap.SameBut.update ..)))))
 rw [List.size_toArray, sizeLine_eq]
 exact Nat.le_trans (Z4q ..) (Nat.le_trans (Nat.succ_le_succ hz) (by decide))
theorem store_field {Q : Unit -> Shared -> Prop} (X : K.In s.heap) (i : InsO s.heap C x dx) (e : s.heap.get? dx = some (dictOf es n)) (q : Z4f K C name = true) (hl : (W.lookIn name (dictOf es n)).isSome = true) (hz : es.length <= 900)
  (h : ∀ h', h'.get? dx = some (dictOf (putL name (PyData.keyHash g.w.params name) (.str name (s.toks + 1)) v es) (putN name es n)) -> Heap.SameBut dx s.heap h' -> Q () { s with heap := h', toks := s.toks + 2 }) :
  wpAny g.M A (setAttr (.ref x) name v) Q E s :=
 let ⟨sl, j⟩ := i
 set_plain X (od := some (dictOf es n)) ⟨j, rfl, rfl, e⟩ (store_good q).1 (osa_mine (s := { s with toks := s.toks + 1 }) X i e q hl hz fun h' a b => h h' a b)
end
theorem Z2b {d : Addr} {h h' : Heap} (x : Heap.SameBut d h h') (b : Addr) (n : b ≠ d) : Kp h h' b := fun o e => (x.2 b n).trans e
theorem attr_some {x : MO} {a : Str} {p : Addr × MV} (e : attrOf x a = some p) : ∃ fs, x = .obj p.1 fs /\ look fs a = some p.2 := by
 cases x with
 | obj c fs =>
  replace e : (match look fs a with | some v => some (c, v) | none => none) = some p := e
  cases h : look fs a with
  | none => rw [h] at e; exact Z0a e
  | some v => rw [h] at e; cases e; exact ⟨fs, rfl, h⟩
 | _ => exact Z0a e
theorem putAttr_some {x : MO} {a : Str} {z : MV} {p : Addr × MO} (e : putAttr x a z = some p) : ∃ fs, x = .obj p.1 fs /\ p.2 = .obj p.1 (put fs a z) /\ fs.length <= 100 := by
 cases x with
 | obj c fs =>
  replace e : (match Nat.ble fs.length 100 with | true => some (c, MO.obj c (put fs a z)) | false => none) = some p := e
  cases h : Nat.ble fs.length 100 with
  | false => rw [h] at e; exact Z0a e
  | true => rw [h] at e; cases e; exact ⟨fs, rfl, rfl, Nat.le_of_ble_eq_true h⟩
 | _ => exact Z0a e
theorem putItem_some {x x' : MO} {i v : MV} (e : Z8g x i v = some x') {P : Prop} (k1 : ∀ l j, x = .lst l -> i = .pv (.int j) -> 0 <= j -> j.toNat < l.length -> l.length <= 1000000 -> x' = .lst (l.set j.toNat v) -> P) (k2 : ∀ es c, x = .dct es -> i = .pv (.str c) -> es.length <= 1000000 -> x' = .dct (put es c v) -> P) : P := by
 cases x with
 | lst l => cases i with
  | pv p => cases p with
   | int j =>
    replace e : (match decide (0 <= j) && Nat.blt j.toNat l.length && small l with | true => some (MO.lst (l.set j.toNat v)) | false => none) = some x' := e
    cases h : decide (0 <= j) && Nat.blt j.toNat l.length && small l with
    | false => rw [h] at e; exact Z0a e
    | true =>
     rw [h] at e
     have h := Bool.and_eq_true_iff.mp h
     have h2 := Bool.and_eq_true_iff.mp h.1
     exact k1 l j rfl rfl (of_decide_eq_true h2.1) (Nat.le_of_ble_eq_true h2.2) (Z1s h.2) (Option.some.inj e).symm
   | _ => exact Z0a e
  | _ => exact Z0a e
 | dct es => cases i with
  | pv p => cases p with
   | str c =>
    replace e : (match small es with | true => some (MO.dct (put es c v)) | false => none) = some x' := e
    cases h : small es with
    | false => rw [h] at e; exact Z0a e
    | true => rw [h] at e; exact k2 es c rfl rfl (Z1s h) (Option.some.inj e).symm
   | _ => exact Z0a e
  | _ => exact Z0a e
 | _ => exact Z0a e
section
variable {O : Z0c} {st : St} {σ σ' : Hp} {A : Around} {n : Nat} {E : Value -> Shared -> Prop} {Q : Value -> Shared -> Prop} {x y z o : MV} {u v : Value} {mu : Bool} {l : List MV} {vs : List Value} {a : Str} {b : Bool}
theorem attr_good {K : Frag} {c : Addr} (h : Z9z K c a = true) : plainGet K c a = true /\ hasDictIn K c = true /\ ∃ x, findIn K (.ref c) a = some x /\ noGet K x = true := by
 have ⟨h, hn⟩ := Bool.and_eq_true_iff.mp h
 have ⟨hp, hh⟩ := Bool.and_eq_true_iff.mp h
 cases q : findIn K (.ref c) a with
 | none => rw [q] at hn; exact Z0y hn
 | some x => rw [q] at hn; exact ⟨hp, hh, x, rfl, hn⟩
theorem getAttr_sound (F : PFc g.cfg g.K) (X : g.K.In g.hb) (I : Inv g O st σ) (ro : VM g st o u) (e : Z9x g.cfg o a O σ = some (z, σ')) (k : Aft g O st z σ' Q) : wpAny g.M A (getAttr u a b) Q E st.s := by
 refine oR I ro e fun x a1 d1 ro f => oE f fun p h f2 => ?_
 obtain ⟨fs, rfl, hl⟩ := attr_some h
 obtain ⟨kvs, ⟨sl, i1⟩, i2, i3⟩ := ro
 obtain ⟨es, ep, hd, eo⟩ := Z7z i2
 obtain ⟨row, hrow, hm⟩ := Y1c (gd1 f2)
 obtain ⟨hp, hh, x, hfi, hn⟩ := attr_good (F.attr _ row hrow a hm).1
 obtain ⟨w', h2, h3⟩ := at_some i3 hl
 refine get_value (ox := ⟨_, _, _, _⟩) (od := some (dictOf es ep)) (X.keeps I.up) ⟨i1, rfl, rfl, hd⟩ (plainGet_of hp).1 (findObj_own hh hfi hn ?_) (vm_handed h3) ((k.ret (gd2 f2)).tok I h3 _)
 rw [eo.look, h2]
theorem setAttr_sound (F : PFc g.cfg g.K) (X : g.K.In g.hb) (I : Inv g O st σ) {Q : Shared -> Prop} (ro : VM g st o u) (rv : VM g st x v) {r : Unit × Hp} (e : Z9k g.cfg o a x O σ = some r) (k : AftU g O st r.2 Q) : wpAny g.M A (setAttr u a v) (fun _ => Q) E st.s := by
 cases o with
 | ref i =>
  refine rR (show bnd (Z0n (.ref i)) (fun o => bnd (ofO (putAttr o a x)) fun p => gd (okAttr g.cfg p.1 a) (setAt i p.2)) O σ = some r from e) fun o ho f => oE f fun p h f2 => ro.refE fun a1 d1 hμ => ?_
  obtain ⟨fs, rfl, hx, hlen⟩ := putAttr_some h
  obtain ⟨kvs, i1, i2, i3⟩ := I.heap.at_ i _ _ ho hμ
  obtain ⟨es, ep, hd, eo⟩ := Z7z i2
  obtain ⟨row, hrow, hm⟩ := Y1c (gd1 f2)
  have ha := F.txt _ row hrow a hm
  have hl1 : es.length <= 900 := Nat.le_trans (Nat.le_of_eq (eo.pairs.length.trans i3.len)) (Nat.le_trans hlen (by decide))
  have hne : a1 ≠ d1 := fun z => let ⟨sl, hi⟩ := i1; nomatch (z ▸ hi).symm.trans hd
  refine store_field (X.keeps I.up) i1 hd (F.attr _ row hrow a hm).2 (by rw [eo.look]; rfl) hl1 fun h' hd' hs' => ?_
  have hk := Z2b hs'
  cases (show some ((), σ.set i p.2) = some r from gd2 f2)
  rw [hx] at k
  exact k _ (I.upd (s' := { st.s with heap := h', toks := st.s.toks + 2 }) hμ (.inr rfl) hk ⟨_, hd'⟩ rfl rfl fun y => ⟨_, i1.at (hk a1 hne), dict_of hd' (eo.put a (st.s.toks + 1) v), put_ents ha (rv.ext y) (VMes.ext y i3) eo.nodup⟩) (.upd I hμ (.inr rfl) hk ⟨_, hd'⟩)
 | _ => exact Z0a e
theorem setItem_sound (I : Inv g O st σ) {Q : Shared -> Prop} {w : Value} (ro : VM g st o w) (ry : VM g st y u) (rv : VM g st x v) {r : Unit × Hp} (e : Z9j o y x O σ = some r) (k : AftU g O st r.2 Q) : wpAny g.M A (setItem w u v) (fun _ => Q) E st.s := by
 cases o with
 | ref i =>
  refine rR (show bnd (Z0n (.ref i)) (fun o => bnd (ofO (Z8g o y x)) fun p => setAt i p) O σ = some r from e) fun o ho f => oE f fun p h f => ro.refE fun a1 d1 hμ => ?_
  cases (show some ((), σ.set i p) = some r from f)
  have ro := I.heap.at_ i _ _ ho hμ
  refine putItem_some h (fun l j ho hy j0 j1 j2 hp => ?_) fun es c ho hy hl hp => ?_
  ·rw [ho] at ro; rw [hy] at ry; rw [hp] at k
   obtain ⟨vs, x1, y1⟩ := ro
   refine ry.p.intE fun t => setItem_list x1 j0 (y1.len ▸ j1) (by omega) fun h' hx hs => ?_
   have hk := Z2b hs
   exact k _ (I.upd (s' := { st.s with heap := h' }) hμ (.inl rfl) hk hx.live rfl rfl fun y => ⟨_, hx, (VMs.ext y y1).set (rv.ext y) _⟩) (.upd I hμ (.inl rfl) hk hx.live)
  ·rw [ho] at ro; rw [hy] at ry; rw [hp] at k
   obtain ⟨kvs, z, x1, y1⟩ := ro
   refine ry.p.strE fun t hc => wpAny_setItem_pairs (Z1a c t) x1 (fun h' hx hs => ?_) (y1.len ▸ Z3v hl)
   have hk := Z2b hs
   obtain ⟨_, _, _, eo⟩ := Z7z x1
   exact k _ (I.upd (s' := { st.s with heap := h', toks := st.s.toks + 1 }) hμ (.inl rfl) hk (Z2w hx) rfl rfl fun y => ⟨_, z, hx, put_ents hc (rv.ext y) (VMes.ext y y1) eo.nodup⟩) (.upd I hμ (.inl rfl) hk (Z2w hx))
 | _ => exact Z0a e
end
theorem okS_ok {s : Str} (h : okS s = true) : PyData.strOk s = true := by
 unfold PyData.strOk
 rw [<- Array.all_toList]
 exact List.all_eq_true.mpr fun x hx => decide_eq_true (Nat.le_of_ble_eq_true (List.all_eq_true.mp h x hx))
noncomputable def Y0a (g : Gl) (f : Value) : Prop := (∃ a, f = .ref a /\ keepIn g.K (.ref a) = true) \/ ∀ a, f ≠ .ref a
structure MethS (g : Gl) (n : Nat) (C : Z0j) (o : MV) (u : Value) (c : Callee) (f : Value) : Prop where
 keep : ∀ {mu : Bool} {args : List MV} {O : Z0c} {σ : Hp} {r : MV × Hp}, runM C mu c o args O σ = some r -> Y0a g f
 run : ∀ {O : Z0c} {st : St} {σ : Hp} {A : Around} {E : Value -> Shared -> Prop} {mu : Bool} {args : List MV} {vs : List Value} {z : MV} {σ' : Hp} {Q : Value -> Shared -> Prop}, Room A n -> FrA A st -> Inv g O st σ -> VM g st o u -> VMs g st args vs -> runM C mu c o args O σ = some (z, σ') -> Aft g O st z σ' Q -> wpAny g.M A (call f (u :: vs)) Q E st.s
section
variable {O : Z0c} {st : St} {σ σ' : Hp} {A : Around} {n : Nat} {C : Z0j} {E : Value -> Shared -> Prop} {Q : Value -> Shared -> Prop} {x y z o : MV} {u v : Value} {mu : Bool} {l args : List MV} {vs ws : List Value} {i : Nat} {r : MV × Hp}
@[elab_as_elim] theorem arg1V {f : MV -> Mm MV} (ra : VMs g st args vs) (e : arg1 f args O σ = some r) {P : List Value -> Prop} (k : ∀ x u, VM g st x u -> f x O σ = some r -> P [u]) : P vs := by
 cases ra with
 | nil => exact Z0a e
 | cons a b => cases b with
  | nil => exact k _ _ a e
  | cons _ _ => exact Z0a e
@[elab_as_elim] theorem arg2V {f : MV -> MV -> Mm MV} (ra : VMs g st args vs) (e : arg2 f args O σ = some r) {P : List Value -> Prop} (k : ∀ x u y v, VM g st x u -> VM g st y v -> f x y O σ = some r -> P [u, v]) : P vs := by
 cases ra with
 | nil => exact Z0a e
 | cons a b => cases b with
  | nil => exact Z0a e
  | cons b c => cases c with
   | nil => exact k _ _ _ _ a b e
   | cons _ _ => exact Z0a e
@[elab_as_elim] theorem arg0V {m : Mm MV} (ra : VMs g st args vs) (e : arg0 m args O σ = some r) {P : List Value -> Prop} (k : m O σ = some r -> P []) : P vs := by
 cases ra with
 | nil => exact k e
 | cons _ _ => exact Z0a e
@[elab_as_elim] theorem strAV {α : Type} {f : Str -> Mm α} {r : α × Hp} (rx : VM g st x u) (e : strA f x O σ = some r) {P : Value -> Prop} (k : ∀ s t, PyData.strOk s = true -> f s O σ = some r -> P (.str s t)) : P u := by
 cases x with
 | pv p => cases p with
  | str s => exact rx.p.strE fun t h => k s t h e
  | _ => exact Z0a e
 | _ => exact Z0a e
theorem allStrs_cons {p : MV} {l : List MV} {xs : List Str} (e : Z4c (p :: l) = some xs) : ∃ x ys, p = .pv (.str x) /\ Z4c l = some ys /\ xs = x :: ys := by
 cases p with
 | pv p => cases p with
  | str x =>
   replace e : (match Z4c l with | some l => some (x :: l) | none => none) = some xs := e
   cases h : Z4c l with
   | none => rw [h] at e; exact Z0a e
   | some ys => rw [h] at e; cases e; exact ⟨x, ys, rfl, rfl, rfl⟩
  | _ => exact Z0a e
 | _ => exact Z0a e
theorem Z9d (r : VMs g st l vs) : ∀ {xs : List Str}, Z4c l = some xs -> ∃ k : List (Str × Tok), vs = strValues k /\ k.map (·.1) = xs /\ ∀ x ∈ xs, PyData.strOk x = true := by
 induction r with
 | nil => intro xs e; cases e; exact ⟨[], rfl, rfl, nofun⟩
 | cons a b ih =>
  intro xs e
  obtain ⟨x, ys, rfl, h, rfl⟩ := allStrs_cons e
  obtain ⟨k, rfl, hk, ho⟩ := ih h
  exact a.p.strE fun t hx => ⟨(x, t) :: k, rfl, congrArg (x :: ·) hk, fun y hy => (List.mem_cons.mp hy).elim (fun q => q ▸ hx) (ho y)⟩
theorem lstOf_some {x : MO} {l : List MV} (e : Y1f x = some l) : x = .lst l /\ l.length <= 1000000 := by
 cases x with
 | lst l' =>
  replace e : (match small l' with | true => some l' | false => none) = some l := e
  cases h : small l' with
  | false => rw [h] at e; exact Z0a e
  | true => rw [h] at e; cases e; exact ⟨rfl, Z1s h⟩
 | _ => exact Z0a e
@[elab_as_elim] theorem lstR (I : Inv g O st σ) (ro : VM g st (.ref i) u) {β : Type} {f : List MV -> Mm β} {r : β × Hp} (e : bnd (Z0n (.ref i)) (fun x => bnd (ofO (Y1f x)) f) O σ = some r) {P : Value -> Prop}
  (k : ∀ l a d vs m, st.μ[i]? = some (a, d) -> vs.length <= 1000000 -> st.h.get? a = some { cls := .type "list", dict := none, data := .seq vs.toArray m, slots := #[] } -> VMs g st l vs -> f l O σ = some r -> P (.ref a)) : P u :=
 rR e fun x hx f1 => oE f1 fun l hl f2 => ro.refE fun a d hμ => by
  have h := lstOf_some hl
  obtain ⟨vs, ⟨m, ho⟩, y⟩ := (show RO g st (.lst l) a d from h.1 ▸ I.heap.at_ i _ _ hx hμ)
  exact k l a d vs m hμ (y.len ▸ h.2) ho y f2
theorem Z7b (I : Inv g O st σ) {a d : Addr} {m : Nat} (hμ : st.μ[i]? = some (a, d)) (ho : st.h.get? a = some { cls := .type "list", dict := none, data := .seq vs.toArray m, slots := #[] }) (f : Array Value -> Array Value) (hf : f vs.toArray = ws.toArray) (rr : VMs g st l ws) (rz : VM g st z v) (k : Aft g O st z (σ.set i (.lst l)) Q) (t : Nat) : Q v { st.s with heap := st.h.update a (Obj.mapSeq f), toks := t } := by
 have hx : LX (st.h.update a (Obj.mapSeq f)) a ws := ⟨if (f vs.toArray).size == vs.toArray.size then m else m + 1, (Heap.get?_update_self _ ho rfl).trans (by show some (Obj.mk _ _ _ _) = _; rw [<- hf])⟩
 have hk := Z2b (Heap.SameBut.update st.h a (Obj.mapSeq f))
 have S := Step.upd (s' := { st.s with heap := st.h.update a (Obj.mapSeq f), toks := t }) I hμ (.inl rfl) hk hx.live
 exact k (st.put { st.s with heap := st.h.update a (Obj.mapSeq f), toks := t }) _ (I.upd hμ (.inl rfl) hk hx.live rfl rfl fun y => ⟨ws, hx, VMs.ext y rr⟩) S (rz.go S)
theorem call_join {s : Str} {t : Tok} (I : Inv g O st σ) (ra : VMs g st args vs) (e : arg1 (joinM s) args O σ = some (z, σ')) (k : Aft g O st z σ' Q) : wpAny g.M A (call (.builtin "str.join") (.str s t :: vs)) Q E st.s := by
 refine arg1V ra e fun x u rx e => sR I rx e fun l a ws rv hq f => oE (gd2 f) fun xs hxs f => gd3 f fun hj hk f => ?_
 obtain ⟨ks, rfl, rfl, _⟩ := Z9d rv hxs
 exact SC.join (hq.lst (gd1 ‹_›)).is rfl hj fun t' k' => (k.ret f).tok I (.pv (.str _ _ (okS_ok hk))) k'
theorem call_get (I : Inv g O st σ) (ro : VM g st o u) (ra : VMs g st args vs) (e : arg2 (fun k d => strA (fun k => getM o k d) k) args O σ = some (z, σ')) (k : Aft g O st z σ' Q) : wpAny g.M A (call (.builtin "dict.get") (u :: vs)) Q E st.s := by
 refine arg2V ra e fun x u1 y v1 rx ry e => strAV rx e fun c t' hp e => oR I ro e fun o a d ro f => ?_
 cases o with
 | dct es =>
  obtain ⟨kvs, zz, x1, y1⟩ := ro
  have k := k.ret (show ret (match look es c with | some v => v | none => y) O σ = some (z, σ') from f)
  refine call_meetsIn PySem.F.slot_dict_get x1.typeIs PySem.F.entry_dict_get (PySem.F.args_dict_get_3 _ _ _) (meets_dict_get_default g.sk a (Z1a c t') zz v1) ⟨_, x1.mapOf, ?_⟩
  show Q _ _
  rcases at_look c y1 with ⟨v', u', h1, h2, h3⟩ | ⟨h1, h2⟩ <;> rw [h2] <;> rw [h1] at k
  ·exact k.tok I h3 _
  ·exact k.tok I ry _
 | _ => exact Z0a f
theorem call_pop (I : Inv g O st σ) (ro : VM g st (.ref i) u) (ra : VMs g st args vs) (e : arg0 (popM i) args O σ = some (z, σ')) (k : Aft g O st z σ' Q) : wpAny g.M A (call (.builtin "list.pop") (u :: vs)) Q E st.s := by
 refine arg0V ra e fun e => lstR I ro e fun l a d vs m hμ hl ho y f => oE f fun w hw f => ?_
 cases (show some (w, σ.set i (.lst l.dropLast)) = some (z, σ') from f)
 obtain ⟨uu, hu, ru⟩ := y.last hw
 have hy : vs.toArray[vs.toArray.size - 1]? = some uu := by rw [List.getElem?_toArray, List.size_toArray, <- List.getLast?_eq_getElem?]; exact hu
 refine call_meets PySem.F.slot_list_pop ⟨_, ho, rfl⟩ PySem.F.entry_list_pop (PySem.F.args_list_pop_1 _) (MeetsSeq.list_pop_last a vs.toArray m uu hy (Z3v hl)) ⟨ho, ?_⟩
 refine Z7b (ws := vs.dropLast) I hμ ho (fun xs => xs.eraseIdxIfInBounds (vs.toArray.size - 1)) ?_ y.init ru k st.s.toks
 cases vs with
 | nil => rfl
 | cons v vs =>
  apply Array.ext'
  simp only [Array.eraseIdxIfInBounds]
  rw [dif_pos (show (v :: vs).toArray.size - 1 < (v :: vs).toArray.size from Nat.lt_succ_self _)]
  simp [List.eraseIdx_eq_dropLast]
theorem call_append (I : Inv g O st σ) (ro : VM g st (.ref i) u) (ra : VMs g st args vs) (e : arg1 (appendM i) args O σ = some (z, σ')) (k : Aft g O st z σ' Q) : wpAny g.M A (call (.builtin "list.append") (u :: vs)) Q E st.s := by
 refine arg1V ra e fun x v rx e => lstR I ro e fun l a d ws m hμ hl ho y f => ?_
 cases (show some (MV.pv .none, σ.set i (.lst (l ++ [x]))) = some (z, σ') from f)
 refine call_meets PySem.F.slot_list_append ⟨_, ho, rfl⟩ PySem.F.entry_list_append (PySem.F.args_list_append_2 _ _) (PySem.list_append a ws.toArray m v (Z3v hl)) ⟨ho, ?_⟩
 exact Z7b (ws := ws ++ [v]) I hμ ho (fun xs => xs.push v) (List.push_toArray ..) (y.app (.cons rx .nil)) (.pv .none) k st.s.toks
theorem call_extend (I : Inv g O st σ) (ro : VM g st (.ref i) u) (ra : VMs g st args vs) (e : arg1 (extendM i) args O σ = some (z, σ')) (k : Aft g O st z σ' Q) : wpAny g.M A (call (.builtin "list.extend") (u :: vs)) Q E st.s := by
 refine arg1V ra e fun x v rx e => lstR I ro e fun l a d ws m hμ hl ho y f => sR I rx f fun r b us rv hq f => gd3 f fun hs hn f => ?_
 cases (show some (MV.pv .none, σ.set i (.lst (l ++ r))) = some (z, σ') from f)
 obtain ⟨m2, ho2⟩ := hq.lst hn
 have h2 : us.length <= 1000000 := rv.len ▸ Z1s hs
 refine call_meets PySem.F.slot_list_extend ⟨_, ho, rfl⟩ PySem.F.entry_list_extend (PySem.F.args_list_extend_2 _ _) (AutoSeq1.list_extend_list_list_0 a ws.toArray m b us.toArray m2 ?_ (Z3v hl) ?_) ⟨ho, ho2, ?_⟩
 ·simp [Builtin.List.listTooLong, sizeLine]; intro _; omega
 ·simp only [List.size_toArray, sizeLine]; omega
 ·exact Z7b (ws := ws ++ us) I hμ ho (fun xs => xs ++ us.toArray) (List.append_toArray ..) (y.app rv) (.pv .none) k st.s.toks
theorem meth_cases (name : Str) {P : Str -> Meth -> Prop} (h2 : P "join" .join) (h3 : P "get" .get) (h4 : P "pop" .pop) (h5 : P "append" .append) (h6 : P "extend" .extend) (h7 : P name .own) : P name (Z3t name) := by
 show P name (match look methTab name with | some m => m | none => .own)
 cases h : look methTab name with
 | none => exact h7
 | some m =>
  have : ∀ p : Str × Meth, p ∈ methTab -> P p.1 p.2 := fun p hp =>
   (List.mem_cons.mp hp).elim (fun q => q ▸ h2) fun hp => (List.mem_cons.mp hp).elim (fun q => q ▸ h3) fun hp => (List.mem_cons.mp hp).elim (fun q => q ▸ h4) fun hp => (List.mem_cons.mp hp).elim (fun q => q ▸ h5) fun hp => (List.mem_singleton.mp hp) ▸ h6
  exact this _ (Z3e h)
theorem getMethod_lst {name : Str} {id : String} {pl : Sem Bool} {a : Addr} {m : Nat} {Q : Value × List Value -> Shared -> Prop} (slot : Slot "list" name id) (hty : typeOf (.builtin id) = pure (.type "method_descriptor")) (hl : st.h.get? a = some { cls := .type "list", dict := none, data := .seq vs.toArray m, slots := #[] }) (h : Q (.builtin id, [.ref a]) st.s) : wpAny g.M A (getMethod (.ref a) name pl) Q E st.s :=
 getMethod_builtin (LX.is ⟨m, hl⟩).typeIs PySem.F.plainAttrs_list slot hty (fun b e => by cases e; exact ⟨_, hl, rfl⟩) h
noncomputable def GetM (g : Gl) (st : St) (u : Value) (name : Str) (f : Value) : Prop := ∀ {A : Around} {E : Value -> Shared -> Prop} {pl : Sem Bool} {Q : Value × List Value -> Shared -> Prop}, Q (f, [u]) st.s -> wpAny g.M A (getMethod u name pl) Q E st.s
theorem Z2y {s : String} : Y0a g (.builtin s) := .inr nofun
theorem pre_lst {name : Str} {id : String} {c' : Callee} {c : Callee × Hp} (slot : Slot "list" name id) (hty : typeOf (.builtin id) = pure (.type "method_descriptor")) (I : Inv g O st σ) (ro : VM g st (.ref i) u) (e : bnd (Z0n (.ref i)) (fun x => bnd (ofO (Y1f x)) fun _ => ret c') O σ = some c) (m : MethS g n C (.ref i) u c' (.builtin id)) : c.2 = σ /\ ∃ f, GetM g st u name f /\ MethS g n C (.ref i) u c.1 f := by
 revert m
 refine lstR I ro e fun l a d vs k hμ hl ho y f m => ?_
 cases (show some (c', σ) = some c from f)
 exact ⟨rfl, _, fun h => getMethod_lst slot hty ho h, m⟩
theorem meth_good {K : Frag} {c : Addr} {m : Str × Addr} (h : methGood K c m = true) : findIn K (.ref c) m.1 = some (some (.ref m.2)) /\ typeIn K (.ref m.2) = some (.type "function") /\ plainGet K c m.1 = true :=
 have ⟨h, hp⟩ := Bool.and_eq_true_iff.mp h
 have ⟨hf, ht⟩ := Bool.and_eq_true_iff.mp h
 ⟨beq_iff_eq.mp hf, beq_iff_eq.mp ht, hp⟩
theorem cls_some {name : Str} {x : MO} {c : Addr} (e : clsOf name x = some c) : ∃ fs, x = .obj c fs /\ look fs name = none := by
 cases x with
 | obj c' fs =>
  replace e : (match look fs name with | none => some c' | some _ => none) = some c := e
  cases h : look fs name with
  | none => rw [h] at e; cases e; exact ⟨fs, rfl, h⟩
  | some _ => rw [h] at e; exact Z0a e
 | _ => exact Z0a e
theorem pre_own {name : Str} {c : Callee × Hp} (F : PFc g.cfg g.K) (X : g.K.In g.hb) (CS : CallS g n C) (I : Inv g O st σ) (ro : VM g st o u) (e : bnd (Z0n o) (fun x => bnd (ofO (clsOf name x)) fun c => bnd (ofO (methOf g.cfg c name)) fun f => ret (.own f)) O σ = some c) : c.2 = σ /\ ∃ f, GetM g st u name f /\ MethS g n C o u c.1 f := by
 refine oR I ro e fun x a d ro f => oE f fun cc hc f2 => oE f2 fun fa hf f3 => ?_
 cases (show some (Callee.own fa, σ) = some c from f3)
 obtain ⟨fs, rfl, hl⟩ := cls_some hc
 obtain ⟨kvs, ⟨sl, i1⟩, i2, i3⟩ := ro
 obtain ⟨es, ep, hd, eo⟩ := Z7z i2
 replace hf : (match g.cfg.cls cc with | some row => look row.meths name | none => none) = some fa := hf
 cases hrow : g.cfg.cls cc with
 | none => rw [hrow] at hf; exact Z0a hf
 | some row =>
  rw [hrow] at hf
  obtain ⟨h1, h2, h3⟩ := meth_good (F.meth _ row hrow _ (Z3e hf))
  refine ⟨rfl, .ref fa, fun h => method_fn (ox := ⟨_, _, _, _⟩) (od := some (dictOf es ep)) (X.keeps I.up) ⟨i1, rfl, rfl, hd⟩ (plainGet_of h3).1 (plainGet_of h3).2 h1 h2 ?_ h, fun e => ?_, fun rm f I ro ra e k => CS.sound rm.c f I (.pv (.fn fa)) (.cons ro ra) e k⟩
  ·show (W.lookIn name (dictOf es ep)).map _ = _
   rw [eo.look, at_none i3 hl]; rfl
  ·obtain ⟨a, ha, hk⟩ := CS.keep (show C (.fn fa) _ _ _ = _ from e)
   exact ha.elim (fun q => by cases q; exact .inl ⟨_, rfl, hk⟩) fun q => nomatch q
theorem pre_sound {name : Str} {c : Callee × Hp} (F : PFc g.cfg g.K) (X : g.K.In g.hb) (CS : CallS g n C) (I : Inv g O st σ) (ro : VM g st o u) (e : preM g.cfg o name O σ = some c) : c.2 = σ /\ ∃ f, GetM g st u name f /\ MethS g n C o u c.1 f := by
 replace e : preC g.cfg o name (Z3t name) O σ = some c := e
 revert e
 refine meth_cases name (P := fun name m => preC g.cfg o name m O σ = some c -> c.2 = σ /\ ∃ f, GetM g st u name f /\ MethS g n C o u c.1 f) ?_ ?_ ?_ ?_ ?_ fun e => pre_own F X CS I ro e
 ·intro e
  cases o with
  | pv p => cases p with
   | str s => cases e; exact ro.p.strE (P := fun u => _ = σ /\ ∃ f, GetM g st u "join" f /\ MethS g n C (.pv (.str s)) u (.join s) f) fun t _ => ⟨rfl, _, fun h => GM.join h, fun _ => Z2y, fun _ _ I _ ra e k => call_join I ra e k⟩
   | _ => exact Z0a e
  | _ => exact Z0a e
 ·intro e
  refine oR I ro (show bnd (Z0n o) getCal O σ = some c from e) fun x a d ro f => ?_
  cases x with
  | dct es =>
   obtain ⟨kvs, z, x1, y1⟩ := ro
   cases (show some (Callee.get, σ) = some c from f)
   exact ⟨rfl, _, fun h => getMethod_builtin x1.typeIs PySem.F.plainAttrs_dict PySem.F.slot_dict_get PySem.F.type_dict_get x1.mapOf.noDict h, fun _ => Z2y, fun _ _ I ro ra e k => call_get I ro ra e k⟩
  | _ => exact Z0a f
 ·intro e
  cases o with
  | ref i => exact pre_lst PySem.F.slot_list_pop PySem.F.type_list_pop I ro e ⟨fun _ => Z2y, fun _ _ I ro ra e k => call_pop I ro ra e k⟩
  | pv p => cases p <;> exact Z0a e
  | _ => exact Z0a e
 ·intro e
  cases o with
  | ref i => exact pre_lst PySem.F.slot_list_append PySem.F.type_list_append I ro e ⟨fun _ => Z2y, fun _ _ I ro ra e k => call_append I ro ra e k⟩
  | pv p => cases p <;> exact Z0a e
  | _ => exact Z0a e
 ·intro e
  cases o with
  | ref i => exact pre_lst PySem.F.slot_list_extend PySem.F.type_list_extend I ro e ⟨fun _ => Z2y, fun _ _ I ro ra e k => call_extend I ro ra e k⟩
  | pv p => cases p <;> exact Z0a e
  | _ => exact Z0a e
theorem pre_raw {name : Str} {fa : Addr} {s : Hp} (F : PFc g.cfg g.K) (X : g.K.In g.hb) (I : Inv g O st σ) (ro : VM g st o u) (e : preM g.cfg o name O σ = some (.own fa, s)) : s = σ /\ GetM g st u name (.ref fa) := by
 replace e : preC g.cfg o name (Z3t name) O σ = some (.own fa, s) := e
 revert e
 refine meth_cases name (P := fun name m => preC g.cfg o name m O σ = some (.own fa, s) -> s = σ /\ GetM g st u name (.ref fa)) ?_ ?_ ?_ ?_ ?_ fun e => ?_
 ·intro e
  cases o with
  | pv p => cases p <;> first | exact Z0a e | exact nomatch e
  | _ => exact Z0a e
 ·intro e
  refine bE (show bnd (Z0n o) getCal O σ = some (.own fa, s) from e) fun x t _ f => ?_
  cases x <;> first | exact Z0a f | exact nomatch f
 iterate 3
  ·intro e
   cases o with
   | ref i => exact rR e fun x _ f => oE f fun _ _ f => nomatch f
   | pv p => cases p <;> exact Z0a e
   | _ => exact Z0a e
 ·refine oR I ro (show bnd (Z0n o) (fun x => bnd (ofO (clsOf name x)) fun c => bnd (ofO (methOf g.cfg c name)) fun f => ret (Callee.own f)) O σ = some (Callee.own fa, s) from e) fun x a d ro f => oE f fun cc hc f2 => oE f2 fun fb hf f3 => ?_
  cases (show some (Callee.own fb, σ) = some (.own fa, s) from f3)
  obtain ⟨fs, rfl, hl⟩ := cls_some hc
  obtain ⟨kvs, ⟨sl, i1⟩, i2, i3⟩ := ro
  obtain ⟨es, ep, hd, eo⟩ := Z7z i2
  replace hf : (match g.cfg.cls cc with | some row => look row.meths name | none => none) = some fa := hf
  cases hrow : g.cfg.cls cc with
  | none => rw [hrow] at hf; exact Z0a hf
  | some row =>
   rw [hrow] at hf
   obtain ⟨h1, h2, h3⟩ := meth_good (F.meth _ row hrow _ (Z3e hf))
   refine ⟨rfl, fun h => method_fn (ox := ⟨_, _, _, _⟩) (od := some (dictOf es ep)) (X.keeps I.up) ⟨i1, rfl, rfl, hd⟩ (plainGet_of h3).1 (plainGet_of h3).2 h1 h2 ?_ h⟩
   show (W.lookIn name (dictOf es ep)).map _ = _
   rw [eo.look, at_none i3 hl]; rfl
end
theorem allInts_cons {p : MV} {l : List MV} {xs : List Int} (e : Z1x (p :: l) = some xs) : ∃ x ys, p = .pv (.int x) /\ Z1x l = some ys /\ xs = x :: ys := by
 cases p with
 | pv p => cases p with
  | int x =>
   replace e : (match Z1x l with | some l => some (x :: l) | none => none) = some xs := e
   cases h : Z1x l with
   | none => rw [h] at e; exact Z0a e
   | some ys => rw [h] at e; cases e; exact ⟨x, ys, rfl, rfl, rfl⟩
  | _ => exact Z0a e
 | _ => exact Z0a e
section
variable {O : Z0c} {st : St} {σ σ' : Hp} {A : Around} {n : Nat} {C : Z0j} {E : Value -> Shared -> Prop} {Q : Value -> Shared -> Prop} {x y z o : MV} {u v : Value} {mu : Bool} {l args : List MV} {vs ws : List Value} {i : Nat} {r : MV × Hp}
theorem len_sound (I : Inv g O st σ) (r : VM g st x u) (e : lenM x O σ = some (z, σ')) (k : Aft g O st z σ' Q) : wpAny g.M A (call (.builtin "len") [u]) Q E st.s := by
 replace e : (match Z0w x with | true => bnd (seqM x) fun l => gd (small l) (ret (MV.pv (.int l.length))) | false => bnd (Z0n x) fun o => bnd (ofO (lenO o)) fun n => gd (Nat.ble n lim) (ret (MV.pv (.int n)))) O σ = some (z, σ') := e
 cases ht : Z0w x with
 | true =>
  rw [ht] at e
  refine sR I r e fun l a vs rv hq f => ?_
  have hl : vs.toArray.size = l.length := rv.len
  rcases hq with ⟨_, hx⟩ | ⟨hq, _⟩
  ·refine PyProof.Rows.len_tuple hx.2.is (by have := Z1s (gd1 f); omega) ?_
   rw [hl]; exact (k.ret (gd2 f)).tok I (.pv (.int _ _)) _
  ·exact no_tf (ht.symm.trans hq)
 | false =>
  rw [ht] at e
  refine oR I r e fun o a d ro f => oE f fun m hm f => ?_
  have hs : m <= 1000000 := Nat.le_of_ble_eq_true (gd1 f)
  have k := k.ret (gd2 f)
  cases o with
  | lst l =>
   obtain ⟨vs, x1, y1⟩ := ro
   have hl : vs.toArray.size = m := y1.len.trans (Option.some.inj hm)
   refine PyProof.Rows.len_list x1.is (by omega) ?_
   rw [hl]; exact k.tok I (.pv (.int _ _)) _
  | dct es =>
   obtain ⟨kvs, zz, x1, y1⟩ := ro
   have hl : kvs.length = m := y1.len.trans (Option.some.inj hm)
   refine call_len_dict zz x1 (by omega) ?_
   rw [hl]; exact k.tok I (.pv (.int _ _)) _
  | _ => exact Z0a hm
theorem list_sound (I : Inv g O st σ) (r : VM g st x u) (e : bnd (seqM x) (fun l => Z1w mu l) O σ = some (z, σ')) (k : Aft g O st z σ' Q) : wpAny g.M A (call (.type "list") [u]) Q E st.s := by
 refine sR I r e fun l a vs rv hq f => ?_
 have hlen : vs.toArray.size <= sizeLine := Z3v (mkL_len f rv)
 have fin : ∀ (h' : Heap) c', (∀ b o', st.h.get? b = some o' -> h'.get? b = some o') -> h'.get? st.h.objs.size = some { cls := .type "list", dict := none, data := .seq vs.toArray c', slots := #[] } -> Q (.ref st.h.objs.size) { st.s with heap := h' } := fun h' c' hk hx => list_put I rv f (Z0h _) hk ⟨c', hx⟩ k
 rcases hq with ⟨_, _, m, hx⟩ | ⟨_, m, hx⟩
 ·exact call_list_seq (hsz := hlen) a (.inr rfl) hx rfl rfl fin
 ·exact call_list_seq (hsz := hlen) a (.inl rfl) hx rfl rfl fin
theorem tuple_sound (I : Inv g O st σ) (r : VM g st x u) (e : bnd (seqM x) (fun l => Z4h l) O σ = some (z, σ')) (k : Aft g O st z σ' Q) : wpAny g.M A (call (.type "tuple") [u]) Q E st.s := by
 refine sR I r e fun l a vs rv hq f => ?_
 have k := k.ret (gd2 f)
 rcases hq with ⟨_, hx⟩ | ⟨_, hx⟩
 ·exact call_tuple_same hx.2.is (k.here I (vm_tup hx rv))
 ·refine call_tuple_list hx.is (fun h' hk => ?_) (Nat.le_trans (Nat.le_of_eq rv.len) (Z3v (Z1s (gd1 f))))
  have S := Step.grow (s' := { st.s with heap := h' }) hk
  exact tup_new (st := st.put { st.s with heap := h' }) (I.grow hk rfl rfl) (rv.go S) (k.after S) _
theorem Y1w (I : Inv g O st σ) {es : List (Str × MV)} {a : Addr} {kvs : List (Str × Value)} (zz : (a == sysModules) = false) (x1 : st.h.DictOf g.sk a kvs) (y1 : VMes g st es kvs) (hz : (st.h.objs.size == sysModules) = false)
  (e : Z7r mu es O σ = some (z, σ')) (k : Aft g O st z σ' Q) : wpAny g.M A (call (.type "dict") [.ref a]) Q E st.s :=
 kt_call_dict zz x1 (y1.len ▸ Z3v (Z1s (gd1 e))) fun h' hd hs => dict_put I y1 e (Z0h _) (fun b o q => Z2b hs b (fun z => Z0a ((Z0h _).symm.trans (z ▸ q))) o (Heap.get?_push_of_some _ q)) hz hd k
theorem range_sound (I : Inv g O st σ) {m : Int} {t : Tok} (k : Aft g O st (.pv (.rng m)) σ Q) : wpAny g.M A (call (.type "range") [.int m t]) Q E st.s :=
 call_range_1 (k.new I (Z1v _ _) (.pv (.rng ⟨I.fresh (Z0h _), _, _, _, IsRange.new _ _ _ _ _ _ _⟩)))
theorem str_sound (I : Inv g O st σ) {m : Int} {t : Tok} (hs : Z1d m = true) (ho : okS (Str.ofString (toString m)) = true) (k : Aft g O st (.pv (.str (Str.ofString (toString m)))) σ Q) : wpAny g.M A (call (.type "str") [.int m t]) Q E st.s := by
 have h := Z5k hs
 refine PySem.P.str_of_int ?_ (k.tok I (.pv (.str _ _ (okS_ok ho))) _)
 by_cases h0 : m.natAbs = 0
 ·rw [h0]; decide
 ·exact (Nat.log2_lt h0).mpr (Nat.lt_of_lt_of_le (by omega : m.natAbs < 2 ^ 64) (Nat.pow_le_pow_right (by decide) (by decide)))
end
structure Fb where
 O : Z0c
 A : Around
 n : Nat
 V : List Addr
 W : List Addr
 env : Env
 sc : Scope
 lo : Ow
structure FS (b : Fb) : Prop where
 room : Room b.A b.n
 sub : ∀ a ∈ b.W, a ∈ b.V
 kind : b.env.scope.kind = .function
 glob : b.env.globals = mainGlobals
 bi : b.env.builtins = builtinsNs
 loc : ∀ x, look b.sc.names x = some .local -> b.env.kindOf x = some .local
 gl : ∀ x, look b.sc.names x = some .globalImplicit -> b.env.kindOf x = some .globalImplicit
 cel : ∀ x, look b.sc.names x = some .cell -> b.env.kindOf x = some .cell
 fre : ∀ x, look b.sc.names x = some .free -> b.env.kindOf x = some .cell \/ b.env.kindOf x = some .free
 lf : b.env.locals ∈ b.W
 apart : ∀ x y c, b.env.cells.lookup x = some c -> b.env.cells.lookup y = some c -> x = y
 top : b.lo = .frm -> b.env.frame = some b.env.locals /\ ∀ l, b.A.frames = some l -> ∃ o, l = b.env :: o
inductive CellAt (g : Gl) (b : Fb) (st : St) (ρ : Vars) (x : Str) : Prop
 | mk (c : Addr) (w0 : Option Value) : b.env.cells.lookup x = some c -> c ∈ b.V -> (look b.sc.names x = some .cell -> c ∈ b.W) -> c ≠ b.env.locals -> st.h.IsCell c w0 -> (∀ v, Z2c ρ x = some v -> ∃ u, w0 = some u /\ VM g st v u) -> CellAt g b st ρ x
inductive LocAt (g : Gl) (b : Fb) (st : St) (ρ : Vars) : Prop
 | mk (m : Str -> Option Value) : st.h.Ns b.env.locals m -> (∀ x v, look b.sc.names x = some .local -> Z2c ρ x = some v -> ∃ u, m x = some u /\ VM g st v u) -> LocAt g b st ρ
structure Fm (g : Gl) (b : Fb) (st : St) (ρ : Vars) : Prop where
 fs : FS b
 prv : ∀ a ∈ b.V, Prv (st.own a) /\ ∃ o, st.h.get? a = some o
 ns : LocAt g b st ρ
 cells : ∀ x, look b.sc.names x = some .cell \/ look b.sc.names x = some .free -> CellAt g b st ρ x
 fr : FrA b.A st
 lo : st.own b.env.locals = some b.lo
section
variable {b : Fb} {st st' : St} {σ σ' : Hp} {W : List Addr} {ρ ρ' : Vars} {A : Around} {E : Value -> Shared -> Prop} {Q : Value -> Shared -> Prop} {x : Str} {u : Value} {v z : MV}
theorem CellAt.to (c : CellAt g b st ρ x) (y : Ext st st') (kp : ∀ a ∈ b.V, KpS st.h st'.h a) (hv : ∀ v, Z2c ρ' x = some v -> Z2c ρ x = some v) : CellAt g b st' ρ' x :=
 let ⟨c, w0, e1, e2, e3, e4, ⟨o, e5, e6⟩, e7⟩ := c; let ⟨_, q⟩ := kp c e2 o e5; ⟨c, w0, e1, e2, e3, e4, ⟨_, q, e6⟩, fun v e => let ⟨u, q, r⟩ := e7 v (hv v e); ⟨u, q, r.ext y⟩⟩
theorem LocAt.to (l : LocAt g b st ρ) (y : Ext st st') (kp : KpS st.h st'.h b.env.locals) (hv : ∀ x v, look b.sc.names x = some .local -> Z2c ρ' x = some v -> Z2c ρ x = some v) : LocAt g b st' ρ' :=
 let ⟨m, hn, h⟩ := l; ⟨m, kp.ns hn, fun x v e1 e2 => let ⟨u, q, r⟩ := h x v e1 (hv x v e1 e2); ⟨u, q, r.ext y⟩⟩
theorem Fm.kp (f : Fm g b st ρ) (x : Step W st st') (h : ∀ a ∈ b.V, a ∉ W) : ∀ a ∈ b.V, KpS st.h st'.h a := fun a ha => x.frm (f.prv a ha).1 (h a ha)
theorem Fm.prvK (f : Fm g b st ρ) (x : Step W st st') : ∀ a ∈ b.V, Prv (st'.own a) /\ ∃ o, st'.h.get? a = some o := fun a ha => let ⟨p, o, e⟩ := f.prv a ha; ⟨(x.own a o e).symm ▸ p, x.live a o e⟩
theorem Fm.loK (f : Fm g b st ρ) (x : Step W st st') : st'.own b.env.locals = some b.lo := let ⟨_, o, e⟩ := f.prv _ (f.fs.sub _ f.fs.lf); (x.own _ o e).trans f.lo
theorem Fm.goW (f : Fm g b st ρ) (x : Step W st st') (h : ∀ a ∈ b.V, a ∉ W) : Fm g b st' ρ :=
 have kp := f.kp x h
 ⟨f.fs, f.prvK x, f.ns.to x.ext (kp _ (f.fs.sub _ f.fs.lf)) fun _ _ _ e => e, fun y hy => (f.cells y hy).to x.ext kp fun _ e => e, f.fr.go x, f.loK x⟩
theorem Fm.go (f : Fm g b st ρ) (x : Step [] st st') : Fm g b st' ρ := f.goW x fun _ _ h => nomatch h
theorem Fm.vars (f : Fm g b st ρ) (h : ∀ x, Z2c ρ' x = Z2c ρ x) : Fm g b st ρ' :=
 have y : Ext st st := (Step.refl [] st).ext
 ⟨f.fs, f.prv, f.ns.to y (.of fun _ e => e) fun x _ _ e => (h x) ▸ e, fun x hx => (f.cells x hx).to y (fun _ _ => .of fun _ e => e) fun _ e => (h x) ▸ e, f.fr, f.lo⟩
theorem base_kp (I : Inv g b.O st σ) : Fz g.st0 st := fun a o _ e => I.base a o e
theorem Z5q {x y : Str} (h : Z8w x = true) (hy : Z8w y = false) : (x == y) = false := beq_eq_false_iff_ne.mpr fun e => no_tf ((e ▸ h).symm.trans hy)
theorem Z6f (P : PFw g) (I : Inv g b.O st σ) (f : Fm g b st ρ) {p : PV} {pos : Pos} (hd : (x == ("__debug__" : Str)) = false) (hk : look b.sc.names x = some .globalImplicit) (hg : g.cfg.glob x = some p) (k : ∀ u, VM g st (.pv p) u -> Q u st.s) : wpAny g.M A (eval (.Name x pos) b.env) Q E st.s := by
 obtain ⟨mg, mb, hg1, hb1, hall⟩ := P.names
 obtain ⟨u, vp, hu⟩ := hall x p hg
 have q := k u (.pv (vp.ext (base_kp I)))
 have g1 : st.h.Ns b.env.globals mg := f.fs.glob ▸ hg1.keeps I.up
 refine Calls.Name_function_global f.fs.kind (f.fs.gl x hk) ?_ hd
 rcases hu with hu | ⟨hu, hu'⟩
 ·exact Calls.loadGlobal_global g1 hu q
 ·exact Calls.loadGlobal_builtin g1 hu (f.fs.bi ▸ hb1.keeps I.up) hu' q
theorem name_sound (P : PFw g) (I : Inv g b.O st σ) (f : Fm g b st ρ) {pos : Pos} (e : nameM g.cfg b.sc ρ x b.O σ = some (z, σ')) (k : Aft g b.O st z σ' Q) : wpAny g.M A (eval (.Name x pos) b.env) Q E st.s := by
 have hd : (x == ("__debug__" : Str)) = false := Z5q (gd1 e) (by decide +kernel)
 have hc : (x == ("__classdict__" : Str)) = false := Z5q (gd1 e) (by decide +kernel)
 have e := gd2 e
 cases hk : look b.sc.names x with
 | none => rw [hk] at e; exact Z0a e
 | some kd =>
  rw [hk] at e
  cases kd with
  | «local» =>
   refine k.ofO e fun w h k => ?_
   obtain ⟨m, hns, hv⟩ := f.ns
   obtain ⟨u, h2, r⟩ := hv x w hk h
   exact wpAny_Name (wpAny_loadName_local f.fs.kind (f.fs.loc x hk) hns h2 (k.here I r)) hd
  | cell =>
   refine k.ofO e fun w h k => ?_
   obtain ⟨c, w0, q1, q2, q3, q4, q5, q6⟩ := f.cells x (.inl hk)
   obtain ⟨u, rfl, r⟩ := q6 w h
   exact wpAny_Name (wpAny_loadName_cell f.fs.kind (f.fs.cel x hk) q1 q5 (k.here I r)) hd
  | free =>
   refine k.ofO e fun w h k => ?_
   obtain ⟨c, w0, q1, q2, q3, q4, q5, q6⟩ := f.cells x (.inr hk)
   obtain ⟨u, rfl, r⟩ := q6 w h
   have q := k.here I r
   rcases f.fs.fre x hk with hf | hf
   ·exact wpAny_Name (wpAny_loadName_cell f.fs.kind hf q1 q5 q) hd
   ·exact wpAny_Name (wpAny_loadName_free f.fs.kind hf q1 q5 q hc) hd
  | globalExplicit => exact Z0a e
  | globalImplicit =>
   replace e : (match g.cfg.glob x with | some p => ret (MV.pv p) | none => bad) b.O σ = some (z, σ') := e
   cases hg : g.cfg.glob x with
   | none => rw [hg] at e; exact Z0a e
   | some p => rw [hg] at e; exact Z6f P I f hd hk hg fun u r => (k.ret e).here I r
theorem Z9r {α : Type} {k : Str} {v : α} (y : Str) : ∀ es : List (Str × α), look (put es k v) y = if k = y then some v else look es y
 | [] => Z2v y
 | (k', v') :: r => by
  rw [put_cons]
  by_cases h1 : k' = k
  ·rw [if_pos h1, Z2v, Z2v, h1]
   by_cases h : k = y
   ·rw [if_pos h, if_pos h]
   ·rw [if_neg h, if_neg h, if_neg h]
  ·rw [if_neg h1, Z2v, Z9r y r, Z2v]
   by_cases h : k' = y
   ·rw [if_pos h, if_pos h, if_neg fun q => h1 (h.trans q.symm)]
   ·rw [if_neg h, if_neg h]
theorem Y1g (y : Str) : Z2c (put ρ x (some v)) y = if x = y then some v else Z2c ρ y := by
 unfold Z2c
 rw [Z9r]
 by_cases h : x = y
 ·rw [if_pos h, if_pos h]
 ·rw [if_neg h, if_neg h]
theorem lookV_eq {w : MV} (e : Z2c (put ρ x (some v)) x = some w) : v = w := Option.some.inj ((if_pos rfl).symm.trans ((Y1g x).symm.trans e))
theorem Z7x {y : Str} (h : x ≠ y) : Z2c (put ρ x (some v)) y = Z2c ρ y := (Y1g y).trans (if_neg h)
theorem setVE {sc : Scope} (e : setV sc ρ x v = some ρ') {P : Prop} (k : (look sc.names x = some .local \/ look sc.names x = some .cell) -> (look ρ x).isSome = true -> ρ' = put ρ x (some v) -> P) : P := by
 have pv : putV ρ x v = some ρ' -> (look ρ x).isSome = true /\ ρ' = put ρ x (some v) := fun e => by
  replace e : (match look ρ x with | some _ => some (put ρ x (some v)) | none => none) = some ρ' := e
  cases h : look ρ x with
  | none => rw [h] at e; exact Z0a e
  | some w => rw [h] at e; exact ⟨rfl, (Option.some.inj e).symm⟩
 replace e : (match look sc.names x with | some .local => putV ρ x v | some .cell => putV ρ x v | _ => none) = some ρ' := e
 cases h : look sc.names x with
 | none => rw [h] at e; exact Z0a e
 | some kd =>
  rw [h] at e
  cases kd with
  | «local» => exact k (.inl h) (pv e).1 (pv e).2
  | cell => exact k (.inr h) (pv e).1 (pv e).2
  | _ => exact Z0a e
theorem cell_ns {h : Heap} {c : Addr} {w0 : Option Value} (n : ∃ m, h.Ns c m) (e : h.IsCell c w0) : False := by
 obtain ⟨m, o, es, ep, h1, h2, -⟩ := n
 obtain ⟨o', h3, h4⟩ := e
 cases h1.symm.trans h3
 exact nomatch h2.symm.trans h4
theorem own1 {O : Z0c} (I : Inv g O st σ) {s' : Shared} {a : Addr} (h : Prv (st.own a)) (hk : ∀ c, c ≠ a -> Kp st.h s'.heap c) (hl : ∃ o, s'.heap.get? a = some o) (hF : st.own a = some .frm -> ∃ m, s'.heap.Ns a m) (hg : s'.gens = st.s.gens := by rfl) (ho : s'.os = st.s.os := by rfl) : Inv g O (st.put s') σ :=
 I.own (D := [a]) (fun c hc => List.mem_singleton.mp hc ▸ h) (fun c hc => hk c fun q => hc (List.mem_singleton.mpr q)) (fun c hc => List.mem_singleton.mp hc ▸ hl) (fun c hc => List.mem_singleton.mp hc ▸ hF) hg ho
theorem put1 {s' : Shared} {a : Addr} (hW : a ∈ W) (h : Prv (st.own a)) (hk : ∀ c, c ≠ a -> Kp st.h s'.heap c) (hl : ∃ o, s'.heap.get? a = some o) : Step W st (st.put s') :=
 .put (D := [a]) (fun c hc => List.mem_singleton.mp hc ▸ hW) (fun c hc => List.mem_singleton.mp hc ▸ h) (fun c hc => hk c fun q => hc (List.mem_singleton.mpr q)) (fun c hc => List.mem_singleton.mp hc ▸ hl)
noncomputable def AftS (g : Gl) (b : Fb) (st : St) (ρ : Vars) (σ' : Hp) (Q : Shared -> Prop) : Prop := ∀ st', Inv g b.O st' σ' -> Step b.W st st' -> Fm g b st' ρ -> Q st'.s
variable {Q : Shared -> Prop}
theorem Z6z (I : Inv g b.O st σ) (f : Fm g b st ρ) (r : VM g st v u) (e : setV b.sc ρ x v = some ρ') (k : AftS g b st ρ' σ Q) : wpAny g.M A (storeName b.env x u) (fun _ => Q) E st.s := by
 refine setVE e fun hk _ he => hk.elim (fun hk => ?_) fun hk => ?_
 ·obtain ⟨m, hns, hv⟩ := f.ns
  have hL := f.prv _ (f.fs.sub _ f.fs.lf)
  refine wpAny_storeName_local (f.fs.loc x hk) hns (fun h' hn hs => ?_) (by rw [f.fs.kind]; rfl)
  have kp := Z2b hs
  have hl : ∃ o, h'.get? b.env.locals = some o := let ⟨o, _, _, q, _⟩ := hn; ⟨o, q⟩
  have S : Step b.W st (st.put { st.s with heap := h', toks := st.s.toks + 1 }) := put1 f.fs.lf hL.1 kp hl
  refine k _ (own1 I hL.1 kp hl fun _ => ⟨_, hn⟩) S ⟨f.fs, f.prvK S, ⟨_, hn, fun y w hy hw => ?_⟩, fun y hy => ?_, f.fr.go S, f.loK S⟩
  ·rw [he] at hw
   by_cases q : x = y
   ·subst q; exact ⟨u, if_pos rfl, lookV_eq hw ▸ r.go S⟩
   ·obtain ⟨u', e1, r'⟩ := hv y w hy (Z7x q ▸ hw)
    exact ⟨u', (if_neg (Ne.symm q)).trans e1, r'.go S⟩
  ·obtain ⟨c, w0, e1, e2, e3, e4, e5, e6⟩ := f.cells y hy
   refine ⟨c, w0, e1, e2, e3, e4, e5.sameBut hs e4, fun w hw => ?_⟩
   have q : x ≠ y := fun q => hy.elim (fun h => nomatch (q ▸ hk).symm.trans h) fun h => nomatch (q ▸ hk).symm.trans h
   obtain ⟨u', q, r'⟩ := e6 w (Z7x q ▸ he ▸ hw)
   exact ⟨u', q, r'.go S⟩
 ·obtain ⟨c, w0, e1, e2, e3, e4, e5, e6⟩ := f.cells x (.inl hk)
  have hL := f.prv c e2
  refine wpAny_storeName_cell f.fs.kind (f.fs.cel x hk) e1 e5 fun h' hc hs => ?_
  have kp := Z2b hs
  have hl : ∃ o, h'.get? c = some o := let ⟨o, q, _⟩ := hc; ⟨o, q⟩
  have S : Step b.W st (st.put { st.s with heap := h' }) := put1 (e3 hk) hL.1 kp hl
  refine k _ (own1 I hL.1 kp hl fun q => (cell_ns (I.frms c q) e5).elim) S ⟨f.fs, f.prvK S, ?_, fun y hy => ?_, f.fr.go S, f.loK S⟩
  ·obtain ⟨m, hns, hv⟩ := f.ns
   refine ⟨m, hns.sameBut hs (Ne.symm e4), fun y w hy hw => ?_⟩
   have q : x ≠ y := fun q => nomatch (q ▸ hk).symm.trans hy
   obtain ⟨u', q, r'⟩ := hv y w hy (Z7x q ▸ he ▸ hw)
   exact ⟨u', q, r'.go S⟩
  ·rw [he]
   by_cases q : x = y
   ·subst q; exact ⟨c, _, e1, e2, e3, e4, hc, fun w hw => ⟨u, rfl, lookV_eq hw ▸ r.go S⟩⟩
   ·obtain ⟨c', w1, d1, d2, d3, d4, d5, d6⟩ := f.cells y hy
    refine ⟨c', w1, d1, d2, d3, d4, d5.sameBut hs fun z => q (f.fs.apart x y c e1 (z ▸ d1)), fun w hw => ?_⟩
    obtain ⟨u', q, r'⟩ := d6 w (Z7x q ▸ hw)
    exact ⟨u', q, r'.go S⟩
end
section
theorem mem_iff {x : Str} : ∀ {l : List Str}, mem x l = true ↔ x ∈ l
 | [] => ⟨nofun, nofun⟩
 | y :: r => ⟨mem_some, fun h => by
  show (match Z0g y x with | true => true | false => mem x r) = true
  rcases List.mem_cons.mp h with rfl | h
  ·rw [Z1f]
  ·cases Z0g y x with
   | true => rfl
   | false => exact mem_iff.mpr h⟩
theorem Z2s : ∀ {l : List Str}, Z3x l = true -> l.Nodup
 | [], _ => .nil
 | x :: r, h => by
  replace h : (match mem x r with | true => false | false => Z3x r) = true := h
  cases q : mem x r with
  | true => rw [q] at h; exact Z0y h
  | false => rw [q] at h; exact List.nodup_cons.mpr ⟨fun m => no_tf ((mem_iff.mpr m).symm.trans q), Z2s h⟩
noncomputable def Can (sc : Scope) (ρ : Vars) (x : Str) : Prop := (look sc.names x = some .local \/ look sc.names x = some .cell) /\ (look ρ x).isSome = true
section
variable {sc : Scope} {ρ ρ' : Vars} {x : Str} {v : MV} {xs : List Str} {l : List MV}
theorem setV_of (c : Can sc ρ x) : setV sc ρ x v = some (put ρ x (some v)) := by
 obtain ⟨h1, h2⟩ := c
 have h : putV ρ x v = some (put ρ x (some v)) := by
  show (match look ρ x with | some _ => some (put ρ x (some v)) | none => none) = _
  cases q : look ρ x with
  | some _ => rfl
  | none => rw [q] at h2; exact Z0y h2
 show (match look sc.names x with | some .local => putV ρ x v | some .cell => putV ρ x v | _ => none) = _
 rcases h1 with h1 | h1 <;> rw [h1] <;> exact h
theorem can_put {y : Str} {w : Option MV} (c : Can sc ρ y) : Can sc (put ρ x w) y := ⟨c.1, by
 rw [Z9r]
 by_cases q : x = y
 ·rw [if_pos q]; rfl
 ·rw [if_neg q]; exact c.2⟩
theorem can_of {y : Str} (c : Can sc ρ x) (h : Can sc (put ρ x (some v)) y) : Can sc ρ y := by
 by_cases q : x = y
 ·exact q ▸ c
 ·have h2 := h.2; rw [Z9r, if_neg q] at h2; exact ⟨h.1, h2⟩
theorem setAllE (e : Z2m sc ρ (x :: xs) l = some ρ') {P : Prop} (k : ∀ v r, l = v :: r -> Can sc ρ x -> Z2m sc (put ρ x (some v)) xs r = some ρ' -> P) : P := by
 cases l with
 | nil => exact Z0a e
 | cons v r =>
  replace e : (match setV sc ρ x v with | some ρ' => Z2m sc ρ' xs r | none => none) = some ρ' := e
  cases h : setV sc ρ x v with
  | none => rw [h] at e; exact Z0a e
  | some ρ1 => rw [h] at e; exact setVE h fun h1 h2 h3 => k v r rfl ⟨h1, h2⟩ (h3 ▸ e)
theorem setAll_nil (e : Z2m sc ρ [] l = some ρ') : l = [] /\ ρ' = ρ := by
 cases l with
 | nil => cases e; exact ⟨rfl, rfl⟩
 | cons _ _ => exact Z0a e
theorem Z2p : ∀ {xs : List Str} {l : List MV} {ρ ρ' : Vars}, xs.Nodup -> Z2m sc ρ xs l = some ρ' -> xs.length = l.length /\ (∀ x ∈ xs, Can sc ρ x) /\ (∀ p ∈ xs.zip l, Z2c ρ' p.1 = some p.2) /\ ∀ y, y ∉ xs -> Z2c ρ' y = Z2c ρ y
 | [], l, ρ, ρ', _, e => by
  obtain ⟨rfl, rfl⟩ := setAll_nil e
  exact ⟨rfl, fun _ h => (nomatch h), fun _ h => (nomatch h), fun _ _ => rfl⟩
 | x :: xs, l, ρ, ρ', nd, e => setAllE e fun v r hl c e => by
  have ⟨n1, n2⟩ := List.nodup_cons.mp nd
  obtain ⟨a, b, d, f⟩ := Z2p n2 e
  subst hl
  refine ⟨congrArg (· + 1) a, fun y hy => (List.mem_cons.mp hy).elim (fun q => q ▸ c) fun hy => can_of c (b y hy), fun p hp => ?_, fun y hy => ?_⟩
  ·rcases List.mem_cons.mp hp with rfl | hp
   ·rw [f x n1, Y1g, if_pos rfl]
   ·exact d p hp
  ·have hy := not_or.mp fun h => hy (List.mem_cons.mpr h)
   rw [f y hy.2, Z7x (Ne.symm hy.1)]
theorem setAll_of : ∀ {xs : List Str} {l : List MV} {ρ : Vars}, xs.length = l.length -> (∀ x ∈ xs, Can sc ρ x) -> ∃ ρ', Z2m sc ρ xs l = some ρ'
 | [], [], ρ, _, _ => ⟨ρ, rfl⟩
 | x :: xs, v :: l, ρ, h, c => by
  obtain ⟨ρ', e⟩ := setAll_of (xs := xs) (l := l) (ρ := put ρ x (some v)) (Nat.succ.inj h) fun y hy => can_put (c y (.tail _ hy))
  refine ⟨ρ', ?_⟩
  show (match setV sc ρ x v with | some ρ' => Z2m sc ρ' xs l | none => none) = _
  rw [setV_of (c x (.head _))]; exact e
theorem setAll_rev (nd : xs.Nodup) (e : Z2m sc ρ xs l = some ρ') : ∃ ρ'', Z2m sc ρ xs.reverse l.reverse = some ρ'' /\ ∀ y, Z2c ρ' y = Z2c ρ'' y := by
 obtain ⟨a, b, c, d⟩ := Z2p nd e
 obtain ⟨ρ'', e''⟩ := setAll_of (sc := sc) (ρ := ρ) (xs := xs.reverse) (l := l.reverse) (by simp [a]) fun x hx => b x (List.mem_reverse.mp hx)
 obtain ⟨a', b', c', d'⟩ := Z2p (by rw [List.nodup_iff_pairwise_ne, List.pairwise_reverse]; exact (List.nodup_iff_pairwise_ne.mp nd).imp fun h => Ne.symm h) e''
 refine ⟨ρ'', e'', fun y => ?_⟩
 by_cases hy : y ∈ xs
 ·obtain ⟨i, hi, rfl⟩ := List.mem_iff_getElem.mp hy
  have hl : i < l.length := a ▸ hi
  have m1 : (xs[i], l[i]) ∈ xs.zip l := List.mem_iff_getElem.mpr ⟨i, by simp; omega, by simp⟩
  rw [c _ m1]
  have m2 : (xs[i], l[i]) ∈ xs.reverse.zip l.reverse := List.mem_iff_getElem.mpr ⟨xs.length - 1 - i, by simp; omega, by
   simp only [List.getElem_zip, List.getElem_reverse]
   have h1 : xs.length - 1 - (xs.length - 1 - i) = i := by omega
   have h2 : l.length - 1 - (xs.length - 1 - i) = i := by omega
   simp only [h1, h2]⟩
  rw [c' _ m2]
 ·rw [d y hy, d' y (fun q => hy (List.mem_reverse.mp q))]
end
theorem namesE {e : PySem.Expr} {es : List PySem.Expr} {xs : List Str} (h : names? (e :: es) = some xs) : ∃ x p ys, e = .Name x p /\ names? es = some ys /\ xs = x :: ys := by
 obtain ⟨x, p, rfl⟩ : ∃ x p, e = .Name x p := by cases e <;> first | exact ⟨_, _, rfl⟩ | exact Z0a h
 replace h : (match names? es with | some l => some (x :: l) | none => none) = some xs := h
 cases q : names? es with
 | none => rw [q] at h; exact Z0a h
 | some ys => rw [q] at h; cases h; exact ⟨x, p, ys, rfl, rfl, rfl⟩
inductive Sts (env : Env) : List Str -> List (Value -> Sem Unit) -> Prop
 | nil : Sts env [] []
 | cons {x : Str} {xs : List Str} {t : Value -> Sem Unit} {ts : List (Value -> Sem Unit)} : (∀ (M : Model) (A : Around) (E : Value -> Shared -> Prop) (s : Shared) (Q : Unit -> Shared -> Prop) (u : Value), wpAny M A (storeName env x u) Q E s -> wpAny M A (t u) Q E s) -> Sts env xs ts -> Sts env (x :: xs) (t :: ts)
theorem Sts.binds (env : Env) : ∀ xs : List Str, Sts env xs (xs.map fun n => bindName env n)
 | [] => .nil
 | x :: xs => .cons (fun _ _ _ _ _ _ h => wpAny_bindName h) (Sts.binds env xs)
theorem Sts.each (env : Env) : ∀ {es : List PySem.Expr} {xs : List Str}, names? es = some xs -> Sts env xs ((assignEach es env).map (·.2)) /\ (assignEach es env).findIdx? (·.1) = none /\ (assignEach es env).length = xs.length
 | [], xs, e => by cases e; exact ⟨.nil, rfl, rfl⟩
 | t :: r, xs, e => by
  obtain ⟨x, p, ys, rfl, q, rfl⟩ := namesE e
  obtain ⟨a, b, c⟩ := Sts.each env q
  refine ⟨.cons (fun _ _ _ _ _ _ h => wpAny_assign_Name h) a, ?_, congrArg (· + 1) c⟩
  show List.findIdx? (·.1) ((false, assign (.Name x p) env) :: assignEach r env) = none
  rw [List.findIdx?_cons, b]; rfl
set_option backward.match.sparseCases true in
theorem Z8z {env : Env} {line : Nat} : ∀ {ts : List PySem.Expr} {xs : List Str}, names? ts = some xs -> (ts.filterMap fun t => match t with
  | .Name id pos => if env.kindOf id == some .local && pos.line == line then some id else none
  | _ => none).length <= ts.length /\ ((ts.filterMap fun t => match t with
  | .Name id pos => if env.kindOf id == some .local && pos.line == line then some id else none
  | _ => none).length = ts.length -> (ts.filterMap fun t => match t with
  | .Name id pos => if env.kindOf id == some .local && pos.line == line then some id else none
  | _ => none) = xs)
 | [], xs, e => by cases e; exact ⟨Nat.le_refl _, fun _ => rfl⟩
 | t :: r, xs, e => by
  obtain ⟨x, p, ys, rfl, q, rfl⟩ := namesE e
  obtain ⟨h1, h2⟩ := Z8z (env := env) (line := line) q
  rw [List.filterMap_cons]
  dsimp only
  by_cases c : (env.kindOf x == some .local && p.line == line) = true
  ·rw [if_pos c]
   exact ⟨Nat.succ_le_succ h1, fun h => congrArg (x :: ·) (h2 (Nat.succ.inj h))⟩
  ·rw [if_neg c]
   exact ⟨Nat.le_succ_of_le h1, fun h => absurd (h ▸ h1 : _ <= _) (Nat.not_succ_le_self _)⟩
theorem Z4d {t v : PySem.Expr} {env : Env} (h : ∀ ts k p vs k' p', t = .Tuple ts k p -> v = .Tuple vs k' p' -> False) (h' : ∀ ts p, t ≠ .List ts p) : swappedStores [t] v env = pure none := by
 cases t with
 | Tuple ts k p => cases v with
  | Tuple vs k' p' => exact (h _ _ _ _ _ _ rfl rfl).elim
  | _ => rfl
 | List ts p => exact (h' _ _ rfl).elim
 | _ => rfl
set_option backward.match.sparseCases true in
theorem swap_two {ts vs : List PySem.Expr} {k k' : Nat} {p p' : Pos} {env : Env} {xs : List Str} (hn : names? ts = some xs) (h : Y0j (.Tuple ts k p) (.Tuple vs k' p') = true) :
  swappedStores [.Tuple ts k p] (.Tuple vs k' p') env = pure none \/ swappedStores [.Tuple ts k p] (.Tuple vs k' p') env = pure (some xs) := by
 unfold swappedStores
 dsimp only
 split
 ·exact .inl rfl
 ·split
  ·exact .inl rfl
  ·split
   ·exact .inl rfl
   ·rename_i hlen
    split
    ·exact .inl rfl
    ·rename_i hf
     have hc : vs.all (constantsAlone 8) = false := by
      unfold Y0j at h
      dsimp only at h
      rw [Bool.not_eq_true] at hf
      rw [hf] at h
      simpa using h
     rw [if_neg (by rw [hc]; simp)]
     refine .inr ?_
     have hl : ¬ _ /\ ¬ _ := not_or.mp (fun z => hlen (Bool.or_eq_true_iff.mpr z))
     have := (Z8z (env := env) (line := (ts.head?.map (·.pos.line)).getD 0) hn).2
     have e := this (by have h1 := hl.1; rw [bne_iff_ne, Classical.not_not] at h1; exact h1)
     first
      | exact congrArg (fun l => (pure (some l) : Sem (Option (List Str)))) e
      | (rw [e]; rfl)
section
variable {b : Fb} {A : Around} {n : Nat} {E : Value -> Shared -> Prop}
theorem Z4v {Q : Shared -> Prop} {σ : Hp} {ρ' : Vars} : ∀ {xs : List Str} {ts : List (Value -> Sem Unit)} {l : List MV} {us : List Value} {st : St} {ρ : Vars}, Sts b.env xs ts -> Inv g b.O st σ -> Fm g b st ρ -> VMs g st l us -> Z2m b.sc ρ xs l = some ρ' -> AftS g b st ρ' σ Q -> wpAny g.M A (assignInOrder ts us) (fun _ => Q) E st.s
 | _, _, l, us, st, ρ, .nil, I, f, r, e, k => by
  obtain ⟨rfl, rfl⟩ := setAll_nil e
  cases r
  exact wpAny_pure (k st I (.refl _ _) f)
 | x :: xs, t :: ts, l, us, st, ρ, .cons a c, I, f, r, e, k => setAllE e fun v l' hl h e2 => by
  subst hl
  cases r with | @cons _ u _ us r rs =>
  show wpAny _ _ (do holding us (t u); assignInOrder ts us) _ E st.s
  exact wpAny_bind (wpAny_holding (a _ _ _ _ _ _ (Z6z I f r (setV_of h) fun st1 I1 x1 f1 => Z4v c I1 f1 (VMs.go rs x1) e2 fun st2 I2 x2 f2 => k st2 I2 (x1.trans x2) f2)))
theorem Z5f {st : St} {σ σ' : Hp} {v : MV} {u : Value} {l : List MV} (rm : Room A n) (I : Inv g b.O st σ) (ht : Z0w v = true) (r : VM g st v u) (e : seqM v b.O σ = some (l, σ')) {Q : List Value -> Shared -> Prop}
  (k : σ' = σ -> ∀ st' us, Inv g b.O st' σ -> Step [] st st' -> VMs g st' l us -> Q us st'.s) : wpAny g.M A (unpackItems u l.length none) Q E st.s := by
 refine seq_at I r e fun hσ a vs rv hq => ?_
 rcases hq with ⟨_, hx⟩ | ⟨hq, _⟩
 ·rw [<- show vs.toArray.size = l.length from rv.len]
  refine unpackItems_tuple rm.handled hx.2.is fun h' he => ?_
  have hk : ∀ a, Kp st.h h' a := fun c o q => he c o (fun z => Z0a ((Z0h _).symm.trans (z ▸ q))) q
  have S := Step.grow (s' := { st.s with heap := h' }) hk
  exact k hσ (st.put { st.s with heap := h' }) vs (I.grow hk rfl rfl) S (rv.go S)
 ·exact no_tf (ht.symm.trans hq)
theorem Z5a {st : St} {σ σ' : Hp} {ρ ρ' : Vars} {v : MV} {u : Value} {t : PySem.Expr} {Q : Shared -> Prop} (I : Inv g b.O st σ) (f : Fm g b st ρ) (r : VM g st v u) (rm : Room A n) (e : Z1g t v b.sc ρ b.O σ = some (ρ', σ')) (k : AftS g b st ρ' σ' Q) : wpAny g.M A (assign t b.env u) (fun _ => Q) E st.s := by
 cases t with
 | Name x p =>
  obtain ⟨h1, rfl⟩ := Z8x (show ofO (setV b.sc ρ x v) b.O σ = some (ρ', σ') from e)
  exact wpAny_assign_Name (Z6z I f r h1 k)
 | Tuple es k0 p =>
  replace e : (match names? es with | some xs => bnd (seqM v) fun l => gd (Z0w v && Z3x xs) (ofO (Z2m b.sc ρ xs l)) | none => bad) b.O σ = some (ρ', σ') := e
  cases q : names? es with
  | none => rw [q] at e; exact Z0a e
  | some xs =>
   rw [q] at e
   refine bE e fun l σ1 e1 f1 => gd3 f1 fun ht hd f2 => ?_
   obtain ⟨h2, rfl⟩ := Z8x f2
   obtain ⟨a, c, d⟩ := Sts.each b.env q
   rw [PyProof.Rows.assign_Tuple]
   refine wpAny_bind (wpAny_standAt ?_)
   unfold unpack
   rw [c, d, (Z2p (Z2s hd) h2).1]
   exact wpAny_bind (wpAny_holding (Z5f rm I ht r e1 fun hσ st1 us I1 x1 rv => Z4v a I1 (f.go x1) rv h2 fun st2 I2 x2 f2 => k st2 ((show σ' = σ from hσ) ▸ I2) ((x1.w0 _).trans x2) f2))
 | _ => exact Z0a e
end
end
inductive Kd | l | t
noncomputable def Kd.seq : Kd -> String
 | .l => "list"
 | .t => "tuple"
noncomputable def Kd.it : Kd -> String
 | .l => "list_iterator"
 | .t => "tuple_iterator"
noncomputable def IsSq (k : Kd) (h : Heap) (a : Addr) (xs : Array Value) : Prop := ∃ o, h.get? a = some o /\ o.cls = .type k.seq /\ ∃ n, o.data = .seq xs n
noncomputable def IsIt (k : Kd) (h : Heap) (it a : Addr) (i : Nat) : Prop := ∃ o, h.get? it = some o /\ o.cls = .type k.it /\ o.data = .fields #[.ref a, .int i 0]
theorem IsSq.extBut {k : Kd} {h h' : Heap} {a b : Addr} {xs : Array Value} (x : IsSq k h a xs) (hs : Heap.ExtBut b h h') (hab : a ≠ b) : IsSq k h' a xs := let ⟨o, ho, r⟩ := x; ⟨o, hs a o hab ho, r⟩
theorem IsIt.extBut {k : Kd} {h h' : Heap} {a b c : Addr} {i : Nat} (x : IsIt k h a c i) (hs : Heap.ExtBut b h h') (hab : a ≠ b) : IsIt k h' a c i := let ⟨o, ho, r⟩ := x; ⟨o, hs a o hab ho, r⟩
theorem IsIt.keep {k : Kd} {h h' : Heap} {a c : Addr} {i : Nat} (x : IsIt k h a c i) (e : ∀ o, h.get? a = some o -> h'.get? a = some o) : IsIt k h' a c i := let ⟨o, ho, r⟩ := x; ⟨o, e _ ho, r⟩
theorem IsSq.keep {k : Kd} {h h' : Heap} {a : Addr} {xs : Array Value} (x : IsSq k h a xs) (e : ∀ o, h.get? a = some o -> h'.get? a = some o) : IsSq k h' a xs := let ⟨o, ho, r⟩ := x; ⟨o, e _ ho, r⟩
section
variable {prog : Program} {w : World} {A : Around} {E : Value -> Shared -> Prop} {s : Shared}
theorem sq_iter {k : Kd} {a : Addr} {xs : Array Value} {Q : Value -> Shared -> Prop} (h : IsSq k s.heap a xs) (hQ : Q (.ref s.heap.objs.size) { s with heap := s.heap.push { cls := .type k.it, data := .fields #[.ref a, .int 0 0] } }) : wpAny (model prog w) A (pyIter (.ref a)) Q E s := by
 cases k with
 | l => exact wpAny_pyIter_list h hQ
 | t => exact iter_tuple h hQ
theorem nextOf_t_item {it l : Addr} {i : Nat} {items : Array Value} {x : Value} {Q : Value -> Shared -> Prop} (hit : IsTupIter s.heap it l i) (hl : IsTup s.heap l items) (hx : items[i]? = some x)
  (hQ : ∀ h', IsTupIter h' it l (i + 1) -> Heap.SameBut it s.heap h' -> Q x { s with heap := h' }) : wpAny (model prog w) A (Builtin.SmallTypes.nextOf (.ref it)) Q E s := by
 obtain ⟨o, ho, hc, hd⟩ := id hit
 obtain ⟨ol, hol, _, nl, hdl⟩ := hl
 unfold Builtin.SmallTypes.nextOf
 refine wpAny_bind (wpAny_callSpecial?_slot (name := Str.ofString "__next__") hit.typeIs slot_tupleiter_next
  (wpAny_call_entry slot_tupleiter_next hit.typeIs entry_tupleiter_next ?_ (args_tupleiter_next _)))
 show wpAny _ _ (field (.ref it) 0 >>= _) _ _ s
 refine wpAny_bind (wpAny_field ho hd (x := .ref l) rfl ?_)
 show wpAny _ _ (if (Value.ref l == Value.none) = true then _ else _) _ _ s
 rw [if_neg (show ¬ ((Value.ref l == Value.none) = true) from Bool.false_ne_true)]
 show wpAny _ _ (field (.ref it) 1 >>= _) _ _ s
 refine wpAny_bind (wpAny_field ho hd (x := .int i 0) rfl ?_)
 show wpAny _ _ (seqItems? (.ref l) >>= _) _ _ s
 refine wpAny_bind (wpAny_seqItems hol hdl ?_)
 simp only [Int.toNat_natCast, hx]
 refine wpAny_bind (wpAny_setField ho hd (by simp) (wpAny_pure ⟨x, rfl, wpAny_pure (hQ _ ?_ (Heap.SameBut.update ..))⟩))
 exact ⟨_, Heap.get?_update_self _ ho (Obj.isFreed_of_fields (Obj.data_mapFields hd _)), (Obj.cls_mapFields ..).trans hc, by
  rw [Obj.data_mapFields hd]; simp [rawInt]⟩
theorem nextOf_t_end {it l : Addr} {i : Nat} {items : Array Value} {Q : Value -> Shared -> Prop} (hh : A.handled = none) (hit : IsTupIter s.heap it l i) (hl : IsTup s.heap l items) (hx : items[i]? = none)
  (hE : ∀ h' e, Heap.ExtBut it s.heap h' -> (∃ o, h'.get? e = some o /\ o.cls = .type "StopIteration") -> E (.ref e) { s with heap := h' }) : wpAny (model prog w) A (Builtin.SmallTypes.nextOf (.ref it)) Q E s := by
 obtain ⟨o, ho, hc, hd⟩ := id hit
 obtain ⟨ol, hol, _, nl, hdl⟩ := hl
 unfold Builtin.SmallTypes.nextOf
 refine wpAny_bind (wpAny_callSpecial?_slot (name := Str.ofString "__next__") hit.typeIs slot_tupleiter_next
  (wpAny_call_entry slot_tupleiter_next hit.typeIs entry_tupleiter_next ?_ (args_tupleiter_next _)))
 show wpAny _ _ (field (.ref it) 0 >>= _) _ _ s
 refine wpAny_bind (wpAny_field ho hd (x := .ref l) rfl ?_)
 show wpAny _ _ (if (Value.ref l == Value.none) = true then _ else _) _ _ s
 rw [if_neg (show ¬ ((Value.ref l == Value.none) = true) from Bool.false_ne_true)]
 show wpAny _ _ (field (.ref it) 1 >>= _) _ _ s
 refine wpAny_bind (wpAny_field ho hd (x := .int i 0) rfl ?_)
 show wpAny _ _ (seqItems? (.ref l) >>= _) _ _ s
 refine wpAny_bind (wpAny_seqItems hol hdl ?_)
 simp only [Int.toNat_natCast, hx]
 refine wpAny_bind (wpAny_rule (wpAny_bind (wpAny_setField ho hd (by simp) ?_)))
 show wpAny _ _ (newExc (.type "StopIteration") [] >>= _) _ _ _
 refine wpAny_bind ?_
 simp only [newExc, newTuple]
 refine wpAny_bind (wpAny_newObj_type ?_ (by size_fits))
 refine wpAny_bind (m := firstArgMember _ _) (wpAny_of_eq (a := Value.none) (by first | rfl | (simp only [firstArgMember]; rfl)) ?_)
 refine wpAny_newObj_type ?_ (by size_fits)
 simp only [raiseNew]
 refine wpAny_bind (wpAny_handled ?_)
 first | rw [show A.in1.handled = none from hh] | rw [hh]
 refine wpAny_bind (wpAny_pure (wpAny_throw ?_))
 exact hE _ _ (((Heap.SameBut.update ..).extBut.push _).push _) ⟨_, Heap.get?_push_size _ rfl, rfl⟩
theorem Z7a {k : Kd} {it l : Addr} {i : Nat} {items : Array Value} {x : Value} {Q : Value -> Shared -> Prop} (hit : IsIt k s.heap it l i) (hl : IsSq k s.heap l items) (hx : items[i]? = some x)
  (hQ : ∀ h', IsIt k h' it l (i + 1) -> Heap.SameBut it s.heap h' -> Q x { s with heap := h' }) : wpAny (model prog w) A (Builtin.SmallTypes.nextOf (.ref it)) Q E s := by
 cases k with
 | l => exact wpAny_nextOf_list_item hit hl hx hQ
 | t => exact nextOf_t_item hit hl hx hQ
theorem nextOf_end {k : Kd} {it l : Addr} {i : Nat} {items : Array Value} {Q : Value -> Shared -> Prop} (hh : A.handled = none) (hit : IsIt k s.heap it l i) (hl : IsSq k s.heap l items) (hx : items[i]? = none)
  (hE : ∀ h' e, Heap.ExtBut it s.heap h' -> (∃ o, h'.get? e = some o /\ o.cls = .type "StopIteration") -> E (.ref e) { s with heap := h' }) : wpAny (model prog w) A (Builtin.SmallTypes.nextOf (.ref it)) Q E s := by
 cases k with
 | l => exact wpAny_nextOf_list_end hh hit hl hx hE
 | t => exact nextOf_t_end hh hit hl hx hE
noncomputable def Y2b (prog : Program) (w : World) (A : Around) (t : PySem.Expr) (it : Value) (Qn : Shared -> Prop) (Qs : Value -> Shared -> Prop) (E : Value -> Shared -> Prop) (s : Shared) : Prop :=
 wpAny (model prog w) A (pyNext it) (fun r s₁ => match r with
   | none => Qn s₁
   | some v => wpAny (model prog w) A (letOwnedTupleGo t it v) (fun _ s₂ => Qs v s₂) E s₁) E s
theorem zip_item {ka kb : Kd} {z TI TO i1 i2 l1 l2 : Addr} {k1 k2 : Nat} {xs ys : Array Value} {x y a b : Value} {Q : Value -> Shared -> Prop} (D : ZipApart z TI TO i1 i2 l1 l2)
  (hz : IsZip s.heap z TI TO .none) (hTI : IsPair s.heap TI (.ref i1) (.ref i2)) (hTO : IsPair s.heap TO a b) (h1 : IsIt ka s.heap i1 l1 k1) (h2 : IsIt kb s.heap i2 l2 k2) (hl1 : IsSq ka s.heap l1 xs) (hl2 : IsSq kb s.heap l2 ys) (hx : xs[k1]? = some x) (hy : ys[k2]? = some y)
  (hQ : ∀ h', IsZip h' z TI TO (rawInt s.heap.objs.size) -> IsPair h' TO x y -> IsIt ka h' i1 l1 (k1 + 1) -> IsIt kb h' i2 l2 (k2 + 1) -> IsPair h' s.heap.objs.size x y ->
   (∀ c o, c ≠ z -> c ≠ TO -> c ≠ i1 -> c ≠ i2 -> s.heap.get? c = some o -> h'.get? c = some o) -> Q (.ref s.heap.objs.size) { s with heap := h' }) :
  wpAny (model prog w) A (Builtin.«zip.__next__» ⟨[.ref z], []⟩) (fun fin s' => ∃ v, fin = .done (.ret v) /\ Q v s') E s := by
 show wpAny _ _ (field (.ref z) 2 >>= _) _ _ _
 refine wpAny_bind (wpAny_field hz rfl (x := .bool false) rfl ?_)
 show wpAny _ _ (field (.ref z) 3 >>= _) _ _ _
 refine wpAny_bind (wpAny_field hz rfl (x := .ref TI) rfl (wpAny_bind (wpAny_seqItems hTI rfl ?_)))
 show wpAny _ _ (Builtin.SmallTypes.ownedTupleIsFree (.ref z) >>= _) _ _ _
 refine wpAny_bind ?_
 unfold Builtin.SmallTypes.ownedTupleIsFree
 refine wpAny_bind (wpAny_field hz rfl (x := .none) rfl (wpAny_pure ?_))
 simp only [if_true]
 refine wpAny_bind (wpAny_rule (wpAny_bind (wpAny_field hz rfl (x := .ref TO) rfl (wpAny_bind (wpAny_setField_rec hz (by simp) fun g1 hz1 s1 => ?_)))))
 replace hz1 : IsZip g1 z TI TO .ellipsis := hz1
 refine wpAny_bind ?_
 simp only [List.zipIdx_cons, List.zipIdx_nil, List.forIn_cons, List.forIn_nil]
 refine wpAny_bind (wpAny_bind (wpAny_onRaise ?_))
 show wpAny _ _ (Builtin.SmallTypes.nextOf (.ref i1) >>= _) _ _ _
 refine wpAny_bind (Z7a (h1.extBut s1.extBut D.i1z) (hl1.extBut s1.extBut D.l1z) hx fun g2 h1' s2 => wpAny_pure ?_)
 have t2 : IsPair g2 TO a b := s2.extBut _ _ D.TOi1 (s1.extBut _ _ D.TOz hTO)
 refine wpAny_bind (wpAny_seqItems t2 rfl (wpAny_bind (wpAny_updateSeq_pair t2 fun g3 t3 s3 => ?_)))
 replace t3 : IsPair g3 TO x b := t3
 refine wpAny_bind (wpAny_letGo (wpAny_pure ?_))
 refine wpAny_bind (wpAny_bind (wpAny_onRaise ?_))
 show wpAny _ _ (Builtin.SmallTypes.nextOf (.ref i2) >>= _) _ _ _
 refine wpAny_bind (Z7a (((h2.extBut s1.extBut D.i2z).extBut s2.extBut D.i12.symm).extBut s3.extBut D.TOi2.symm) (((hl2.extBut s1.extBut D.l2z).extBut s2.extBut D.l2i1).extBut s3.extBut D.l2TO) hy fun g4 h2' s4 => wpAny_pure ?_)
 have t4 : IsPair g4 TO x b := s4.extBut _ _ D.TOi2 t3
 refine wpAny_bind (wpAny_seqItems t4 rfl (wpAny_bind (wpAny_updateSeq_pair t4 fun g5 t5 s5 => ?_)))
 replace t5 : IsPair g5 TO x y := t5
 refine wpAny_bind (wpAny_letGo (wpAny_pure (wpAny_pure ?_)))
 refine wpAny_bind (wpAny_seqItems t5 rfl (wpAny_bind (wpAny_newTuple ?_)))
 have sz : g5.objs.size = s.heap.objs.size := by rw [s5.1, s4.1, s3.1, s2.1, s1.1]
 have z5 : IsZip g5 z TI TO .ellipsis := s5.extBut _ _ D.TOz.symm (s4.extBut _ _ D.i2z.symm (s3.extBut _ _ D.TOz.symm (s2.extBut _ _ D.i1z.symm hz1)))
 have k5 : ∀ c o, c ≠ z -> c ≠ TO -> c ≠ i1 -> c ≠ i2 -> s.heap.get? c = some o -> g5.get? c = some o := fun c o c1 c2 c3 c4 e => s5.extBut _ _ c2 (s4.extBut _ _ c4 (s3.extBut _ _ c2 (s2.extBut _ _ c3 (s1.extBut _ _ c1 e))))
 have a5 : IsIt ka g5 i1 l1 (k1 + 1) := ((h1'.extBut s3.extBut D.TOi1.symm).extBut s4.extBut D.i12).extBut s5.extBut D.TOi1.symm
 have b5 : IsIt kb g5 i2 l2 (k2 + 1) := h2'.extBut s5.extBut D.TOi2.symm
 have zlt : z < g5.objs.size := Heap.lt_size z5
 show wpAny _ _ (Builtin.SmallTypes.ownedTupleHandOut (.ref z) (.ref g5.objs.size) >>= _) _ _ _
 refine wpAny_bind ?_
 unfold Builtin.SmallTypes.ownedTupleHandOut
 have z6 : IsZip (g5.push { cls := .type "tuple", data := .seq #[x, y] }) z TI TO .ellipsis := Heap.get?_push_of_some _ z5
 refine wpAny_bind (wpAny_setField_rec z6 (by simp) fun g7 z7 s7 => ?_)
 replace z7 : IsZip g7 z TI TO (rawInt g5.objs.size) := z7
 refine wpAny_setField_rec z7 (by simp) fun g8 z8 s8 => ?_
 replace z8 : IsZip g8 z TI TO (rawInt g5.objs.size) := z8
 have up : ∀ c o, c ≠ z -> g5.get? c = some o -> g8.get? c = some o := fun c o c1 e => s8.extBut _ _ c1 (s7.extBut _ _ c1 (Heap.get?_push_of_some _ e))
 have t8 : IsPair g8 g5.objs.size x y := s8.extBut _ _ (Nat.ne_of_gt zlt) (s7.extBut _ _ (Nat.ne_of_gt zlt) (Heap.get?_push_size _ rfl))
 rw [sz] at z8 t8
 refine wpAny_pure ⟨_, rfl, ?_⟩
 show Q (.ref g5.objs.size) _
 rw [sz]
 exact hQ g8 z8 (up _ _ D.TOz t5) (a5.keep fun o e => up _ o D.i1z e) (b5.keep fun o e => up _ o D.i2z e) t8 fun c o c1 c2 c3 c4 e => up c o c1 (k5 c o c1 c2 c3 c4 e)
theorem zip_end {ka kb : Kd} {z TI TO i1 i2 l1 l2 : Addr} {k1 k2 : Nat} {xs ys : Array Value} {a b : Value} {Q : Fin -> Shared -> Prop} (hh : A.handled = none) (D : ZipApart z TI TO i1 i2 l1 l2)
  (hz : IsZip s.heap z TI TO .none) (hTI : IsPair s.heap TI (.ref i1) (.ref i2)) (hTO : IsPair s.heap TO a b) (h1 : IsIt ka s.heap i1 l1 k1) (h2 : IsIt kb s.heap i2 l2 k2) (hl1 : IsSq ka s.heap l1 xs) (hl2 : IsSq kb s.heap l2 ys) (hend : xs[k1]? = none \/ ys[k2]? = none)
  (hE : ∀ h' e, (∀ c o, c ≠ z -> c ≠ TO -> c ≠ i1 -> c ≠ i2 -> s.heap.get? c = some o -> h'.get? c = some o) -> (∃ o, h'.get? e = some o /\ o.cls = .type "StopIteration") -> E (.ref e) { s with heap := h' }) :
  wpAny (model prog w) A (Builtin.«zip.__next__» ⟨[.ref z], []⟩) Q E s := by
 show wpAny _ _ (field (.ref z) 2 >>= _) _ _ _
 refine wpAny_bind (wpAny_field hz rfl (x := .bool false) rfl ?_)
 show wpAny _ _ (field (.ref z) 3 >>= _) _ _ _
 refine wpAny_bind (wpAny_field hz rfl (x := .ref TI) rfl (wpAny_bind (wpAny_seqItems hTI rfl ?_)))
 show wpAny _ _ (Builtin.SmallTypes.ownedTupleIsFree (.ref z) >>= _) _ _ _
 refine wpAny_bind ?_
 unfold Builtin.SmallTypes.ownedTupleIsFree
 refine wpAny_bind (wpAny_field hz rfl (x := .none) rfl (wpAny_pure ?_))
 simp only [if_true]
 refine wpAny_bind (wpAny_rule (wpAny_bind (wpAny_field hz rfl (x := .ref TO) rfl (wpAny_bind (wpAny_setField_rec hz (by simp) fun g1 hz1 s1 => ?_)))))
 replace hz1 : IsZip g1 z TI TO .ellipsis := hz1
 refine wpAny_bind ?_
 simp only [List.zipIdx_cons, List.zipIdx_nil, List.forIn_cons, List.forIn_nil]
 refine wpAny_bind (wpAny_bind (wpAny_onRaise ?_))
 show wpAny _ _ (Builtin.SmallTypes.nextOf (.ref i1) >>= _) _ _ _
 cases hx : xs[k1]? with
 | none =>
  refine wpAny_bind (nextOf_end hh (h1.extBut s1.extBut D.i1z) (hl1.extBut s1.extBut D.l1z) hx fun g2 e s2 he => ?_)
  obtain ⟨oe, hoe, hce⟩ := he
  have z2 : IsZip g2 z TI TO .ellipsis := s2 _ _ D.i1z.symm hz1
  have hez : e ≠ z := fun x => by subst x; rw [z2] at hoe; cases hoe; simp at hce
  exact wpAny_setField_rec z2 (by simp) fun g3 _ s3 => hE g3 e (fun c o c1 _ c3 _ x => s3.extBut _ _ c1 (s2 _ _ c3 (s1.extBut _ _ c1 x))) ⟨oe, s3.extBut _ _ hez hoe, hce⟩
 | some x =>
  have hy : ys[k2]? = none := by
   rcases hend with h | h
   ·rw [hx] at h; cases h
   ·exact h
  refine wpAny_bind (Z7a (h1.extBut s1.extBut D.i1z) (hl1.extBut s1.extBut D.l1z) hx fun g2 h1' s2 => wpAny_pure ?_)
  have t2 : IsPair g2 TO a b := s2.extBut _ _ D.TOi1 (s1.extBut _ _ D.TOz hTO)
  refine wpAny_bind (wpAny_seqItems t2 rfl (wpAny_bind (wpAny_updateSeq_pair t2 fun g3 t3 s3 => ?_)))
  refine wpAny_bind (wpAny_letGo (wpAny_pure ?_))
  refine wpAny_bind (wpAny_bind (wpAny_onRaise ?_))
  show wpAny _ _ (Builtin.SmallTypes.nextOf (.ref i2) >>= _) _ _ _
  refine wpAny_bind (nextOf_end hh (((h2.extBut s1.extBut D.i2z).extBut s2.extBut D.i12.symm).extBut s3.extBut D.TOi2.symm) (((hl2.extBut s1.extBut D.l2z).extBut s2.extBut D.l2i1).extBut s3.extBut D.l2TO) hy fun g4 e s4 he => ?_)
  obtain ⟨oe, hoe, hce⟩ := he
  have z4 : IsZip g4 z TI TO .ellipsis := s4 _ _ D.i2z.symm (s3.extBut _ _ D.TOz.symm (s2.extBut _ _ D.i1z.symm hz1))
  have hez : e ≠ z := fun x => by subst x; rw [z4] at hoe; cases hoe; simp at hce
  exact wpAny_setField_rec z4 (by simp) fun g5 _ s5 => hE g5 e (fun c o c1 c2 c3 c4 x => s5.extBut _ _ c1 (s4 _ _ c4 (s3.extBut _ _ c2 (s2.extBut _ _ c3 (s1.extBut _ _ c1 x))))) ⟨oe, s5.extBut _ _ hez hoe, hce⟩
theorem take_zip {ka kb : Kd} {z TI TO i1 i2 l1 l2 : Addr} {k1 k2 : Nat} {xs ys : Array Value} {x y a b : Value} {es : List PySem.Expr} {k0 : Nat} {p : Pos} {Qn : Shared -> Prop} {Qs : Value -> Shared -> Prop} (D : ZipApart z TI TO i1 i2 l1 l2)
  (hz : IsZip s.heap z TI TO .none) (hTI : IsPair s.heap TI (.ref i1) (.ref i2)) (hTO : IsPair s.heap TO a b) (h1 : IsIt ka s.heap i1 l1 k1) (h2 : IsIt kb s.heap i2 l2 k2) (hl1 : IsSq ka s.heap l1 xs) (hl2 : IsSq kb s.heap l2 ys) (hx : xs[k1]? = some x) (hy : ys[k2]? = some y)
  (hQ : ∀ h' T, IsZip h' z TI TO .none -> IsPair h' TO x y -> IsIt ka h' i1 l1 (k1 + 1) -> IsIt kb h' i2 l2 (k2 + 1) -> IsPair h' T x y -> s.heap.get? T = none ->
   (∀ c o, c ≠ z -> c ≠ TO -> c ≠ i1 -> c ≠ i2 -> s.heap.get? c = some o -> h'.get? c = some o) -> Qs (.ref T) { s with heap := h' }) : Y2b prog w A (.Tuple es k0 p) (.ref z) Qn Qs E s := by
 have hT : s.TypeIs (.ref z) "zip" := ⟨_, hz, rfl⟩
 unfold Y2b pyNext
 refine wpAny_bind (wpAny_attempt (wpAny_callSpecial?_slot (name := Str.ofString "__next__") hT F.slot_zip_next
  (wpAny_call_entry F.slot_zip_next hT F.entry_zip_next (zip_item D hz hTI hTO h1 h2 hl1 hl2 hx hy fun h' a1 a2 a3 a4 a5 a6 => wpAny_pure ?_) (F.args_zip_next_1 _))))
 dsimp only
 have hTz : s.heap.objs.size ≠ z := fun q => by have := Heap.lt_size hz; rw [<- q] at this; exact Nat.lt_irrefl _ this
 refine wpAny_letOwnedTupleGo_zip a1 fun h2 b1 b2 => hQ h2 _ b1 (b2.extBut _ _ D.TOz a2) (a3.keep fun o e => b2.extBut _ o D.i1z e) (a4.keep fun o e => b2.extBut _ o D.i2z e) (b2.extBut _ _ hTz a5) (Z0h _) fun c o c1 c2 c3 c4 e => b2.extBut _ _ c1 (a6 c o c1 c2 c3 c4 e)
theorem end_zip {ka kb : Kd} {z TI TO i1 i2 l1 l2 : Addr} {k1 k2 : Nat} {xs ys : Array Value} {a b : Value} {t : PySem.Expr} {Qn : Shared -> Prop} {Qs : Value -> Shared -> Prop} (hh : A.handled = none) (D : ZipApart z TI TO i1 i2 l1 l2)
  (hz : IsZip s.heap z TI TO .none) (hTI : IsPair s.heap TI (.ref i1) (.ref i2)) (hTO : IsPair s.heap TO a b) (h1 : IsIt ka s.heap i1 l1 k1) (h2 : IsIt kb s.heap i2 l2 k2) (hl1 : IsSq ka s.heap l1 xs) (hl2 : IsSq kb s.heap l2 ys) (hend : xs[k1]? = none \/ ys[k2]? = none)
  (hQ : ∀ h', (∀ c o, c ≠ z -> c ≠ TO -> c ≠ i1 -> c ≠ i2 -> s.heap.get? c = some o -> h'.get? c = some o) -> Qn { s with heap := h' }) : Y2b prog w A t (.ref z) Qn Qs E s := by
 have hT : s.TypeIs (.ref z) "zip" := ⟨_, hz, rfl⟩
 unfold Y2b pyNext
 refine wpAny_bind (wpAny_attempt (wpAny_callSpecial?_slot (name := Str.ofString "__next__") hT F.slot_zip_next
  (wpAny_call_entry F.slot_zip_next hT F.entry_zip_next (zip_end hh D hz hTI hTO h1 h2 hl1 hl2 hend fun h' e hk he => ?_) (F.args_zip_next_1 _))))
 obtain ⟨o, ho, hc⟩ := he
 refine wpAny_bind (wpAny_isInstance (T := "StopIteration") (b := true) ⟨o, ho, hc⟩ isSubtype_stop ?_)
 exact wpAny_pure (hQ _ hk)
end
inductive ItL (g : Gl) (st : St) (l : List MV) : List Addr -> Value -> Prop
 | tup {i t k : Nat} {vs : List Value} : FT st t vs -> IsTupIter st.h i t k -> VMs g st l (vs.drop k) -> ItL g st l [i] (.ref i)
 | lst {i t k : Nat} {vs : List Value} : FL st t vs -> st.h.IsListIter i t k -> VMs g st l (vs.drop k) -> ItL g st l [i] (.ref i)
 | rng {i k : Nat} {x : Int} : l = Z3m k x -> IsRangeIter st.h i x k 1 -> ItL g st l [i] (.ref i)
inductive ItZ (g : Gl) (st : St) (l : List MV) : List Addr -> Value -> Prop
 | zip {ka kb : Kd} {z TI TO i1 i2 l1 l2 : Addr} {k1 k2 : Nat} {vs1 vs2 : List Value} {a b : Value} {la lb : List MV} : l = zipL la lb -> ZipApart z TI TO i1 i2 l1 l2 -> IsZip st.h z TI TO .none -> IsPair st.h TI (.ref i1) (.ref i2) -> IsPair st.h TO a b -> IsIt ka st.h i1 l1 k1 -> IsIt kb st.h i2 l2 k2 ->
   (IsSq ka st.h l1 vs1.toArray /\ st.own l1 = none) -> (IsSq kb st.h l2 vs2.toArray /\ st.own l2 = none) -> VMs g st la (vs1.drop k1) -> VMs g st lb (vs2.drop k2) -> ItZ g st l [z, TI, TO, i1, i2] (.ref z)
inductive ItR (g : Gl) (st : St) (v : MV) (k : Nat) : List Addr -> Value -> Prop
 | mk {i t : Nat} : VM g st v (.ref t) -> st.h.IsListIter i t k -> ItR g st v k [i] (.ref i)
inductive LS | fx (l : List MV) | lv (v : MV) (m k : Nat)
noncomputable def LS.run {α : Type} (f : MV -> α -> Mm (Option MV × α)) (l : LS) : α -> Mm (Option MV × α) := match l with
 | .fx l => Z6j f l
 | .lv v m k => Z7c f v m k
noncomputable def LS.sz : LS -> Nat
 | .fx l => l.length
 | .lv _ m _ => m
noncomputable def ItA (g : Gl) (st : St) (zp : Bool) (l : LS) (T : List Addr) (it : Value) : Prop := match l with
 | .fx l => (match zp with | true => ItZ g st l T it | false => ItL g st l T it)
 | .lv v _ k => ItR g st v k T it
noncomputable def isZ : Src -> Bool
 | .zipped _ => true
 | _ => false
noncomputable def itemsOf : Src -> LS
 | .items l => .fx l
 | .zipped l => .fx l
 | .live v => .lv v 1000 0
noncomputable def Took (g : Gl) (O : Z0c) (st : St) (σ : Hp) (T : List Addr) (zp : Bool) (l : LS) (it : Value) (x : MV) (Q : Value -> Shared -> Prop) : Prop := ∀ st' u, Inv g O st' σ -> Step T st st' -> VM g st' x u -> ItA g st' zp l T it -> Q u st'.s
noncomputable def AftSrc (g : Gl) (O : Z0c) (st : St) (src : Src) (σ' : Hp) (Q : Value -> Shared -> Prop) : Prop := ∀ st' it T, Inv g O st' σ' -> Step [] st st' -> (∀ a ∈ T, st.h.get? a = none /\ st'.own a = some .priv) -> ItA g st' (isZ src) (itemsOf src) T it -> Q it st'.s
theorem isq_fz {k : Kd} {st st' : St} {a : Addr} {xs : Array Value} (x : Fz st st') (h : IsSq k st.h a xs /\ st.own a = none) : IsSq k st'.h a xs /\ st'.own a = none := let ⟨⟨o, e, r⟩, n⟩ := h; have y := x a o n e; ⟨⟨o, y.1, r⟩, y.2⟩
section
variable {O : Z0c} {st st' : St} {σ σ' : Hp} {A : Around} {n : Nat} {E : Value -> Shared -> Prop} {x : MV} {l : List MV} {vs : List Value} {W T : List Addr} {it : Value} {zp : Bool} {t : PySem.Expr}
theorem ItA.go {ls : LS} (i : ItA g st zp ls T it) (x : Step W st st') (kT : ∀ a ∈ T, Kp st.h st'.h a) : ItA g st' zp ls T it := by
 have fz := x.ext.fz
 cases ls with
 | lv v m k => cases i with | mk r hi => exact .mk (r.go x) (let ⟨o, q, r⟩ := hi; ⟨o, kT _ (.head _) o q, r⟩)
 | fx l =>
 cases zp with
 | false => cases i with
  | tup h hi r => exact .tup (h.ext fz) (let ⟨o, q, r⟩ := hi; ⟨o, kT _ (.head _) o q, r⟩) (r.go x)
  | lst h hi r => exact .lst (h.ext fz) (let ⟨o, q, r⟩ := hi; ⟨o, kT _ (.head _) o q, r⟩) (r.go x)
  | rng e hi => exact .rng e (kT _ (.head _) _ hi)
 | true => cases i with
  | zip e D hz hTI hTO h1 h2 hl1 hl2 ra rb =>
   exact .zip e D (kT _ (.head _) _ hz) (kT _ (.tail _ (.head _)) _ hTI) (kT _ (.tail _ (.tail _ (.head _))) _ hTO) (h1.keep fun o q => kT _ (.tail _ (.tail _ (.tail _ (.head _)))) o q) (h2.keep fun o q => kT _ (.tail _ (.tail _ (.tail _ (.tail _ (.head _))))) o q) (isq_fz fz hl1) (isq_fz fz hl2) (ra.go x) (rb.go x)
set_option backward.match.sparseCases true in
theorem Z4t {s : Shared} {i : Addr} {v : Value} {Q : Unit -> Shared -> Prop} {o : Obj} {nm : String} {fs : Array Value} (ho : s.heap.get? i = some o) (hc : o.cls = .type nm) (hd : o.data = .fields fs)
  (hn : (["enumerate", "zip", "dict_itemiterator", "dict_reverseitemiterator", "odict_iterator", "itertools.zip_longest", "itertools.pairwise"] : List String).contains nm = false) (h : Q () s) : wpAny g.M A (letOwnedTupleGo t (.ref i) v) Q E s := by
 have key : ∀ {t : PySem.Expr}, (letOwnedTupleGo t (.ref i) v = (do
   let (.ref r, .ref a) := (Value.ref i, v) | return
   let o <- load r
   match o.cls, o.data with
   | .type n, .fields vs =>
    if ["enumerate", "zip", "dict_itemiterator", "dict_reverseitemiterator", "odict_iterator", "itertools.zip_longest", "itertools.pairwise"].contains n && vs[0]? == some (rawInt a) then
     rule "for.unpacks-the-owned-tuple"
     updateField r 0 .none
   | _, _ => pure ())) -> wpAny g.M A (letOwnedTupleGo t (.ref i) v) Q E s := by
  intro t e
  rw [e]
  cases v with
  | ref a =>
   refine wpAny_bind (wpAny_load ho ?_)
   rw [hc, hd]
   dsimp only
   rw [hn]
   exact wpAny_pure h
  | _ => exact wpAny_pure h
 cases t with
 | Tuple _ _ _ => exact key rfl
 | List _ _ => exact key rfl
 | _ => exact wpAny_pure h
theorem ls_drop {k : Nat} (r : VMs g st (x :: l) (vs.drop k)) : ∃ u, vs.toArray[k]? = some u /\ VM g st x u /\ VMs g st l (vs.drop (k + 1)) := by
 generalize e : vs.drop k = ws at r
 cases r with
 | @cons _ u _ ws a b =>
  have hk : k < vs.length := Nat.lt_of_not_le fun h => nomatch (List.drop_eq_nil_of_le h).symm.trans e
  rw [List.drop_eq_getElem_cons hk] at e
  cases e
  exact ⟨_, (List.getElem?_toArray ..).trans (List.getElem?_eq_getElem hk), a, b⟩
theorem ls_nil {k : Nat} (r : VMs g st [] (vs.drop k)) : vs.toArray[k]? = none := by
 generalize e : vs.drop k = ws at r
 cases r
 exact (List.getElem?_toArray ..).trans (List.getElem?_eq_none (List.drop_eq_nil_iff.mp e))
variable {Qn : Shared -> Prop} {Qs : Value -> Shared -> Prop}
theorem own_one (I : Inv g O st σ) {s' : Shared} {i : Addr} (h : st.own i = some .priv) (hk : ∀ c, c ≠ i -> Kp st.h s'.heap c) (hl : ∃ o, s'.heap.get? i = some o) (hg : s'.gens = st.s.gens := by rfl) (ho : s'.os = st.s.os := by rfl) : Inv g O (st.put s') σ /\ Step [i] st (st.put s') :=
 ⟨own1 I (.inl h) hk hl (fun q => nomatch h.symm.trans q) hg ho, put1 (.head _) (.inl h) hk hl⟩
theorem take_cons (I : Inv g O st σ) (hT : ∀ a ∈ T, st.own a = some .priv) (i : ItL g st (x :: l) T it) (k : Took g O st σ T false (.fx l) it x Qs) : Y2b g.prog g.w A t it Qn Qs E st.s := by
 cases i with
 | @tup i t' k0 vs h hi hr =>
  obtain ⟨u, h1, r1, r2⟩ := ls_drop hr
  refine next_tuple_item hi h.2.is h1 fun h' hi' hs => ?_
  obtain ⟨o, ho, hc, hd⟩ := id hi'
  obtain ⟨I', S⟩ := own_one (s' := { st.s with heap := h' }) I (hT i (.head _)) (Z2b hs) ⟨o, ho⟩
  exact Z4t ho hc hd (by decide) (k (st.put { st.s with heap := h' }) u I' S (r1.go S) (.tup (h.ext S.ext.fz) hi' (r2.go S)))
 | @lst i t' k0 vs h hi hr =>
  obtain ⟨u, h1, r1, r2⟩ := ls_drop hr
  refine wpAny_pyNext_list_item hi h.2.is h1 fun h' hi' hs => ?_
  obtain ⟨o, ho, hc, hd⟩ := id hi'
  obtain ⟨I', S⟩ := own_one (s' := { st.s with heap := h' }) I (hT i (.head _)) (Z2b hs) ⟨o, ho⟩
  exact Z4t ho hc hd (by decide) (k (st.put { st.s with heap := h' }) u I' S (r1.go S) (.lst (h.ext S.ext.fz) hi' (r2.go S)))
 | @rng i m y e hi =>
  cases m with
  | zero => exact nomatch e
  | succ m =>
   cases e
   refine wpAny_pyNext_range_item hi (by omega) fun h' hi' hs => ?_
   obtain ⟨I', S⟩ := own_one (s' := { st.s with heap := h', toks := st.s.toks + 1 }) I (hT i (.head _)) (Z2b hs) ⟨_, hi'⟩
   refine Z4t hi' rfl rfl (by decide) (k (st.put { st.s with heap := h', toks := st.s.toks + 1 }) _ I' S (.pv (.int _ _)) (.rng rfl ?_))
   rwa [show ((m + 1 : Nat) : Int) - 1 = (m : Int) by omega] at hi'
theorem take_nil (rm : Room A n) (i : ItL g st [] T it) (k : ∀ h', (∀ a, a ∉ T -> Kp st.h h' a) -> Qn { st.s with heap := h' }) : Y2b g.prog g.w A t it Qn Qs E st.s := by
 cases i with
 | tup h hi hr => exact next_tuple_end rm.handled hi h.2.is (ls_nil hr) fun h' hs => k h' fun b nb o q => hs b o (fun z => nb (z ▸ .head _)) q
 | lst h hi hr => exact wpAny_pyNext_list_end rm.handled hi h.2.is (ls_nil hr) fun h' hs => k h' fun b nb o q => hs b o (fun z => nb (z ▸ .head _)) q
 | @rng i m y e hi =>
  cases m with
  | succ m => exact nomatch e
  | zero => exact wpAny_pyNext_range_end rm.handled hi (Int.le_refl 0) fun h' hs => k h' fun b nb o q => hs b o (fun z => nb (z ▸ .head _)) q
theorem zipL_nil {la lb : List MV} (h : la = [] \/ lb = []) : zipL la lb = [] := by
 rcases h with rfl | rfl
 ·rfl
 ·cases la <;> rfl
theorem zip_turn (rm : Room A n) (I : Inv g O st σ) (ht : Z3b t = true) (hT : ∀ a ∈ T, st.own a = some .priv) (i : ItZ g st l T it) (kn : l = [] -> ∀ h', (∀ a, a ∉ T -> Kp st.h h' a) -> Qn { st.s with heap := h' })
  (k : ∀ x l', l = x :: l' -> Took g O st σ T true (.fx l') it x Qs) : Y2b g.prog g.w A t it Qn Qs E st.s := by
 obtain ⟨es, k0, p, rfl⟩ : ∃ es k0 p, t = .Tuple es k0 p := by
  cases t with
  | Tuple es k0 p => exact ⟨es, k0, p, rfl⟩
  | _ => exact Z0y ht
 cases i with
 | @zip ka kb z TI TO i1 i2 l1 l2 k1 k2 vs1 vs2 a b la lb e D hz hTI hTO h1 h2 hl1 hl2 ra rb =>
  have hk : ∀ {h' : Heap}, (∀ c o, c ≠ z -> c ≠ TO -> c ≠ i1 -> c ≠ i2 -> st.h.get? c = some o -> h'.get? c = some o) -> ∀ c, c ∉ [z, TI, TO, i1, i2] -> Kp st.h h' c := fun ck c nb o q => ck c o (fun z => nb (z ▸ .head _)) (fun z => nb (z ▸ .tail _ (.tail _ (.head _)))) (fun z => nb (z ▸ .tail _ (.tail _ (.tail _ (.head _))))) (fun z => nb (z ▸ .tail _ (.tail _ (.tail _ (.tail _ (.head _)))))) q
  cases la with
  | nil => exact end_zip rm.handled D hz hTI hTO h1 h2 hl1.1 hl2.1 (.inl (ls_nil ra)) fun h' ck => kn (e.trans (zipL_nil (.inl rfl))) h' (hk ck)
  | cons x la =>
   cases lb with
   | nil => exact end_zip rm.handled D hz hTI hTO h1 h2 hl1.1 hl2.1 (.inr (ls_nil rb)) fun h' ck => kn (e.trans (zipL_nil (.inr rfl))) h' (hk ck)
   | cons y lb =>
    obtain ⟨u, hu, ru, ra'⟩ := ls_drop ra
    obtain ⟨v, hv, rv, rb'⟩ := ls_drop rb
    refine take_zip D hz hTI hTO h1 h2 hl1.1 hl2.1 hu hv fun h' T c1 c2 c3 c4 c5 c6 ck => ?_
    have hk := hk ck
    have cTI : IsPair h' TI (.ref i1) (.ref i2) := ck _ _ D.TIz D.TITO D.TIi1 D.TIi2 hTI
    have hl : ∀ a ∈ [z, TI, TO, i1, i2], ∃ o, h'.get? a = some o := fun a ha =>
     (List.mem_cons.mp ha).elim (fun q => q ▸ ⟨_, c1⟩) fun ha => (List.mem_cons.mp ha).elim (fun q => q ▸ ⟨_, cTI⟩) fun ha => (List.mem_cons.mp ha).elim (fun q => q ▸ ⟨_, c2⟩) fun ha => (List.mem_cons.mp ha).elim (fun q => q ▸ let ⟨o, q, _⟩ := c3; ⟨o, q⟩) fun ha => List.mem_singleton.mp ha ▸ let ⟨o, q, _⟩ := c4; ⟨o, q⟩
    have S : Step [z, TI, TO, i1, i2] st (st.put { st.s with heap := h' }) := .put (fun _ h => h) (fun a h => .inl (hT a h)) hk hl
    exact k _ _ e (st.put { st.s with heap := h' }) _ (I.own (fun a h => .inl (hT a h)) hk hl (fun a h q => nomatch (hT a h).symm.trans q) rfl rfl) S (vm_tup ⟨I.fresh c6, 0, c5⟩ (.cons (ru.go S) (.cons (rv.go S) .nil))) (.zip rfl D c1 cTI c2 c3 c4 (isq_fz S.ext.fz hl1) (isq_fz S.ext.fz hl2) (ra'.go S) (rb'.go S))
theorem rest_turn {α : Type} (rm : Room A n) (I : Inv g O st σ) (hT : ∀ a ∈ T, st.own a = some .priv) {f : MV -> α -> Mm (Option MV × α)} {a : α} {r : Option MV × α} {l : LS} (ht : zp = true -> Z3b t = true) (i : ItA g st zp l T it) (e : l.run f a O σ = some (r, σ'))
  (hn : r = (none, a) -> σ' = σ -> ∀ h', (∀ a, a ∉ T -> Kp st.h h' a) -> Qn { st.s with heap := h' })
  (hs : ∀ x l' b r1 σ1, f x a O σ = some ((r1, b), σ1) -> (r1 = none -> l'.sz < l.sz /\ l'.run f b O σ1 = some (r, σ')) -> (∀ v, r1 = some v -> r = (some v, b) /\ σ' = σ1) -> Took g O st σ T zp l' it x Qs) : Y2b g.prog g.w A t it Qn Qs E st.s := by
 have turn : ∀ {x : MV} {l' : LS}, l'.sz < l.sz -> bnd (f x a) (fun t => match t with | (none, a') => l'.run f a' | (some v, a') => ret (some v, a')) O σ = some (r, σ') -> Took g O st σ T zp l' it x Qs := fun {x l'} lt e => bE e fun t s e1 e2 => by
  obtain ⟨r1, b⟩ := t
  refine hs x l' b r1 s e1 (fun q => ?_) fun v q => ?_
  ·subst q; exact ⟨lt, e2⟩
  ·subst q; have q := Z0q (show ret (some v, b) O s = some (r, σ') from e2); exact ⟨q.1.symm, q.2.symm⟩
 have over : ret (none, a) O σ = some (r, σ') -> ∀ h', (∀ a, a ∉ T -> Kp st.h h' a) -> Qn { st.s with heap := h' } := fun e => have q := Z0q e; hn q.1.symm q.2.symm
 cases l with
 | lv v m k =>
  cases m with
  | zero => exact Z0a e
  | succ m =>
   cases i with
   | @mk i t' rv hi =>
    refine bE (show bnd (Z0n v) (fun o => bnd (lstM o) fun l => match l[k]? with
     | none => ret (none, a)
     | some x => bnd (f x a) fun t => match t with
      | (none, a') => Z7c f v m (k + 1) a'
      | (some r, a') => ret (some r, a')) O σ = some (r, σ') from e) fun o s e0 e1 => obj_at (P := fun u => u = .ref t' -> Y2b g.prog g.w A t (.ref i) Qn Qs E st.s) I rv e0 (fun hσ a' d ro hq => ?_) rfl
    cases hq
    replace hσ : s = σ := hσ
    subst hσ
    cases o with
    | lst l =>
     obtain ⟨vs, h, y⟩ := ro
     replace e1 : (match l[k]? with
      | none => ret (none, a)
      | some x => bnd (f x a) fun t => match t with
       | (none, a') => Z7c f v m (k + 1) a'
       | (some r, a') => ret (some r, a')) O s = some (r, σ') := e1
     cases hk : l[k]? with
     | none =>
      rw [hk] at e1
      have hv : vs.toArray[k]? = none := (List.getElem?_toArray ..).trans (List.getElem?_eq_none (by rw [y.len]; exact List.getElem?_eq_none_iff.mp hk))
      exact wpAny_pyNext_list_end rm.handled hi h.is hv fun h' hs => over e1 h' fun b nb o q => hs b o (fun z => nb (z ▸ .head _)) q
     | some x =>
      rw [hk] at e1
      obtain ⟨u, hu, ru⟩ := y.at hk
      refine wpAny_pyNext_list_item hi h.is ((List.getElem?_toArray ..).trans hu) fun h' hi' hs => ?_
      obtain ⟨o, ho, hc, hd⟩ := id hi'
      obtain ⟨I', S⟩ := own_one (s' := { st.s with heap := h' }) I (hT i (.head _)) (Z2b hs) ⟨o, ho⟩
      exact Z4t ho hc hd (by decide) (turn (l' := .lv v m (k + 1)) (Nat.lt_succ_self m) e1 (st.put { st.s with heap := h' }) u I' S (ru.go S) (.mk (rv.go S) hi'))
    | _ => exact Z0a e1
 | fx l =>
  have go : ∀ x l', l = x :: l' -> Took g O st σ T zp (.fx l') it x Qs := fun x l' hl => by
   subst hl
   exact turn (l' := .fx l') (Nat.lt_succ_self _) e
  have fin : l = [] -> ∀ h', (∀ a, a ∉ T -> Kp st.h h' a) -> Qn { st.s with heap := h' } := fun hl => by
   subst hl
   exact over e
  cases zp with
  | true => exact zip_turn rm I (ht rfl) hT i fin go
  | false =>
   cases l with
   | nil => exact take_nil rm i (fin rfl)
   | cons x l => exact take_cons I hT i (go x l rfl)
theorem Z9t {Q : Value -> Shared -> Prop} {src : Src} (I : Inv g O st σ) {o : Obj} (hf : o.isFreed = false) (k : AftSrc g O st src σ Q) (i : ∀ st', Ext st st' -> st'.h = st.h.push o -> ItA g st' (isZ src) (itemsOf src) [st.h.objs.size] (.ref st.h.objs.size)) (t : Nat) : Q (.ref st.h.objs.size) { st.s with heap := st.h.push o, toks := t } := by
 have hN : ∀ a ∈ [st.h.objs.size], st.h.get? a = none /\ ∃ o', (st.h.push o).get? a = some o' := fun a h => List.mem_singleton.mp h ▸ ⟨Z0h _, _, Z4b hf⟩
 have hk := Z1v st.h o
 have S : Step [] st (st.res { st.s with heap := st.h.push o, toks := t } [st.h.objs.size]) := .res hk fun a h => (hN a h).1
 exact k (st.res { st.s with heap := st.h.push o, toks := t } [st.h.objs.size]) _ [st.h.objs.size] (I.res hk hN rfl rfl) S (fun a h => ⟨(hN a h).1, Z8t h⟩) (i _ S.ext rfl)
theorem range_small {m : Int} (h : m.natAbs < 1000000) : Builtin.Range.small 0 m 1 = true /\ Builtin.Range.rangeSize 0 m 1 = (m.toNat : Int) := by
 have e : Builtin.Range.rangeSize 0 m 1 = (m.toNat : Int) := by
  unfold Builtin.Range.rangeSize
  by_cases q : 0 < m <;> simp [q] <;> omega
 refine ⟨?_, e⟩
 unfold Builtin.Range.small
 rw [e]
 unfold Builtin.Range.rangeFitsLong
 simp only [Bool.and_eq_true, Bool.or_eq_true, decide_eq_true_eq]
 refine ⟨⟨⟨⟨?_, ?_⟩, ?_⟩, ?_⟩, .inr ?_⟩ <;> first | omega | (simp; omega) | decide
theorem src_sound {v : MV} {u : Value} {src : Src} {Q : Value -> Shared -> Prop} (I : Inv g O st σ) (r : VM g st v u) (e : srcM v O σ = some (src, σ')) (k : AftSrc g O st src σ' Q) : wpAny g.M A (pyIter u) Q E st.s := by
 have tup : ∀ {l : List MV} {a : Addr} {vs : List Value}, FT st a vs -> VMs g st l vs -> AftSrc g O st (.items l) σ Q -> wpAny g.M A (pyIter (.ref a)) Q E st.s := fun h r k => iter_tuple h.2.is (Z9t I rfl k (fun st' x hs => .tup (k := 0) (h.ext x.fz) ⟨_, hs ▸ Z4b rfl, rfl, rfl⟩ (VMs.ext x r)) st.s.toks)
 have live : ∀ v, VM g st v u -> bnd (Z0n v) (fun o => bnd (lstM o) fun _ => ret (Src.live v)) O σ = some (src, σ') -> wpAny g.M A (pyIter u) Q E st.s := fun v r e => bE e fun o s e0 e1 => obj_at (P := fun u => VM g st v u -> wpAny g.M A (pyIter u) Q E st.s) I r e0 (fun hσ a d ro r => by
  replace hσ : s = σ := hσ
  subst hσ
  cases o with
  | lst l =>
   obtain ⟨vs, h, y⟩ := ro
   cases (show some (Src.live v, s) = some (src, σ') from e1)
   exact wpAny_pyIter_list h.is (Z9t I rfl k (fun st' x hs => .mk (k := 0) (r.ext x) ⟨_, hs ▸ Z4b rfl, rfl, rfl⟩) st.s.toks)
  | _ => exact Z0a e1) r
 cases v with
 | pv p => cases p with
  | tup l => cases e; exact r.p.tupE fun a vs h y => tup h (Z3g y) k
  | lst l => cases e; exact r.p.lstE fun a vs h y => wpAny_pyIter_list h.2.is (Z9t I rfl k (fun st' x hs => .lst (k := 0) (h.ext x.fz) ⟨_, hs ▸ Z4b rfl, rfl, rfl⟩ (VMs.ext x (Z3g y))) st.s.toks)
  | rng m =>
   have e : gd (decide (m.natAbs < 1000000)) (ret (Src.items (Z3m m.toNat 0))) O σ = some (src, σ') := e
   obtain ⟨g1, g2⟩ := range_small (of_decide_eq_true (gd1 e))
   cases gd2 e
   refine r.p.rngE fun a ⟨_, t, u, v, h⟩ => wpAny_pyIter_range h g1 ?_
   rw [g2]
   exact Z9t I rfl k (fun st' x hs => .rng rfl (hs ▸ Z4b rfl)) st.s.toks
  | _ => exact Z0a e
 | ref i => exact live (.ref i) r e
 | oref j i => exact live (.oref j i) r e
 | _ => exact Z0a e
theorem iter_again {ls : LS} {s : Shared} {Q : Value -> Shared -> Prop} (i : ItA g st zp ls T it) (hs : s.heap = st.h) (h : Q it s) : wpAny g.M A (pyIter it) Q E s := by
 cases ls with
 | lv v m k => cases i with | mk _ hi => exact wpAny_pyIter_listiter (hs ▸ hi) h
 | fx l =>
 cases zp with
 | false => cases i with
  | tup _ hi _ => exact wpAny_pyIter_tupleiter (hs ▸ hi) h
  | lst _ hi _ => exact wpAny_pyIter_listiter (hs ▸ hi) h
  | rng _ hi => exact wpAny_pyIter_rangeiter (hs ▸ hi) h
 | true => cases i with
  | zip _ _ hz => exact wpAny_pyIter_zip (hs ▸ hz) h
end
noncomputable def Rz (g : Gl) (s : Shared) (e : Value) (s' : Shared) : Prop := ∃ a o vs a0, e = .ref a /\ s'.gens = s.gens /\ s'.os = s.os /\ s.heap.get? a = none /\ (∀ b, Kp s.heap s'.heap b) /\ s'.heap.get? a = some o /\ o.cls = .ref g.cfg.excC /\ o.data = .fields vs /\ vs[1]? = some .none /\ vs[0]? = some a0
noncomputable def FlowOk (g : Gl) (st : St) (Q : Flow -> Shared -> Prop) (E : Value -> Shared -> Prop) : Option MV -> Prop
 | none => Q .next st.s
 | some v => (v = .exc -> ∀ e s', Rz g st.s e s' -> E e s') /\ ∀ u, VM g st v u -> Q (.ret u) st.s
noncomputable def AftX (g : Gl) (b : Fb) (st : St) (r : Option MV × Vars) (σ' : Hp) (Q : Flow -> Shared -> Prop) (E : Value -> Shared -> Prop) : Prop := ∀ st', Inv g b.O st' σ' -> Step b.W st st' -> Fm g b st' r.2 -> FlowOk g st' Q E r.1
noncomputable def AftB (g : Gl) (O : Z0c) (st : St) (c : Bool) (σ' : Hp) (Q : Bool -> Shared -> Prop) : Prop := ∀ st', Inv g O st' σ' -> Step [] st st' -> Q c st'.s
noncomputable def Sv (g : Gl) (b : Fb) (m : Vars -> Mm MV) (t : Sem Value) : Prop := ∀ ⦃st : St⦄ ⦃σ : Hp⦄ ⦃ρ : Vars⦄ ⦃z : MV⦄ ⦃σ' : Hp⦄ ⦃E : Value -> Shared -> Prop⦄ ⦃Q : Value -> Shared -> Prop⦄, Inv g b.O st σ -> Fm g b st ρ -> m ρ b.O σ = some (z, σ') -> Aft g b.O st z σ' Q -> wpAny g.M b.A t Q E st.s
noncomputable def Sb (g : Gl) (b : Fb) (m : Vars -> Mm Bool) (t : Sem Bool) : Prop := ∀ ⦃st : St⦄ ⦃σ : Hp⦄ ⦃ρ : Vars⦄ ⦃c : Bool⦄ ⦃σ' : Hp⦄ ⦃E : Value -> Shared -> Prop⦄ ⦃Q : Bool -> Shared -> Prop⦄, Inv g b.O st σ -> Fm g b st ρ -> m ρ b.O σ = some (c, σ') -> AftB g b.O st c σ' Q -> wpAny g.M b.A t Q E st.s
noncomputable def Ss (g : Gl) (b : Fb) (m : Vars -> Mm Src) (it : PySem.Expr) : Prop := ∀ ⦃st : St⦄ ⦃σ : Hp⦄ ⦃ρ : Vars⦄ ⦃src : Src⦄ ⦃σ' : Hp⦄ ⦃E : Value -> Shared -> Prop⦄ ⦃Q : Value -> Shared -> Prop⦄, Inv g b.O st σ -> Fm g b st ρ -> m ρ b.O σ = some (src, σ') -> AftSrc g b.O st src σ' Q -> wpAny g.M b.A (eval it b.env) (fun x s1 => wpAny g.M b.A (pyIter x) Q E s1) E st.s
noncomputable def Sx (g : Gl) (b : Fb) (m : Vars -> Mm (Option MV × Vars)) (t : Sem Flow) : Prop := ∀ ⦃st : St⦄ ⦃σ : Hp⦄ ⦃ρ : Vars⦄ ⦃r : Option MV × Vars⦄ ⦃σ' : Hp⦄ ⦃E : Value -> Shared -> Prop⦄ ⦃Q : Flow -> Shared -> Prop⦄, PassesOwn g.M b.A b.env E -> Inv g b.O st σ -> Fm g b st ρ -> m ρ b.O σ = some (r, σ') -> AftX g b st r σ' Q E -> wpAny g.M b.A t Q E st.s
theorem loopS_L {α : Type} {t : PySem.Expr} {src : Src} {f : MV -> α -> Mm (Option MV × α)} {a : α} {O : Z0c} {σ : Hp} {r} (e : Z2k (Z3b t) src f a O σ = some r) : (itemsOf src).run f a O σ = some r /\ (isZ src = true -> Z3b t = true) := by
 cases src with
 | items l => exact ⟨e, nofun⟩
 | zipped l => exact ⟨gd2 e, fun _ => gd1 e⟩
 | live v => exact ⟨e, nofun⟩
theorem Z7f {it : PySem.Expr} {env : Env} (h : ∀ es k p, it ≠ .Set es k p) (x : Value) : foldedSetIterable it env x = pure x := by
 cases it with
 | Set es k p => exact (h _ _ _ rfl).elim
 | _ => rfl
section
variable {b : Fb} {st st0 st1 st' : St} {σ σ' σ1 : Hp} {E : Value -> Shared -> Prop} {W T : List Addr} {ρ ρ' : Vars} {I : Ix}
theorem AftX.after {r : Option MV × Vars} {Q : Flow -> Shared -> Prop} (x : Step b.W st st1) (k : AftX g b st r σ' Q E) : AftX g b st1 r σ' Q E := fun st' I y f => k st' I (x.trans y) f
theorem AftB.after {O : Z0c} {c : Bool} {Q : Bool -> Shared -> Prop} (x : Step [] st st1) (k : AftB g O st c σ' Q) : AftB g O st1 c σ' Q := fun st' I y => k st' I (x.trans y)
theorem FlowOk.put {Q : Flow -> Shared -> Prop} {o : Option MV} (h : FlowOk g st' Q E o) (x : Ext st st') (hs : st'.s = st.s) : FlowOk g st Q E o := by
 cases o with
 | none => exact (congrArg (Q .next) hs).mp h
 | some v => exact ⟨fun q e s' z => h.1 q e s' (hs ▸ z), fun u r => (congrArg (Q (.ret u)) hs).mp (h.2 u (r.ext x))⟩
theorem new_ne (f : Fm g b st0 ρ) (hd : ∀ a ∈ T, st0.h.get? a = none) : ∀ a ∈ b.V, a ∉ T := fun a ha m => let ⟨_, o, e⟩ := f.prv a ha; Z0a ((hd a m).symm.trans e)
theorem Z9q {O : Z0c} {s' : Shared} (I : Inv g O st σ) (X : Step (T ++ W) st0 st) (hT : ∀ a ∈ T, st.own a = some .priv) (hd : ∀ a ∈ T, st0.h.get? a = none) (hk : ∀ a, a ∉ T -> Kp st.h s'.heap a) (hg : s'.gens = st.s.gens := by rfl) (ho : s'.os = st.s.os := by rfl) : Inv g O (st.drop s' T) σ /\ Step W st0 (st.drop s' T) /\ Ext st (st.drop s' T) :=
 ⟨I.drop hT hk hg ho, .drop X hd hk, .drop hT hk⟩
theorem Fm.drop {s' : Shared} (f : Fm g b st ρ) (hV : ∀ a ∈ b.V, a ∉ T) (hT : ∀ a ∈ T, st.own a = some .priv) (hk : ∀ a, a ∉ T -> Kp st.h s'.heap a) : Fm g b (st.drop s' T) ρ :=
 have x := Ext.drop hT hk
 have kp : ∀ a ∈ b.V, Kp st.h s'.heap a := fun a ha => hk a (hV a ha)
 ⟨f.fs, fun a ha => let ⟨p, o, e⟩ := f.prv a ha; ⟨(Z1z (s := s') (hV a ha)).symm ▸ p, o, kp a ha o e⟩, f.ns.to x (.of (kp _ (f.fs.sub _ f.fs.lf))) fun _ _ _ e => e, fun y hy => (f.cells y hy).to x (fun a ha => .of (kp a ha)) fun _ e => e,
  let ⟨l, e, h⟩ := f.fr; ⟨l, e, fun env m => let ⟨k, L, p, q, o, r⟩ := h env m; have n : L ∉ T := fun m => nomatch (hT L m).symm.trans q; ⟨k, L, p, (Z1z (s := s') n).trans q, o, hk L n o r⟩⟩, (Z1z (s := s') (hV _ (f.fs.sub _ f.fs.lf))).trans f.lo⟩
inductive LI {α : Type} (g : Gl) (O : Z0c) (st0 : St) (W T : List Addr) (it : Value) (zp : Bool) (f : MV -> α -> Mm (Option MV × α)) (F : St -> α -> Prop) (r : Option MV × α) (σ' : Hp) (m : Nat) (s : Shared) : Prop
 | mk (st : St) (σ : Hp) (a : α) (l : LS) : st.s = s -> Inv g O st σ -> Step (T ++ W) st0 st -> F st a -> (∀ c ∈ T, st.own c = some .priv) -> ItA g st zp l T it -> l.run f a O σ = some (r, σ') -> m = l.sz -> LI g O st0 W T it zp f F r σ' m s
theorem loop_turn {α : Type} {O : Z0c} {A : Around} {n : Nat} (rm : Room A n) {it : Value} {zp : Bool} {t : PySem.Expr} {f : MV -> α -> Mm (Option MV × α)} {F : St -> α -> Prop} {r : Option MV × α} {m : Nat} {s : Shared} {Qn : Shared -> Prop} {Qs : Value -> Shared -> Prop} (ht : zp = true -> Z3b t = true) (hd : ∀ a ∈ T, st0.h.get? a = none)
  (L : LI g O st0 W T it zp f F r σ' m s) (hn : ∀ st a s', F st a -> Inv g O (st.drop s' T) σ' -> Step W st0 (st.drop s' T) -> Ext st (st.drop s' T) -> (∀ c ∈ T, st.own c = some .priv) -> (∀ c, c ∉ T -> Kp st.h s'.heap c) -> r = (none, a) -> Qn s')
  (hs : ∀ st1 st σ a x u b r1 σ1 l', Inv g O st σ -> Step (T ++ W) st0 st -> F st1 a -> Step T st1 st -> (∀ c ∈ T, st.own c = some .priv) -> VM g st x u -> ItA g st zp l' T it -> f x a O σ = some ((r1, b), σ1) -> (r1 = none -> l'.sz < m /\ l'.run f b O σ1 = some (r, σ')) -> (∀ v, r1 = some v -> r = (some v, b) /\ σ' = σ1) -> Qs u st.s) : Y2b g.prog g.w A t it Qn Qs E s := by
 obtain ⟨st, σ, a, l, rfl, I, X, hF, hT, i, e, rfl⟩ := L
 refine rest_turn rm I hT ht i e (fun hr hσ h' hk => ?_) fun x l' b r1 σ1 e1 hnx hrt st2 u I2 x2 r2 i2 => ?_
 ·obtain ⟨I', X', x'⟩ := Z9q (s' := { st.s with heap := h' }) I X hT hd hk
  exact hn st a _ hF (hσ ▸ I') X' x' hT hk hr
 ·exact hs st st2 σ a x u b r1 σ1 l' I2 (X.trans (x2.weak fun c h => List.mem_append_left _ h)) hF x2 (fun c h => (x2.own c _ (I.live c fun z => nomatch (hT c h).symm.trans z).choose_spec).trans (hT c h)) r2 i2 e1 hnx hrt
theorem for_sound {t iter : PySem.Expr} {body : List Stmt} {pos : Pos} {f : MV -> Vars -> Mm (Option MV × Vars)} {m : Vars -> Mm Src} (hset : ∀ es k p, iter ≠ .Set es k p) (hsrc : Ss g b m iter)
  (hb : ∀ ⦃st : St⦄ ⦃σ : Hp⦄ ⦃ρ : Vars⦄ ⦃x : MV⦄ ⦃u : Value⦄ ⦃r : Option MV × Vars⦄ ⦃σ' : Hp⦄ ⦃Q : Flow -> Shared -> Prop⦄ ⦃E : Value -> Shared -> Prop⦄, PassesOwn g.M b.A b.env E -> Inv g b.O st σ -> Fm g b st ρ -> VM g st x u -> f x ρ b.O σ = some (r, σ') -> AftX g b st r σ' Q E -> wpAny g.M b.A (assign t b.env u) (fun _ s2 => wpAny g.M b.A (execs body b.env) Q E s2) E st.s) :
  Sx g b (fun ρ => bnd (m ρ) fun s => Z2k (Z3b t) s f ρ) (exec (.For t iter body [] pos) b.env) := by
 intro st σ ρ r σ' E Q hE I fr e k
 refine bE e fun src σ1 e1 e2 => ?_
 obtain ⟨eL, ht⟩ := loopS_L e2
 refine wpAny_For (hsrc I fr e1 fun st1 it T I1 x1 hd i1 => ?_) (fun x => Z7f hset x)
 have hV := new_ne fr fun a h => (hd a h).1
 refine codeAny_forLoop_any (LI g b.O st b.W T it (isZ src) f (fun st ρ => Fm g b st ρ) r σ') (fun m s L => ?_) (itemsOf src).sz ⟨st1, σ1, ρ, _, rfl, I1, x1.w0 _, fr.go x1, fun a h => (hd a h).2, i1, eL, rfl⟩
 refine loop_turn fr.fs.room ht (fun a h => (hd a h).1) L (fun st2 a s' f2 I2 X2 x2 hT hk hr => ?_) fun st2 st3 σ3 a x u c r1 σ4 l' I3 X3 f2 x3 hT r3 i3 e3 hnx hrt => ?_
 ·have h1 : r.1 = none := congrArg Prod.fst hr
  have h2 : r.2 = a := congrArg Prod.snd hr
  have q := k _ I2 X2 (h2.symm ▸ f2.drop hV hT hk)
  rw [h1] at q
  exact wpAny_execs_nil q
 ·refine wpAny_passesOwn hE (wpAny_mono (hb hE I3 (f2.goW x3 hV) r3 e3 fun st4 I4 x4 f4 => ?_) (fun _ _ h => wpAny_passesOwn hE h) fun _ _ h => h)
  have kT : ∀ a ∈ T, Kp st3.h st4.h a := fun a ha => x4.prv (hT a ha) fun m => hV a (fr.fs.sub a m) ha
  have X4 : Step (T ++ b.W) st st4 := X3.trans (x4.weak fun a h => List.mem_append_right _ h)
  have hT4 : ∀ a ∈ T, st4.own a = some .priv := fun a ha => (x4.own a _ (I3.live a fun z => nomatch (hT a ha).symm.trans z).choose_spec).trans (hT a ha)
  cases r1 with
  | none =>
   obtain ⟨lt, e4⟩ := hnx rfl
   exact ⟨_, lt, st4, σ4, c, l', rfl, I4, X4, f4, hT4, i3.go x4 kT, e4, rfl⟩
  | some v =>
   obtain ⟨rfl, rfl⟩ := hrt v rfl
   obtain ⟨I5, X5, x5⟩ := Z9q (s' := st4.s) I4 X4 hT4 (fun a h => (hd a h).1) fun _ _ _ q => q
   exact FlowOk.put (k _ I5 X5 (f4.drop hV hT4 fun _ _ _ q => q)) x5 rfl
end
noncomputable def Y1n (e elt : PySem.Expr) (gens : List Comprehension) (d : Nat) (acc : Value) (env : Env) : Sem Unit :=
 match gens[d + 1]? with
 | some g' => do
  let x <- eval g'.iter env
  standAt g'.iter.pos
  let x <- foldedSetIterable g'.iter env x
  let _ <- runOwn (.compStart e (d + 1) (<- holding [x] (pyIter x)) acc env) env
  pure ()
 | none => do
  let v <- eval elt env
  let _ <- call (.builtin "list.append") [acc, v]
  pure ()
noncomputable def testsT (ifs : List PySem.Expr) (env : Env) : Sem Bool := forIn ifs true fun c r => if r = true then do let ok <- isTrue c env (eval c env); pure (ForInStep.yield ok) else pure (ForInStep.yield r)
theorem compTurn_any {elt t iter : PySem.Expr} {ifs : List PySem.Expr} {gens : List Comprehension} {scope : Scope} {pos : Pos} {d : Nat} {it acc : Value} {env : Env} (hg : gens[d]? = some ⟨t, iter, ifs, 0⟩) (ha : ∀ g ∈ gens, g.is_async = 0) :
  compTurn (.ListComp elt gens scope pos) d it acc env = (do
   standAt iter.pos
   match <- pyNext it with
   | none => pure (.done .next)
   | some v =>
    letOwnedTupleGo t it v
    assign t env v
    let ok <- testsT ifs env
    if ok then do
     Y1n (.ListComp elt gens scope pos) elt gens d acc env
     again (.compLoop (.ListComp elt gens scope pos) d it acc env)
    else again (.compLoop (.ListComp elt gens scope pos) d it acc env)) := by
 unfold compTurn
 dsimp only
 rw [hg]
 dsimp only
 have h0 : ((0 : Int) != 0) = false := by decide
 have h0' : ((0 : Nat) != 0) = false := by decide
 simp only [h0, h0', Bool.false_eq_true, if_false]
 congr 1
 funext _
 congr 1
 funext r
 cases r with
 | none => rfl
 | some v =>
  dsimp only
  congr 1
  funext _
  congr 1
  funext _
  unfold testsT
  congr 1
  funext ok
  cases ok with
  | false => rfl
  | true =>
   simp only [if_true]
   unfold Y1n
   cases hg' : gens[d + 1]? with
   | none => simp only [bind_assoc, pure_bind]
   | some g' =>
    have := ha g' (List.mem_of_getElem? hg')
    dsimp only
    rw [this]
    simp only [h0, h0', Bool.false_eq_true, if_false, bind_assoc, pure_bind]
section
variable {prog : Program} {w : World} {A : Around} {R : Result -> Shared -> Prop} {s : Shared}
theorem Z6k {elt t iter : PySem.Expr} {ifs : List PySem.Expr} {gens : List Comprehension} {scope : Scope} {pos : Pos} {d : Nat} {it acc : Value} {env : Env} (hg : gens[d]? = some ⟨t, iter, ifs, 0⟩) (ha : ∀ g ∈ gens, g.is_async = 0) (I : Nat -> Shared -> Prop)
  (turn : ∀ n s, I n s -> Y2b prog w A t it (fun s1 => R (.ok .next) s1) (fun v s1 => wpAny (model prog w) A (assign t env v) (fun _ s2 => wpAny (model prog w) A (testsT ifs env) (fun ok s3 =>
    if ok = true then wpAny (model prog w) A (Y1n (.ListComp elt gens scope pos) elt gens d acc env) (fun _ s4 => ∃ m, m < n /\ I m s4) (notedBy (model prog w) A env fun e s' => R (.error e) s') s3 else ∃ m, m < n /\ I m s3)
    (notedBy (model prog w) A env fun e s' => R (.error e) s') s2) (notedBy (model prog w) A env fun e s' => R (.error e) s') s1) (notedBy (model prog w) A env fun e s' => R (.error e) s') s)
  (n : Nat) (h : I n s) : codeAny (model prog w) A (.compLoop (.ListComp elt gens scope pos) d it acc env) R s := by
 refine codeAny_loop rfl I (fun n s hI => ?_) n h
 show wpAny _ A ((compTurn (.ListComp elt gens scope pos) d it acc env).onRaise (fun x => do noteFrame x env; theTreesLotGoes x)) _ _ s
 refine wpAny_noted ?_
 rw [compTurn_any hg ha]
 refine wpAny_bind (wpAny_standAt (wpAny_bind (wpAny_mono (turn n s hI) (fun r s₁ h₁ => ?_) fun _ _ h' => h')))
 cases r with
 | none => exact wpAny_pure h₁
 | some v =>
  refine wpAny_bind (wpAny_mono h₁ (fun _ s1 h1 => wpAny_bind (wpAny_mono h1 (fun _ s2 h2 => wpAny_bind (wpAny_mono h2 (fun ok s3 h3 => ?_) fun _ _ h' => h')) fun _ _ h' => h')) fun _ _ h' => h')
  cases ok with
  | false => exact wpAny_pure ⟨rfl, h3⟩
  | true => exact wpAny_bind (wpAny_mono h3 (fun _ s4 h4 => wpAny_pure ⟨rfl, h4⟩) fun _ _ h' => h')
theorem Z2x {elt t iter : PySem.Expr} {ifs : List PySem.Expr} {gens : List Comprehension} {scope : Scope} {pos : Pos} {d : Nat} {it acc : Value} {env : Env} (hg : gens[d]? = some ⟨t, iter, ifs, 0⟩)
  (again : ∀ {Q : Value -> Shared -> Prop} {E : Value -> Shared -> Prop}, Q it s -> wpAny (model prog w) A (pyIter it) Q E s)
  (h0 : codeAny (model prog w) A (.compLoop (.ListComp elt gens scope pos) d it acc env) R s) :
  codeAny (model prog w) A (.compStart (.ListComp elt gens scope pos) d it acc env) R s := by
 refine codeAny_of_tree ?_
 show wpAny _ _ ((compStart (.ListComp elt gens scope pos) d it acc env).onRaise (fun x => do noteFrame x env; standAt theWindowsPlace)) _ _ s
 refine wpAny_notedAt ?_
 unfold compStart
 have hc : (clausesOf (.ListComp elt gens scope pos))[d]? = some ⟨t, iter, ifs, 0⟩ := hg
 rw [hc]
 show wpAny _ _ (ask >>= _) _ _ s
 refine wpAny_bind (wpAny_askSetting (wpAny_ite ?_))
 split
 ·first
   | exact wpAny_bind (wpAny_pure (wpAny_pure (And.intro rfl h0)))
   | exact wpAny_pure (And.intro rfl h0)
 ·refine wpAny_bind (wpAny_rule ?_)
  show wpAny _ _ (standAt iter.pos >>= _) _ _ s
  exact wpAny_bind (wpAny_standAt (wpAny_bind (again (wpAny_pure (And.intro rfl h0)))))
end
theorem Z7d {α : Type} (x : Str) : ∀ l : List (Str × α), look l x = l.lookup x
 | [] => rfl
 | (k, v) :: r => by
  unfold look
  rw [Z4e, List.lookup_cons]
  by_cases h : k = x
  ·subst h; simp
  ·have : (x == k) = false := beq_eq_false_iff_ne.mpr (Ne.symm h)
   simp only [h, decide_false, this]
   exact Z7d x r
theorem Z9c {out all : List (Str × NameKind)} : ∀ {l : List (Str × NameKind)}, Z3r out all l = true -> ∀ x ∈ l, x.2 ≠ .cell /\ (x.2 = .local -> look all x.1 = some .local) /\ (x.2 = .free -> look out x.1 = some .cell \/ look out x.1 = some .free)
 | (y, k) :: r, e, x, hx => by
  have tl : Z3r out all r = true -> x ∈ r -> x.2 ≠ .cell /\ (x.2 = .local -> look all x.1 = some .local) /\ (x.2 = .free -> look out x.1 = some .cell \/ look out x.1 = some .free) := fun e h => Z9c e x h
  cases k with
  | «local» =>
   unfold Z3r at e
   split at e
   ·rename_i h
    rcases List.mem_cons.mp hx with rfl | hx
    ·exact ⟨by simp, fun _ => h, by simp⟩
    ·exact tl e hx
   ·cases e
  | free =>
   unfold Z3r at e
   split at e
   ·rename_i h
    rcases List.mem_cons.mp hx with rfl | hx
    ·refine ⟨by simp, by simp, fun _ => ?_⟩
     unfold seen at h
     split at h
     ·rename_i q; exact .inl q
     ·rename_i q; exact .inr q
     ·cases h
    ·exact tl e hx
   ·cases e
  | globalImplicit =>
   rcases List.mem_cons.mp hx with rfl | hx
   ·exact ⟨by simp, by simp, by simp⟩
   ·exact tl e hx
  | cell => cases e
  | globalExplicit => cases e
noncomputable def clF (env : Env) : List (Str × NameKind) -> List (Str × Addr) -> List (Str × Addr)
 | [], cs => cs
 | (n, k) :: r, cs => if k == .free then clF env r ((n, (env.cells.lookup n).getD 0) :: cs) else clF env r cs
theorem closureFor_eq {scope : Scope} {env : Env} (h : ∀ x ∈ scope.names, x.2 = .free -> (env.cells.lookup x.1).isSome = true) : closureFor scope env = pure (clF env scope.names []) := by
 unfold closureFor
 have : ∀ (names : List (Str × NameKind)) (cs : List (Str × Addr)), (∀ x ∈ names, x.2 = .free -> (env.cells.lookup x.1).isSome = true) ->
   (forIn names cs fun (x : Str × NameKind) (cs : List (Str × Addr)) => match x with | (name, kind) => (if kind == NameKind.free then do
    let c <- cellOf env name
    pure (ForInStep.yield ((name, c) :: cs)) else pure (ForInStep.yield cs) : Sem (ForInStep (List (Str × Addr))))) = pure (clF env names cs) := by
  intro names
  induction names with
  | nil => intro cs _; rfl
  | cons x r ih =>
   intro cs h
   obtain ⟨n, k⟩ := x
   rw [List.forIn_cons]
   unfold clF
   dsimp only
   by_cases hk : (k == NameKind.free) = true
   ·simp only [hk, if_true]
    have := h (n, k) (.head _) (by simpa using hk)
    obtain ⟨c, hc⟩ := Option.isSome_iff_exists.mp this
    have e1 : cellOf env n = pure c := by unfold cellOf; rw [hc]
    simp only [e1, pure_bind, hc, Option.getD_some]
    exact ih _ fun y hy => h y (.tail _ hy)
   ·simp only [hk]
    simp only [Bool.false_eq_true, if_false]
    first
     | exact ih _ fun y hy => h y (.tail _ hy)
     | (rw [pure_bind]; exact ih _ fun y hy => h y (.tail _ hy))
 have e := this scope.names [] h
 first
  | exact e
  | (dsimp only at e ⊢; rw [e]; rfl)
  | (refine Eq.trans ?_ e; rfl)
theorem clF_mem {env : Env} : ∀ {names : List (Str × NameKind)} {cs : List (Str × Addr)}, (∀ x ∈ names, x.2 = .free -> (env.cells.lookup x.1).isSome = true) -> (∀ p ∈ cs, env.cells.lookup p.1 = some p.2) ->
  (∀ p ∈ clF env names cs, env.cells.lookup p.1 = some p.2) /\ (∀ p ∈ cs, p ∈ clF env names cs) /\ (∀ x ∈ names, x.2 = .free -> ∃ a, (x.1, a) ∈ clF env names cs)
 | [], cs, _, h2 => ⟨h2, fun _ h => h, fun _ h => nomatch h⟩
 | (n, k) :: r, cs, h1, h2 => by
  unfold clF
  by_cases hk : (k == NameKind.free) = true
  ·simp only [hk, if_true]
   have := h1 (n, k) (.head _) (by simpa using hk)
   obtain ⟨c, hc⟩ := Option.isSome_iff_exists.mp this
   obtain ⟨a1, a2, a3⟩ := clF_mem (env := env) (names := r) (cs := (n, (env.cells.lookup n).getD 0) :: cs) (fun x hx => h1 x (.tail _ hx)) fun p hp => by
    rcases List.mem_cons.mp hp with rfl | hp
    ·simp [hc]
    ·exact h2 p hp
   refine ⟨a1, fun p hp => a2 p (.tail _ hp), fun x hx hf => ?_⟩
   rcases List.mem_cons.mp hx with rfl | hx
   ·exact ⟨_, a2 _ (.head _)⟩
   ·exact a3 x hx hf
  ·simp only [hk]
   obtain ⟨a1, a2, a3⟩ := clF_mem (env := env) (names := r) (cs := cs) (fun x hx => h1 x (.tail _ hx)) h2
   refine ⟨a1, a2, fun x hx hf => ?_⟩
   rcases List.mem_cons.mp hx with rfl | hx
   ·rw [show k = NameKind.free from hf] at hk; exact absurd rfl hk
   ·exact a3 x hx hf
theorem Z3d {α : Type} {x : Str} {a : α} : ∀ {l : List (Str × α)}, (x, a) ∈ l -> ∃ b, l.lookup x = some b
 | (k, v) :: r, h => by
  rw [List.lookup_cons]
  cases hb : x == k with
  | true => exact ⟨v, rfl⟩
  | false =>
   rcases List.mem_cons.mp h with q | q
   ·cases q; simp at hb
   ·exact Z3d q
theorem relabel_lookup {scope : Scope} {env : Env} {x : Str} {k : NameKind} (h : scope.names.lookup x = some k) :
  (relabel scope env).names.lookup x = some (if (k == .free && env.scope.kind == .function && env.kindOf x == some .cell) then .cell else k) := by
 unfold relabel
 dsimp only
 generalize scope.names = names at h
 induction names with
 | nil => cases h
 | cons y r ih =>
  obtain ⟨n, k'⟩ := y
  rw [List.lookup_cons] at h
  rw [List.map_cons]
  by_cases hx : x = n
  ·subst hx
   simp only [beq_self_eq_true] at h
   cases h
   by_cases c : (k == NameKind.free && env.scope.kind == ScopeKind.function && env.kindOf x == some NameKind.cell) = true
   ·simp only [c, if_true, List.lookup_cons, beq_self_eq_true]
   ·simp only [c, if_false, List.lookup_cons, beq_self_eq_true]
    simp
  ·have hb : (x == n) = false := beq_eq_false_iff_ne.mpr hx
   simp only [hb] at h
   have := ih h
   rw [List.lookup_cons]
   split
   ·rename_i q
    have : (x == n) = true := by
     revert q
     by_cases c : (k' == NameKind.free && env.scope.kind == ScopeKind.function && env.kindOf n == some NameKind.cell) = true
     ·simp only [c, if_true]; exact id
     ·simp only [c]; exact id
    rw [hb] at this; cases this
   ·exact ih h
theorem compVars_look {ρ : Vars} {x : Str} : ∀ {names : List (Str × NameKind)}, (look names x = some .local -> look (Z2a ρ names) x = some none) /\ (look names x = some .free -> look (Z2a ρ names) x = some (Z2c ρ x))
 | [] => ⟨fun h => (nomatch h), fun h => nomatch h⟩
 | (n, k) :: r => by
  obtain ⟨h1, h2⟩ := compVars_look (ρ := ρ) (x := x) (names := r)
  by_cases hx : n = x
  ·subst hx
   cases k <;> simp [look, Z2a, Z4e]
  ·have e : look ((n, k) :: r) x = look r x := by rw [look, Z4e]; simp [hx]
   rw [e]
   cases k <;> (unfold Z2a; try (rw [look, Z4e]; simp only [hx, decide_false])) <;> exact ⟨h1, h2⟩
inductive CI (g : Gl) (b : Fb) (D : Addr) (st : St) (a : List MV × Vars) : Prop
 | mk (vs : List Value) : Fm g b st a.2 -> st.own D = some .priv -> D ∉ b.V -> LX st.h D vs -> VMs g st a.1 vs -> CI g b D st a
noncomputable def AftC (g : Gl) (b : Fb) (D : Addr) (st : St) (r : List MV × Vars) (σ' : Hp) (Q : Shared -> Prop) : Prop := ∀ st', Inv g b.O st' σ' -> Step (D :: b.W) st st' -> CI g b D st' r -> Q st'.s
noncomputable def InS (g : Gl) (b : Fb) (D : Addr) (m : Vars -> List MV -> Mm (List MV × Vars)) (t : Sem Unit) : Prop :=
 ∀ ⦃st : St⦄ ⦃σ : Hp⦄ ⦃ρ : Vars⦄ ⦃acc : List MV⦄ ⦃r : List MV × Vars⦄ ⦃σ' : Hp⦄ ⦃E : Value -> Shared -> Prop⦄ ⦃Q : Shared -> Prop⦄, Inv g b.O st σ -> CI g b D st (acc, ρ) -> m ρ acc b.O σ = some (r, σ') -> AftC g b D st r σ' Q -> wpAny g.M b.A t (fun _ => Q) E st.s
section
variable {b : Fb} {D : Addr} {st st0 st1 st' : St} {σ σ' σ1 : Hp} {E : Value -> Shared -> Prop} {W T : List Addr} {ρ ρ' : Vars} {I : Ix} {a : List MV × Vars}
theorem CI.to (c : CI g b D st a) (x : Step W st st') (f : Fm g b st' ρ) (hD : D ∉ W) : CI g b D st' (a.1, ρ) := let ⟨vs, _, p, n, l, r⟩ := c; ⟨vs, f, (x.own D _ l.live.choose_spec).trans p, n, l.at (x.prv p hD), r.go x⟩
theorem CI.go (c : CI g b D st a) (x : Step W st st') (hV : ∀ c ∈ b.V, c ∉ W) (hD : D ∉ W) : CI g b D st' a := let ⟨_, f, _, _, _, _⟩ := c; c.to x (f.goW x hV) hD
theorem Z8q {A : Around} {s : Shared} {env : Env} {Q : Bool -> Shared -> Prop} (h : Q false s) : ∀ ifs : List PySem.Expr, wpAny g.M A (forIn ifs false fun c r => if r = true then do let ok <- isTrue c env (eval c env); pure (ForInStep.yield ok) else pure (ForInStep.yield r)) Q E s
 | [] => wpAny_pure h
 | c :: r => by
  rw [List.forIn_cons, if_neg Bool.false_ne_true]
  exact wpAny_bind (wpAny_pure (Z8q h r))
theorem Y0h : ∀ {ifs : List PySem.Expr}, (∀ c ∈ ifs, Sb g b (I.t c b.sc) (isTrue c b.env (eval c b.env))) -> Sb g b (fun ρ => tsts I b.sc ρ ifs) (testsT ifs b.env)
 | [], _ => fun st σ ρ c σ' E Q Iv fr e k => have q := Z0q (show ret true b.O σ = some (c, σ') from e); wpAny_pure (q.1 ▸ k st (q.2 ▸ Iv) (.refl [] st))
 | c :: r, h => fun st σ ρ c' σ' E Q Iv fr e k => bE (show bnd (I.t c b.sc ρ) (fun ok => match ok with | true => tsts I b.sc ρ r | false => ret false) b.O σ = some (c', σ') from e) fun ok σ1 e1 f1 => by
  unfold testsT
  rw [List.forIn_cons, if_pos rfl]
  refine wpAny_bind (wpAny_bind (h c (.head _) Iv fr e1 fun st1 I1 x1 => wpAny_pure ?_))
  cases ok with
  | false => have q := Z0q (show ret false b.O σ1 = some (c', σ') from f1); exact Z8q (q.1 ▸ k st1 (q.2 ▸ I1) x1) r
  | true => exact Y0h (fun x hx => h x (.tail _ hx)) I1 (fr.go x1) f1 (k.after x1)
theorem loopC {elt t iter : PySem.Expr} {ifs : List PySem.Expr} {gens : List Comprehension} {scope : Scope} {pos : Pos} {d : Nat} (hg : gens[d]? = some ⟨t, iter, ifs, 0⟩) (ha : ∀ g ∈ gens, g.is_async = 0) {m : Vars -> List MV -> Mm (List MV × Vars)}
  (hin : InS g b D m (Y1n (.ListComp elt gens scope pos) elt gens d (.ref D) b.env)) (htest : ∀ c ∈ ifs, Sb g b (I.t c b.sc) (isTrue c b.env (eval c b.env))) {it : Value} {zp : Bool} {l : LS} {r : Option MV × (List MV × Vars)} {RR : Result -> Shared -> Prop}
  (I1 : Inv g b.O st1 σ1) (X1 : Step (D :: b.W) st0 st1) (hT : ∀ c ∈ T, st0.h.get? c = none /\ st1.own c = some .priv) (hV : ∀ c ∈ b.V, c ∉ T) (hD : D ∉ T) (C : CI g b D st1 a) (i1 : ItA g st1 zp l T it) (ht : zp = true -> Z3b t = true) (e : l.run (Z5s I t ifs b.sc m) a b.O σ1 = some (r, σ'))
  (k : AftC g b D st0 r.2 σ' (RR (.ok .next))) : codeAny g.M b.A (.compLoop (.ListComp elt gens scope pos) d it (.ref D) b.env) RR st1.s := by
 obtain ⟨_, fr, _, hDV, _, _⟩ := id C
 have WV : ∀ c ∈ D :: b.W, c ∉ T := fun c hc m => (List.mem_cons.mp hc).elim (fun q => hD (q ▸ m)) fun h => hV c (fr.fs.sub c h) m
 refine Z6k hg ha (LI g b.O st0 (D :: b.W) T it zp (Z5s I t ifs b.sc m) (CI g b D) r σ') (fun q s L => ?_) l.sz ⟨st1, σ1, a, _, rfl, I1, X1.weak fun _ h => List.mem_append_right _ h, C, fun c h => (hT c h).2, i1, e, rfl⟩
 refine loop_turn fr.fs.room ht (fun a h => (hT a h).1) L (fun st2 a2 s' C2 I2 X2 x2 hT2 hk hr => ?_) fun st2 st3 σ3 a2 x u b2 r1 σ4 l' I3 X3 C2 x3 hT3 r3 i3 e3 hnx hrt => ?_
 ·have h2 : r.2 = a2 := congrArg Prod.snd hr
  obtain ⟨vs, f2, p2, _, L2, v2⟩ := C2
  exact k _ I2 X2 (h2.symm ▸ ⟨vs, f2.drop hV hT2 hk, (Z1z hD).trans p2, hDV, L2.at (hk D hD), VMs.ext x2 v2⟩)
 ·have C3 := C2.go x3 hV hD
  obtain ⟨_, f3, p3, _, _, _⟩ := id C3
  refine bE e3 fun ρ4 σ5 e4 g4 => Z5a I3 f3 r3 fr.fs.room e4 fun st4 I4 x4 f4 => bE g4 fun ok σ6 e5 g5 => Y0h htest I4 f4 e5 fun st5 I5 x5 => ?_
  have C4 := C3.to x4 f4 fun m => hDV (fr.fs.sub D m)
  have C5 := C4.go x5 (fun _ _ h => nomatch h) fun h => nomatch h
  have x35 : Step (D :: b.W) st3 st5 := (x4.weak fun a h => .tail _ h).trans (x5.w0 _)
  have kT : ∀ {st6 : St}, Step (D :: b.W) st3 st6 -> (∀ c ∈ T, Kp st3.h st6.h c) /\ ∀ c ∈ T, st6.own c = some .priv := fun y => ⟨fun c hc => y.prv (hT3 c hc) fun m => WV c m hc, fun c hc => (y.own c _ (I3.live c fun z => nomatch (hT3 c hc).symm.trans z).choose_spec).trans (hT3 c hc)⟩
  have fin : ∀ {st6 : St} {σ7 : Hp}, r1 = none -> σ4 = σ7 -> Inv g b.O st6 σ7 -> Step (D :: b.W) st3 st6 -> CI g b D st6 b2 -> ∃ m', m' < q /\ LI g b.O st0 (D :: b.W) T it zp (Z5s I t ifs b.sc m) (CI g b D) r σ' m' st6.s := fun hr hσ I6 x6 C6 =>
   let ⟨lt, e7⟩ := hnx hr; ⟨_, lt, _, _, _, l', rfl, hσ ▸ I6, X3.trans (x6.weak fun a h => List.mem_append_right _ h), C6, (kT x6).2, i3.go x6 (kT x6).1, e7, rfl⟩
  cases ok with
  | false =>
   have q := Z0q (show ret (none, (a2.1, ρ4)) b.O σ6 = some ((r1, b2), σ4) from g5)
   have q1 := Prod.mk.inj q.1
   rw [if_neg Bool.false_ne_true]
   exact fin q1.1.symm q.2.symm I5 x35 (q1.2 ▸ C5)
  | true =>
   rw [if_pos rfl]
   refine bE g5 fun r6 σ7 e6 g6 => hin I5 C5 e6 fun st6 I6 x6 C6 => ?_
   have q := Z0q (show ret (none, r6) b.O σ7 = some ((r1, b2), σ4) from g6)
   have q1 := Prod.mk.inj q.1
   exact fin q1.1.symm q.2.symm I6 (x35.trans x6) (q1.2 ▸ C6)
end
noncomputable def NoSet (I : Ix) : Prop := ∀ es k p sc ρ, I.s (.Set es k p) sc ρ = bad
theorem NoSet.ne {I : Ix} (N : NoSet I) {it : PySem.Expr} {sc : Scope} {ρ : Vars} {O : Z0c} {σ : Hp} {r : Src × Hp} (e : I.s it sc ρ O σ = some r) (es k p) : it ≠ .Set es k p := fun q => by rw [q, N] at e; exact Z0a e
section
variable {b : Fb} {D : Addr} {st st0 st1 st' : St} {σ σ' σ1 : Hp} {E : Value -> Shared -> Prop} {W T : List Addr} {ρ ρ' : Vars} {I : Ix} {a : List MV × Vars}
theorem push_own {vs : List Value} {u : Value} {Q : Value -> Shared -> Prop} (Iv : Inv g b.O st σ) (hD : st.own D = some .priv) (L : LX st.h D vs) (hl : vs.length <= 1000000) (k : ∀ st', Inv g b.O st' σ -> Step [D] st st' -> LX st'.h D (vs ++ [u]) -> Q .none st'.s) : wpAny g.M b.A (call (.builtin "list.append") [.ref D, u]) Q E st.s := by
 obtain ⟨m, ho⟩ := L
 refine call_meets PySem.F.slot_list_append ⟨_, ho, rfl⟩ PySem.F.entry_list_append (PySem.F.args_list_append_2 _ _) (PySem.list_append D vs.toArray m u (Z3v hl)) ⟨ho, ?_⟩
 have hk := Z2b (Heap.SameBut.update st.h D (Obj.mapSeq fun xs => xs.push u))
 have hx : LX (st.h.update D (Obj.mapSeq fun xs => xs.push u)) D (vs ++ [u]) := ⟨if (vs.toArray.push u).size == vs.toArray.size then m else m + 1, (Heap.get?_update_self _ ho rfl).trans (by show some (Obj.mk _ _ _ _) = _; rw [<- List.push_toArray])⟩
 exact k (st.put { st.s with heap := st.h.update D (Obj.mapSeq fun xs => xs.push u) }) (own1 Iv (.inl hD) hk hx.live fun q => nomatch hD.symm.trans q) (put1 (.head _) (.inl hD) hk hx.live) hx
theorem inner_sound (N : NoSet I) {elt : PySem.Expr} {gens : List Comprehension} {scope : Scope} {pos : Pos} (ha : ∀ g ∈ gens, g.is_async = 0) (hE : Sv g b (I.e elt b.sc) (eval elt b.env)) (hI : ∀ c ∈ gens, Ss g b (I.s c.iter b.sc) c.iter) (htest : ∀ c ∈ gens, ∀ x ∈ c.ifs, Sb g b (I.t x b.sc) (isTrue x b.env (eval x b.env))) :
  ∀ (rest : List Comprehension) (d : Nat), gens.drop (d + 1) = rest -> InS g b D (comp I elt b.sc rest) (Y1n (.ListComp elt gens scope pos) elt gens d (.ref D) b.env) := by
 intro rest
 induction rest with
 | nil =>
  intro d hd st σ ρ acc r σ' E Q Iv C e k
  unfold Y1n
  rw [List.getElem?_eq_none (List.drop_eq_nil_iff.mp hd)]
  obtain ⟨vs, fr, hp, hDV, L, rv⟩ := id C
  refine bE (show bnd (I.e elt b.sc ρ) (fun v => gd (small acc) (ret (acc ++ [v], ρ))) b.O σ = some (r, σ') from e) fun v σ1 e1 f1 => wpAny_bind (hE Iv fr e1 fun st1 u I1 x1 r1 => ?_)
  have q := Z0q (gd2 f1)
  obtain ⟨vs1, f1', p1, _, L1, rv1⟩ := C.go x1 (fun _ _ h => nomatch h) fun h => nomatch h
  refine wpAny_bind (push_own I1 p1 L1 (rv1.len ▸ Z1s (gd1 f1)) fun st2 I2 x2 L2 => wpAny_pure ?_)
  have hV : ∀ c ∈ b.V, c ∉ [D] := fun c hc m => hDV (List.mem_singleton.mp m ▸ hc)
  exact k st2 (q.2 ▸ I2) ((x1.w0 _).trans (x2.weak fun c hc => List.mem_singleton.mp hc ▸ .head _)) (q.1 ▸ ⟨_, f1'.goW x2 hV, (x2.own D _ L1.live.choose_spec).trans p1, hDV, L2, (rv1.go x2).app (.cons (r1.go x2) .nil)⟩)
 | cons c rest ih =>
  intro d hd st σ ρ acc r σ' E Q Iv C e k
  have hlt : d + 1 < gens.length := Nat.lt_of_not_le fun h => nomatch (List.drop_eq_nil_of_le h).symm.trans hd
  rw [List.drop_eq_getElem_cons hlt] at hd
  have hg : gens[d + 1]? = some c := (List.getElem?_eq_getElem hlt).trans (congrArg some (List.cons.inj hd).1)
  have gm : c ∈ gens := List.mem_of_getElem? hg
  obtain ⟨t, iter, ifs, as⟩ := c
  obtain rfl : as = 0 := ha _ gm
  unfold Y1n
  rw [hg]
  obtain ⟨vs, fr, hp, hDV, L, rv⟩ := id C
  refine bE (show bnd (I.s iter b.sc ρ) (fun s => bnd (Z2k (Z3b t) s (Z5s I t ifs b.sc (comp I elt b.sc rest)) (acc, ρ)) fun r => ret r.2) b.O σ = some (r, σ') from e) fun src σ1 e1 g1 => bE g1 fun r2 σ2 e2 g2 => ?_
  have q := Z0q g2
  obtain ⟨eL, ht⟩ := loopS_L e2
  refine wpAny_bind (wpAny_mono (hI _ gm Iv fr e1 (Q := fun it s2 => codeAny g.M b.A (.compStart (.ListComp elt gens scope pos) (d + 1) it (.ref D) b.env) (fun r s' => match r with | .ok f => Q s' | .error e => cameBackBy g.M b.A b.env E e s') s2) ?_) (fun x s1 h1 => ?_) fun _ _ h => h)
  ·intro st1 it T I1 x1 hT i1
   have hDT : D ∉ T := fun m => let ⟨o, e⟩ := L.live; Z0a ((hT D m).1.symm.trans e)
   exact Z2x hg (fun {Q E} h => iter_again i1 rfl h) (loopC hg ha (ih (d + 1) (List.cons.inj hd).2) (htest _ gm) I1 (x1.w0 _) hT (new_ne fr fun c h => (hT c h).1) hDT (C.go x1 (fun _ _ h => nomatch h) fun h => nomatch h) i1 ht eL (q.1.symm ▸ q.2.symm ▸ k))
  ·refine wpAny_bind (wpAny_standAt (wpAny_bind (wpAny_of_eq (Z7f (N.ne e1) x) (wpAny_bind (wpAny_holding (wpAny_mono h1 (fun it s2 h2 => ?_) fun _ _ h => h))))))
   refine wpAny_bind (wpAny_runOwn (h := none) ?_ (fun q => nomatch q))
   rw [Around.mark_none]
   exact codeAny_mono h2 fun r s' hr => by
    cases r with
    | ok f => exact wpAny_pure hr
    | error e => exact hr
structure BkOk (out : Scope) (scope : Scope) : Prop where
 kind : scope.kind = .function
 nocell : ∀ x ∈ scope.names, x.2 ≠ .cell
 loc : ∀ x ∈ scope.names, x.2 = .local -> look scope.names x.1 = some .local
 free : ∀ x ∈ scope.names, x.2 = .free -> look out.names x.1 = some .cell \/ look out.names x.1 = some .free
theorem block_facts {out scope : Scope} {rest : List Comprehension} (h : (isFun scope.kind && Z3r out.names scope.names scope.names && rest.all sync) = true) : BkOk out scope /\ ∀ g ∈ rest, g.is_async = 0 := by
 have ⟨h1, h2⟩ := Bool.and_eq_true_iff.mp h
 have ⟨h1, h3⟩ := Bool.and_eq_true_iff.mp h1
 have B := fun x hx => Z9c h3 x hx
 refine ⟨⟨?_, fun x hx => (B x hx).1, fun x hx => (B x hx).2.1, fun x hx => (B x hx).2.2⟩, fun c hc => ?_⟩
 ·cases q : scope.kind <;> rw [q] at h1 <;> first | rfl | exact Z0y h1
 ·have q := List.all_eq_true.mp h2 c hc
  obtain ⟨t, i, ifs, a⟩ := c
  cases a with
  | ofNat m => cases m with
   | zero => rfl
   | succ m => exact Z0y q
  | negSucc m => exact Z0y q
theorem Z8b (f : Fm g b st ρ) {scope : Scope} (B : BkOk b.sc scope) (x) (hx : x ∈ scope.names) (q : x.2 = .free) : (b.env.cells.lookup x.1).isSome = true := by
 obtain ⟨c, _, e, _⟩ := f.cells x.1 (B.free x hx q)
 rw [e]; rfl
noncomputable abbrev Fb.block (b : Fb) (scope : Scope) (Cl : Addr) : Fb := ⟨b.O, b.A, b.n, Cl :: b.V, [Cl], compEnvC scope (clF b.env scope.names []) Cl b.env, scope, .priv⟩
theorem block_frame (f : Fm g b st ρ) {scope : Scope} (B : BkOk b.sc scope) {Cl : Addr} {m : Str -> Option Value} (hn : st.h.Ns Cl m) (hC : st.own Cl = some .priv) (hCV : Cl ∉ b.V) : Fm g (b.block scope Cl) st (Z2a ρ scope.names) := by
 obtain ⟨c1, -, c3⟩ := clF_mem (env := b.env) (names := scope.names) (cs := []) (Z8b f B) fun _ h => nomatch h
 have kd : ∀ {x k}, look scope.names x = some k -> (compEnvC scope (clF b.env scope.names []) Cl b.env).kindOf x = some (if (k == .free && b.env.scope.kind == .function && b.env.kindOf x == some .cell) then .cell else k) := fun h => relabel_lookup (Z7d _ _ ▸ h)
 have nm : ∀ {x k}, look scope.names x = some k -> (x, k) ∈ scope.names := fun h => Z3e h
 refine ⟨⟨f.fs.room, fun a ha => List.mem_singleton.mp ha ▸ .head _, B.kind, f.fs.glob, f.fs.bi, fun x hx => kd hx, fun x hx => kd hx, fun x hx => absurd rfl (B.nocell _ (nm hx)), fun x hx => ?_, .head _, fun x y c hx hy => f.fs.apart x y c (c1 _ (mem_of_lookup hx)) (c1 _ (mem_of_lookup hy)), nofun⟩, fun a ha => ?_, ⟨m, hn, fun x v hx hv => ?_⟩, fun x hx => ?_, f.fr, hC⟩
 ·rw [kd hx]
  cases (NameKind.free == .free && b.env.scope.kind == .function && b.env.kindOf x == some .cell)
  ·exact .inr rfl
  ·exact .inl rfl
 ·rcases List.mem_cons.mp ha with rfl | ha
  ·exact ⟨.inl hC, let ⟨o, _, _, q, _⟩ := hn; ⟨o, q⟩⟩
  ·exact f.prv a ha
 ·unfold Z2c at hv
  rw [compVars_look.1 hx] at hv
  exact Z0a hv
 ·have hx : look scope.names x = some .free := hx.elim (fun hx => absurd rfl (B.nocell _ (nm hx))) id
  obtain ⟨a, ha⟩ := c3 _ (nm hx) rfl
  obtain ⟨d, hd⟩ := Z3d ha
  obtain ⟨c, w0, e1, e2, e3, e4, e5, e6⟩ := f.cells x (B.free _ (nm hx) rfl)
  cases e1.symm.trans (c1 _ (mem_of_lookup hd))
  refine ⟨d, w0, hd, .tail _ e2, (fun q => nomatch hx.symm.trans q), fun q => hCV ((show d = Cl from q) ▸ e2), e5, fun v hv => e6 v ?_⟩
  unfold Z2c at hv
  rw [compVars_look.2 hx] at hv
  cases q : Z2c ρ x with
  | none => rw [q] at hv; exact Z0a hv
  | some v' => rw [q] at hv; exact hv
noncomputable def PostU (g : Gl) (A : Around) (E : Value -> Shared -> Prop) (Q : Value -> Shared -> Prop) (u : Value) (s' : Shared) (Cl : Addr) : Option (Value -> Sem Unit) -> Prop
 | none => ∀ h', Heap.SameBut Cl s'.heap h' -> Q u { s' with heap := h' }
 | some uu => wpAny g.M A (uu u) (fun _ s'' => ∃ m, s''.heap.Ns Cl m /\ ∀ h', Heap.SameBut Cl s''.heap h' -> Q .none { s'' with heap := h' }) E s'
theorem comp_all (N : NoSet I) {use : Option (Value -> Sem Unit)} {elt t iter : PySem.Expr} {ifs : List PySem.Expr} {rest : List Comprehension} {scope : Scope} {pos p : Pos} {mu : Bool} {z : MV} {Q : Value -> Shared -> Prop} (hI0 : Ss g b (I.s iter b.sc) iter)
  (hE : ∀ b' : Fb, b'.n = b.n -> Sv g b' (I.e elt b'.sc) (eval elt b'.env)) (hI : ∀ b' : Fb, b'.n = b.n -> ∀ c ∈ (⟨t, iter, ifs, 0⟩ :: rest : List Comprehension), Ss g b' (I.s c.iter b'.sc) c.iter) (htest : ∀ b' : Fb, b'.n = b.n -> ∀ c ∈ (⟨t, iter, ifs, 0⟩ :: rest : List Comprehension), ∀ x ∈ c.ifs, Sb g b' (I.t x b'.sc) (isTrue x b'.env (eval x b'.env)))
  (Iv : Inv g b.O st σ) (fr : Fm g b st ρ) (e : (gd (isFun scope.kind && Z3r b.sc.names scope.names scope.names && rest.all sync) (bnd (I.s iter b.sc ρ) fun s => bnd (Z2k (Z3b t) s (Z5s I t ifs scope (comp I elt scope rest)) ([], Z2a ρ scope.names)) fun r => Z1w mu r.2.1)) b.O σ = some (z, σ'))
  (k : ∀ st' u Cl, Inv g b.O st' σ' -> Step [Cl] st st' -> st.h.get? Cl = none -> st'.own Cl = some .priv -> (∃ m, st'.h.Ns Cl m) -> VM g st' z u -> PostU g b.A E Q u st'.s Cl use) :
  wpAny g.M b.A (comprehension (.ListComp elt (⟨t, iter, ifs, 0⟩ :: rest) scope pos) scope b.env p (newList []) false (eval iter b.env) use) Q E st.s := by
 obtain ⟨B, bs⟩ := block_facts (gd1 e)
 refine bE (gd2 e) fun src σ1 e1 g1 => bE g1 fun r2 σ2 e2 g2 => ?_
 obtain ⟨eL, ht⟩ := loopS_L e2
 have ha : ∀ g ∈ (⟨t, iter, ifs, 0⟩ :: rest : List Comprehension), g.is_async = 0 := fun g hg => (List.mem_cons.mp hg).elim (fun q => q ▸ rfl) (bs g)
 refine wpAny_comprehension_free (use := use) rfl (fun x => Z7f (N.ne e1) x) (closureFor_eq (Z8b fr B)) B.kind (fun x hx hl => Z7d _ _ ▸ B.loc x hx hl) (hI0 Iv fr e1 fun st1 it T I1 x1 hT i1 => ?_)
 refine wpAny_newObj_type (wpAny_newFunctionEnv B.nocell (fun x hx => nomatch hx) (fun h₁ hns₁ hsb₁ => ?_) B.kind)
 dsimp only at hns₁ hsb₁ ⊢
 generalize hH2 : st1.h.push { cls := .type "list", dict := none, data := .seq ([] : List Value).toArray } = H2 at hns₁ hsb₁ ⊢
 have hDd : st1.h.get? st1.h.objs.size = none := Z0h _
 generalize hDD : st1.h.objs.size = D at hDd ⊢
 have hCs : H2.objs.size = D + 1 := by rw [<- hH2, Heap.size_push, hDD]
 generalize hCC : H2.objs.size = Cl at hns₁ hsb₁ hCs ⊢
 have hCd : st1.h.get? Cl = none := by
  cases q : st1.h.get? Cl with
  | none => rfl
  | some o => exact absurd (Heap.lt_size q) (by rw [hDD, hCs]; exact Nat.not_lt.mpr (Nat.le_succ D))
 have hCD : Cl ≠ D := fun q => Nat.succ_ne_self D (hCs.symm.trans q)
 have hk : ∀ a, Kp st1.h h₁ a := fun a o q => hsb₁.extBut a o (fun z => Z0a (hCd.symm.trans (z ▸ q))) (Heap.get?_push_of_some _ (hH2 ▸ Heap.get?_push_of_some _ q))
 have LD : LX h₁ D [] := ⟨0, hsb₁.extBut _ _ (Ne.symm hCD) (Heap.get?_push_of_some _ (by rw [<- hH2, <- hDD]; exact Heap.get?_push_size _ rfl))⟩
 have hN : ∀ a ∈ [Cl, D], st1.h.get? a = none /\ ∃ o, h₁.get? a = some o := fun a ha => (List.mem_cons.mp ha).elim (fun q => q ▸ ⟨hCd, let ⟨o, _, _, q, _⟩ := hns₁; ⟨o, q⟩⟩) fun ha => List.mem_singleton.mp ha ▸ ⟨hDd, LD.live⟩
 have I2 := I1.res (L := none) (s' := { st1.s with heap := h₁, toks := st1.s.toks + ([] : List (Str × Value)).length }) hk hN rfl rfl
 have x2 : Step [] st1 (st1.res { st1.s with heap := h₁, toks := st1.s.toks + ([] : List (Str × Value)).length } [Cl, D]) := .res hk fun a h => (hN a h).1
 have x02 := x1.trans x2
 have hC : (st1.res { st1.s with heap := h₁, toks := st1.s.toks + ([] : List (Str × Value)).length } [Cl, D]).own Cl = some .priv := Z8t (.head _)
 have hD : (st1.res { st1.s with heap := h₁, toks := st1.s.toks + ([] : List (Str × Value)).length } [Cl, D]).own D = some .priv := Z8t (.tail _ (.head _))
 have hV : ∀ {c : Addr}, st1.h.get? c = none -> c ∉ b.V := fun h m => let ⟨_, o, e⟩ := fr.prv _ m; let ⟨o', e'⟩ := x1.live _ o e; Z0a (h.symm.trans e')
 have hTn : ∀ {c : Addr}, st1.h.get? c = none -> c ∉ T := fun h m => nomatch (I1.fresh h).symm.trans (hT _ m).2
 have hT2 : ∀ c ∈ T, st.h.get? c = none /\ (st1.res { st1.s with heap := h₁, toks := st1.s.toks + ([] : List (Str × Value)).length } [Cl, D]).own c = some .priv := fun c hc => ⟨(hT c hc).1, by
  obtain ⟨o, e⟩ := I1.live c fun z => nomatch (hT c hc).2.symm.trans z
  exact (x2.own c o e).trans (hT c hc).2⟩
 have cf := block_frame (fr.go x02) B hns₁ hC (hV hCd)
 have hDV : D ∉ Cl :: b.V := fun m => (List.mem_cons.mp m).elim (fun q => hCD q.symm) (hV hDd)
 have i2 := i1.go x2 fun c hc o e => hk c o e
 refine Z2x rfl (fun {Q E} h => iter_again i2 rfl h) ?_
 refine loopC (b := b.block scope Cl) (D := D) (st0 := st) (a := ([], Z2a ρ scope.names)) rfl ha (inner_sound N ha (hE (b.block scope Cl) rfl) (hI (b.block scope Cl) rfl) (htest (b.block scope Cl) rfl) rest 0 rfl) (htest (b.block scope Cl) rfl _ (.head _)) I2 (x02.w0 _) hT2 (fun c hc => (List.mem_cons.mp hc).elim (fun q => q ▸ hTn hCd) fun hc => new_ne fr (fun c h => (hT c h).1) c hc) (hTn hDd) ⟨[], cf, hD, hDV, LD, .nil⟩ i2 ht eL ?_
 intro st4 I4 x4 C4
 obtain ⟨vs4, f4, p4, _, L4, rv4⟩ := C4
 refine hand I4 p4 (x1.dead hDd) x4 (gd2 g2) (fun st' y hs => ⟨vs4, (congrArg (fun s : Shared => LX s.heap D vs4) hs).mpr L4, VMs.ext y rv4⟩) (fun ps hp => .lstI ⟨Y1v (.head _), L4⟩ (Y0b (VMs.ext (.free p4) rv4) hp)) fun st5 hs ho I5 x5 vz => ?_
 obtain ⟨m4, hn4, -⟩ := f4.ns
 have hs : st4.s = st5.s := hs.symm
 have q := k st5 (.ref D) Cl I5 (.shed (T := [D]) x5 fun a h => List.mem_singleton.mp h ▸ x1.dead hDd) (x1.dead hCd) ((ho Cl hCD).trans f4.lo) ⟨m4, (congrArg (fun s : Shared => s.heap.Ns Cl m4) hs).mp hn4⟩ vz
 rw [<- hs] at q
 cases use with
 | none => exact ⟨m4, hn4, q⟩
 | some u => exact q
end
noncomputable def Z3z (I : Ix) : Prop := ∀ x p sc ρ, I.e (.Starred x p) sc ρ = bad
noncomputable def AftL (g : Gl) (O : Z0c) (st : St) (l : List MV) (σ' : Hp) (Q : List Value -> Shared -> Prop) : Prop := ∀ st' us, Inv g O st' σ' -> Step [] st st' -> VMs g st' l us -> Q us st'.s
section
variable {b : Fb} {st st' : St} {σ σ' : Hp} {A : Around} {E : Value -> Shared -> Prop} {ρ : Vars} {I : Ix} {C : Z0j} {α : Type} {pos : Pos} {es args : List PySem.Expr} {l : List MV}
theorem star_no (N : Z3z I) {e : PySem.Expr} {sc : Scope} {O : Z0c} {r : MV × Hp} (h : I.e e sc ρ O σ = some r) (rest : List PySem.Expr) (env : Env) : starEach (e :: rest) env = (false, eval e env) :: starEach rest env := by
 cases e with
 | Starred x p => rw [N] at h; exact Z0a h
 | _ => rfl
theorem argsE {e : PySem.Expr} {sc : Scope} {O : Z0c} {r : List MV × Hp} (h : Z5e I (e :: es) sc ρ O σ = some r) {P : Prop} (k : ∀ v σ1 l, I.e e sc ρ O σ = some (v, σ1) -> Z5e I es sc ρ O σ1 = some (l, r.2) -> r.1 = v :: l -> P) : P :=
 bE (show bnd (I.e e sc ρ) (fun v => bnd (Z5e I es sc ρ) fun l => ret (v :: l)) O σ = some r from h) fun v σ1 e1 f1 => bE f1 fun l σ2 e2 f2 => by
  cases (show some (v :: l, σ2) = some r from f2)
  exact k v σ1 l e1 e2 rfl
theorem Z6h (N : Z3z I) {sc : Scope} {O : Z0c} : ∀ {es : List PySem.Expr} {σ : Hp} {r : List MV × Hp}, Z5e I es sc ρ O σ = some r -> ∀ env, (backTo pos (starEach es env)).any (·.1) = false
 | [], _, _, _, _ => rfl
 | e :: es, σ, r, h, env => argsE h fun v σ1 l e1 e2 _ => by
  rw [star_no N e1]
  show (false || (backTo pos (starEach es env)).any (·.1)) = false
  rw [Z6h N e2 env]; rfl
theorem Z6g (N : Z3z I) : ∀ {es : List PySem.Expr}, (∀ e ∈ es, Sv g b (I.e e b.sc) (eval e b.env)) -> ∀ {st : St} {σ : Hp} {l : List MV} {Q : List Value -> Shared -> Prop}, Inv g b.O st σ -> Fm g b st ρ -> Z5e I es b.sc ρ b.O σ = some (l, σ') -> AftL g b.O st l σ' Q -> wpAny g.M b.A (spliced (backTo pos (starEach es b.env))) Q E st.s
 | [], _, st, σ, l, Q, Iv, fr, h, k => have q := Z0q (show ret [] b.O σ = some (l, σ') from h); wpAny_items_nil (k st [] (q.2 ▸ Iv) (.refl [] st) (q.1 ▸ .nil))
 | e :: es, hs, st, σ, l, Q, Iv, fr, h, k => argsE h fun v σ1 l' e1 e2 hl => wpAny_items_cons (hs e (.head _) Iv fr e1 fun st1 u I1 x1 r1 => Z6g N (fun x hx => hs x (.tail _ hx)) I1 (fr.go x1) e2 fun st2 us I2 x2 r2 => k st2 (u :: us) I2 (x1.trans x2) ((show l = v :: l' from hl) ▸ .cons (r1.go x2) r2)) (star_no N e1 _ _)
theorem Z6t (N : Z3z I) {f : Value} {Q : Args -> Shared -> Prop} (hs : ∀ e ∈ es, Sv g b (I.e e b.sc) (eval e b.env)) (Iv : Inv g b.O st σ) (fr : Fm g b st ρ) (h : Z5e I es b.sc ρ b.O σ = some (l, σ')) (k : AftL g b.O st l σ' fun us s' => Q ⟨us, []⟩ s') : wpAny g.M b.A (evalArgs f true (backTo pos (starEach es b.env)) []) Q E st.s := by
 cases es with
 | nil => exact have q := Z0q (show ret [] b.O σ = some (l, σ') from h); evalArgs_nil3 (k st [] (q.2 ▸ Iv) (.refl [] st) (q.1 ▸ .nil))
 | cons e es =>
  have A1 := Z6g (E := E) (pos := pos) N hs Iv fr h k
  refine argsE h fun v σ1 l' e1 e2 hl => ?_
  rw [star_no N e1] at A1 ⊢
  exact Calls.evalArgs_plain A1
theorem Z6s {f : Value} (h : ∀ a, f ≠ .ref a) (hp : Heap) : ∃ k, (k = Keeper.frame \/ k = Keeper.machine \/ k = Keeper.boundFrame) /\ Looks g.M hp (keeperOf f) k := by
 refine ⟨.machine, .inr (.inl rfl), ?_⟩
 cases f with
 | ref a => exact (h a rfl).elim
 | _ => exact Looks.now
theorem Z1m (N : Z3z I) {f : Value} {first : List Value} {Q : Value -> Shared -> Prop} (hf : Y0a g f) (X : g.K.In g.hb) (hs : ∀ e ∈ es, Sv g b (I.e e b.sc) (eval e b.env)) (Iv : Inv g b.O st σ) (fr : Fm g b st ρ) (h : Z5e I es b.sc ρ b.O σ = some (l, σ')) (k : AftL g b.O st l σ' fun us s' => wpAny g.M b.A (call f (first ++ us)) Q E s') : wpAny g.M b.A (callWith pos f first (backTo pos (starEach es b.env)) []) Q E st.s := by
 have hp : ((backTo pos (starEach es b.env)).any (·.1) || ([] : List (Option Str × Sem Value)).any (·.1.isNone)) = false := by rw [Z6h N h b.env]; rfl
 rcases hf with ⟨a, rfl, hk⟩ | hk
 ·exact callWith_of (P := fun h => g.K.In h) hp (keeps_K hk) (Z6t N hs Iv fr h fun st1 us I1 x1 r1 => ⟨X.keeps I1.up, k st1 us I1 x1 r1⟩)
 ·exact callWith_of (P := fun _ => True) hp (fun hp _ => Z6s hk hp) (Z6t N hs Iv fr h fun st1 us I1 x1 r1 => ⟨trivial, k st1 us I1 x1 r1⟩)
variable {m m1 m2 : Vars -> Mm MV} {t t1 t2 : Sem Value} {z : MV}
theorem two (h1 : Sv g b m1 t1) (h2 : Sv g b m2 t2) (Iv : Inv g b.O st σ) (fr : Fm g b st ρ) {f : MV -> MV -> Mm α} {r : α × Hp} (e : bnd (m1 ρ) (fun a => bnd (m2 ρ) (f a)) b.O σ = some r) {Q : Value -> Value -> Shared -> Prop}
  (k : ∀ st' σ1 a u c v, Inv g b.O st' σ1 -> Step [] st st' -> VM g st' a u -> VM g st' c v -> f a c b.O σ1 = some r -> Q u v st'.s) : wpAny g.M b.A t1 (fun u s1 => wpAny g.M b.A t2 (Q u) E s1) E st.s :=
 bE e fun a σ1 e1 f1 => bE f1 fun c σ2 e2 f2 => h1 Iv fr e1 fun st1 u I1 x1 r1 => h2 I1 (fr.go x1) e2 fun st2 v I2 x2 r2 => k st2 σ2 a u c v I2 (x1.trans x2) (r1.go x2) r2 f2
theorem one (h1 : Sv g b m t) (Iv : Inv g b.O st σ) (fr : Fm g b st ρ) {f : MV -> Mm α} {r : α × Hp} (e : bnd (m ρ) f b.O σ = some r) {Q : Value -> Shared -> Prop}
  (k : ∀ st' σ1 a u, Inv g b.O st' σ1 -> Step [] st st' -> VM g st' a u -> f a b.O σ1 = some r -> Q u st'.s) : wpAny g.M b.A t Q E st.s :=
 bE e fun a σ1 e1 f1 => h1 Iv fr e1 fun st1 u I1 x1 r1 => k st1 σ1 a u I1 x1 r1 f1
@[elab_as_elim] theorem truthE {y : MV} {u : Value} {c : Bool} {O : Z0c} (r : VM g st y u) (e : Z8n y O σ = some (c, σ')) {P : Value -> Prop} (k : y = .pv (.bool c) -> σ' = σ -> P (.bool c)) : P u := by
 cases y with
 | pv p => cases p with
  | bool b => cases e; exact r.p.boolE (k rfl rfl)
  | _ => exact Z0a e
 | _ => exact Z0a e
theorem sv_Constant {c : Const} {k0 : Nat} : Sv g b (mE g.cfg C I (.Constant c k0 pos) b.sc) (eval (.Constant c k0 pos) b.env) := fun st σ ρ z σ' E Q Iv fr e k => by
 cases c with
 | none => exact wpAny_Constant_none ((k.ret e).here Iv (.pv .none))
 | bool c => exact wpAny_Constant_bool ((k.ret e).here Iv (.pv (.bool c)))
 | int i => exact wpAny_Constant_int ((k.ret e).tok Iv (.pv (.int i _)) _)
 | str x => exact wpAny_Constant_str ((k.ret (gd2 e)).tok Iv (.pv (.str x _ (okS_ok (gd1 e)))) _)
 | _ => exact Z0a e
theorem sv_BinOp {x y : PySem.Expr} {op : Operator} (h1 : Sv g b (I.e x b.sc) (eval x b.env)) (h2 : Sv g b (I.e y b.sc) (eval y b.env)) : Sv g b (mE g.cfg C I (.BinOp x op y pos) b.sc) (eval (.BinOp x op y pos) b.env) := fun st σ ρ z σ' E Q Iv fr e k =>
 wpAny_BinOp (two h1 h2 Iv fr e fun st' σ1 a u c v I' x ra rc f => bin_sound I' ra rc f (k.after x))
theorem no_Set {x y : PySem.Expr} (N : ∀ es k p sc ρ, I.e (.Set es k p) sc ρ = bad) {op : CmpOp} {O : Z0c} {sc : Scope} {r : MV × Hp} (e : bnd (I.e x sc ρ) (fun a => bnd (I.e y sc ρ) fun c => cmpM op a c) O σ = some r) (es k p) : y ≠ .Set es k p := fun q => bE e fun a s e1 e2 => by rw [q, N] at e2; exact Z0a e2
theorem sv_Compare {x y : PySem.Expr} {op : CmpOp} (N : ∀ es k p sc ρ, I.e (.Set es k p) sc ρ = bad) (h1 : Sv g b (I.e x b.sc) (eval x b.env)) (h2 : Sv g b (I.e y b.sc) (eval y b.env)) : Sv g b (mE g.cfg C I (.Compare x [op] [y] pos) b.sc) (eval (.Compare x [op] [y] pos) b.env) := fun st σ ρ z σ' E Q Iv fr e k => by
 refine wpAny_Compare1 (two h1 h2 Iv fr e fun st' σ1 a u c v I' x ra rc f => cmp_sound fr.fs.room I' ra rc f (k.after x)) ?_
 cases y with
 | Set es k p => exact (no_Set N e _ _ _ rfl).elim
 | _ => rfl
theorem sb_Compare {x y : PySem.Expr} {op : CmpOp} (N : ∀ es k p sc ρ, I.e (.Set es k p) sc ρ = bad) (h1 : Sv g b (I.e x b.sc) (eval x b.env)) (h2 : Sv g b (I.e y b.sc) (eval y b.env)) : Sb g b (mT g.cfg C I (.Compare x [op] [y] pos) b.sc) (isTrue (.Compare x [op] [y] pos) b.env (eval (.Compare x [op] [y] pos) b.env)) := fun st σ ρ c σ' E Q Iv fr e k =>
 bE (show bnd (bnd (I.e x b.sc ρ) fun a => bnd (I.e y b.sc ρ) fun c => cmpM op a c) Z8n b.O σ = some (c, σ') from e) fun z σ0 e0 f0 => by
 refine wpAny_isTrue_Compare1 (two h1 h2 Iv fr e0 fun st' σ1 a u c v I' x ra rc f => cmp_sound fr.fs.room I' ra rc f fun st2 w I2 x2 r2 => truthE r2 f0 fun _ hσ => wpAny_truthy_bool (k st2 (hσ ▸ I2) (x.trans x2))) ?_
 cases y with
 | Set es k p => exact (no_Set N e0 _ _ _ rfl).elim
 | _ => rfl
theorem Z9m {e : PySem.Expr} (h : Sv g b (mE g.cfg C I e b.sc) (eval e b.env)) (ht : PySem.isTrue e b.env (eval e b.env) = (do let v <- eval e b.env; standAt e.pos; holding [v] (truthy v))) : Sb g b (mtv g.cfg C I e b.sc) (isTrue e b.env (eval e b.env)) := fun st σ ρ c σ' E Q Iv fr e k =>
 wpAny_isTrue_value (one h Iv fr e fun st' σ1 a u I' x r f => truthE r f fun _ hσ => wpAny_truthy_bool (k st' (hσ ▸ I') x)) ht
theorem sb_Not {x : PySem.Expr} (h : Sb g b (I.t x b.sc) (isTrue x b.env (eval x b.env))) : Sb g b (mT g.cfg C I (.UnaryOp .Not x pos) b.sc) (isTrue (.UnaryOp .Not x pos) b.env (eval (.UnaryOp .Not x pos) b.env)) := fun st σ ρ c σ' E Q Iv fr e k =>
 bE (show bnd (I.t x b.sc ρ) (fun b => ret (!b)) b.O σ = some (c, σ') from e) fun d σ1 e1 f1 => have q := Z0q f1; wpAny_isTrue_Not (h Iv fr e1 fun st1 I1 x1 => q.1.symm ▸ k st1 (q.2 ▸ I1) x1)
theorem sb_all {op : BoolOp} : ∀ {vs : List PySem.Expr}, (∀ x ∈ vs, Sb g b (I.t x b.sc) (isTrue x b.env (eval x b.env))) -> Sb g b (fun ρ => tstAll I op b.sc ρ vs) (allTrue op vs b.env)
 | [], _ => fun st σ ρ c σ' E Q Iv fr e k => by
  cases op
  ·exact have q := Z0q (show ret true b.O σ = some (c, σ') from e); wpAny_allTrue_And_nil (q.1 ▸ k st (q.2 ▸ Iv) (.refl [] st))
  ·exact have q := Z0q (show ret false b.O σ = some (c, σ') from e); wpAny_allTrue_Or_nil (q.1 ▸ k st (q.2 ▸ Iv) (.refl [] st))
 | x :: r, hs => fun st σ ρ c σ' E Q Iv fr e k => bE (show bnd (I.t x b.sc ρ) (fun c => match op, c with | .And, false => ret false | .Or, true => ret true | _, _ => tstAll I op b.sc ρ r) b.O σ = some (c, σ') from e) fun d σ1 e1 f1 => by
  have ih := sb_all (op := op) fun y hy => hs y (.tail _ hy)
  have stop : ∀ {st1 : St} {d : Bool}, Inv g b.O st1 σ1 -> Step [] st st1 -> ret d b.O σ1 = some (c, σ') -> Q d st1.s := fun I1 x1 f => have q := Z0q f; q.1 ▸ k _ (q.2 ▸ I1) x1
  cases op with
  | And =>
   refine wpAny_allTrue_And_cons (hs x (.head _) Iv fr e1 fun st1 I1 x1 => ?_)
   cases d with
   | true => rw [if_pos rfl]; exact ih I1 (fr.go x1) f1 (k.after x1)
   | false => rw [if_neg Bool.false_ne_true]; exact stop I1 x1 f1
  | Or =>
   refine wpAny_allTrue_Or_cons (hs x (.head _) Iv fr e1 fun st1 I1 x1 => ?_)
   cases d with
   | false => rw [if_neg Bool.false_ne_true]; exact ih I1 (fr.go x1) f1 (k.after x1)
   | true => rw [if_pos rfl]; exact stop I1 x1 f1
theorem sv_bool {op : BoolOp} : ∀ {vs : List PySem.Expr}, (∀ x ∈ vs, Sv g b (I.e x b.sc) (eval x b.env)) -> Sv g b (fun ρ => boolM op (vs.map fun e => I.e e b.sc ρ)) (boolOp pos op (evalEach vs b.env))
 | [], _ => fun st σ ρ z σ' E Q Iv fr e k => Z0a e
 | [x], hs => fun st σ ρ z σ' E Q Iv fr e k => hs x (.head _) Iv fr e k
 | x :: y :: r, hs => fun st σ ρ z σ' E Q Iv fr e k => by
  have ih := sv_bool (op := op) (vs := y :: r) fun y hy => hs y (.tail _ hy)
  refine bE (show bnd (I.e x b.sc ρ) (fun v => bnd (Z8n v) fun c => match op, c with | .And, false => ret v | .Or, true => ret v | _, _ => boolM op ((y :: r).map fun e => I.e e b.sc ρ)) b.O σ = some (z, σ') from e) fun v σ1 e1 f1 => bE f1 fun c σ2 e2 f2 => ?_
  set_option backward.match.sparseCases true in show wpAny _ _ (do
   let v <- eval x b.env
   standAt pos
   let t <- holding [v] (truthy v)
   match op, t with
   | .And, false | .Or, true => pure v
   | _, _ => boolOp pos op (evalEach (y :: r) b.env)) Q E st.s
  refine wpAny_bind (hs x (.head _) Iv fr e1 fun st1 u I1 x1 r1 => wpAny_bind (wpAny_standAt (wpAny_bind (wpAny_holding (truthE r1 e2 fun hv hσ => wpAny_truthy_bool ?_)))))
  rw [hσ] at f2
  have go := fun f => ih I1 (fr.go x1) f (k.after x1) (E := E)
  have stop : ret v b.O σ1 = some (z, σ') -> wpAny g.M b.A (pure (Value.bool c)) Q E st1.s := fun f => wpAny_pure (((k.after x1).ret f).here I1 (hv ▸ .pv (.bool c)))
  cases op <;> cases c <;> first | exact stop f2 | exact go f2
theorem sv_Not {x : PySem.Expr} (h : Sv g b (I.e x b.sc) (eval x b.env)) : Sv g b (mE g.cfg C I (.UnaryOp .Not x pos) b.sc) (eval (.UnaryOp .Not x pos) b.env) := fun st σ ρ z σ' E Q Iv fr e k =>
 wpAny_UnaryOp (one h Iv fr (show bnd (I.e x b.sc ρ) (fun v => bnd (Z8n v) fun b => ret (bv (!b))) b.O σ = some (z, σ') from e) fun st1 σ1 a u I1 x1 r1 f => bE f fun c σ2 e2 f2 => truthE r1 e2 fun _ hσ => not_value (wpAny_truthy_bool (((k.after x1).ret (hσ ▸ f2)).here I1 (.pv (.bool _)))))
theorem sv_USub {x : PySem.Expr} (h : Sv g b (I.e x b.sc) (eval x b.env)) : Sv g b (mE g.cfg C I (.UnaryOp .USub x pos) b.sc) (eval (.UnaryOp .USub x pos) b.env) := fun st σ ρ z σ' E Q Iv fr e k =>
 wpAny_UnaryOp (one h Iv fr (show bnd (I.e x b.sc ρ) negM b.O σ = some (z, σ') from e) fun st1 σ1 a u I1 x1 r1 f => by
  cases a with
  | pv p => cases p with
   | int i => exact r1.p.intE fun t => PySem.P.neg_int (((k.after x1).ret f).tok I1 (.pv (.int _ _)) _)
   | _ => exact Z0a f
  | _ => exact Z0a f)
theorem sv_IfExp {t x y : PySem.Expr} (ht : Sb g b (I.t t b.sc) (isTrue t b.env (eval t b.env))) (h1 : Sv g b (I.e x b.sc) (eval x b.env)) (h2 : Sv g b (I.e y b.sc) (eval y b.env)) : Sv g b (mE g.cfg C I (.IfExp t x y pos) b.sc) (eval (.IfExp t x y pos) b.env) := fun st σ ρ z σ' E Q Iv fr e k =>
 bE (show bnd (I.t t b.sc ρ) (fun c => match c with | true => I.e x b.sc ρ | false => I.e y b.sc ρ) b.O σ = some (z, σ') from e) fun c σ1 e1 f1 => wpAny_IfExp (ht Iv fr e1 fun st1 I1 x1 => by
  cases c with
  | true => rw [if_pos rfl]; exact h1 I1 (fr.go x1) f1 (k.after x1)
  | false => rw [if_neg Bool.false_ne_true]; exact h2 I1 (fr.go x1) f1 (k.after x1))
theorem sv_List (N : Z3z I) (hs : ∀ e ∈ es, Sv g b (I.e e b.sc) (eval e b.env)) : Sv g b (mE g.cfg C I (.List es pos) b.sc) (eval (.List es pos) b.env) := fun st σ ρ z σ' E Q Iv fr e k =>
 bE (show bnd (Z5e I es b.sc ρ) (fun vs => Z1w (g.cfg.muts pos) vs) b.O σ = some (z, σ') from e) fun l σ1 e1 f1 => wpAny_List (Z6g N hs Iv fr e1 fun st1 us I1 x1 r1 => ⟨Z3v (mkL_len f1 r1), Z9s I1 r1 f1 (k.after x1) st1.s.toks⟩)
theorem sv_Tuple (N : Z3z I) {k0 : Nat} (hs : ∀ e ∈ es, Sv g b (I.e e b.sc) (eval e b.env)) : Sv g b (mE g.cfg C I (.Tuple es k0 pos) b.sc) (eval (.Tuple es k0 pos) b.env) := fun st σ ρ z σ' E Q Iv fr e k =>
 bE (show bnd (Z5e I es b.sc ρ) (fun vs => Z4h vs) b.O σ = some (z, σ') from e) fun l σ1 e1 f1 => wpAny_Tuple (Z6g N hs Iv fr e1 fun st1 us I1 x1 r1 => ⟨Z3v (r1.len ▸ Z1s (gd1 f1)), tup_new I1 r1 ((k.after x1).ret (gd2 f1)) st1.s.toks⟩)
end
structure Leaves (g : Gl) (n : Nat) (C : Z0j) : Prop where
 bi : ∀ {O : Z0c} {st : St} {σ : Hp} {A : Around} {E : Value -> Shared -> Prop} {mu : Bool} {b : BI} {args : List MV} {vs : List Value} {z : MV} {σ' : Hp} {Q : Value -> Shared -> Prop}, Room A n -> Inv g O st σ -> VMs g st args vs -> biM mu b args O σ = some (z, σ') -> Aft g O st z σ' Q -> wpAny g.M A (call (biVal b) vs) Q E st.s
 zip : ∀ {O : Z0c} {st : St} {σ σ1 σ' : Hp} {A : Around} {E : Value -> Shared -> Prop} {x y : MV} {u v : Value} {l r : List MV} {Q : Value -> Shared -> Prop}, Room A n -> Inv g O st σ -> VM g st x u -> VM g st y v -> Z3p x = true -> Z3p y = true -> seqM x O σ = some (l, σ1) -> seqM y O σ1 = some (r, σ') -> AftSrc g O st (.zipped (zipL l r)) σ' Q ->
  wpAny g.M A (call (.type "zip") [u, v]) (fun z s1 => wpAny g.M A (pyIter z) Q E s1) E st.s
section
variable {b : Fb} {st st' : St} {σ σ' : Hp} {A : Around} {E : Value -> Shared -> Prop} {ρ : Vars} {I : Ix} {C : Z0j} {α : Type} {pos : Pos} {es args : List PySem.Expr} {l : List MV} {z : MV}
theorem base_eq {v : PySem.Expr} {a : Str} {env : Env} {t : Sem Value} (h : Z8c v = true) : attributeBase v a env t = t := by
 cases v with
 | Call f args kws pos => cases f with
  | Name x p => cases args with
   | nil => cases kws with
    | nil => exact Z0y h
    | cons _ _ => rfl
   | cons _ _ => rfl
  | _ => rfl
 | _ => rfl
theorem sv_Attribute (P : PFw g) {v : PySem.Expr} {a : Str} (h : Sv g b (I.e v b.sc) (eval v b.env)) : Sv g b (mE g.cfg C I (.Attribute v a pos) b.sc) (eval (.Attribute v a pos) b.env) := fun st σ ρ z σ' E Q Iv fr e k => by
 have e : gd (Z8c v) (bnd (I.e v b.sc ρ) fun o => Z9x g.cfg o a) b.O σ = some (z, σ') := e
 show wpAny _ _ (do
  let o <- attributeBase v a b.env (eval v b.env)
  standAt pos.atName
  let r <- holding [o] (getAttr o a true)
  letTemporaryGo v o r
  pure r) Q E st.s
 rw [base_eq (gd1 e)]
 exact wpAny_bind (one h Iv fr (gd2 e) fun st1 σ1 o u I1 x1 r1 f => wpAny_bind (wpAny_standAt (wpAny_bind (wpAny_holding (getAttr_sound P.pfc P.kin I1 r1 f fun st2 w I2 x2 r2 => wpAny_bind (wpAny_letTemporaryGo (wpAny_pure (k st2 w I2 (x1.trans x2) r2))))))))
theorem sv_Sub {v i : PySem.Expr} (h : Sv g b (I.e v b.sc) (eval v b.env)) (hi : Sv g b (I.e i b.sc) (eval i b.env)) : Sv g b (msub I v i b.sc) (eval (.Subscript v i pos) b.env) := fun st σ ρ z σ' E Q Iv fr e k =>
 Subscript_ (two h hi Iv fr e fun st1 σ1 o u c w I1 x1 r1 r2 f => sub_sound I1 r1 r2 f (k.after x1))
theorem opt_sound {x : Option PySem.Expr} {z : Option MV} {Q : Value -> Shared -> Prop} (hx : ∀ e, x = some e -> Sv g b (I.e e b.sc) (eval e b.env)) (Iv : Inv g b.O st σ) (fr : Fm g b st ρ) (e : mopt I x b.sc ρ b.O σ = some (z, σ')) (k : ∀ st' u, Inv g b.O st' σ' -> Step [] st st' -> OptIs g st' z u -> Q u st'.s) : wpAny g.M b.A (evalPart x b.env) Q E st.s := by
 cases x with
 | none =>
  cases (show some ((none : Option MV), σ) = some (z, σ') from e)
  exact wpAny_pure (k st .none Iv (.refl [] st) rfl)
 | some e' =>
  rw [evalPart_some]
  exact one (hx e' rfl) Iv fr (show bnd (I.e e' b.sc ρ) (fun v => ret (some v)) b.O σ = some (z, σ') from e) fun st1 σ1 v u I1 x1 r1 f => have q := Z0q f; k st1 u (q.2 ▸ I1) x1 (q.1 ▸ r1)
theorem sv_Slice {v : PySem.Expr} {u w : Option PySem.Expr} {p : Pos} (h : Sv g b (I.e v b.sc) (eval v b.env)) (hu : ∀ e, u = some e -> Sv g b (I.e e b.sc) (eval e b.env)) (hw : ∀ e, w = some e -> Sv g b (I.e e b.sc) (eval e b.env)) : Sv g b (mE g.cfg C I (.Subscript v (.Slice none u w p) pos) b.sc) (eval (.Subscript v (.Slice none u w p) pos) b.env) := fun st σ ρ z σ' E Q Iv fr e k =>
 Subscript_ (one h Iv fr (show bnd (I.e v b.sc ρ) (fun o => bnd (mopt I u b.sc ρ) fun uv => bnd (mopt I w b.sc ρ) fun sv => cutM (g.cfg.muts pos) o uv sv) b.O σ = some (z, σ') from e) fun st1 σ1 o x I1 x1 r1 f1 => bE f1 fun uv σ2 e2 f2 => bE f2 fun wv σ3 e3 f3 => wpAny_Slice (by
  rw [evalPart_none]
  exact wpAny_pure (opt_sound hu I1 (fr.go x1) e2 fun st2 y I2 x2 r2 => opt_sound hw I2 ((fr.go x1).go x2) e3 fun st3 y' I3 x3 r3 => cut_sound I3 ((r1.go x2).go x3) (r2.go x3) r3 f3 (k.after ((x1.trans x2).trans x3)))))
theorem one_priv {Cl : Addr} {s' : Shared} {Q : Value -> Shared -> Prop} {u : Value} (k : Aft g b.O st z σ' Q) (I1 : Inv g b.O st' σ') (x1 : Step [Cl] st st') (hd : st.h.get? Cl = none) (hC : st'.own Cl = some .priv) (r : VM g st' z u) (hk : ∀ c, c ≠ Cl -> Kp st'.h s'.heap c) (hg : s'.gens = st'.s.gens := by rfl) (ho : s'.os = st'.s.os := by rfl) : Q u s' :=
 have hT : ∀ a ∈ [Cl], st'.own a = some .priv := fun a h => List.mem_singleton.mp h ▸ hC
 have q := Z9q (W := []) (T := [Cl]) I1 x1 hT (fun a h => List.mem_singleton.mp h ▸ hd) (fun a n => hk a fun q => n (List.mem_singleton.mpr q)) hg ho
 k (st'.drop s' [Cl]) u q.1 q.2.1 (r.ext q.2.2)
theorem sv_ListComp (N : NoSet I) {elt : PySem.Expr} {gens : List Comprehension} {scope : Scope} (hE : ∀ b' : Fb, b'.n = b.n -> Sv g b' (I.e elt b'.sc) (eval elt b'.env)) (hI : ∀ b' : Fb, b'.n = b.n -> ∀ c ∈ gens, Ss g b' (I.s c.iter b'.sc) c.iter) (htest : ∀ b' : Fb, b'.n = b.n -> ∀ c ∈ gens, ∀ x ∈ c.ifs, Sb g b' (I.t x b'.sc) (isTrue x b'.env (eval x b'.env))) : Sv g b (mE g.cfg C I (.ListComp elt gens scope pos) b.sc) (eval (.ListComp elt gens scope pos) b.env) := fun st σ ρ z σ' E Q Iv fr e k => by
 cases gens with
 | nil => exact Z0a e
 | cons c rest =>
  obtain ⟨t, iter, ifs, as⟩ := c
  cases as with
  | ofNat m => cases m with
   | zero =>
    rw [eval_ListComp]
    exact comp_all (use := none) N (hI b rfl _ (.head _)) hE hI htest Iv fr e fun st1 u Cl I1 x1 hd hC hn r1 h' hs => one_priv k I1 x1 hd hC r1 (Z2b hs)
   | succ m => exact Z0a e
  | negSucc m => exact Z0a e
theorem Y1r {es : List (Str × MV)} {kvs : List (Str × Value)} (r : VMes g st es kvs) : ∀ {acc : List (Str × MV)} {a : List (Str × Value)}, VMes g st acc a -> (a.map (·.1)).Nodup -> VMes g st (Z4w acc es) (merged a kvs) := by
 induction r with
 | nil => exact fun h _ => h
 | @cons e d es kvs a _ ih =>
  intro acc a' h hn
  obtain ⟨k1, v⟩ := e
  obtain ⟨k2, w⟩ := d
  obtain ⟨⟨h1, h2⟩, h3⟩ := a
  obtain rfl : k2 = k1 := h1
  exact ih (put_ents h2 h3 h hn) (Z8y hn _ _)
theorem pairs_all {sc : Scope} {O : Z0c} : ∀ {ks : List (Option PySem.Expr)} {vs : List PySem.Expr} {σ : Hp} {r : List (Str × MV) × Hp}, ks.length = vs.length -> Z7p ((ks.map fun o => o.map fun e => I.e e sc ρ).zip (vs.map fun e => I.e e sc ρ)) O σ = some r -> ks.all (·.isSome) = true
 | [], _, _, _, _, _ => rfl
 | none :: ks, v :: vs, _, _, _, e => Z0a e
 | some k :: ks, v :: vs, σ, r, h, e => bE (show bnd (I.e k sc ρ) (fun kv => bnd (I.e v sc ρ) fun vv => strA (fun s => bnd (Z7p ((ks.map fun o => o.map fun e => I.e e sc ρ).zip (vs.map fun e => I.e e sc ρ))) fun l => ret ((s, vv) :: l)) kv) O σ = some r from e) fun kv σ1 e1 f1 => bE f1 fun vv σ2 e2 f2 => by
  cases kv with
  | pv p => cases p with
   | str s => exact bE (show bnd (Z7p _) (fun l => ret ((s, vv) :: l)) O σ2 = some r from f2) fun l σ3 e3 f3 => pairs_all (ks := ks) (Nat.succ.inj h) e3
   | _ => exact Z0a f2
  | _ => exact Z0a f2
theorem Y1a : ∀ {ks : List (Option PySem.Expr)} {vs : List PySem.Expr}, ks.length = vs.length -> (∀ e, some e ∈ ks -> Sv g b (I.e e b.sc) (eval e b.env)) -> (∀ e ∈ vs, Sv g b (I.e e b.sc) (eval e b.env)) -> ∀ {st : St} {σ : Hp} {es : List (Str × MV)} {Q : List (Value × Value) -> Shared -> Prop}, Inv g b.O st σ -> Fm g b st ρ ->
  Z7p ((ks.map fun o => o.map fun e => I.e e b.sc ρ).zip (vs.map fun e => I.e e b.sc ρ)) b.O σ = some (es, σ') -> (∀ st' ps kvs, Inv g b.O st' σ' -> Step [] st st' -> Carries g.sk ps kvs -> VMes g st' es kvs -> Q ps st'.s) -> wpAny g.M b.A (evalPairs (pairTrees ks vs b.env pos)) Q E st.s
 | [], [], _, _, _, st, σ, es, Q, Iv, fr, e, k => have q := Z0q (show ret [] b.O σ = some (es, σ') from e); evalPairs_nil (k st [] [] (q.2 ▸ Iv) (.refl [] st) trivial (q.1 ▸ .nil))
 | none :: ks, v :: vs, _, _, _, _, _, _, _, _, _, e, _ => Z0a e
 | some k0 :: ks, v0 :: vs, hl, hk, hv, st, σ, es, Q, Iv, fr, e, k => by
  have e : bnd (I.e k0 b.sc ρ) (fun kv => bnd (I.e v0 b.sc ρ) fun vv => strA (fun s => bnd (Z7p ((ks.map fun o => o.map fun e => I.e e b.sc ρ).zip (vs.map fun e => I.e e b.sc ρ))) fun l => ret ((s, vv) :: l)) kv) b.O σ = some (es, σ') := e
  show wpAny _ _ (evalPairs ((eval k0 b.env, do let x <- eval v0 b.env; standAt pos; pure x) :: pairTrees ks vs b.env pos)) Q E st.s
  refine bE e fun kv σ1 e1 f1 => evalPairs_cons (hk k0 (.head _) Iv fr e1 fun st1 u I1 x1 r1 => bE f1 fun vv σ2 e2 f2 => wpAny_bind (hv v0 (.head _) I1 (fr.go x1) e2 fun st2 w I2 x2 r2 => wpAny_bind (wpAny_standAt (wpAny_pure (strAV r1 f2 fun s t hs f3 => bE f3 fun l σ3 e3 f4 => ?_)))))
  have q := Z0q f4
  exact Y1a (Nat.succ.inj hl) (fun e he => hk e (.tail _ he)) (fun e he => hv e (.tail _ he)) I2 ((fr.go x1).go x2) (q.2 ▸ e3) fun st3 ps kvs I3 x3 c3 r3 => k st3 _ ((s, w) :: kvs) I3 ((x1.trans x2).trans x3) ⟨Z1a s t, rfl, c3⟩ (q.1 ▸ .cons ⟨⟨rfl, hs⟩, r2.go x3⟩ r3)
theorem not_sys (P : PFw g) {O : Z0c} (Iv : Inv g O st σ) {D : Addr} (h : st.h.get? D = none) : (D == sysModules) = false := by
 obtain ⟨o, e⟩ := P.sys
 exact beq_eq_false_iff_ne.mpr fun q => Z0a (h.symm.trans (q ▸ Iv.up _ o e))
theorem dict_done (P : PFw g) {D : Addr} {mu : Bool} {es : List (Str × MV)} {kvs : List (Str × Value)} {s' : Shared} {σ1 : Hp} {st1 : St} {Q : Value -> Shared -> Prop} (Iv : Inv g b.O st σ) (hd : st.h.get? D = none) (I1 : Inv g b.O st1 σ1) (x1 : Step [] st st1) (hD : st1.own D = some .priv) (r : VMes g st1 es kvs) (e : Z7r mu es b.O σ1 = some (z, σ')) (hx : s'.heap.DictOf g.sk D kvs) (hk : ∀ c, c ≠ D -> Kp st1.h s'.heap c) (k : Aft g b.O st z σ' Q) (hg : s'.gens = st1.s.gens := by rfl) (ho : s'.os = st1.s.os := by rfl) : Q (.ref D) s' := by
 have S : Step [D] st1 (st1.put s') := put1 (.head _) (.inl hD) hk (Z2w hx)
 have z := not_sys P Iv hd
 have r := r.go S
 refine hand (own1 I1 (.inl hD) hk (Z2w hx) (fun q => nomatch hD.symm.trans q) hg ho) hD hd ((x1.w0 _).trans S) (gd2 e) (fun st' y hs => ⟨kvs, z, (congrArg (fun s : Shared => s.heap.DictOf g.sk D kvs) hs).mpr hx, VMes.ext y r⟩) (fun ps hp => .dctI ⟨Y1v (.head _), z, hx⟩ (ves_of (VMes.ext (.free (st := st1.put s') hD) r) hp)) fun st2 hs _ I2 x2 r2 => ?_
 exact (congrArg (Q (.ref D)) (show st2.s = s' from hs)).mp (k st2 _ I2 (.shed (T := [D]) x2 fun a h => List.mem_singleton.mp h ▸ hd) r2)
theorem sv_Dict (P : PFw g) {ks : List (Option PySem.Expr)} {vs : List PySem.Expr} (hk : ∀ e, some e ∈ ks -> Sv g b (I.e e b.sc) (eval e b.env)) (hv : ∀ e ∈ vs, Sv g b (I.e e b.sc) (eval e b.env)) : Sv g b (mE g.cfg C I (.Dict ks vs pos) b.sc) (eval (.Dict ks vs pos) b.env) := fun st σ ρ z σ' E Q Iv fr e k => by
 have e : gd (Nat.ble vs.length 15 && Nat.beq ks.length vs.length) (bnd (Z7p ((ks.map fun o => o.map fun e => I.e e b.sc ρ).zip (vs.map fun e => I.e e b.sc ρ))) fun es => Z7r (g.cfg.muts pos) (Z4w [] es)) b.O σ = some (z, σ') := e
 refine gd3 e fun h15 hle e => bE e fun es σ1 e1 f1 => ?_
 have h15 := Nat.le_of_ble_eq_true h15
 have hle := Nat.eq_of_beq_eq_true hle
 have hk0 := Z1v st.h { cls := .type "dict", data := .dict #[] }
 have hD0 : st.h.get? st.h.objs.size = none := Z0h _
 have hDl : (st.h.push { cls := .type "dict", data := .dict #[] }).get? st.h.objs.size = some { cls := .type "dict", data := .dict #[] } := Z4b rfl
 have hN : ∀ a ∈ [st.h.objs.size], st.h.get? a = none /\ ∃ o, (st.h.push { cls := .type "dict", data := .dict #[] }).get? a = some o := fun a h => List.mem_singleton.mp h ▸ ⟨hD0, _, hDl⟩
 have I1 := Iv.res (L := none) (s' := { st.s with heap := st.h.push { cls := .type "dict", data := .dict #[] } }) hk0 hN rfl rfl
 have x1 : Step [] st (st.res { st.s with heap := st.h.push { cls := .type "dict", data := .dict #[] } } [st.h.objs.size]) := .res hk0 fun a h => (hN a h).1
 have hD : (st.res { st.s with heap := st.h.push { cls := .type "dict", data := .dict #[] } } [st.h.objs.size]).own st.h.objs.size = some .priv := Z8t (.head _)
 cases ks with
 | nil => cases vs with
  | nil =>
   have q := Z0q (show ret [] b.O σ = some (es, σ1) from e1)
   refine wpAny_Dict_empty (dict_done P Iv hD0 I1 x1 hD (es := Z4w [] es) (kvs := []) (q.1 ▸ .nil) (q.2 ▸ f1) (Heap.DictOf.new st.h) (fun _ _ _ e => e) k)
  | cons _ _ => exact nomatch hle
 | cons k0 ks =>
  have all := pairs_all hle e1
  have len := pairTrees_length _ _ b.env pos all hle
  refine wpAny_Dict_pairs (knd := g.sk) (zip_pairTrees _ _ b.env pos all hle) (fun q => by rw [q] at len; exact nomatch len) (by rw [len, hle]; exact h15) ?_
  refine Y1a hle hk hv I1 (fr.go x1) e1 fun st2 ps kvs I2 x2 c2 r2 => ⟨kvs, c2, Z4y (Heap.DictOf.new st.h) (x2.prv hD nofun), fun h' hd hs => ?_⟩
  exact dict_done P Iv hD0 I2 (x1.trans x2) ((x2.own _ _ hDl).trans hD) (Y1r r2 .nil .nil) f1 hd (Z2b hs) k
theorem sv_Meth (P : PFw g) (N : Z3z I) (CS : CallS g b.n C) {o : PySem.Expr} {name : Str} {apos : Pos} (ho : Sv g b (I.e o b.sc) (eval o b.env)) (ha : ∀ e ∈ args, Sv g b (I.e e b.sc) (eval e b.env)) : Sv g b (mcallE g.cfg C I args b.sc · apos pos o name) (eval (.Call (.Attribute o name apos) args [] pos) b.env) := fun st σ ρ z σ' E Q Iv fr e k => by
 have hg := Bool.and_eq_true_iff.mp (gd1 e)
 have hg1 := Bool.and_eq_true_iff.mp hg.1
 have hline := Nat.eq_of_beq_eq_true hg1.1
 have h30 : args.length < 30 := Nat.le_of_ble_eq_true hg1.2
 show wpAny _ _ (do
  let ov <- attributeBase o name b.env (eval o b.env)
  standAt apos.atName
  methodCall o name apos pos b.env ov (args.length + 0) (backTo pos (starEach args b.env)) (backToKw pos (keywordEach [] b.env))) Q E st.s
 rw [base_eq hg.2]
 refine wpAny_bind (one ho Iv fr (gd2 e) fun st1 σ1 ov u I1 x1 r1 f => wpAny_bind (wpAny_standAt (bE f fun c σ2 e2 f2 => bE f2 fun vs σ3 e3 f3 => ?_)))
 have hp := Z6h N (pos := pos) e3 b.env
 have hform : methodCallForm (args.length + 0) (backTo pos (starEach args b.env)) (backToKw pos (keywordEach [] b.env)) = true := by
  unfold methodCallForm
  rw [show (backTo pos (starEach args b.env)).all (fun x => !x.1) = true from List.all_eq_true.mpr fun x hx => by simpa using List.any_eq_false.mp hp x hx]
  show (true && (true && decide (args.length + 0 + 0 < 30))) = true
  simp [h30]
 unfold methodCall
 rw [hform]
 obtain ⟨hσ, f, hget, M⟩ := pre_sound P.pfc P.kin CS I1 r1 e2
 replace hσ : σ2 = σ1 := hσ
 refine wpAny_bind (wpAny_holding (hget (wpAny_bind ?_)))
 unfold methodCallPos
 rw [show (apos.endLine == pos.line) = true from beq_iff_eq.mpr hline]
 refine wpAny_pure (Z1m N (first := [u]) (M.keep f3) P.kin ha I1 (fr.go x1) (hσ ▸ e3) fun st2 us I2 x2 r2 => M.run fr.fs.room (fr.fr.go (x1.trans x2)) I2 (r1.go x2) r2 f3 (k.after (x1.trans x2)))
end
section
variable {b : Fb} {st st' : St} {σ σ' : Hp} {A : Around} {E : Value -> Shared -> Prop} {ρ : Vars} {I : Ix} {C : Z0j} {pos p : Pos} {x : Str} {args : List PySem.Expr} {l : List MV} {z : MV}
theorem callE {f : MV} {vs : List MV} {mu : Bool} {O : Z0c} {r : MV × Hp} (e : callM C mu f vs O σ = some r) {P : Prop} (k1 : ∀ b, f = .pv (.bi b) -> biM mu b vs O σ = some r -> P) (k2 : ∀ p, f = .pv p -> C p vs O σ = some r -> P) : P := by
 cases f with
 | pv p => cases p with
  | bi b => exact k1 b rfl e
  | _ => exact k2 _ rfl e
 | _ => exact Z0a e
theorem sv_Call (P : PFw g) (N : Z3z I) (CS : CallS g b.n C) (L : Leaves g b.n C) (hf : Sv g b (I.e (.Name x p) b.sc) (eval (.Name x p) b.env)) (ha : ∀ e ∈ args, Sv g b (I.e e b.sc) (eval e b.env)) : Sv g b (mcall1 g.cfg C I (.Name x p) args pos b.sc) (eval (.Call (.Name x p) args [] pos) b.env) := fun st σ ρ z σ' E Q Iv fr e k =>
 Call_ (one hf Iv fr e fun st1 σ1 fv u I1 x1 r1 f1 => bE f1 fun vs σ2 e2 f2 => callE f2 (fun c hc f3 => by
   rw [hc] at r1
   exact r1.p.biE (Z1m N (.inr fun a => by cases c <;> exact nofun) P.kin ha I1 (fr.go x1) e2 fun st2 us I2 x2 r2 => L.bi fr.fs.room I2 r2 f3 (k.after (x1.trans x2))))
  fun q hq f3 => by
   rw [hq] at r1
   obtain ⟨a, hp, hk⟩ := CS.keep f3
   have hu : u = .ref a := hp.elim (fun h => VP.fnE (P := fun u => u = .ref a) (h ▸ r1.p) rfl) fun h => VP.clsE (P := fun u => u = .ref a) (h ▸ r1.p) rfl
   exact Z1m N (.inl ⟨a, hu, hk⟩) P.kin ha I1 (fr.go x1) e2 fun st2 us I2 x2 r2 => CS.sound fr.fs.room.c (fr.fr.go (x1.trans x2)) I2 (r1.go x2) r2 f3 (k.after (x1.trans x2))) rfl
theorem Z6a {e : PySem.Expr} (h : Sv g b (mE g.cfg C I e b.sc) (eval e b.env)) : Ss g b (msv g.cfg C I e b.sc) e := fun st σ ρ src σ' E Q Iv fr e k =>
 one h Iv fr e fun st1 σ1 v u I1 x1 r1 f => src_sound I1 r1 f fun st2 it T I2 x2 hT i2 => k st2 it T I2 (x1.trans x2) (fun a h => ⟨x1.dead (hT a h).1, (hT a h).2⟩) i2
theorem isZip_some {cfg : Cfg} {sc : Scope} {f : PySem.Expr} (h : isZip cfg sc f = true) : ∃ x p, f = .Name x p /\ Z8w x = true /\ look sc.names x = some .globalImplicit /\ cfg.glob x = some (.bi .zip) := by
 obtain ⟨x, p, rfl⟩ : ∃ x p, f = .Name x p := by cases f <;> first | exact ⟨_, _, rfl⟩ | exact Z0y h
 replace h : (match Z8w x with | true => (match look sc.names x with | some .globalImplicit => (match cfg.glob x with | some (.bi .zip) => true | _ => false) | _ => false) | false => false) = true := h
 cases h1 : Z8w x with
 | false => rw [h1] at h; exact Z0y h
 | true =>
  rw [h1] at h
  replace h : (match look sc.names x with | some .globalImplicit => (match cfg.glob x with | some (.bi .zip) => true | _ => false) | _ => false) = true := h
  cases h2 : look sc.names x with
  | none => rw [h2] at h; exact Z0y h
  | some kd =>
   rw [h2] at h
   cases kd with
   | globalImplicit =>
    replace h : (match cfg.glob x with | some (.bi .zip) => true | _ => false) = true := h
    cases h3 : cfg.glob x with
    | none => rw [h3] at h; exact Z0y h
    | some q => rw [h3] at h; cases q with
     | bi b => cases b with
      | zip => exact ⟨x, p, rfl, h1, h2, h3⟩
      | _ => exact Z0y h
     | _ => exact Z0y h
   | _ => exact Z0y h
theorem ss_zip (P : PFw g) (N : Z3z I) (L : Leaves g b.n C) {f a c : PySem.Expr} (hz : isZip g.cfg b.sc f = true) (ha : Sv g b (I.e a b.sc) (eval a b.env)) (hc : Sv g b (I.e c b.sc) (eval c b.env)) : Ss g b (mS g.cfg C I (.Call f [a, c] [] pos) b.sc) (.Call f [a, c] [] pos) := fun st σ ρ src σ' E Q Iv fr e k => by
 obtain ⟨x, p, rfl, h1, h2, h3⟩ := isZip_some hz
 have e : bnd (I.e a b.sc ρ) (fun x => bnd (I.e c b.sc ρ) fun y => gd (Z3p x && Z3p y) <| bnd (seqM x) fun l => bnd (seqM y) fun r => ret (.zipped (zipL l r))) b.O σ = some (src, σ') := by
  unfold mS at e; dsimp only at e; rw [hz] at e; exact e
 have hd : (x == ("__debug__" : Str)) = false := Z5q h1 (by decide +kernel)
 refine bE e fun va σ1 e1 f1 => bE f1 fun vc σ2 e2 f2 => gd3 f2 fun ga gc f3 => bE f3 fun l σ3 e3 f4 => bE f4 fun r σ4 e4 f5 => ?_
 have q := Z0q f5
 have hargs : Z5e I [a, c] b.sc ρ b.O σ = some ([va, vc], σ2) := by
  show bnd (I.e a b.sc ρ) (fun v => bnd (bnd (I.e c b.sc ρ) fun v => bnd (ret []) fun l => ret (v :: l)) fun l => ret (v :: l)) b.O σ = _
  unfold bnd
  rw [e1]
  dsimp only
  rw [e2]; rfl
 refine Call_ (Z6f P Iv fr hd h2 h3 fun u r => r.p.biE ?_) rfl
 refine Z1m N (.inr nofun) P.kin (fun e he => (List.mem_cons.mp he).elim (fun q => q ▸ ha) fun he => List.mem_singleton.mp he ▸ hc) Iv fr hargs fun st2 us I2 x2 r2 => ?_
 exact r2.consE fun ua ws ra r2 => r2.consE fun uc ws rc rn => rn.nilE (L.zip fr.fs.room I2 ra rc ga gc e3 e4 fun st3 it T I3 x3 hT i3 => k st3 it T (q.2 ▸ I3) (x2.trans x3) (fun a h => ⟨x2.dead (hT a h).1, (hT a h).2⟩) (q.1 ▸ i3))
end
structure IxS (g : Gl) (n : Nat) (I : Ix) : Prop where
 e : ∀ b : Fb, b.n = n -> ∀ e, Sv g b (I.e e b.sc) (eval e b.env)
 t : ∀ b : Fb, b.n = n -> ∀ e, Sb g b (I.t e b.sc) (isTrue e b.env (eval e b.env))
 s : ∀ b : Fb, b.n = n -> ∀ e, Ss g b (I.s e b.sc) e
 x : ∀ b : Fb, b.n = n -> b.lo = .frm -> ∀ a, Sx g b (I.x a b.sc) (exec a b.env)
 star : Z3z I
 nset : NoSet I
 eset : ∀ es k p sc ρ, I.e (.Set es k p) sc ρ = bad
section
variable {n : Nat} {C : Z0j} {I : Ix}
theorem Z5h {b : Fb} {m : Vars -> Mm MV} {t : Sem Value} (h : ∀ ρ, m ρ = bad) : Sv g b m t := fun st σ ρ z σ' E Q Iv fr e k => by rw [h] at e; exact Z0a e
theorem Y0r {b : Fb} {m : Vars -> Mm Bool} {t : Sem Bool} (h : ∀ ρ, m ρ = bad) : Sb g b m t := fun st σ ρ z σ' E Q Iv fr e k => by rw [h] at e; exact Z0a e
theorem ss_bad {b : Fb} {m : Vars -> Mm Src} {t : PySem.Expr} (h : ∀ ρ, m ρ = bad) : Ss g b m t := fun st σ ρ z σ' E Q Iv fr e k => by rw [h] at e; exact Z0a e
theorem step_e (P : PFw g) (CS : CallS g n C) (L : Leaves g n C) (H : IxS g n I) (b : Fb) (hn : b.n = n) (e : PySem.Expr) : Sv g b (mE g.cfg C I e b.sc) (eval e b.env) := by
 subst hn
 have he := H.e b rfl
 have ha : ∀ es : List PySem.Expr, ∀ e ∈ es, Sv g b (I.e e b.sc) (eval e b.env) := fun _ e _ => he e
 cases e with
 | Constant c k pos => exact sv_Constant
 | Name x pos => exact fun st σ ρ z σ' E Q Iv fr e k => name_sound P Iv fr e k
 | BoolOp op vs pos => exact sv_bool (pos := pos) (ha vs)
 | BinOp x op y pos => exact sv_BinOp (he x) (he y)
 | UnaryOp op x pos => cases op with
  | Not => exact sv_Not (he x)
  | USub => exact sv_USub (he x)
  | _ => exact Z5h fun _ => rfl
 | IfExp t x y pos => exact sv_IfExp (H.t b rfl t) (he x) (he y)
 | Dict ks vs pos => exact sv_Dict P (fun e _ => he e) (ha vs)
 | ListComp elt gens scope pos => exact sv_ListComp H.nset (fun b' h => H.e b' h elt) (fun b' h c _ => H.s b' h c.iter) fun b' h c _ x _ => H.t b' h x
 | Compare x ops ys pos => cases ops with
  | nil => exact Z5h fun _ => rfl
  | cons op ops => cases ops with
   | cons _ _ => exact Z5h fun _ => rfl
   | nil => cases ys with
    | nil => exact Z5h fun _ => rfl
    | cons y ys => cases ys with
     | cons _ _ => exact Z5h fun _ => rfl
     | nil => exact sv_Compare H.eset (he x) (he y)
 | Call f args kws pos => cases kws with
  | nil => cases f with
   | Attribute o name apos => exact sv_Meth P H.star CS (he o) (ha args)
   | Name x p => exact sv_Call P H.star CS L (he _) (ha args)
   | _ => exact Z5h fun _ => rfl
  | cons k ks => exact Z5h fun _ => rfl
 | Attribute v a pos => exact sv_Attribute P (he v)
 | Subscript v i pos => cases i with
  | Slice l u w p => cases l with
   | none => exact sv_Slice (he v) (fun e _ => he e) fun e _ => he e
   | some _ => exact Z5h fun _ => rfl
  | Constant c k p => exact sv_Sub (he v) (he _)
  | Name x p => exact sv_Sub (he v) (he _)
  | UnaryOp op x p => exact sv_Sub (he v) (he _)
  | Subscript x j p => exact sv_Sub (he v) (he _)
  | Call f args kws p => exact sv_Sub (he v) (he _)
  | _ => exact Z5h fun _ => rfl
 | List es pos => exact sv_List H.star (ha es)
 | Tuple es k pos => exact sv_Tuple H.star (ha es)
 | _ => exact Z5h fun _ => rfl
theorem step_t (P : PFw g) (CS : CallS g n C) (L : Leaves g n C) (H : IxS g n I) (b : Fb) (hn : b.n = n) (e : PySem.Expr) : Sb g b (mT g.cfg C I e b.sc) (isTrue e b.env (eval e b.env)) := by
 have hv := step_e P CS L H b hn
 cases e with
 | UnaryOp op x pos => cases op with
  | Not => exact sb_Not (H.t b hn x)
  | _ => exact Y0r fun _ => rfl
 | BoolOp op vs pos => exact fun st σ ρ z σ' E Q Iv fr e k => wpAny_isTrue_BoolOp (sb_all (op := op) (fun x _ => H.t b hn x) Iv fr e k)
 | Compare x ops ys pos => cases ops with
  | nil => exact Y0r fun _ => rfl
  | cons op ops => cases ops with
   | cons _ _ => exact Y0r fun _ => rfl
   | nil => cases ys with
    | nil => exact Y0r fun _ => rfl
    | cons y ys => cases ys with
     | cons _ _ => exact Y0r fun _ => rfl
     | nil => exact sb_Compare H.eset (H.e b hn x) (H.e b hn y)
 | Call f args kws pos => exact Z9m (hv _) rfl
 | Name x pos => exact Z9m (hv _) rfl
 | Attribute v a pos => exact Z9m (hv _) rfl
 | Subscript v i pos => exact Z9m (hv _) rfl
 | _ => exact Y0r fun _ => rfl
theorem step_s (P : PFw g) (CS : CallS g n C) (L : Leaves g n C) (H : IxS g n I) (b : Fb) (hn : b.n = n) (e : PySem.Expr) : Ss g b (mS g.cfg C I e b.sc) e := by
 have hv := step_e P CS L H b hn
 cases e with
 | Call f args kws pos =>
  cases hz : isZip g.cfg b.sc f with
  | false => exact fun st σ ρ z σ' E Q Iv fr e k => Z6a (hv (.Call f args kws pos)) Iv fr (by unfold mS at e; dsimp only at e; rw [hz] at e; exact e) k
  | true => cases kws with
   | cons _ _ => exact ss_bad fun ρ => by unfold mS; dsimp only; rw [hz]
   | nil => cases args with
    | nil => exact ss_bad fun ρ => by unfold mS; dsimp only; rw [hz]
    | cons a r => cases r with
     | nil => exact ss_bad fun ρ => by unfold mS; dsimp only; rw [hz]
     | cons c r => cases r with
      | cons _ _ => exact ss_bad fun ρ => by unfold mS; dsimp only; rw [hz]
      | nil => subst hn; exact ss_zip P H.star L hz (H.e b rfl a) (H.e b rfl c)
 | Name x pos => exact Z6a (hv _)
 | Attribute v a pos => exact Z6a (hv _)
 | Subscript v i pos => exact Z6a (hv _)
 | Tuple es k pos => exact Z6a (hv _)
 | List es pos => exact Z6a (hv _)
 | _ => exact ss_bad fun _ => rfl
end
noncomputable def Stq (g : Gl) (b : Fb) (m : MV -> Vars -> Mm Vars) (t : Value -> Sem Unit) : Prop := ∀ ⦃st : St⦄ ⦃σ : Hp⦄ ⦃ρ : Vars⦄ ⦃v : MV⦄ ⦃u : Value⦄ ⦃ρ' : Vars⦄ ⦃σ' : Hp⦄ ⦃E : Value -> Shared -> Prop⦄ ⦃Q : Shared -> Prop⦄, Inv g b.O st σ -> Fm g b st ρ -> VM g st v u -> m v ρ b.O σ = some (ρ', σ') -> AftS g b st ρ' σ' Q -> wpAny g.M b.A (t u) (fun _ => Q) E st.s
section
variable {b : Fb} {st st' : St} {σ σ' : Hp} {A : Around} {E : Value -> Shared -> Prop} {ρ : Vars} {I : Ix} {C : Z0j} {pos p : Pos} {x : Str} {v t : PySem.Expr}
theorem st_names : Stq g b (fun v ρ => Z1g t v b.sc ρ) (assign t b.env) := fun st σ ρ v u ρ' σ' E Q Iv fr r e k => Z5a Iv fr r fr.fs.room e k
theorem st_attr (P : PFw g) {o : PySem.Expr} {a : Str} (h : Sv g b (I.e o b.sc) (eval o b.env)) : Stq g b (fun v ρ => bnd (I.e o b.sc ρ) fun ov => bnd (Z9k g.cfg ov a v) fun _ => ret ρ) (assign (.Attribute o a p) b.env) := fun st σ ρ v u ρ' σ' E Q Iv fr r e k => by
 show wpAny _ _ (do
  let ov <- holding [u] (eval o b.env)
  standAt p.atName
  holding [u, ov] (setAttr ov a u)
  release [u, ov] []) _ E st.s
 exact wpAny_bind (wpAny_holding (one h Iv fr e fun st1 σ1 ov w I1 x1 r1 f => wpAny_bind (wpAny_standAt (wpAny_bind (wpAny_holding (bE f fun _ σ2 e2 f2 => have q := Z0q f2; setAttr_sound P.pfc P.kin I1 r1 (r.go x1) e2 fun st2 I2 x2 => wpAny_release (k st2 (q.2 ▸ I2) ((x1.trans x2).w0 _) (q.1 ▸ (fr.go x1).go x2))))))))
theorem st_item {o i : PySem.Expr} (h : Sv g b (I.e o b.sc) (eval o b.env)) (hi : Sv g b (I.e i b.sc) (eval i b.env)) : Stq g b (fun v ρ => bnd (I.e o b.sc ρ) fun ov => bnd (I.e i b.sc ρ) fun iv => bnd (Z9j ov iv v) fun _ => ret ρ) (assign (.Subscript o i p) b.env) := fun st σ ρ v u ρ' σ' E Q Iv fr r e k => by
 rw [assign_Subscript]
 exact wpAny_bind (wpAny_holding (one h Iv fr e fun st1 σ1 ov w I1 x1 r1 f => wpAny_bind (wpAny_holding (one hi I1 (fr.go x1) f fun st2 σ2 iv w2 I2 x2 r2 f => wpAny_bind (wpAny_standAt (wpAny_bind (wpAny_holding (bE f fun _ σ3 e3 f3 => have q := Z0q f3; setItem_sound I2 (r1.go x2) r2 ((r.go x1).go x2) e3 fun st3 I3 x3 => wpAny_release (k st3 (q.2 ▸ I3) (((x1.trans x2).trans x3).w0 _) (q.1 ▸ ((fr.go x1).go x2).go x3))))))))))
theorem Z1e {line : Nat} {env : Env} (h : (∀ x p, t ≠ .Name x p) \/ isComp v = false) : swapsWithSole [t] v line env = pure false := by
 show swapsWith v (some t) line env = pure false
 rcases h with h | h
 ·cases v with
  | ListComp _ _ _ _ => cases t <;> first | rfl | exact (h _ _ rfl).elim
  | SetComp _ _ _ _ => cases t <;> first | rfl | exact (h _ _ rfl).elim
  | DictComp _ _ _ _ _ => cases t <;> first | rfl | exact (h _ _ rfl).elim
  | _ => rfl
 ·cases v <;> first | rfl | exact no_tf h
theorem Z7k {m : MV -> Vars -> Mm Vars} (hv : Sv g b (I.e v b.sc) (eval v b.env)) (hst : Stq g b m (assign t b.env)) (hs : swapsWithSole [t] v pos.line b.env = pure false) (hw : swappedStores [t] v b.env = pure none) (hns : (assignEach [t] b.env).map (·.2) = [assign t b.env]) : Sx g b (fun ρ => bnd (I.e v b.sc ρ) fun x => bnd (m x ρ) fun ρ' => ret (none, ρ')) (exec (.Assign [t] v pos) b.env) := fun st σ ρ r σ' E Q hE Iv fr e k =>
 wpAny_Assign_stores (one hv Iv fr e fun st1 σ1 x u I1 x1 r1 f => bE f fun ρ1 σ2 e2 f2 => by
  rw [hns]
  have q := Z0q f2
  refine hst I1 (fr.go x1) r1 e2 fun st2 I2 x2 f2 => ?_
  have h := k st2 (q.2 ▸ I2) ((x1.w0 _).trans x2) (q.1 ▸ f2)
  rw [<- q.1] at h
  exact h) hs hw
theorem sx_used (N : NoSet I) {elt : PySem.Expr} {gens : List Comprehension} {scope : Scope} {cpos : Pos} (hE : ∀ b' : Fb, b'.n = b.n -> Sv g b' (I.e elt b'.sc) (eval elt b'.env)) (hI : ∀ b' : Fb, b'.n = b.n -> ∀ c ∈ gens, Ss g b' (I.s c.iter b'.sc) c.iter) (htest : ∀ b' : Fb, b'.n = b.n -> ∀ c ∈ gens, ∀ x ∈ c.ifs, Sb g b' (I.t x b'.sc) (isTrue x b'.env (eval x b'.env)))
  (hs : swapsWith (.ListComp elt gens scope cpos) (some (.Name x p)) pos.line b.env = pure true) : Sx g b (fun ρ => bnd (mE g.cfg C I (.ListComp elt gens scope cpos) b.sc ρ) fun v => bnd (Z1g (.Name x p) v b.sc ρ) fun ρ' => ret (none, ρ')) (exec (.Assign [.Name x p] (.ListComp elt gens scope cpos) pos) b.env) := fun st σ ρ r σ' E Q _ Iv fr e k => bE e fun z σ1 e1 f1 => bE f1 fun ρ1 σ2 e2 f2 => by
 have q := Z0q f2
 rw [exec_Assign_Name_used _ _ _ _ hs]
 refine wpAny_bind (wpAny_standAt (wpAny_bind ?_))
 cases gens with
 | nil => exact Z0a e1
 | cons c rest =>
  obtain ⟨t, iter, ifs, as⟩ := c
  cases as with
  | ofNat m => cases m with
   | zero =>
    show wpAny _ b.A (do let _ <- comprehension (.ListComp elt (⟨t, iter, ifs, 0⟩ :: rest) scope cpos) scope b.env _ (newList []) false (eval iter b.env) (some (assign (.Name x p) b.env))) _ _ st.s
    refine wpAny_bind (wpAny_mono (comp_all (Q := fun _ s' => Q .next s') (use := some (assign (.Name x p) b.env)) N (hI b rfl _ (.head _)) hE hI htest Iv fr e1 fun st1 u Cl I1 x1 hd hC hn r1 => ?_) (fun _ s' hq => wpAny_pure (wpAny_pure hq)) fun _ _ e => e)
    have hV : ∀ a ∈ b.V, a ∉ [Cl] := new_ne fr fun a h => List.mem_singleton.mp h ▸ hd
    have hCW : Cl ∉ b.W := fun m => hV Cl (fr.fs.sub Cl m) (.head _)
    obtain ⟨h2, hσ⟩ := Z8x (show ofO (setV b.sc ρ x z) b.O σ1 = some (ρ1, σ2) from e2)
    refine wpAny_assign_Name (Z6z I1 (fr.goW x1 hV) r1 h2 fun st2 I2 x2 f2 => ?_)
    obtain ⟨m1, hn1⟩ := hn
    refine ⟨m1, hn1.at (x2.prv hC hCW), fun h' hs' => ?_⟩
    have X : Step ([Cl] ++ b.W) st st2 := (x1.weak fun a h => List.mem_append_left _ h).trans (x2.weak fun a h => List.mem_append_right _ h)
    have hT : ∀ a ∈ [Cl], st2.own a = some .priv := fun a h => List.mem_singleton.mp h ▸ (x2.own Cl _ (let ⟨o, _, _, q, _⟩ := hn1; ⟨o, q⟩ : ∃ o, _).choose_spec).trans hC
    have hk : ∀ a, a ∉ [Cl] -> Kp st2.h h' a := fun a n => Z2b hs' a fun q => n (List.mem_singleton.mpr q)
    obtain ⟨I3, X3, -⟩ := Z9q (s' := { st2.s with heap := h' }) I2 X hT (fun a h => List.mem_singleton.mp h ▸ hd) hk
    have h := k _ (q.2 ▸ (show σ2 = σ1 from hσ) ▸ I3) X3 (q.1 ▸ f2.drop hV hT hk)
    rw [<- q.1] at h
    exact h
   | succ m => exact Z0a e1
  | negSucc m => exact Z0a e1
theorem sx_tuple {ts : List PySem.Expr} {k0 : Nat} (hv : Sv g b (I.e v b.sc) (eval v b.env)) (hsw : Y0j (.Tuple ts k0 p) v = true) : Sx g b (fun ρ => bnd (I.e v b.sc ρ) fun x => bnd (Z1g (.Tuple ts k0 p) x b.sc ρ) fun ρ' => ret (none, ρ')) (exec (.Assign [.Tuple ts k0 p] v pos) b.env) := by
 have hs : swapsWithSole [.Tuple ts k0 p] v pos.line b.env = pure false := Z1e (.inl nofun)
 have plain := fun hw => Z7k (m := fun v ρ => Z1g (.Tuple ts k0 p) v b.sc ρ) (pos := pos) hv st_names hs hw rfl
 by_cases hvt : ∃ vs k1 p1, v = .Tuple vs k1 p1
 ·obtain ⟨vs, k1, p1, rfl⟩ := hvt
  cases hn : names? ts with
  | none =>
    refine fun st σ ρ r σ' E Q hE Iv fr e k => bE e fun x σ1 e1 f1 => bE f1 fun ρ1 σ2 e2 f2 => ?_
    replace e2 : (match names? ts with | some xs => bnd (seqM x) fun l => gd (Z0w x && Z3x xs) (ofO (Z2m b.sc ρ xs l)) | none => bad) b.O σ1 = some (ρ1, σ2) := e2
    rw [hn] at e2; exact Z0a e2
  | some xs =>
   rcases swap_two (env := b.env) hn hsw with hw | hw
   ·exact plain hw
   ·refine fun st σ ρ r σ' E Q hE Iv fr e k => Assign_Tuple_swapped (one hv Iv fr e fun st1 σ1 x u I1 x1 r1 f => bE f fun ρ1 σ2 e2 f2 => ?_) hs hw
    replace e2 : (match names? ts with | some xs => bnd (seqM x) fun l => gd (Z0w x && Z3x xs) (ofO (Z2m b.sc ρ xs l)) | none => bad) b.O σ1 = some (ρ1, σ2) := e2
    rw [hn] at e2
    refine bE e2 fun l σ3 e3 f3 => gd3 f3 fun ht hd f4 => ?_
    obtain ⟨h2, hσ⟩ := Z8x f4
    have nd := Z2s hd
    obtain ⟨ρ2, h3, h4⟩ := setAll_rev nd h2
    have q := Z0q f2
    rw [(Z2p nd h2).1]
    refine Z5f fr.fs.room I1 ht r1 e3 fun hσ3 st2 us I2 x2 rv => Z4v (Sts.binds b.env xs.reverse) I2 ((fr.go x1).go x2) rv.rev h3 fun st3 I3 x3 f3 => ?_
    have h := k st3 (q.2 ▸ (show σ2 = σ3 from hσ) ▸ hσ3 ▸ I3) (((x1.trans x2).w0 _).trans x3) (q.1 ▸ f3.vars h4)
    rw [<- q.1] at h
    exact h
 ·exact plain (Z4d (fun ts k p vs k' p' _ q => hvt ⟨vs, k', p', q⟩) nofun)
theorem Z2e {m : Vars -> Mm (Option MV × Vars)} {t : Sem Flow} (h : ∀ ρ, m ρ = bad) : Sx g b m t := fun st σ ρ r σ' E Q hE Iv fr e k => by rw [h] at e; exact Z0a e
theorem sx_nil : Sx g b (fun ρ => ret (none, ρ)) (execs [] b.env) := fun st σ ρ r σ' E Q hE Iv fr e k => by
 have q := Z0q e
 have h := k st (q.2 ▸ Iv) (.refl _ st) (q.1 ▸ fr)
 rw [<- q.1] at h
 exact wpAny_execs_nil h
theorem Y1s (h : ∀ a, Sx g b (I.x a b.sc) (exec a b.env)) : ∀ l : List Stmt, Sx g b (exs I b.sc l) (execs l b.env)
 | [] => sx_nil
 | a :: l => fun st σ ρ r σ' E Q hE Iv fr e k => bE (show bnd (I.x a b.sc ρ) (fun t => match t with | (none, ρ') => exs I b.sc l ρ' | (some v, ρ') => ret (some v, ρ')) b.O σ = some (r, σ') from e) fun t σ1 e1 f1 => wpAny_execs_cons (h a hE Iv fr e1 fun st1 I1 x1 f2 => by
   obtain ⟨r1, ρ1⟩ := t
   cases r1 with
   | none => exact Y1s h l hE I1 f2 f1 (k.after x1)
   | some v =>
    have q := Z0q (show ret (some v, ρ1) b.O σ1 = some (r, σ') from f1)
    have h := k st1 (q.2 ▸ I1) x1 (q.1 ▸ f2)
    rw [<- q.1] at h
    exact h)
theorem sx_If {bd o : List Stmt} (ht : Sb g b (I.t t b.sc) (isTrue t b.env (eval t b.env))) (h1 : Sx g b (exs I b.sc bd) (execs bd b.env)) (h2 : Sx g b (exs I b.sc o) (execs o b.env)) : Sx g b (mX g.cfg C I (.If t bd o pos) b.sc) (exec (.If t bd o pos) b.env) := fun st σ ρ r σ' E Q hE Iv fr e k =>
 bE (show bnd (I.t t b.sc ρ) (fun c => match c with | true => exs I b.sc bd ρ | false => exs I b.sc o ρ) b.O σ = some (r, σ') from e) fun c σ1 e1 f1 => wpAny_If (ht Iv fr e1 fun st1 I1 x1 => by
  cases c with
  | true => rw [if_pos rfl]; exact h1 hE I1 (fr.go x1) f1 (k.after (x1.w0 _))
  | false => rw [if_neg Bool.false_ne_true]; exact h2 hE I1 (fr.go x1) f1 (k.after (x1.w0 _)))
inductive WI (g : Gl) (b : Fb) (st0 : St) (T : Vars -> Mm Bool) (B : Vars -> Mm (Option MV × Vars)) (r : Option MV × Vars) (σ' : Hp) (m : Nat) (s : Shared) : Prop
 | mk (st : St) (σ : Hp) (ρ : Vars) : st.s = s -> Inv g b.O st σ -> Step b.W st0 st -> Fm g b st ρ -> Z3s T B m ρ b.O σ = some (r, σ') -> WI g b st0 T B r σ' m s
theorem sx_While {bd : List Stmt} (ht : Sb g b (I.t t b.sc) (isTrue t b.env (eval t b.env))) (hb : Sx g b (exs I b.sc bd) (execs bd b.env)) : Sx g b (mX g.cfg C I (.While t bd [] pos) b.sc) (exec (.While t bd [] pos) b.env) := fun st σ ρ r σ' E Q hE Iv fr e k => by
 refine wpAny_While (codeAny_whileLoop (WI g b st (I.t t b.sc) (exs I b.sc bd) r σ') (fun m s L => ?_) big ⟨st, σ, ρ, rfl, Iv, .refl _ _, fr, e⟩)
 obtain ⟨st2, σ2, ρ2, rfl, I2, x2, f2, e2⟩ := L
 cases m with
 | zero => exact Z0a e2
 | succ m =>
  refine bE (show bnd (I.t t b.sc ρ2) (fun c => match c with
   | false => ret (none, ρ2)
   | true => bnd (exs I b.sc bd ρ2) fun r => match r with
    | (none, ρ') => Z3s (I.t t b.sc) (exs I b.sc bd) m ρ'
    | (some v, ρ') => ret (some v, ρ')) b.O σ2 = some (r, σ') from e2) fun c σ3 e3 g3 => ht I2 f2 e3 fun st3 I3 x3 => ?_
  have X3 := x2.trans (x3.w0 _)
  have f3 := f2.go x3
  cases c with
  | false =>
   rw [if_neg Bool.false_ne_true]
   have q := Z0q (show ret (none, ρ2) b.O σ3 = some (r, σ') from g3)
   have h := k st3 (q.2 ▸ I3) X3 (q.1 ▸ f3)
   rw [<- q.1] at h
   exact wpAny_execs_nil h
  | true =>
   rw [if_pos rfl]
   refine bE g3 fun r4 σ4 e4 g4 => wpAny_passesOwn hE (hb hE I3 f3 e4 fun st4 I4 x4 f4 => ?_)
   obtain ⟨r41, ρ4⟩ := r4
   cases r41 with
   | none => exact ⟨m, Nat.lt_succ_self _, st4, σ4, ρ4, rfl, I4, X3.trans x4, f4, g4⟩
   | some v =>
    have q := Z0q (show ret (some v, ρ4) b.O σ4 = some (r, σ') from g4)
    have h := k st4 (q.2 ▸ I4) (X3.trans x4) (q.1 ▸ f4)
    rw [<- q.1] at h
    exact h
theorem sx_For {it : PySem.Expr} {bd : List Stmt} (N : NoSet I) (hs : Ss g b (I.s it b.sc) it) (hb : Sx g b (exs I b.sc bd) (execs bd b.env)) : Sx g b (mX g.cfg C I (.For t it bd [] pos) b.sc) (exec (.For t it bd [] pos) b.env) := fun st σ ρ r σ' E Q hE Iv fr e k =>
 have e : bnd (I.s it b.sc ρ) (fun s => Z2k (Z3b t) s (mturn I t bd b.sc) ρ) b.O σ = some (r, σ') := e
 bE e fun src σ1 e1 _ => for_sound (N.ne e1) hs (fun st σ ρ x u r σ' Q E hE Iv fr rx e k => bE e fun ρ1 σ2 e2 f2 => Z5a Iv fr rx fr.fs.room e2 fun st2 I2 x2 f3 => hb hE I2 f3 f2 (k.after x2)) hE Iv fr e k
theorem sx_Return {e : Option PySem.Expr} (h : ∀ x, Sv g b (I.e x b.sc) (eval x b.env)) : Sx g b (mX g.cfg C I (.Return e pos) b.sc) (exec (.Return e pos) b.env) := fun st σ ρ r σ' E Q hE Iv fr e0 k => by
 cases e with
 | none =>
  have q := Z0q (show ret (some (.pv .none), ρ) b.O σ = some (r, σ') from e0)
  have h := k st (q.2 ▸ Iv) (.refl _ st) (q.1 ▸ fr)
  rw [<- q.1] at h
  exact wpAny_Return_none (h.2 _ (.pv .none))
 | some x =>
  refine wpAny_Return_some (one (h x) Iv fr (show bnd (I.e x b.sc ρ) (fun v => ret (some v, ρ)) b.O σ = some (r, σ') from e0) fun st1 σ1 v u I1 x1 r1 f => ?_)
  have q := Z0q f
  have h := k st1 (q.2 ▸ I1) (x1.w0 _) (q.1 ▸ fr.go x1)
  rw [<- q.1] at h
  exact h.2 u r1
theorem sx_Expr (h : Sv g b (I.e v b.sc) (eval v b.env)) : Sx g b (mX g.cfg C I (.Expr v pos) b.sc) (exec (.Expr v pos) b.env) := fun st σ ρ r σ' E Q hE Iv fr e k => by
 have e : gd (!isComp v) (bnd (I.e v b.sc ρ) fun r => match r with | .pv .none => ret (none, ρ) | _ => bad) b.O σ = some (r, σ') := e
 refine wpAny_Expr (one h Iv fr (gd2 e) fun st1 σ1 x u I1 x1 r1 f => ?_) (by unfold interactive; rw [fr.fs.kind]; rfl) ?_
 ·cases x with
  | pv p => cases p with
   | none =>
    have q := Z0q (show ret (none, ρ) b.O σ1 = some (r, σ') from f)
    have h := k st1 (q.2 ▸ I1) (x1.w0 _) (q.1 ▸ fr.go x1)
    rw [<- q.1] at h
    exact r1.p.noneE h
   | _ => exact Z0a f
  | _ => exact Z0a f
 ·have hc := gd1 e
  cases v <;> first | rfl | exact Z0y hc
end
theorem Z6c : ∀ {names : List Str} {vals : List Value}, names.Nodup -> ∀ {i : Nat} (hi : i < names.length) (hv : i < vals.length), (names.zip vals).lookup names[i] = some vals[i]
 | n :: names, v :: vals, nd, 0, _, _ => by
  show (match n == n with | true => some v | false => _) = some v
  rw [beq_self_eq_true]
 | n :: names, v :: vals, nd, i + 1, hi, hv => by
  have ⟨n1, n2⟩ := List.nodup_cons.mp nd
  have hi' : i < names.length := Nat.lt_of_succ_lt_succ hi
  have hne : (names[i] == n) = false := beq_eq_false_iff_ne.mpr fun q => n1 (q ▸ List.getElem_mem hi')
  have hv' : i < vals.length := Nat.lt_of_succ_lt_succ hv
  show (match names[i] == n with | true => some v | false => (names.zip vals).lookup names[i]) = some vals[i]
  rw [hne]
  exact Z6c n2 hi' hv'
theorem Z5t : ∀ {names : List Str} {vals : List Value}, names.Nodup -> ∀ {i : Nat} (hi : i < names.length), vals.length <= i -> (names.zip vals).lookup names[i] = none
 | n :: names, [], _, _, _, _ => rfl
 | n :: names, v :: vals, _, 0, _, h => nomatch h
 | n :: names, v :: vals, nd, i + 1, hi, hv => by
  have ⟨n1, n2⟩ := List.nodup_cons.mp nd
  have hi' : i < names.length := Nat.lt_of_succ_lt_succ hi
  have hne : (names[i] == n) = false := beq_eq_false_iff_ne.mpr fun q => n1 (q ▸ List.getElem_mem hi')
  show (match names[i] == n with | true => some v | false => (names.zip vals).lookup names[i]) = none
  rw [hne]
  exact Z5t n2 hi' (Nat.le_of_succ_le_succ hv)
theorem fill_slots (f : Str × Value -> List (Str × Value) -> Sem (ForInStep (List (Str × Value)))) (hf : ∀ n d S, f (n, d) S = pure (.yield (if (S.lookup n).isNone then S ++ [(n, d)] else S))) :
  ∀ (l S : List (Str × Value)), ∃ S', forIn l S f = pure S' /\ ∀ x, S'.lookup x = (S.lookup x).or (l.lookup x)
 | [], S => ⟨S, rfl, fun x => (Option.or_none).symm⟩
 | (n, d) :: l, S => by
  obtain ⟨S', h1, h2⟩ := fill_slots f hf l (if (S.lookup n).isNone then S ++ [(n, d)] else S)
  refine ⟨S', by rw [List.forIn_cons, hf, pure_bind]; exact h1, fun x => (h2 x).trans ?_⟩
  have e : ((n, d) :: l).lookup x = ([(n, d)].lookup x).or (l.lookup x) := List.lookup_append (l₁ := [(n, d)])
  rw [e, <- Option.or_assoc]
  refine congrArg (Option.or · _) ?_
  by_cases hn : (S.lookup n).isNone = true
  ·rw [if_pos hn, List.lookup_append]
  ·rw [if_neg hn]
   by_cases hx : x = n
   ·cases q : S.lookup x with
    | none => exact absurd (hx ▸ q ▸ rfl) hn
    | some v => rfl
   ·rw [show [(n, d)].lookup x = none by show (match x == n with | true => some d | false => none) = none; rw [beq_eq_false_iff_ne.mpr hx], Option.or_none]
theorem filter_zip {L : Str -> Option Value} : ∀ (names : List Str) (full : List Value), names.length = full.length -> (∀ (i : Nat) (h : i < names.length) (h' : i < full.length), L names[i] = some full[i]) -> (names.filterMap fun n => (L n).map (n, ·)) = names.zip full
 | [], [] => fun _ _ => rfl
 | [], _ :: _ => fun h _ => nomatch h
 | _ :: _, [] => fun h _ => nomatch h
 | n :: names, v :: full => fun h hl => by
  rw [List.filterMap_cons, show L n = some v from hl 0 (Nat.succ_pos _) (Nat.succ_pos _)]
  exact congrArg ((n, v) :: ·) (filter_zip names full (Nat.succ.inj h) fun i h1 h2 => hl (i + 1) (Nat.succ_lt_succ h1) (Nat.succ_lt_succ h2))
theorem end_at {n v d i : Nat} (hv : v <= n) (hd : d <= n) (he : n - v <= d) (hi : v <= i) : d - (n - v) + (i - v) = i - (n - d) := by
 obtain ⟨a, rfl⟩ := Nat.exists_eq_add_of_le hv
 rw [Nat.add_sub_cancel_left] at he ⊢
 obtain ⟨b, rfl⟩ := Nat.exists_eq_add_of_le he
 obtain ⟨c, rfl⟩ := Nat.exists_eq_add_of_le hi
 rw [Nat.add_comm v a] at hd ⊢
 have hb := Nat.le_of_add_le_add_left hd
 rw [Nat.add_sub_cancel_left, Nat.add_sub_cancel_left, Nat.add_sub_add_left, Nat.sub_sub_right _ hb, Nat.add_assoc, Nat.add_sub_cancel_left, Nat.add_comm]
section
variable {names : List Str} {vals ds : List Value}
theorem slots_end (nd : names.Nodup) (hv : vals.length <= names.length) (hds : ds.length <= names.length) (hen : names.length - vals.length <= ds.length) {S' : List (Str × Value)} (e : ∀ x, S'.lookup x = ((names.zip vals).lookup x).or (((names.drop (names.length - ds.length)).zip ds).lookup x)) :
  (names.filterMap fun n => (S'.lookup n).map (n, ·)) = names.zip (vals ++ ds.drop (ds.length - (names.length - vals.length))) := by
 have hl : (ds.drop (ds.length - (names.length - vals.length))).length = names.length - vals.length := by rw [List.length_drop]; exact Nat.sub_sub_self hen
 refine filter_zip _ _ (by rw [List.length_append, hl]; exact (Nat.add_sub_of_le hv).symm) fun i hi hf => ?_
 rw [e]
 by_cases hiv : i < vals.length
 ·rw [Z6c nd hi hiv, List.getElem_append_left hiv]; rfl
 ·have hv' := Nat.le_of_not_lt hiv
  have h0 : names.length - ds.length <= i := Nat.le_trans (Nat.sub_le_iff_le_add'.mpr (Nat.sub_le_iff_le_add.mp hen)) hv'
  have hk0 : i - (names.length - ds.length) < names.length - (names.length - ds.length) := Nat.sub_lt_sub_right h0 hi
  have hk : i - (names.length - ds.length) < (names.drop (names.length - ds.length)).length := by rw [List.length_drop]; exact hk0
  have hk2 : i - (names.length - ds.length) < ds.length := Nat.lt_of_lt_of_eq hk0 (Nat.sub_sub_self hds)
  have h := Z6c (vals := ds) (nd.sublist (List.drop_sublist _ _)) hk hk2
  rw [List.getElem_drop] at h
  have e3 : names.length - ds.length + (i - (names.length - ds.length)) = i := Nat.add_sub_of_le h0
  have e4 : ds.length - (names.length - vals.length) + (i - vals.length) = i - (names.length - ds.length) := end_at hv hds hen hv'
  simp only [e3] at h
  rw [Z5t nd hi (Nat.le_of_not_lt hiv), List.getElem_append_right (Nat.le_of_not_lt hiv), List.getElem_drop]
  simp only [e4]
  exact h
theorem slots_all (nd : names.Nodup) (hen : names.length - vals.length <= ds.length) : ((names.take (names.length - ds.length)).filter fun n => ((names.zip vals).lookup n).isNone) = [] :=
 List.filter_eq_nil_iff.mpr fun n hn => by
  obtain ⟨i, hi, rfl⟩ := List.mem_iff_getElem.mp hn
  rw [List.length_take] at hi
  have hin : i < names.length := by omega
  rw [List.getElem_take, Z6c nd hin (by omega)]
  exact Bool.false_ne_true
end
theorem bind_core {s : Shared} {fd : FuncData} {args : List Arg} {kd : List (Option PySem.Expr)} {df : List PySem.Expr} {vals : List Value} {items : Option (Array Value)}
  (hd : ∀ (M : Model) (A : Around) (E : Value -> Shared -> Prop) (Q : Option (Array Value) -> Shared -> Prop), Q items s -> wpAny M A (seqItems? fd.defaults) Q E s)
  (nd : (args.map (·.arg)).Nodup) (hv : vals.length <= (args.map (·.arg)).length) (hds : (items.getD #[]).toList.length <= (args.map (·.arg)).length) (hen : (args.map (·.arg)).length - vals.length <= (items.getD #[]).toList.length) :
  BindsTo s { fd with params := ⟨[], args, none, [], kd, none, df⟩ } ⟨vals, []⟩ ((args.map (·.arg)).zip (vals ++ (items.getD #[]).toList.drop ((items.getD #[]).toList.length - ((args.map (·.arg)).length - vals.length)))) := by
 intro M A E Q hq
 show wpAny M A (seqItems? fd.defaults >>= _) Q E s
 refine wpAny_bind (hd M A E _ ?_)
 generalize (items.getD #[]).toList = ds at *
 generalize hn : args.map (·.arg) = names at *
 have h0 : ds.drop (ds.length - names.length) = ds := (congrArg (ds.drop ·) (Nat.sub_eq_zero_of_le hds)).trans rfl
 refine wpAny_ite_false (decide_eq_false fun h => absurd (of_decide_eq_true (Bool.and_eq_true_iff.mp h).1) (Nat.not_lt.mpr hv)) (wpAny_ite_false ?_ (wpAny_bind ?_))
 ·show decide ((!(List.filter (fun n => ((names.zip vals).lookup n).isNone) (names.take (names.length - (ds.drop (ds.length - names.length)).length))).isEmpty) = true) = false
  rw [h0, slots_all nd hen]; rfl
 show wpAny M A (forIn ((names.drop (names.length - (ds.drop (ds.length - names.length)).length)).zip (ds.drop (ds.length - names.length))) (names.zip vals) _) _ E s
 rw [h0]
 obtain ⟨S', e1, e2⟩ := fill_slots (fun x S => if (S.lookup x.1).isNone = true then pure (ForInStep.yield (S ++ [(x.1, x.2)])) else pure (ForInStep.yield S)) (fun n d S => by dsimp only; split <;> rfl) ((names.drop (names.length - ds.length)).zip ds) (names.zip vals)
 refine wpAny_of_eq e1 (wpAny_pure ?_)
 show Q (List.filterMap (fun n => (List.lookup n S').map (n, ·)) (names ++ [])) s
 rw [List.append_nil, slots_end nd hv hds hen e2]
 exact hq
theorem fd_eq (fd : FuncData) {p : Arguments} (h : fd.params = p) : fd = { fd with params := p } := by cases h; rfl
theorem params_eq {p : Arguments} (h1 : p.posonlyargs = []) (h2 : p.vararg = none) (h3 : p.kwonlyargs = []) (h4 : p.kwarg = none) : p = ⟨[], p.args, none, [], p.kw_defaults, none, p.defaults⟩ := by cases p; cases h1; cases h2; cases h3; cases h4; rfl
theorem bind_plain {s : Shared} {fd : FuncData} {vals : List Value} {items : Option (Array Value)} (h1 : fd.params.posonlyargs = []) (h2 : fd.params.vararg = none) (h3 : fd.params.kwonlyargs = []) (h4 : fd.params.kwarg = none)
  (hd : ∀ (M : Model) (A : Around) (E : Value -> Shared -> Prop) (Q : Option (Array Value) -> Shared -> Prop), Q items s -> wpAny M A (seqItems? fd.defaults) Q E s)
  (nd : (fd.params.args.map (·.arg)).Nodup) (hv : vals.length <= (fd.params.args.map (·.arg)).length) (hds : (items.getD #[]).toList.length <= (fd.params.args.map (·.arg)).length) (hen : (fd.params.args.map (·.arg)).length - vals.length <= (items.getD #[]).toList.length) :
  BindsTo s fd ⟨vals, []⟩ ((fd.params.args.map (·.arg)).zip (vals ++ (items.getD #[]).toList.drop ((items.getD #[]).toList.length - ((fd.params.args.map (·.arg)).length - vals.length)))) := by
 have e : fd = { fd with params := ⟨[], fd.params.args, none, [], fd.params.kw_defaults, none, fd.params.defaults⟩ } := fd_eq fd (params_eq h1 h2 h3 h4)
 rw [e]
 exact bind_core (fd := fd) hd nd hv hds hen
theorem Z8a : ∀ {names : List (Str × NameKind)} {m : Nat} {acc : List (Str × Addr)}, (∀ p ∈ acc, p ∈ cellsFrom m names acc) /\ (∀ x, (x, NameKind.cell) ∈ names -> ∃ c, (x, c) ∈ cellsFrom m names acc)
 | [], _, _ => ⟨fun _ h => h, fun _ h => nomatch h⟩
 | (n, k) :: r, m, acc => by
  unfold cellsFrom
  by_cases hk : (k == NameKind.cell) = true
  ·rw [if_pos hk]
   obtain ⟨h1, h2⟩ := Z8a (names := r) (m := m + 1) (acc := (n, m) :: acc)
   exact ⟨fun p hp => h1 p (.tail _ hp), fun x hx => (List.mem_cons.mp hx).elim (fun q => ⟨m, h1 _ ((Prod.mk.inj q).1 ▸ .head _)⟩) (h2 x)⟩
  ·rw [if_neg hk]
   obtain ⟨h1, h2⟩ := Z8a (names := r) (m := m) (acc := acc)
   exact ⟨h1, fun x hx => (List.mem_cons.mp hx).elim (fun q => absurd ((Prod.mk.inj q).2 ▸ rfl) hk) (h2 x)⟩
section
variable {kd : Str -> Option NameKind} {y : Str} {v : Value}
theorem bindL_skip : ∀ {l : List (Str × Value)} {m : Str -> Option Value}, y ∉ l.map (·.1) -> bindL kd l m y = m y
 | [], _, _ => rfl
 | (n, v) :: r, m, h => by
  have h := not_or.mp fun q => h (List.mem_cons.mpr q)
  show bindL kd r (if kd n = some .local then fun y => if y = n then some v else m y else m) y = m y
  rw [bindL_skip h.2]
  by_cases hk : kd n = some .local
  ·rw [if_pos hk]; exact if_neg h.1
  ·rw [if_neg hk]
theorem bindC_skip : ∀ {l : List (Str × Value)} {m : Str -> Option Value}, y ∉ l.map (·.1) -> bindC kd l m y = m y
 | [], _, _ => rfl
 | (n, v) :: r, m, h => by
  have h := not_or.mp fun q => h (List.mem_cons.mpr q)
  show bindC kd r (if kd n = some .local then m else fun y => if y = n then some v else m y) y = m y
  rw [bindC_skip h.2]
  by_cases hk : kd n = some .local
  ·rw [if_pos hk]
  ·rw [if_neg hk]; exact if_neg h.1
theorem bindL_at (hk : kd y = some .local) : ∀ {l : List (Str × Value)} {m : Str -> Option Value}, (l.map (·.1)).Nodup -> (y, v) ∈ l -> bindL kd l m y = some v
 | (n, u) :: r, m, nd, h => by
  obtain ⟨n1, n2⟩ := List.nodup_cons.mp nd
  show bindL kd r (if kd n = some .local then fun y => if y = n then some u else m y else m) y = some v
  rcases List.mem_cons.mp h with q | h
  ·have q := Prod.mk.inj q
   rw [bindL_skip (q.1 ▸ n1), if_pos (q.1 ▸ hk), q.2]; exact if_pos q.1
  ·exact bindL_at hk n2 h
theorem bindC_at (hk : kd y ≠ some .local) : ∀ {l : List (Str × Value)} {m : Str -> Option Value}, (l.map (·.1)).Nodup -> (y, v) ∈ l -> bindC kd l m y = some v
 | (n, u) :: r, m, nd, h => by
  obtain ⟨n1, n2⟩ := List.nodup_cons.mp nd
  show bindC kd r (if kd n = some .local then m else fun y => if y = n then some u else m y) y = some v
  rcases List.mem_cons.mp h with q | h
  ·have q := Prod.mk.inj q
   rw [bindC_skip (q.1 ▸ n1), if_neg (q.1 ▸ hk), q.2]; exact if_pos q.1
  ·exact bindC_at hk n2 h
end
theorem Y0c {x : Str} : ∀ {names : List (Str × NameKind)}, Z2c (Z7j names) x = none
 | [] => rfl
 | (n, k) :: r => by
  have ih := Y0c (x := x) (names := r)
  have ih' : Z2c ((n, none) :: Z7j r) x = none := by
   unfold Z2c
   rw [Z2v]
   by_cases h : n = x
   ·rw [if_pos h]
   ·rw [if_neg h]; exact ih
  cases k <;> first | exact ih' | exact ih
theorem Z9f : ∀ {xs : List Str} {ys : List Value}, ys.length = xs.length -> (xs.zip ys).map (·.1) = xs
 | [], _, _ => rfl
 | x :: xs, [], h => nomatch h
 | x :: xs, y :: ys, h => congrArg (x :: ·) (Z9f (Nat.succ.inj h))
section
variable {st : St} {r : FnRow} {args : List MV} {ρ : Vars} {x : Str} {v : MV} {us : List Value}
theorem vms_zip : ∀ {xs : List Str} {l : List MV} {us : List Value}, VMs g st l us -> (x, v) ∈ xs.zip l -> ∃ u, (x, u) ∈ xs.zip us /\ VM g st v u
 | [], _, _, _, h => nomatch h
 | y :: xs, _, _, .nil, h => nomatch h
 | y :: xs, _, _, .cons a b, h => (List.mem_cons.mp h).elim (fun q => ⟨_, (Prod.mk.inj q).1 ▸ .head _, (Prod.mk.inj q).2 ▸ a⟩) fun h => let ⟨u, h1, h2⟩ := vms_zip b h; ⟨u, .tail _ h1, h2⟩
noncomputable def fullM (r : FnRow) (args : List MV) : List MV := args ++ (r.dflts.drop (r.dflts.length - (r.params.length - args.length))).map .pv
theorem binds_some (e : binds r args = some ρ) : (args.length <= r.params.length /\ r.params.length - args.length <= r.dflts.length) /\ Z2m r.scope (Z7j r.scope.names) r.params (fullM r args) = some ρ := by
 replace e : (match Nat.ble args.length r.params.length && Nat.ble (r.params.length - args.length) r.dflts.length with | true => Z2m r.scope (Z7j r.scope.names) r.params (fullM r args) | false => none) = some ρ := e
 cases h : Nat.ble args.length r.params.length && Nat.ble (r.params.length - args.length) r.dflts.length with
 | false => rw [h] at e; exact Z0a e
 | true =>
  rw [h] at e
  obtain ⟨h1, h2⟩ := Bool.and_eq_true_iff.mp h
  exact ⟨⟨Nat.le_of_ble_eq_true h1, Nat.le_of_ble_eq_true h2⟩, e⟩
theorem binds_val (nd : r.params.Nodup) (e : binds r args = some ρ) (rf : VMs g st (fullM r args) us) (hv : Z2c ρ x = some v) : ∃ u, (x, u) ∈ r.params.zip us /\ VM g st v u := by
 obtain ⟨s1, -, s3, s4⟩ := Z2p nd (binds_some e).2
 by_cases hx : x ∈ r.params
 ·obtain ⟨i, hi, rfl⟩ := List.mem_iff_getElem.mp hx
  have hi2 : i < (fullM r args).length := s1 ▸ hi
  have hm : (r.params[i], (fullM r args)[i]) ∈ r.params.zip (fullM r args) := List.mem_iff_getElem.mpr ⟨i, by rw [List.length_zip]; exact Nat.lt_min.mpr ⟨hi, hi2⟩, List.getElem_zip⟩
  exact Option.some.inj (hv.symm.trans (s3 _ hm)) ▸ vms_zip rf hm
 ·rw [s4 x hx, Y0c] at hv; exact Z0a hv
end
section
variable {a : Addr} {r : FnRow} {A : Around} {n : Nat}
theorem RoomC.deep (rm : RoomC A (n + 1)) (env : Env) : Room (A.deeper env) n := ⟨rm.handled, by have := rm.depth; show A.depth + 1 + 3 * n + 10 <= 900; omega, by have := rm.units; show A.units + 3 + 40 * n + 400 < 9900; omega⟩
theorem RoomC.lim (rm : RoomC A n) : A.depth < recursionLimit := by have := rm.depth; show A.depth < 1000; omega
theorem fn_frame (P : PFw g) (Fa : FnAt g a r) {b : Fb} {s s1 : Shared} {full : List Value} {N : List Addr} {qual : Str} {func : Option Addr} {code : Value} (hb : b.env = newEnv r.scope s.heap.objs.size mainGlobals (cellsFrom (s.heap.objs.size + 1) r.scope.names []) qual func code none builtinsNs) (rm : Room b.A b.n) (hsc : b.sc = r.scope) (hV : b.V = N) (hW : b.W = N)
  (hN : N = b.env.locals :: b.env.cells.filterMap fun p => b.env.cells.lookup p.1)
  (x : InCallC s b.env.locals (bindL b.env.kindOf (r.params.zip full) fun _ => none) b.env.cells (bindC b.env.kindOf (r.params.zip full) fun _ => none) s1) (hl : full.length = r.params.length) {st : St} {args : List MV} {ρ : Vars} (eb : binds r args = some ρ) (hh : st.h = s1.heap) (hp : ∀ a ∈ N, Prv (st.own a) /\ ∃ o, st.h.get? a = some o) (hlo : b.lo = .frm) (htop : ∀ l, b.A.frames = some l -> ∃ o, l = b.env :: o) (hL : st.own b.env.locals = some .frm) (hf : FrA b.A st) (rf : VMs g st (fullM r args) full) : Fm g b st ρ := by
 have hS : b.env.scope = r.scope := hb ▸ rfl
 have hC : b.env.cells = cellsFrom (s.heap.objs.size + 1) r.scope.names [] := hb ▸ rfl
 have kd : ∀ y, b.env.kindOf y = look b.sc.names y := fun y => by rw [Z7d, hsc, <- hS]; rfl
 have inN : ∀ {y c}, b.env.cells.lookup y = some c -> c ∈ N := fun {y c} h => hN ▸ .tail _ (List.mem_filterMap.mpr ⟨(y, c), mem_of_lookup h, h⟩)
 have nf : ∀ {y}, look b.sc.names y ≠ some .free := fun hy => Fa.nofree _ (Z3e (hsc ▸ hy)) rfl
 have hkeys : ((r.params.zip full).map (·.1)).Nodup := (Z9f hl).symm ▸ Fa.nd
 refine ⟨⟨rm, fun a ha => hV ▸ hW ▸ ha, hS ▸ Fa.kind, hb ▸ rfl, hb ▸ rfl, fun y hy => (kd y).trans hy, fun y hy => (kd y).trans hy, fun y hy => (kd y).trans hy, fun y hy => absurd hy nf, hW ▸ hN ▸ .head _, fun y z c hy hz => name_of_addr x.apart (mem_of_lookup hy) (mem_of_lookup hz), fun _ => ⟨hb ▸ rfl, htop⟩⟩, fun a ha => hp a (hV ▸ ha), ⟨_, hh ▸ x.toInCall.ns, fun y v hy hv => ?_⟩, fun y hy => ?_, hf, hlo ▸ hL⟩
 ·obtain ⟨u, h1, h2⟩ := binds_val Fa.nd eb rf hv
  exact ⟨u, bindL_at ((kd y).trans hy) hkeys h1, h2⟩
 ·have hy : look b.sc.names y = some .cell := hy.elim id fun q => absurd q nf
  obtain ⟨c0, hc0⟩ := (Z8a (names := r.scope.names) (m := s.heap.objs.size + 1) (acc := [])).2 y (Z3e (hsc ▸ hy))
  obtain ⟨c, hc⟩ := Z3d hc0
  rw [<- hC] at hc
  have ab := x.above y c (mem_of_lookup hc)
  refine ⟨c, _, hc, hV ▸ inN hc, fun _ => hW ▸ inN hc, fun q => Nat.lt_irrefl _ (q ▸ ab), hh ▸ x.cell y c hc, fun v hv => ?_⟩
  obtain ⟨u, h1, h2⟩ := binds_val Fa.nd eb rf hv
  exact ⟨u, bindC_at (by rw [kd, hy]; exact nofun) hkeys h1, h2⟩
structure Lf (env : Env) (r : FnRow) : Prop where
 kind : env.scope.kind = .function
 glob : env.globals = mainGlobals
 bi : env.builtins = builtinsNs
 kd : ∀ y, env.kindOf y = look r.scope.names y
 frame : env.frame = some env.locals
structure Pm (r : FnRow) (vs : List Value) (m : Str -> Option Value) : Prop where
 at_ : ∀ (i : Nat) y w, r.params[i]? = some y -> look r.scope.names y = some .local -> vs[i]? = some w -> m y = some w
 some_ : ∀ y ∈ r.params, look r.scope.names y = some .local -> ∃ w, m y = some w
theorem fn_dflts (P : PFw g) {s : Shared} (base : ∀ b o, g.hb.get? b = some o -> s.heap.get? b = some o) {dV : Value} (h : (dV = .none /\ r.dflts = []) \/ ∃ T ds, dV = .ref T /\ TX g.hb T ds /\ VPs g g.st0 r.dflts ds) : ∃ items : Option (Array Value), VPs g g.st0 r.dflts (items.getD #[]).toList /\ ∀ (M : Model) (A : Around) (E : Value -> Shared -> Prop) (Q : Option (Array Value) -> Shared -> Prop), Q items s -> wpAny M A (seqItems? dV) Q E s := by
 rcases h with ⟨rfl, h0⟩ | ⟨T, ds, rfl, ⟨m, hT⟩, hv⟩
 ·exact ⟨none, h0 ▸ .nil, fun M A E Q h => wpAny_pure h⟩
 ·exact ⟨some ds.toArray, hv, fun M A E Q h => wpAny_seqItems (base _ _ hT) rfl h⟩
set_option backward.match.sparseCases true in
theorem call_frame (P : PFw g) (Fa : FnAt g a r) {RR : Result -> Shared -> Prop} {s : Shared} {vs : List Value} {k0 : Nat} (hlim : A.depth < recursionLimit) (base : ∀ b o, g.hb.get? b = some o -> s.heap.get? b = some o) (hk1 : vs.length = k0) (hk : k0 <= r.params.length /\ r.params.length - k0 <= r.dflts.length)
  (k : ∀ env N s1 m, (∀ b, Kp s.heap s1.heap b) -> s1.gens = s.gens -> s1.os = s.os -> (∀ a ∈ N, s.heap.get? a = none /\ ∃ o, s1.heap.get? a = some o) -> Lf env r -> env.locals ∈ N -> s1.heap.Ns env.locals m -> Pm r vs m ->
   (∀ {O : Z0c} {st : St} {args : List MV} {ρ : Vars}, Room (A.deeper env) n -> binds r args = some ρ -> args.length = k0 -> st.h = s1.heap -> (∀ a ∈ N, Prv (st.own a)) -> st.own env.locals = some .frm -> FrA (A.deeper env) st -> Fz g.st0 st -> VMs g st args vs -> Fm g ⟨O, A.deeper env, n, N, N, env, r.scope, .frm⟩ st ρ) ->
   wpAny g.M (A.deeper env) (execs r.body env) (fun f s' => RR (.ok (.ret (match f with | .ret v => v | _ => .none))) s') (fun e s' => wpAny g.M (A.deeper env) (leaving env e) (fun _ s'' => RR (.error e) s'') (fun e' s'' => RR (.error e') s'') s') s1) :
  codeAny g.M A (.call (.ref a) ⟨vs, []⟩) RR s := by
 obtain ⟨oc, od, osl, name, qual, params, dV, kV, doc, pm, an, cdv, ct, ho, hcd, p1, p2, p3, p4, p5, hdf⟩ := Fa.obj
 have X : g.K.In s.heap := P.kin.keeps base
 obtain ⟨items, hdv, hseq⟩ := fn_dflts P base hdf
 have hds := hdv.len
 have hbind : BindsTo s (fnOf name qual params r.body r.scope dV kV doc pm an cdv ct) ⟨vs, []⟩ (r.params.zip (vs ++ (items.getD #[]).toList.drop ((items.getD #[]).toList.length - (r.params.length - k0)))) := by
  rw [<- p5, <- hk1]
  exact bind_plain (fd := fnOf name qual params r.body r.scope dV kV doc pm an cdv ct) p1 p2 p3 p4 hseq (by show (params.args.map (·.arg)).Nodup; rw [p5]; exact Fa.nd)
   (by show vs.length <= (params.args.map (·.arg)).length; rw [p5, hk1]; exact hk.1) (by show _ <= (params.args.map (·.arg)).length; rw [p5, hds]; exact Fa.dl) (by show (params.args.map (·.arg)).length - vs.length <= _; rw [p5, hk1, hds]; exact hk.2)
 generalize hfull : vs ++ (items.getD #[]).toList.drop ((items.getD #[]).toList.length - (r.params.length - k0)) = full at hbind
 have hfl : full.length = r.params.length := by rw [<- hfull, List.length_append, List.length_drop]; omega
 have hkind : ∀ x ∈ r.params.zip full, r.scope.names.lookup x.1 = some .local \/ (r.scope.names.lookup x.1 = some .cell /\ ((cellsFrom (s.heap.objs.size + 1) r.scope.names []).lookup x.1).isSome = true) := by
  intro x hx
  have hm : x.1 ∈ r.params := by
   have := List.mem_map_of_mem (f := (·.1)) hx
   rwa [Z9f hfl] at this
  refine (Fa.pk x.1 hm).elim (fun h => .inl (Z7d _ _ ▸ h)) fun h => .inr ⟨Z7d _ _ ▸ h, ?_⟩
  obtain ⟨c, hc⟩ := (Z8a (names := r.scope.names) (m := s.heap.objs.size + 1) (acc := [])).2 x.1 (Z3e h)
  obtain ⟨b, hb'⟩ := Z3d hc
  rw [hb']; rfl
 refine codeAny_call_function hlim (X _ _ ho) rfl Fa.co Fa.gen rfl (codeRec_of X hcd) (hbind _ _ _ _ ?_)
 refine wpAny_newFunctionEnv_cells Fa.kind hkind fun env he s1 x => ?_
 refine ⟨(P.nolimit.keeps base).keeps x.toInCall.keep, codeAny_func ?_⟩
 obtain ⟨h1, tk, e1, hk'⟩ := x.done
 have hL : env.locals = s.heap.objs.size := he ▸ rfl
 have dead : ∀ c, s.heap.objs.size <= c -> s.heap.get? c = none := fun c hc => by
  cases q : s.heap.get? c with
  | none => rfl
  | some o => exact absurd (Heap.lt_size q) (Nat.not_lt.mpr hc)
 have hN : ∀ b ∈ (env.locals :: env.cells.filterMap fun p => env.cells.lookup p.1), s.heap.get? b = none /\ ∃ o, s1.heap.get? b = some o := fun b hb' => by
  rcases List.mem_cons.mp hb' with rfl | hb'
  ·exact ⟨dead _ (hL ▸ Nat.le_refl _), let ⟨o, _, _, q, _⟩ := x.toInCall.ns; ⟨o, q⟩⟩
  ·obtain ⟨p, _, hy⟩ := List.mem_filterMap.mp hb'
   have := x.above p.1 b (mem_of_lookup hy)
   obtain ⟨o, q, _⟩ := x.cell p.1 b hy
   exact ⟨dead _ (Nat.le_of_lt (hL ▸ this)), o, q⟩
 have kd : ∀ y, env.kindOf y = look r.scope.names y := fun y => by rw [Z7d, <- show env.scope = r.scope from he ▸ rfl]; rfl
 have keys : ((r.params.zip full).map (·.1)).Nodup := (Z9f hfl).symm ▸ Fa.nd
 have pm : ∀ (i : Nat) y w, r.params[i]? = some y -> look r.scope.names y = some .local -> full[i]? = some w -> bindL env.kindOf (r.params.zip full) (fun _ => none) y = some w := fun i y w h1 h2 h3 => bindL_at ((kd y).trans h2) keys (List.mem_of_getElem? (i := i) (by rw [List.getElem?_zip_eq_some]; exact ⟨h1, h3⟩))
 refine k env _ s1 _ (e1 ▸ hk') (by rw [e1]) (by rw [e1]) hN ⟨he ▸ Fa.kind, he ▸ rfl, he ▸ rfl, kd, he ▸ rfl⟩ (.head _) x.toInCall.ns ⟨fun i y w h1 h2 h3 => pm i y w h1 h2 (hfull ▸ by rw [List.getElem?_append_left (List.getElem?_eq_some_iff.mp h3).1]; exact h3), fun y hy h2 => ?_⟩ fun {O st args ρ} rm eb hlen hh hp hL hF hz ra => fn_frame P Fa he rm rfl rfl rfl rfl x hfl eb hh (fun a ha => ⟨hp a ha, hh ▸ (hN a ha).2⟩) rfl (fun l q => ?_) hL hF ?_
 ·obtain ⟨i, hi, rfl⟩ := List.mem_iff_getElem.mp hy
  exact ⟨_, pm i _ _ (List.getElem?_eq_getElem hi) h2 (List.getElem?_eq_getElem (hfl ▸ hi))⟩
 ·replace q : A.frames.map (env :: ·) = some l := q
  obtain ⟨o, -, q⟩ := Option.map_eq_some_iff.mp q
  exact ⟨o, q.symm⟩
 ·rw [<- hfull, hds, <- hlen]
  exact ra.app (Z3g ((hdv.drop _).imp fun _ _ r => r.ext hz))
end
section
variable {nm q : Str} {C N B : Addr} {bs : List Value} {sn : List Str} {sub : List Value} {ab : Bool} {col : Option Bool} {dd : Option Addr} {k0 k1 k2 k3 k5 : Option Value}
variable {newId initId : String} {bmE : List Value} {A : Around} {E : Value -> Shared -> Prop} {R : Result -> Shared -> Prop} {h : Heap} {gs : Array GenState} {d : Drawn} {t : Nat} {os : OsState} {rest : List Value}
theorem kf_has (C B : Addr) : (Value.ref C :: [Value.ref B, .type "Exception", .type "BaseException", .type "object"]).contains (.type "Exception") = true /\ (Value.ref C :: [Value.ref B, .type "Exception", .type "BaseException", .type "object"]).contains (.type "BaseException") = true /\ (Value.ref C :: [Value.ref B, .type "Exception", .type "BaseException", .type "object"]).contains (.type "AttributeError") = false /\ (Value.ref C :: [Value.ref B, .type "Exception", .type "BaseException", .type "object"]).contains (.type "NameError") = false /\ (Value.ref C :: [Value.ref B, .type "Exception", .type "BaseException", .type "object"]).contains (.type "object") = true /\ (Value.ref C :: [Value.ref B, .type "Exception", .type "BaseException", .type "object"]).contains (.ref C) = true := by
 refine ⟨rfl, rfl, rfl, rfl, rfl, by simp⟩
theorem kf_check (F : ExcBaseFacts "Exception" newId initId bmE) {Q : Unit -> Shared -> Prop} (hC : h.get? C = some (kfObj nm q C N B bs sn sub ab col dd k0 k1 k2 k3 k5 newId)) (hq : Q () ⟨h, gs, d, t, os⟩) : wpAny g.M A (checkBuiltinCall newId ⟨.ref C :: rest, []⟩) Q E ⟨h, gs, d, t, os⟩ := by
 have hstar := F.noStar
 have hin := (kf_has C B).1
 simp only [checkBuiltinCall, F.newKind, F.newSplit, F.newRow]
 repeat (first | refine wpAny_loadPart_at hC ?_ | (refine wpAny_isSubtype_exc hC ?_; rw [hin]) | refine wpAny_staticBase_exc hC ?_ | refine wpAny_madeBy_exc hC ?_ | simp only [bne_self_eq_false, Bool.false_eq_true, if_false] | wp_step)
 exact hq
theorem kf_new (F : ExcBaseFacts "Exception" newId initId bmE) (hC : h.get? C = some (kfObj nm q C N B bs sn sub ab col dd k0 k1 k2 k3 k5 newId)) (hz : rest.length <= sizeLine)
  (hq : R (.ok (.ret (.ref (h.objs.size + 1)))) ⟨(h.push { cls := .type "tuple", data := .seq rest.toArray }).push { cls := .ref C, data := .fields #[.ref h.objs.size, .none, .none, .none, .bool false, .none] }, gs, d, t, os⟩) :
  codeAny g.M A (.builtin newId ⟨.ref C :: rest, []⟩) R ⟨h, gs, d, t, os⟩ := by
 have hends := F.ends
 obtain ⟨h1, h2, h3, h4, -⟩ := kf_has C B
 refine codeAny_builtinAt F.entry ?_
 unfold Builtin.«BaseException.__new__»
 refine PySem.wpAt_bind ?_
 show PySem.wpAt _ _ _ (stack >>= _) _ _ _
 refine PySem.wpAt_bind (PySem.wpAt_stack fun p below => PySem.wpAt_of_wpAny ?_)
 wp_walk
 refine PySem.wpAt_of_wpAny ?_
 rw [F.owner]
 repeat (first | with_reducible refine wpAny_madeHere_exc F.canon hC ?_ | with_reducible refine wpAny_loadPart_at hC ?_ | (with_reducible refine wpAny_isSubtype_exc hC ?_; first | rw [h1] | rw [h3] | rw [h4]) | wp_step)
 show R _ _
 rw [Heap.size_push]
 exact hq
noncomputable abbrev Z4r (C t : Addr) : Obj := { cls := .ref C, data := .fields #[.ref t, .none, .none, .none, .bool false, .none] }
theorem kf_type_call (F : ExcBaseFacts "Exception" newId initId bmE) {Q : Fin -> Shared -> Prop} {fI : Addr} (hC : h.get? C = some (kfObj nm q C N B bs sn sub ab col dd k0 k1 k2 k3 k5 newId)) (hz : rest.length <= sizeLine)
  (hi : Looks g.M h (typeLookup (.ref C) "__init__") (some (.ref fI))) (hb : ∀ self, Looks g.M h (bindSpecial (.ref fI) self) (.ref fI, [self]))
  (hq : ∀ h1, (∀ b, Kp h h1 b) -> h.get? (h.objs.size + 1) = none -> h1.get? (h.objs.size + 1) = some (Z4r C h.objs.size) ->
   codeAny g.M A (.call (.ref fI) ⟨.ref (h.objs.size + 1) :: rest, []⟩) (InitBack (h.objs.size + 1) fun r s' => match r with | .ok f => Q (.done f) s' | .error x => E x s') ⟨h1, gs, d, t, os⟩) :
  wpAny g.M A (Builtin.«type.__call__» ⟨.ref C :: rest, []⟩) Q E ⟨h, gs, d, t, os⟩ := by
 repeat (first | with_reducible refine wpAny_loadPart_at hC ?_ | with_reducible refine wpAny_madeBy_exc hC ?_ | wp_step)
 refine codeAny_call_builtin_code (Code.quiet_builtin _ F.quiet) (kf_check F hC ?_)
 refine kf_new F hC hz ?_
 show wpAny _ _ _ _ _ _
 have k : ∀ b, Kp h ((h.push { cls := .type "tuple", data := .seq rest.toArray }).push (Z4r C h.objs.size)) b := fun b o e => Heap.get?_push_of_some _ (Heap.get?_push_of_some _ e)
 have hC1 := k _ _ hC
 have hget : ((h.push { cls := .type "tuple", data := .seq rest.toArray }).push (Z4r C h.objs.size)).get? (h.objs.size + 1) = some (Z4r C h.objs.size) := by heap_get
 have hcC := (kf_has C B).2.2.2.2.2
 unfold isInstance
 repeat (first | with_reducible refine wpAny_loadPart_at hget ?_ | (with_reducible refine wpAny_isSubtype_exc hC1 ?_; rw [hcC]) | wp_step)
 refine ((hi.keeps k).here ?_)
 refine wpAny_holding (wpAny_bind (((hb _).keeps k).here ?_))
 refine wpAny_bind (wpAny_call (codeAny_mono (hq _ k (Heap.get?_none_of_le (Nat.le_succ _)) hget) fun r s' z => ?_))
 rcases r with e | (v | _ | _ | _) <;> first | exact z | exact z.elim | skip
 obtain ⟨rfl, z⟩ := z
 refine wpAny_pure (wpAny_pure ?_)
 exact z
theorem kf_call (F : ExcBaseFacts "Exception" newId initId bmE) {Q : Value -> Shared -> Prop} {fI : Addr} (hC : h.get? C = some (kfObj nm q C N B bs sn sub ab col dd k0 k1 k2 k3 k5 newId)) (hz : rest.length <= sizeLine)
  (hi : Looks g.M h (typeLookup (.ref C) "__init__") (some (.ref fI))) (hb : ∀ self, Looks g.M h (bindSpecial (.ref fI) self) (.ref fI, [self]))
  (hq : ∀ h1, (∀ b, Kp h h1 b) -> h.get? (h.objs.size + 1) = none -> h1.get? (h.objs.size + 1) = some (Z4r C h.objs.size) ->
   codeAny g.M (A.under (.builtin "type.__call__" ⟨.ref C :: rest, []⟩)) (.call (.ref fI) ⟨.ref (h.objs.size + 1) :: rest, []⟩) (InitBack (h.objs.size + 1) fun r s' => match r with | .ok (.ret v) => Q v s' | .ok _ => False | .error x => E x s') ⟨h1, gs, d, t, os⟩) :
  wpAny g.M A (call (.ref C) rest) Q E ⟨h, gs, d, t, os⟩ := by
 have f1 := tc_lookup
 have f2 := tc_bind (.ref C)
 have hT : (⟨h, gs, d, t, os⟩ : Shared).TypeIs (.ref C) "type" := ⟨_, hC, rfl⟩
 refine wpAny_call (codeAny_of_tree ?_)
 show wpAny _ _ (callAny (.ref C) _) _ _ _
 repeat (any_goals (first | assumption | with_reducible refine wpAny_loadPart_at hC ?_ | wp_step))
 refine ⟨rfl, ?_⟩
 refine codeAny_call_builtin_at (Code.quiet_builtin _ (by decide +kernel)) entry_typeCall (wpAny_check_type_call_sub hC (kf_type_call F hC hz hi hb fun h1 a b c => codeAny_mono (hq h1 a b c) fun r s' z => ?_))
 rcases r with e | (v | _ | _ | _) <;> exact z
theorem kf_check_init (F : ExcBaseFacts "Exception" newId initId bmE) {e : Addr} {oe : Obj} {Q : Unit -> Shared -> Prop} (hC : h.get? C = some (kfObj nm q C N B bs sn sub ab col dd k0 k1 k2 k3 k5 newId)) (he : h.get? e = some oe) (hc : oe.cls = .ref C) (hq : Q () ⟨h, gs, d, t, os⟩) :
  wpAny g.M A (checkBuiltinCall initId ⟨.ref e :: rest, []⟩) Q E ⟨h, gs, d, t, os⟩ := by
 have hin := (kf_has C B).1
 have hshort := F.noStar
 simp only [checkBuiltinCall, F.initKind, F.initSplit, F.initRow]
 repeat (first | (with_reducible refine wpAny_loadPart_at he ?_; rw [hc]) | with_reducible refine wpAny_loadPart_at hC ?_ | (with_reducible refine wpAny_isSubtype_exc hC ?_; rw [hin]) | wp_step)
 refine wpAny_onRaise ?_
 rw [show ∀ (a b : String) (n : Nat), Bind.check ⟨.positional, "*", "Exception", .self, [⟨"args", .varPos, false⟩]⟩ a b n (List.map (fun x => x.fst) ({ pos := Value.ref e :: rest } : Args).kw) = pure () from
  fun a b n => check_star_args _ _ _ _ _ _]
 exact wpAny_pure hq
theorem kf_base (F : ExcBaseFacts "Exception" newId initId bmE) {e t0 : Addr} {u : Value} {Q : Value -> Shared -> Prop} (hC : h.get? C = some (kfObj nm q C N B bs sn sub ab col dd k0 k1 k2 k3 k5 newId)) (he : h.get? e = some (Z4r C t0))
  (hq : ∀ h1 t1, h1.get? e = some (Z4r C t1) -> (∀ b, b ≠ e -> Kp h h1 b) -> Q .none ⟨h1, gs, d, t, os⟩) : wpAny g.M A (call (.builtin initId) [.ref e, u]) Q E ⟨h, gs, d, t, os⟩ := by
 refine wpAny_call (codeAny_call_builtin F.init.plain F.initEntry (kf_check_init F hC he rfl ?_))
 have he1 := Heap.get?_push_of_some (h := h) { cls := .type "tuple", data := .seq [u].toArray } he
 unfold Builtin.«BaseException.__init__»
 dsimp only
 rw [if_neg (by simp)]
 unfold newTuple Builtin.BaseException.bexcPut
 refine wpAny_bind (wpAny_newObj_type (wpAny_bind (wpAny_bind (wpAny_field he1 rfl rfl (wpAny_bind (wpAny_setField he1 rfl (by show 0 < 6; decide) ?_))))) (by size_fits))
 refine wpAny_letGo (wpAny_pure (hq _ h.objs.size ?_ fun b n o q => ?_))
 ·rw [Heap.get?_update_self _ he1 rfl]; rfl
 ·rw [Heap.get?_update_other _ _ (Ne.symm n)]; exact Heap.get?_push_of_some _ q
theorem exc_open {K : Frag} {s : Shared} {x : Addr} {ox : Obj} {od : Option Obj} {name : Str} {tk : Tok} {v : Value} (X : K.In s.heap) (I : InstAt s.heap x ox C od) (hp : excOver K C) (hf : findIn K (.ref C) name = some none)
  (k : wpAny g.M A.in1 (Builtin.ObjectAttr.storeInOwnDict (.ref x) (.ref C) (.str name tk) name v false) (fun fin s' => match fin with | .done f => R (.ok f) s' | .again c' => c'.quiet = true /\ codeAny g.M A c' R s') (fun e s' => R (.error e) s') s) :
  codeAny g.M A (.call (.builtin "object.__setattr__") ⟨[.ref x, .str name tk, v], []⟩) R s := by
 have SF := PySem.F.store_object
 obtain ⟨cd, a, b, hc, hm, -⟩ := id hp
 have sub : Looks g.M s.heap (isInstance (.ref x) (.type "object")) true := I.type.andThen (looks_mroIn X (by unfold mroIn; rw [hc, Option.bind_some, hm]; rfl))
 refine codeAny_call_builtin SF.slot.plain SF.entry (@check_slot g.M _ _ s "object.__setattr__" "object" "__setattr__" (.ref x) [.str name tk, v] [] _ SF.kind SF.split sub (SF.args (.ref x) (.str name tk) v) ?_)
 have L1 : Looks g.M s.heap (mroOf (.ref C)) cd.mro := (looks_clsIn X hc).andThen .now
 rw [osa_eq, refuse_eq]
 refine wpAny_bind (wpAny_bind (I.type.here (wpAny_bind (L1.here ?_))))
 rw [hm, refuseLoop_ref, refuseLoop_ref, PySem.F.store_Exception.passes]
 exact wpAny_pure (wpAny_bind (I.type.here (wpAny_bind ((looks_findIn X hf).here (wpAny_bind (wpAny_pure k))))))
theorem exc_put {s : Shared} {dx : Addr} {name : Str} {tk : Tok} {v : Value} {es : List DictEntry} {n : Nat} {Q : Fin -> Shared -> Prop} (e : s.heap.get? dx = some (dictOf es n)) (hl : (W.lookIn name (dictOf es n)).isSome = true) (hz : es.length <= 900)
  (k : ∀ h' hash t', h'.get? dx = some (dictOf (putL name hash (.str name t') v es) (putN name es n)) -> Heap.SameBut dx s.heap h' -> Q (.done (.ret .none)) { s with heap := h', toks := s.toks + 1 }) : wpAny g.M A (Builtin.ObjectAttr.storeInDict dx (.str name tk) name v) Q E s := by
 have D' : (s.heap.update dx (Obj.putName name (PyData.keyHash g.w.params name) (.str name s.toks) v)).get? dx = some (dictOf (putL name (PyData.keyHash g.w.params name) (.str name s.toks) v es) (putN name es n)) := by
  rw [<- putName_dict]
  exact Heap.get?_update_self _ e (by rw [putName_dict]; rfl)
 refine wpAny_bind (wpAny_pure (wpAny_bind ?_))
 unfold nsSet
 refine wpAny_bind (wpAny_bind (wpAny_askSetting (wpAny_pure (wpAny_bind (wpAny_mkText (wpAny_bind (wpAny_loadPart e ?_)))))))
 dsimp only
 rw [aRefKeyMayBeTheName_at, no_refkey hl]
 refine wpAny_updatePart e (wpAny_bind (wpAny_lookBehind D' (pastItsLine_dict ?_) (wpAny_pure (k _ _ _ D' (Heap.SameBut.update ..)))))
 rw [List.size_toArray, sizeLine_eq]
 exact Nat.le_trans (Z4q ..) (Nat.le_trans (Nat.succ_le_succ hz) (by decide))
noncomputable def ExO (h : Heap) (e C : Addr) (od : Option (Addr × List DictEntry × Nat)) : Prop := match od with
 | none => ∃ t, h.get? e = some (Z4r C t)
 | some (dx, es, n) => ∃ t, dx ≠ e /\ h.get? e = some { cls := .ref C, dict := some dx, data := .fields #[.ref t, .none, .none, .none, .bool false, .none] } /\ h.get? dx = some (dictOf es n)
noncomputable def odE : Option (Addr × List DictEntry × Nat) -> List DictEntry
 | none => []
 | some (_, es, _) => es
noncomputable def odN : Option (Addr × List DictEntry × Nat) -> Nat
 | none => 0
 | some (_, _, n) => n
theorem exc_store {K : Frag} {s : Shared} {e : Addr} {od : Option (Addr × List DictEntry × Nat)} {name : Str} {v : Value} {Q : Unit -> Shared -> Prop} (X : K.In s.heap) (I : ExO s.heap e C od) (hs : findIn K (.ref C) "__setattr__" = some (some (.builtin "object.__setattr__"))) (hp : excOver K C) (hf : findIn K (.ref C) name = some none)
  (hl : (W.lookIn name (dictOf (odE od) (odN od))).isSome = true) (hz : (odE od).length <= 900)
  (k : ∀ h' dx hash t' k', ExO h' e C (some (dx, putL name hash (.str name t') v (odE od), putN name (odE od) (odN od))) -> (∀ b, b ≠ e -> (∀ x, od = some x -> b ≠ x.1) -> Kp s.heap h' b) -> ((∀ x, od = some x -> dx = x.1) /\ (od = none -> dx = s.heap.objs.size)) -> Q () { s with heap := h', toks := k' }) :
  wpAny g.M A (setAttr (.ref e) name v) Q E s := by
 obtain ⟨cd, a, b, hc, -, hd⟩ := id hp
 cases od with
 | some y =>
  obtain ⟨dx, es, n⟩ := y
  obtain ⟨t, hne, he, hdx⟩ := I
  refine set_plain X (od := some (dictOf es n)) ⟨he, rfl, rfl, hdx⟩ hs (exc_open (s := { s with toks := s.toks + 1 }) X (od := some (dictOf es n)) ⟨he, rfl, rfl, hdx⟩ hp hf ?_)
  refine wpAny_bind (wpAny_pure (wpAny_bind (wpAny_bind (wpAny_loadPart he (wpAny_bind (Looks.here (s := { s with toks := s.toks + 1 }) (looks_clsIn X hc) ?_))))))
  rw [hd]
  refine wpAny_pure (a := some dx) (exc_put hdx hl hz fun h' hash t' a b => k h' dx hash t' _ ⟨t, hne, b.extBut _ _ (Ne.symm hne) he, a⟩ (fun c n1 n2 o q => b.extBut c o (n2 _ rfl) q) ⟨fun x q => by cases q; rfl, nofun⟩)
 | none =>
  obtain ⟨t, he⟩ := I
  refine set_plain X (od := none) ⟨he, rfl, rfl, trivial⟩ hs (exc_open (s := { s with toks := s.toks + 1 }) X (od := none) ⟨he, rfl, rfl, trivial⟩ hp hf ?_)
  refine wpAny_bind (wpAny_pure (wpAny_bind (wpAny_bind (wpAny_loadPart he (wpAny_bind (Looks.here (s := { s with toks := s.toks + 1 }) (looks_clsIn X hc) ?_))))))
  rw [hd]
  have hes : e ≠ s.heap.objs.size := Nat.ne_of_lt (Heap.lt_size he)
  have he1 : (s.heap.push { cls := .type "dict", data := .dict #[] }).get? e = some (Z4r C t) := Heap.get?_push_of_some _ he
  refine wpAny_bind (wpAny_alloc' ?_)
  refine wpAny_bind (wpAny_update' he1 ?_)
  refine wpAny_pure (a := some s.heap.objs.size) ?_
  have he2 : ((s.heap.push { cls := .type "dict", data := .dict #[] }).update e fun o => { cls := o.cls, dict := some s.heap.objs.size, data := o.data, slots := o.slots }).get? e = some { cls := .ref C, dict := some s.heap.objs.size, data := .fields #[.ref t, .none, .none, .none, .bool false, .none] } := by
   rw [Heap.get?_update_self _ he1 rfl]
  have hd2 : ((s.heap.push { cls := .type "dict", data := .dict #[] }).update e fun o => { cls := o.cls, dict := some s.heap.objs.size, data := o.data, slots := o.slots }).get? s.heap.objs.size = some (dictOf [] 0) :=
   (Heap.get?_update_ne _ _ _ _ hes.symm).trans (Heap.get?_push_at rfl rfl)
  refine exc_put hd2 hl hz fun h' hash t' a b => k h' _ hash t' _ ⟨t, hes.symm, b.extBut _ _ hes he2, a⟩ (fun c n1 _ o q => b.extBut c o (fun z => Z0a ((Z0h _).symm.trans (z ▸ q))) ((Heap.get?_update_ne _ _ _ _ n1).trans (Heap.get?_push_of_some _ q))) ⟨nofun, fun _ => rfl⟩
end
section
variable {A : Around} {E : Value -> Shared -> Prop} {x : Str} {u : Value} {p pos : Pos}
theorem type_method {s : Shared} {T : String} {name : Str} {v : Value} {pl : Sem Bool} {Q : Value × List Value -> Shared -> Prop} (X : g.K.In s.heap) (ht : typeOf (.type T) = pure (.type "type")) (hs : Manifest.isStub T = false)
  (e : findCls g.K (.type T) (.type "type") name = some (.val v)) (hh : handedIn v = true) (h : Q (v, []) { s with toks := s.toks + 1 }) : wpAny g.M A (getMethod (.type T) name pl) Q E s := by
 have L0 : Looks g.M s.heap (typeOf (.type T)) (.type "type") := Looks.of_pure ht
 have LO : Looks g.M s.heap (opaqueClassAbove (.type T)) none := Looks.of_pure (by unfold opaqueClassAbove; dsimp only; rw [hs]; rfl)
 have hg : findIn g.K (.type "type") "__getattribute__" = some (some (.builtin "type.__getattribute__")) := type_tga
 unfold getMethod specialOf
 refine wpAny_bind (wpAny_bind (L0.here ((looks_findIn X hg).here ?_)))
 dsimp only
 rw [if_pos canon_tga]
 refine wpAny_bind (wpAny_mono (Q := fun v => Q (v, [])) (E := E) (cls_open X LO L0 hg (looks_hook X (r := none) (by rfl)) (by show subIn g.K _ _ = _; rfl) e (wpAny_pure (by show wpAny _ _ (handedOut v) _ _ _; rw [handedOut_of hh]; exact wpAny_pure h))) (fun _ _ z => wpAny_pure z) fun _ _ z => z)
structure Ch (h0 : Heap) (s0 : Shared) (env : Env) (m : Str -> Option Value) (e : Addr) (od : Option (Addr × List DictEntry × Nat)) (s : Shared) : Prop where
 kp : ∀ a, Kp h0 s.heap a
 ex : ExO s.heap e g.cfg.excC od
 ns : s.heap.Ns env.locals m
 de : h0.get? e = none
 ne : e ≠ env.locals
 dd : ∀ x, od = some x -> h0.get? x.1 = none /\ x.1 ≠ env.locals
 gens : s.gens = s0.gens
 os : s.os = s0.os
section
variable {env : Env} {r : FnRow} {m : Str -> Option Value} {h0 : Heap} {s0 s : Shared} {e : Addr} {od : Option (Addr × List DictEntry × Nat)}
theorem Z7y (F : Lf env r) (n : s.heap.Ns env.locals m) (hk : look r.scope.names x = some .local) (hd : (x == ("__debug__" : Str)) = false) (hv : m x = some u) {Q : Value -> Shared -> Prop} (k : Q u s) : wpAny g.M A (eval (.Name x p) env) Q E s :=
 wpAny_Name (wpAny_loadName_local F.kind ((F.kd x).trans hk) n hv k) hd
theorem fill_base (P : PFw g) (X : ExcAt g) {Q : Flow -> Shared -> Prop} {p1 p2 p3 p4 p5 p6 : Pos} (up : ∀ a o, g.hb.get? a = some o -> h0.get? a = some o) (F : Lf env r) (R : InitRow r) (hp : p2.endLine = p5.line) (hs : m "self" = some (.ref e)) (hm : m "message" = some u) (c : Ch h0 s0 env m e none s)
  (k : ∀ s', Ch h0 s0 env m e none s' -> Q .next s') : wpAny g.M A (exec (.Expr (.Call (.Attribute (.Name "Exception" p1) "__init__" p2) [.Name "self" p3, .Name "message" p4] [] p5) p6) env) Q E s := by
 have up' : ∀ a o, g.hb.get? a = some o -> s.heap.get? a = some o := fun a o q => c.kp a o (up a o q)
 refine wpAny_Expr ?_ (by unfold interactive; rw [F.kind]; rfl) rfl
 show wpAny _ _ (do
  let ov <- attributeBase (.Name "Exception" p1) "__init__" env (eval (.Name "Exception" p1) env)
  standAt p2.atName
  methodCall (.Name "Exception" p1) "__init__" p2 p5 env ov 2 (backTo p5 (starEach [.Name "self" p3, .Name "message" p4] env)) (backToKw p5 (keywordEach [] env))) _ E s
 rw [base_eq rfl]
 obtain ⟨mg, mb, n1, n2, n3, n4⟩ := X.name
 have hd1 : (("self" : Str) == ("__debug__" : Str)) = false := by decide +kernel
 have hd2 : (("message" : Str) == ("__debug__" : Str)) = false := by decide +kernel
 have g1 : s.heap.Ns env.globals mg := F.glob ▸ n1.keeps up'
 have g2 : s.heap.Ns env.builtins mb := F.bi ▸ n2.keeps up'
 have hd : (("Exception" : Str) == ("__debug__" : Str)) = false := by decide +kernel
 refine wpAny_bind (Calls.Name_function_global F.kind ((F.kd _).trans R.exc) ?_ hd)
 refine Calls.loadGlobal_builtin g1 n3 g2 n4 (wpAny_bind (wpAny_standAt ?_))
 have hform : methodCallForm 2 (backTo p5 (starEach [.Name "self" p3, .Name "message" p4] env)) (backToKw p5 (keywordEach [] env)) = true := rfl
 unfold methodCall
 rw [hform]
 refine wpAny_bind (wpAny_holding (type_method (P.kin.keeps up') (by kernel_rfl) (by kernel_rfl) X.initB (by kernel_rfl) (wpAny_bind ?_)))
 unfold methodCallPos
 rw [show (p2.endLine == p5.line) = true from beq_iff_eq.mpr hp]
 refine wpAny_pure (callWith_of (P := fun _ => True) rfl (fun hp _ => Z6s (f := .builtin "Exception.__init__") (fun a => nofun) hp) (Calls.evalArgs_plain (wpAny_items_cons (Z7y (s := { s with toks := s.toks + 1 }) F c.ns R.self hd1 hs (wpAny_items_cons (Z7y (s := { s with toks := s.toks + 1 }) F c.ns R.message hd2 hm (wpAny_items_nil ⟨trivial, ?_⟩)))))))
 obtain ⟨t0, he⟩ := c.ex
 obtain ⟨nm, q, N, B, bs, sn, sub, ab, col, dd, k0, k1, k2, k3, k5, hC⟩ := X.obj
 refine kf_base (h := s.heap) (gs := s.gens) (d := s.drawn) (t := s.toks + 1) (os := s.os) PySem.F.excBase_Exception ((P.kin.keeps up') _ _ hC) he fun h1 t1 a1 a2 => ?_
 exact k { s with heap := h1, toks := s.toks + 1 } ⟨fun a o z => a2 a (fun q => Z0a (c.de.symm.trans (q ▸ z))) o (c.kp a o z), ⟨t1, a1⟩, c.ns.at (a2 _ (Ne.symm c.ne)), c.de, c.ne, nofun, c.gens, c.os⟩
theorem fill_field (P : PFw g) (X : ExcAt g) {a : Str} {Q : Flow -> Shared -> Prop} {q1 q2 q3 q4 : Pos} (up : ∀ a o, g.hb.get? a = some o -> h0.get? a = some o) (F : Lf env r) (R : InitRow r) (hs : m "self" = some (.ref e)) (hf : findIn g.K (.ref g.cfg.excC) a = some none) (hx : look r.scope.names x = some .local) (hxV : m x = some u) (hd : (x == ("__debug__" : Str)) = false) (c : Ch h0 s0 env m e od s)
  (hl : (W.lookIn a (dictOf (odE od) (odN od))).isSome = true) (hz : (odE od).length <= 900)
  (k : ∀ s' dx hash t', Ch h0 s0 env m e (some (dx, putL a hash (.str a t') u (odE od), putN a (odE od) (odN od))) s' -> Q .next s') :
  wpAny g.M A (exec (.Assign [.Attribute (.Name "self" q1) a q2] (.Name x q3) q4) env) Q E s := by
 have hs' : swapsWithSole [.Attribute (.Name "self" q1) a q2] (.Name x q3) q4.line env = pure false := Z1e (.inl nofun)
 have hw : swappedStores [.Attribute (.Name "self" q1) a q2] (.Name x q3) env = pure none := Z4d (fun _ _ _ _ _ _ q _ => nomatch q) nofun
 have hd1 : (("self" : Str) == ("__debug__" : Str)) = false := by decide +kernel
 refine wpAny_Assign_stores (Z7y F c.ns hx hd hxV ?_) hs' hw
 rw [show (assignEach [.Attribute (.Name "self" q1) a q2] env).map (·.2) = [assign (.Attribute (.Name "self" q1) a q2) env] from rfl]
 show wpAny _ _ (do
  let ov <- holding [u] (eval (.Name "self" q1) env)
  standAt q2.atName
  holding [u, ov] (setAttr ov a u)
  release [u, ov] []) _ E s
 refine wpAny_bind (wpAny_holding (Z7y F c.ns R.self hd1 hs (wpAny_bind (wpAny_standAt (wpAny_bind (wpAny_holding ?_))))))
 refine exc_store (P.kin.keeps fun a o q => c.kp a o (up a o q)) c.ex X.setA X.over hf hl hz fun h' dx hash t' k' ex' hb hdx => wpAny_release ?_
 have kp : ∀ b, Kp h0 h' b := fun b o z => hb b (fun q => Z0a (c.de.symm.trans (q ▸ z))) (fun y q n => Z0a ((c.dd y q).1.symm.trans (n ▸ z))) o (c.kp b o z)
 refine k { s with heap := h', toks := k' } dx hash t' ⟨kp, ex', c.ns.at (hb _ (Ne.symm c.ne) fun y q => Ne.symm (c.dd y q).2), c.de, c.ne, fun y q => ?_, c.gens, c.os⟩
 cases q
 cases od with
 | some y => exact hdx.1 y rfl ▸ c.dd y rfl
 | none =>
  obtain rfl := hdx.2 rfl
  have d : h0.get? s.heap.objs.size = none := by
   cases q : h0.get? s.heap.objs.size with
   | none => rfl
   | some o => exact Z0a ((Z0h _).symm.trans (c.kp _ o q))
  exact ⟨d, fun q => let ⟨o, _, _, z, _⟩ := c.ns; Z0a ((Z0h _).symm.trans (q ▸ z))⟩
theorem fill_all (P : PFw g) (X : ExcAt g) {v : Value} {Q : Flow -> Shared -> Prop} (up : ∀ a o, g.hb.get? a = some o -> h0.get? a = some o) (F : Lf env r) (R : InitRow r) (hs : m "self" = some (.ref e)) (hm : m "message" = some u) (hv : m "spot" = some v) (c : Ch h0 s0 env m e none s)
  (k : ∀ s' x, Ch h0 s0 env m e (some x) s' -> Q .next s') : wpAny g.M A (execs r.body env) Q E s := by
 obtain ⟨p1, p2, p3, p4, p5, p6, q1, q2, q3, q4, s1, s2, s3, s4, hb, hp⟩ := R.body
 rw [hb]
 have hd2 : (("message" : Str) == ("__debug__" : Str)) = false := by decide +kernel
 have hd3 : (("spot" : Str) == ("__debug__" : Str)) = false := by decide +kernel
 refine wpAny_execs_cons (fill_base P X up F R hp hs hm c fun s1 c1 => wpAny_execs_cons (fill_field P X up F R hs X.noM R.message hm hd2 c1 rfl (by decide) fun s2 dx hash t' c2 => wpAny_execs_cons (fill_field P X up F R hs X.noS R.spot hv hd3 c2 ?_ ?_ fun s3 dx2 hash2 t2 c3 => wpAny_execs_nil (k s3 _ c3))))
 ·show (W.lookIn "spot" (dictOf (putL "message" hash (.str "message" t') u []) _)).isSome = true
  rfl
 ·show (putL "message" hash (.str "message" t') u []).length <= 900
  exact Nat.le_trans (Z4q ..) (by decide)
end
end
section
variable {A : Around} {E : Value -> Shared -> Prop} {s : Shared} {u : Value} {env : Env}
theorem kf_made (P : PFw g) (X : ExcAt g) {Q : Value -> Shared -> Prop} (hlim : A.depth + 2 < recursionLimit) (up : ∀ a o, g.hb.get? a = some o -> s.heap.get? a = some o) (hg : s.gens = #[]) (k : ∀ e s', Rz g s e s' -> Q e s') : wpAny g.M A (call (.ref g.cfg.excC) [u]) Q E s := by
 obtain ⟨nm, q, N, B, bs, sn, sub, ab, col, dd, k0, k1, k2, k3, k5, hC⟩ := X.obj
 obtain ⟨fI, r, h1, h2, Fa, R⟩ := X.init
 have XK : g.K.In s.heap := P.kin.keeps up
 refine kf_call (h := s.heap) (gs := s.gens) (d := s.drawn) (t := s.toks) (os := s.os) PySem.F.excBase_Exception (XK _ _ hC) (show 1 <= sizeLine by decide) (looks_findIn XK h1) (fun self => bind_fn XK self h2) fun h1 a1 a2 a3 => ?_
 refine call_frame (k0 := 2) (n := 0) (s := ⟨h1, s.gens, s.drawn, s.toks, s.os⟩) P Fa (by rw [depth_under_kw]; omega) (fun b o z => a1 b o (up b o z)) rfl (by rw [R.params, R.dflts]; decide) fun env N s1 m b1 b2 b3 b4 F b5 b6 pm _ => ?_
 have hs : m "self" = some (.ref (s.heap.objs.size + 1)) := pm.at_ 0 _ _ (by rw [R.params]; rfl) R.self rfl
 have hm : m "message" = some u := pm.at_ 1 _ _ (by rw [R.params]; rfl) R.message rfl
 obtain ⟨v, hv⟩ := pm.some_ "spot" (by rw [R.params]; exact .tail _ (.tail _ (.head _))) R.spot
 have ne : s.heap.objs.size + 1 ≠ env.locals := fun z => Z0a ((b4 _ b5).1.symm.trans (z ▸ a3))
 refine fill_all (s0 := s) P X up F R hs hm hv ⟨fun a o z => b1 a o (a1 a o z), ⟨_, b1 _ _ a3⟩, b6, a2, ne, nofun, b2, b3⟩ fun s' x c => ?_
 obtain ⟨t0, hx, he, -⟩ := c.ex
 exact ⟨rfl, k _ _ ⟨_, _, _, _, rfl, c.gens, c.os, a2, c.kp, he, rfl, rfl, rfl, rfl⟩⟩
theorem raise_stmt (X : ExcAt g) {x : Sem Value} {Q : Flow -> Shared -> Prop} (hh : A.handled = none) (h : wpAny g.M A x (fun v s1 => ∃ s0, g.K.In s0.heap /\ Rz g s0 v s1 /\ E v s1) E s) : wpAny g.M A (raiseStmt env (some x) none) Q E s := by
 obtain ⟨nm, q, N, B, bs, sn, sub, ab, col, dd, k0, k1, k2, k3, k5, hC⟩ := X.obj
 unfold raiseStmt
 refine wpAny_bind (wpAny_mono h (fun v s1 h1 => ?_) fun _ _ z => z)
 obtain ⟨s0, XK, ⟨e, o, vs, a0, rfl, -, -, -, kp, he, hc, hd, v1, -⟩, hE⟩ := h1
 have hC1 := kp _ _ (XK _ _ hC)
 have hcB := (kf_has g.cfg.excC B).2.1
 obtain ⟨hp, gs, d, tk, os⟩ := s1
 obtain ⟨oc, od, odt, osl⟩ := o
 dsimp only at hc hd
 subst hc hd
 repeat (first | with_reducible refine wpAny_loadPart_at he ?_ | with_reducible refine wpAny_loadPart_at hC1 ?_ | (with_reducible refine wpAny_isSubtype_exc hC1 ?_; rw [hcB]) | wp_step)
 rw [v1]
 refine wpAny_pure ?_
 rw [if_neg (by decide)]
 exact wpAny_pure (wpAny_raiseNew_none hh hE)
variable {b : Fb} {I : Ix} {C : Z0j} {pos cp : Pos}
theorem isExc_some {cfg : Cfg} {sc : Scope} {f : PySem.Expr} (h : isExc cfg sc f = true) : ∃ p, f = .Name cfg.exc p /\ look sc.names cfg.exc = some .globalImplicit := by
 obtain ⟨x, p, rfl⟩ : ∃ x p, f = .Name x p := by cases f <;> first | exact ⟨_, _, rfl⟩ | exact Z0y h
 replace h : (match Z0g cfg.exc x with | true => (match look sc.names x with | some .globalImplicit => true | _ => false) | false => false) = true := h
 cases h1 : Z0g cfg.exc x with
 | false => rw [h1] at h; exact Z0y h
 | true =>
  rw [h1] at h
  obtain rfl := strEq_true.mp h1
  replace h : (match look sc.names cfg.exc with | some .globalImplicit => true | _ => false) = true := h
  cases h2 : look sc.names cfg.exc with
  | none => rw [h2] at h; exact Z0y h
  | some kd =>
   rw [h2] at h
   cases kd with
   | globalImplicit => exact ⟨p, rfl, rfl⟩
   | _ => exact Z0y h
theorem sx_Raise (P : PFw g) (X : ExcAt g) (N : Z3z I) {f a : PySem.Expr} (ha : Sv g b (I.e a b.sc) (eval a b.env)) : Sx g b (mX g.cfg C I (.Raise (some (.Call f [a] [] cp)) none pos) b.sc) (exec (.Raise (some (.Call f [a] [] cp)) none pos) b.env) := fun st σ ρ r σ' E Q hE Iv fr e k => by
 replace e : gd (isExc g.cfg b.sc f) (bnd (I.e a b.sc ρ) fun v => gd (isStrV v) (ret (some .exc, ρ))) b.O σ = some (r, σ') := e
 obtain ⟨p, rfl, hk⟩ := isExc_some (gd1 e)
 refine bE (gd2 e) fun v σ1 e1 f1 => ?_
 have q := Z0q (gd2 f1)
 have hd : (g.cfg.exc == ("__debug__" : Str)) = false := Z5q X.ok (by decide +kernel)
 have hargs : Z5e I [a] b.sc ρ b.O σ = some ([v], σ1) := by
  show bnd (I.e a b.sc ρ) (fun v => bnd (ret []) fun l => ret (v :: l)) b.O σ = _
  unfold bnd
  rw [e1]; rfl
 rw [arm_exec_Raise]
 refine wpAny_bind (wpAny_standAt (raise_stmt X fr.fs.room.handled ?_))
 refine wpAny_bind (wpAny_mono (Call_ (Z6f P Iv fr hd hk X.glob fun u r1 => r1.p.clsE (Z1m N (.inl ⟨_, rfl, X.keep⟩) P.kin (fun y hy => List.mem_singleton.mp hy ▸ ha) Iv fr hargs fun st1 us I1 x1 r1 => r1.consE fun u us _ r1 => r1.nilE (kf_made P X ?_ I1.up I1.gens fun e s' rz => ⟨st1.s, P.kin.keeps I1.up, rz, ?_⟩))) rfl) (fun v s1 h => wpAny_bind (wpAny_standAt (wpAny_pure h))) fun _ _ z => z)
 ·have := fr.fs.room.depth; show b.A.depth + 2 < 1000; omega
 ·have h := k st1 (q.2 ▸ I1) (x1.w0 _) (q.1 ▸ fr.go x1)
  rw [<- q.1] at h
  exact h.1 rfl e s' rz
end
section
variable {A : Around} {E : Value -> Shared -> Prop} {O : Z0c} {st : St} {σ : Hp} {env : Env} {e : Value} {s' : Shared}
theorem frames_own (f : FrA A st) {l : List Env} (h : A.frames = some l) {b : Addr} (m : b ∈ l.filterMap (·.frame)) : st.own b = some .frm := by
 obtain ⟨l', h', all⟩ := f
 cases h.symm.trans h'
 obtain ⟨env, he, hf⟩ := List.mem_filterMap.mp m
 obtain ⟨-, L, q, o, -⟩ := all env he
 cases hf.symm.trans q
 exact o
theorem fun_frames (I : Inv g O st σ) {h' : Heap} (hk : ∀ a, KpS st.h h' a) {as : List Addr} {B : Heap} (hB : ∀ a ∈ as, B.get? a = none) : ∀ {l : List Env}, (∀ env ∈ l, env.scope.kind ≠ .module /\ ∃ L, env.frame = some L /\ st.own L = some .frm /\ ∃ o, st.h.get? L = some o) -> (∀ env ∈ l, ∀ a, env.frame = some a -> a ∈ as) -> h'.FunFrames B l
 | [], _, _ => trivial
 | env :: l, h, hin => by
  obtain ⟨k, L, q, o, -⟩ := h env (.head _)
  obtain ⟨m, ob, es, ep, h1, h2, -⟩ := I.frms L o
  obtain ⟨sl, h3⟩ := hk L ob h1
  exact ⟨k, ⟨L, _, q, hB L (hin env (.head _) L q), h3, fun vs z => nomatch h2.symm.trans z⟩, fun_frames I hk hB (fun x hx => h x (.tail _ hx)) fun x hx => hin x (.tail _ hx)⟩
theorem leave_sound (I : Inv g O st σ) (f : FrA (A.deeper env) st) (r : Rz g st.s e s') {Q : Shared -> Prop} (k : ∀ s'', Lz g A st e s'' -> Q s'') : wpAny g.M (A.deeper env) (leaving env e) (fun _ => Q) E s' := by
 obtain ⟨a, o, vs, a0, rfl, hg, ho, hd, kp, he, hc, hdt, h1, h0⟩ := r
 obtain ⟨l, hl, all⟩ := id f
 obtain ⟨outer, hA, rfl⟩ := Option.map_eq_some_iff.mp (show A.frames.map (env :: ·) = some l from hl)
 obtain ⟨-, L, hL, -, -⟩ := all env (.head _)
 have hB : ∀ b o, st.h.get? b = some o -> st.own b ≠ some .frm -> (hideAll st.h ((env :: outer).filterMap (·.frame))).get? b = some o := fun b o z n => hideAll_get _ z fun m => n (frames_own f hl m)
 have hn : ∀ b ∈ (env :: outer).filterMap (·.frame), (hideAll st.h ((env :: outer).filterMap (·.frame))).get? b = none := fun b m => hideAll_none _ m
 have ff := fun_frames I (fun a => .of (kp a)) hn all fun env he a q => List.mem_filterMap.mpr ⟨env, he, q⟩
 have ae : (hideAll st.h ((env :: outer).filterMap (·.frame))).get? a = none := by
  cases q : (hideAll st.h ((env :: outer).filterMap (·.frame))).get? a with
  | none => rfl
  | some o => exact Z0a (hd.symm.trans (of_hideAll _ q))
 refine wpAny_leaving_firstW hl ff hL he (fun b o z => kp b o (of_hideAll _ z)) ae hdt h1 h0 fun h' hh => ?_
 obtain ⟨k1, ⟨-, -, k2⟩, k3, k4⟩ := hh
 exact k _ ⟨a, outer, a0, _, rfl, hA, hg, ho, hB, ⟨k1, ae, k2, hc ▸ k3⟩, fun b o z n => k4 b o (kp b o z) n⟩
variable {b : Fb} {ρ : Vars} {p ck rp hp : Pos}
theorem back_at (I : Inv g O st σ) {B h' : Heap} (hB : ∀ b o, st.h.get? b = some o -> st.own b ≠ some .frm -> B.get? b = some o) (k1 : B.StaysIn h') (k2 : st.h.UpToSlots h') : ∀ a, Kx (st.own a) st.h h' a := fun a => by
 by_cases n : st.own a = some .frm
 ·rw [n]
  exact fun o z => k2 a o z fun vs q => by
   obtain ⟨m, ob, es, ep, h1, h2, -⟩ := I.frms a n
   cases z.symm.trans h1
   exact nomatch h2.symm.trans q
 ·exact .of fun o z => k1 a o (hB a o z n)
inductive Hv : Const -> MV -> Value -> Prop
 | bool (c : Bool) : Hv (.bool c) (.pv (.bool c)) (.bool c)
 | none : Hv .none (.pv .none) .none
theorem catch_sound (P : PFw g) (X : ExcAt g) (I : Inv g b.O st σ) (fr : Fm g b st ρ) (hlo : b.lo = .frm) (hk : look b.sc.names g.cfg.exc = some .globalImplicit) {Q : Flow -> Shared -> Prop} {c : Const} {cs : Nat} {z : MV} {v : Value} (hv : Hv c z v) (L : Lz g b.A st e s') (k : ∀ st', Inv g b.O st' σ -> Step [] st st' -> Fm g b st' ρ -> Q (.ret v) st'.s) :
  wpAny g.M b.A (noteFrame e b.env) (fun _ s2 => wpAny g.M b.A (setFlight e none) (fun _ s3 => wpAny g.M b.A (handleBy e b.env [.ExceptHandler (some (.Name g.cfg.exc p)) none [.Return (some (.Constant c cs ck)) rp] hp]) Q E s3) E s2) E s' := by
 obtain ⟨a, l, a0, B, rfl, hA, hg, ho, hB, hfl, hsm⟩ := L
 obtain ⟨hf, ht⟩ := fr.fs.top hlo
 obtain ⟨outer, rfl⟩ := ht l hA
 refine wpAny_looks_onW hA hf hfl fun h4 held4 sm4 => ?_
 refine wpAny_landsW held4 fun h5 hfl5 sm5 => ?_
 have K5 := back_at I hB hfl5.1 ((hsm.trans sm4).trans sm5)
 have I5 : Inv g b.O (st.put { s' with heap := h5 }) σ := I.growX K5 hg ho
 have x5 : Step [] st (st.put { s' with heap := h5 }) := .growX K5
 have hd : (g.cfg.exc == ("__debug__" : Str)) = false := Z5q X.ok (by decide +kernel)
 obtain ⟨ob, hob, hobc⟩ := hfl5.there
 obtain ⟨nm, q, N, B', bs, sn, sub, ab, col, dd, k0, k1, k2, k3, k5, hC⟩ := X.obj
 have hC5 := (P.kin.keeps I5.up) _ _ hC
 refine wpAny_handleBy_cons (codeAny_handlers_test (Z6f (st := st.put { s' with heap := h5 }) P I5 (fr.go x5) hd hk X.glob fun u r => r.p.clsE ?_)) nofun
 refine wpAny_excMatches_sub_self (h := h5) hC5 hob hobc rfl (codeAny_handlers_suite ?_)
 refine lands_againW (s := { s' with heap := h5 }) hfl5 fun h6 hfl6 sm6 => ?_
 have K6 := back_at I hB hfl6.1 (((hsm.trans sm4).trans sm5).trans sm6)
 have q := k (st.put { s' with heap := h6 }) (I.growX K6 hg ho) (.growX K6) (fr.go (.growX K6))
 exact wpAny_noRaise (wpAny_execs_cons (wpAny_Return_some (by
  cases hv with
  | bool c => exact wpAny_Constant_bool q
  | none => exact wpAny_Constant_none q)))
theorem AftE.after {σ' : Hp} {st1 : St} (x : Step [] st st1) (k : AftE g A O st σ' E) : AftE g A O st1 σ' E := fun st' e s' I y => k st' e s' I (x.trans y)
theorem ownE {C : Z0j} {c : Callee} {o : MV} {vs : List MV} {O : Z0c} {r : MV × Hp} (e : ownM C c o vs O σ = some r) : ∃ f, c = .own f /\ C (.fn f) (o :: vs) O σ = some r := by
 cases c with
 | own f => exact ⟨f, rfl, e⟩
 | _ => exact Z0a e
variable {I : Ix} {C : Z0j} {pos : Pos}
theorem callX_sound (P : PFw g) (N : Z3z I) (CX : CallX g b.n C) (H : ∀ e, Sv g b (I.e e b.sc) (eval e b.env)) {v : PySem.Expr} {z : MV} {σ σ' : Hp} {Q : Value -> Shared -> Prop} (Iv : Inv g b.O st σ) (fr : Fm g b st ρ) (e : mcallX g.cfg C I v b.sc ρ b.O σ = some (z, σ')) (k : Aft g b.O st z σ' Q) (kx : z = .exc -> AftE g b.A b.O st σ' E) : wpAny g.M b.A (eval v b.env) Q E st.s := by
 obtain ⟨o, name, apos, args, pos, rfl⟩ : ∃ o name apos args pos, v = .Call (.Attribute o name apos) args [] pos := by
  cases v with
  | Call f args kws pos => cases kws with
   | cons _ _ => exact Z0a e
   | nil => cases f with
    | Attribute o name apos => exact ⟨_, _, _, _, _, rfl⟩
    | _ => exact Z0a e
  | _ => exact Z0a e
 replace e : gd (Nat.beq apos.endLine pos.line && Nat.blt args.length 30 && Z8c o) (bnd (I.e o b.sc ρ) fun ov => bnd (preM g.cfg ov name) fun c => bnd (Z5e I args b.sc ρ) fun vs => ownM C c ov vs) b.O σ = some (z, σ') := e
 have hg := Bool.and_eq_true_iff.mp (gd1 e)
 have hg1 := Bool.and_eq_true_iff.mp hg.1
 have hline := Nat.eq_of_beq_eq_true hg1.1
 have h30 : args.length < 30 := Nat.le_of_ble_eq_true hg1.2
 show wpAny _ _ (do
  let ov <- attributeBase o name b.env (eval o b.env)
  standAt apos.atName
  methodCall o name apos pos b.env ov (args.length + 0) (backTo pos (starEach args b.env)) (backToKw pos (keywordEach [] b.env))) Q E st.s
 rw [base_eq hg.2]
 refine wpAny_bind (one (H o) Iv fr (gd2 e) fun st1 σ1 ov u I1 x1 r1 f => wpAny_bind (wpAny_standAt (bE f fun c σ2 e2 f2 => bE f2 fun vs σ3 e3 f3 => ?_)))
 obtain ⟨fa, rfl, f4⟩ := ownE f3
 have hp := Z6h N (pos := pos) e3 b.env
 have hform : methodCallForm (args.length + 0) (backTo pos (starEach args b.env)) (backToKw pos (keywordEach [] b.env)) = true := by
  unfold methodCallForm
  rw [show (backTo pos (starEach args b.env)).all (fun x => !x.1) = true from List.all_eq_true.mpr fun x hx => by simpa using List.any_eq_false.mp hp x hx]
  show (true && (true && decide (args.length + 0 + 0 < 30))) = true
  simp [h30]
 unfold methodCall
 rw [hform]
 obtain ⟨rfl, hget⟩ := pre_raw P.pfc P.kin I1 r1 e2
 refine wpAny_bind (wpAny_holding (hget (wpAny_bind ?_)))
 unfold methodCallPos
 rw [show (apos.endLine == pos.line) = true from beq_iff_eq.mpr hline]
 obtain ⟨a, ha, hk⟩ := CX.keep f4
 have hk : Y0a g (.ref fa) := ha.elim (fun q => by cases q; exact .inl ⟨_, rfl, hk⟩) fun q => nomatch q
 exact wpAny_pure (Z1m N (first := [u]) hk P.kin (fun y _ => H y) I1 (fr.go x1) e3 fun st2 us I2 x2 r2 => CX.sound fr.fs.room.c (fr.fr.go (x1.trans x2)) I2 (.pv (.fn fa)) (.cons (r1.go x2) r2) f4 (k.after (x1.trans x2)) fun q => (kx q).after (x1.trans x2))
theorem retOf_some {b : List Stmt} {h : PySem.Expr} (e : retOf b = some h) : ∃ rp, b = [.Return (some h) rp] := by
 cases b with
 | nil => exact Z0a e
 | cons y ys => cases ys with
  | cons _ _ => exact Z0a e
  | nil => cases y with
   | Return x rp => exact ⟨rp, congrArg (fun x => [Stmt.Return x rp]) (show x = some h from e)⟩
   | _ => exact Z0a e
theorem handlers_some {isR : Bool} {v : PySem.Expr} {hs : List ExceptHandler} {cfg : Cfg} {sc : Scope} {ρ : Vars} {O : Z0c} {σ : Hp} {r : (Option MV × Vars) × Hp} (e : mTry cfg C I isR v hs sc ρ O σ = some r) : ∃ t h rp hp, hs = [.ExceptHandler (some t) none [.Return (some h) rp] hp] /\ isExc cfg sc t = true /\ bnd (mcallX cfg C I v sc ρ) (fun z => Y0e isR h z ρ) O σ = some r := by
 cases hs with
 | nil => exact Z0a e
 | cons x xs => cases xs with
  | cons _ _ => exact Z0a e
  | nil =>
   replace e : (match Z3n x with | some th => gd (isExc cfg sc th.1) (bnd (mcallX cfg C I v sc ρ) fun z => Y0e isR th.2 z ρ) | none => bad) O σ = some r := e
   cases hx : Z3n x with
   | none => rw [hx] at e; exact Z0a e
   | some th =>
    rw [hx] at e
    obtain ⟨t, n, b, p⟩ := x
    replace hx : (match (generalizing := false) t, n, retOf b with | some t, none, some h => some (t, h) | _, _, _ => none) = some th := hx
    cases t with
    | none => exact Z0a hx
    | some t => cases n with
     | some _ => exact Z0a hx
     | none => cases hb : retOf b with
      | none => rw [hb] at hx; exact Z0a hx
      | some h =>
       rw [hb] at hx
       cases hx
       obtain ⟨rp, rfl⟩ := retOf_some hb
       exact ⟨t, h, rp, p, rfl, gd1 e, gd2 e⟩
noncomputable def TryRes (isR : Bool) (h : PySem.Expr) (z : MV) (ρ : Vars) (σ : Hp) (r : (Option MV × Vars) × Hp) : Prop := (z = .exc /\ ∃ c cs ck w v, h = .Constant c cs ck /\ Hv c w v /\ r = ((some w, ρ), σ)) \/ (z ≠ .exc /\ isR = true /\ r = ((some z, ρ), σ)) \/ (isR = false /\ z = .pv .none /\ r = ((none, ρ), σ))
theorem Y0d {isR : Bool} {h : PySem.Expr} {z : MV} {ρ : Vars} {O : Z0c} {σ : Hp} {r : (Option MV × Vars) × Hp} (e : Y0e isR h z ρ O σ = some r) : TryRes isR h z ρ σ r := by
 have other : z ≠ .exc -> (match isR with | true => ret (some z, ρ) | false => (match (generalizing := false) z with | .pv .none => ret (none, ρ) | _ => bad : Mm (Option MV × Vars))) O σ = some r -> TryRes isR h z ρ σ r := fun n e => by
  cases isR with
  | true => exact .inr (.inl ⟨n, rfl, (Option.some.inj e).symm⟩)
  | false => cases z with
   | pv p => cases p with
    | none => exact .inr (.inr ⟨rfl, rfl, (Option.some.inj e).symm⟩)
    | _ => exact Z0a e
   | _ => exact Z0a e
 cases z with
 | exc => cases h with
  | Constant c cs ck => cases c with
   | none => exact .inl ⟨rfl, _, _, _, _, _, rfl, .none, (Option.some.inj e).symm⟩
   | bool d => exact .inl ⟨rfl, _, _, _, _, _, rfl, .bool d, (Option.some.inj e).symm⟩
   | _ => exact Z0a e
  | _ => exact Z0a e
 | _ => exact other nofun e
theorem sx_Try (P : PFw g) (X : ExcAt g) (N : Z3z I) (CX : CallX g b.n C) (H : ∀ e, Sv g b (I.e e b.sc) (eval e b.env)) (hlo : b.lo = .frm) {isR : Bool} {v : PySem.Expr} {hs : List ExceptHandler} {p1 tp : Pos} : Sx g b (mTry g.cfg C I isR v hs b.sc) (exec (.Try [match isR with | true => .Return (some v) p1 | false => .Expr v p1] hs [] [] tp) b.env) := fun st σ ρ r σ' E Q hE Iv fr e k => by
 obtain ⟨t, h, rp, hp, rfl, hx, e2⟩ := handlers_some e
 obtain ⟨q, rfl, hk⟩ := isExc_some hx
 refine bE e2 fun z σ1 e1 f1 => wpAny_Try_except ?_
 have body : ∀ {Qc : Value -> Shared -> Prop} {Ec : Value -> Shared -> Prop}, Aft g b.O st z σ1 Qc -> (z = .exc -> AftE g b.A b.O st σ1 Ec) -> wpAny g.M b.A (eval v b.env) Qc Ec st.s := fun ka kx => callX_sound P N CX H Iv fr e1 ka kx
 have catch_ : z = .exc -> AftE g b.A b.O st σ1 (fun e s1 => wpAny g.M b.A (noteFrame e b.env) (fun _ s2 => wpAny g.M b.A (setFlight e none) (fun _ s3 => wpAny g.M b.A (handleBy e b.env [.ExceptHandler (some (.Name g.cfg.exc q)) none [.Return (some h) rp] hp]) Q E s3) E s2) E s1) := fun hz st1 ex s1 I1 x1 L => by
  rcases Y0d f1 with ⟨-, c, cs, ck, w, u, rfl, hv, hr⟩ | ⟨n, -, -⟩ | ⟨-, n, -⟩
  ·refine catch_sound P X I1 (fr.go x1) hlo hk hv L fun st2 I2 x2 f2 => ?_
   obtain ⟨rfl, rfl⟩ := Prod.mk.inj hr
   refine (k st2 I2 ((x1.trans x2).w0 _) f2).2 u ?_
   cases hv with
   | bool c => exact .pv (.bool c)
   | none => exact .pv .none
  ·exact absurd hz n
  ·rw [hz] at n; exact nomatch n
 have ret_ : ∀ st1 u, Inv g b.O st1 σ1 -> Step [] st st1 -> VM g st1 z u -> z ≠ .exc /\ (isR = true -> Q (.ret u) st1.s) /\ (isR = false -> z = .pv .none /\ Q .next st1.s) := fun st1 u I1 x1 r1 => by
  have n : z ≠ .exc := fun q => by subst q; cases r1
  rcases Y0d f1 with ⟨q, -⟩ | ⟨-, h1, hr⟩ | ⟨h1, h2, hr⟩
  ·exact absurd q n
  ·obtain ⟨rfl, rfl⟩ := Prod.mk.inj hr
   exact ⟨n, fun _ => (k st1 I1 (x1.w0 _) (fr.go x1)).2 u r1, fun q => no_tf (h1.symm.trans q)⟩
  ·obtain ⟨rfl, rfl⟩ := Prod.mk.inj hr
   exact ⟨n, fun q => Z0y (h1.symm.trans q), fun _ => ⟨h2, k st1 I1 (x1.w0 _) (fr.go x1)⟩⟩
 cases isR with
 | true =>
  refine wpAny_execs_cons (wpAny_Return_some (body (fun st1 u I1 x1 r1 => ?_) catch_))
  exact (ret_ st1 u I1 x1 r1).2.1 rfl
 | false =>
  obtain ⟨f, args, kws, pos, rfl⟩ : ∃ f args kws pos, v = .Call f args kws pos := by
   cases v with
   | Call f args kws pos => exact ⟨_, _, _, _, rfl⟩
   | _ => exact Z0a e1
  refine wpAny_execs_cons (wpAny_Expr (body (fun st1 u I1 x1 r1 => ?_) catch_) (by unfold interactive; rw [fr.fs.kind]; rfl) rfl)
  obtain ⟨rfl, q⟩ := (ret_ st1 u I1 x1 r1).2.2 rfl
  exact r1.p.noneE (wpAny_execs_nil (wpAny_execs_nil q))
end
noncomputable def Cmp (g : Gl) (n : Nat) (C : Z0j) (I : Ix) : Prop := I = ix0 \/ ∃ J, IxS g n J /\ I = stepI g.cfg C J
section
variable {n : Nat} {C : Z0j} {I : Ix} {b : Fb} {pos : Pos}
theorem Cmp.other (h : Cmp g n C I) {v : PySem.Expr} (h1 : ∀ es k s p, v ≠ .ListComp es k s p) (h2 : isComp v = true) (sc : Scope) (ρ : Vars) : I.e v sc ρ = bad := by
 rcases h with rfl | ⟨J, -, rfl⟩
 ·rfl
 ·cases v <;> first | rfl | exact Z0y h2 | exact (h1 _ _ _ _ rfl).elim
theorem sx_Name (H : IxS g b.n I) (hC : Cmp g b.n C I) {x : Str} {p : Pos} {v : PySem.Expr} : Sx g b (fun ρ => bnd (I.e v b.sc ρ) fun z => bnd (Z1g (.Name x p) z b.sc ρ) fun ρ' => ret (none, ρ')) (exec (.Assign [.Name x p] v pos) b.env) := by
 have plain := fun hs => Z7k (m := fun v ρ => Z1g (.Name x p) v b.sc ρ) (pos := pos) (H.e b rfl v) st_names hs (Z4d (fun _ _ _ _ _ _ q _ => nomatch q) nofun) rfl
 cases hc : isComp v with
 | false => exact plain (Z1e (.inr hc))
 | true =>
  by_cases hl : ∃ elt gens scope cpos, v = .ListComp elt gens scope cpos
  ·obtain ⟨elt, gens, scope, cpos, rfl⟩ := hl
   obtain ⟨q, hq⟩ : ∃ q, swapsWith (.ListComp elt gens scope cpos) (some (.Name x p)) pos.line b.env = pure q := ⟨_, rfl⟩
   cases q with
   | false => exact plain hq
   | true =>
    rcases hC with rfl | ⟨J, HJ, rfl⟩
    ·exact Z2e fun _ => rfl
    ·exact sx_used (C := calm C) HJ.nset (fun b' e => HJ.e b' e elt) (fun b' e c _ => HJ.s b' e c.iter) (fun b' e _ _ x _ => HJ.t b' e x) hq
  ·exact Z2e fun ρ => by rw [hC.other (fun a b c d q => hl ⟨a, b, c, d, q⟩) hc]; rfl
theorem putM_same {o i : PySem.Expr} {v : MV} {sc : Scope} {ρ ρ' : Vars} {O : Z0c} {σ σ' : Hp} (e : putM I o i v sc ρ O σ = some (ρ', σ')) : ρ' = ρ :=
 bE e fun _ _ _ e => bE e fun _ _ _ e => bE e fun _ _ _ e => (Z0q e).1.symm
noncomputable def Z8d : List PySem.Expr -> Bool
 | [] => true
 | .Subscript _ _ _ :: r => Z8d r
 | _ => false
theorem Z7h {t : PySem.Expr} {ts : List PySem.Expr} (h : Z8d (t :: ts) = true) : (∃ o i p, t = .Subscript o i p) /\ Z8d ts = true := by
 cases t with
 | Subscript o i p => exact ⟨⟨_, _, _, rfl⟩, h⟩
 | _ => exact Z0y h
theorem putAllE {sc : Scope} {ρ ρ' : Vars} {O : Z0c} : ∀ {ts : List PySem.Expr} {l : List MV} {σ σ' : Hp}, Z4g I sc ρ ts l O σ = some (ρ', σ') -> Z8d ts = true /\ ts.length = l.length
 | [], [], _, _, _ => ⟨rfl, rfl⟩
 | [], _ :: _, _, _, e => Z0a e
 | t :: ts, l, σ, σ', e => by
  cases t with
  | Subscript o i p => cases l with
   | nil => exact Z0a e
   | cons v l => exact bE e fun _ _ _ e => have h := putAllE e; ⟨h.1, congrArg (· + 1) h.2⟩
  | _ => cases l <;> exact Z0a e
theorem subs_each (env : Env) : ∀ {ts : List PySem.Expr}, Z8d ts = true -> (assignEach ts env).findIdx? (·.1) = none /\ (assignEach ts env).length = ts.length
 | [], _ => ⟨rfl, rfl⟩
 | t :: ts, h => by
  obtain ⟨⟨o, i, p, rfl⟩, h'⟩ := Z7h h
  obtain ⟨a, c⟩ := subs_each env h'
  refine ⟨?_, congrArg (· + 1) c⟩
  show List.findIdx? (·.1) ((false, assign (.Subscript o i p) env) :: assignEach ts env) = none
  rw [List.findIdx?_cons, a]; rfl
theorem Z8v (H : ∀ e, Sv g b (I.e e b.sc) (eval e b.env)) {E : Value -> Shared -> Prop} {Q : Shared -> Prop} {σ' : Hp} {ρ ρ' : Vars} : ∀ {ts : List PySem.Expr} {l : List MV} {us : List Value} {st : St} {σ : Hp}, Inv g b.O st σ -> Fm g b st ρ -> VMs g st l us -> Z4g I b.sc ρ ts l b.O σ = some (ρ', σ') -> AftS g b st ρ' σ' Q -> wpAny g.M b.A (assignInOrder ((assignEach ts b.env).map (·.2)) us) (fun _ => Q) E st.s
 | [], l, us, st, σ, Iv, fr, r, e, k => by
  cases l with
  | nil =>
   have q := Z0q (show ret ρ b.O σ = some (ρ', σ') from e)
   exact r.nilE (wpAny_pure (k st (q.2 ▸ Iv) (.refl _ _) (q.1 ▸ fr)))
  | cons _ _ => exact Z0a e
 | t :: ts, l, us, st, σ, Iv, fr, r, e, k => by
  obtain ⟨⟨o, i, p, rfl⟩, -⟩ := Z7h (putAllE e).1
  cases l with
  | nil => exact Z0a e
  | cons v l =>
   refine r.consE fun u us r rs => ?_
   show wpAny _ _ (do holding us (assign (.Subscript o i p) b.env u); assignInOrder ((assignEach ts b.env).map (·.2)) us) _ E st.s
   refine bE (show bnd (putM I o i v b.sc ρ) (fun _ => Z4g I b.sc ρ ts l) b.O σ = some (ρ', σ') from e) fun ρ1 σ1 e1 e2 => ?_
   refine wpAny_bind (wpAny_holding (st_item (H o) (H i) Iv fr r e1 fun st1 I1 x1 f1 => ?_))
   exact Z8v H I1 (putM_same e1 ▸ f1) (VMs.go rs x1) e2 fun st2 I2 x2 f2 => k st2 I2 (x1.trans x2) f2
theorem allSub_mem : ∀ {ts : List PySem.Expr}, Z8d ts = true -> ∀ t ∈ ts, ∃ o i p, t = .Subscript o i p
 | t :: ts, h, x, hx => have q := Z7h h; (List.mem_cons.mp hx).elim (fun z => z ▸ q.1) (allSub_mem q.2 x)
set_option backward.match.sparseCases true in
theorem subs_filter {env : Env} {line : Nat} {ts : List PySem.Expr} (h : Z8d ts = true) : (ts.filterMap fun t => match t with
  | .Name id pos => if env.kindOf id == some .local && pos.line == line then some id else none
  | _ => none) = [] := List.filterMap_eq_nil_iff.mpr fun t ht => by
 obtain ⟨o, i, p, rfl⟩ := allSub_mem h t ht
 rfl
set_option backward.match.sparseCases true in
theorem swap_subs {ts vs : List PySem.Expr} {k k' : Nat} {p p' : Pos} {env : Env} (h : Z8d ts = true) (n : ts ≠ []) : swappedStores [.Tuple ts k p] (.Tuple vs k' p') env = pure none := by
 unfold swappedStores
 dsimp only
 split
 ·rfl
 ·split
  ·rfl
  ·split
   ·rfl
   ·rename_i hlen
    exact absurd (Bool.or_eq_true_iff.mpr (.inl (bne_iff_ne.mpr fun q => n (List.length_eq_zero_iff.mp (q.symm.trans (congrArg List.length (subs_filter h))))))) hlen
theorem assignM_tup {sc : Scope} {ρ : Vars} {ts : List PySem.Expr} {k0 : Nat} {p : Pos} {x : MV} {xs : List Str} (h : names? ts = some xs) : Z8k g.cfg I (.Tuple ts k0 p) x sc ρ = Z1g (.Tuple ts k0 p) x sc ρ := by
 show (match names? ts with | some _ => Z1g (.Tuple ts k0 p) x sc ρ | none => bnd (seqM x) fun l => gd (Z0w x) (Z4g I sc ρ ts l)) = _
 rw [h]
theorem assignM_places {sc : Scope} {ρ : Vars} {ts : List PySem.Expr} {k0 : Nat} {p : Pos} {x : MV} (h : names? ts = none) : Z8k g.cfg I (.Tuple ts k0 p) x sc ρ = bnd (seqM x) fun l => gd (Z0w x) (Z4g I sc ρ ts l) := by
 show (match names? ts with | some _ => Z1g (.Tuple ts k0 p) x sc ρ | none => bnd (seqM x) fun l => gd (Z0w x) (Z4g I sc ρ ts l)) = _
 rw [h]
theorem sx_congr {m : Vars -> Mm MV} {f f' : MV -> Vars -> Mm Vars} {t : Sem Flow} (h : ∀ x ρ, f x ρ = f' x ρ) (k : Sx g b (fun ρ => bnd (m ρ) fun x => bnd (f' x ρ) fun ρ' => ret (none, ρ')) t) : Sx g b (fun ρ => bnd (m ρ) fun x => bnd (f x ρ) fun ρ' => ret (none, ρ')) t := by
 have e : f = f' := funext fun x => funext fun ρ => h x ρ
 rw [e]; exact k
theorem st_places (H : ∀ e, Sv g b (I.e e b.sc) (eval e b.env)) {ts : List PySem.Expr} {k0 : Nat} {p : Pos} : Stq g b (fun x ρ => bnd (seqM x) fun l => gd (Z0w x) (Z4g I b.sc ρ ts l)) (assign (.Tuple ts k0 p) b.env) := fun st σ ρ v u ρ' σ' E Q Iv fr r e k => by
 refine bE e fun l σ1 e1 f1 => ?_
 have ht := gd1 f1
 obtain ⟨h1, h2⟩ := putAllE (gd2 f1)
 obtain ⟨c, d⟩ := subs_each b.env h1
 rw [PyProof.Rows.assign_Tuple]
 refine wpAny_bind (wpAny_standAt ?_)
 unfold unpack
 rw [c, d, h2]
 exact wpAny_bind (wpAny_holding (Z5f fr.fs.room Iv ht r e1 fun hσ st1 us I1 x1 rv => Z8v H I1 (fr.go x1) rv ((show σ1 = σ from hσ) ▸ gd2 f1) fun st2 I2 x2 f2 => k st2 I2 ((x1.w0 _).trans x2) f2))
theorem sx_places {ts : List PySem.Expr} {k0 : Nat} {p : Pos} {v : PySem.Expr} (H : ∀ e, Sv g b (I.e e b.sc) (eval e b.env)) (hn : names? ts = none) : Sx g b (fun ρ => bnd (I.e v b.sc ρ) fun x => bnd (bnd (seqM x) fun l => gd (Z0w x) (Z4g I b.sc ρ ts l)) fun ρ' => ret (none, ρ')) (exec (.Assign [.Tuple ts k0 p] v pos) b.env) := fun st σ ρ r σ' E Q hE Iv fr e k => by
 have hs : Z8d ts = true := bE e fun _ _ _ f => bE f fun _ _ f _ => bE f fun _ _ _ f => (putAllE (gd2 f)).1
 have hw : swappedStores [.Tuple ts k0 p] v b.env = pure none := by
  by_cases hvt : ∃ vs k1 p1, v = .Tuple vs k1 p1
  ·obtain ⟨vs, k1, p1, rfl⟩ := hvt
   exact swap_subs hs fun q => by rw [q] at hn; exact nomatch hn
  ·exact Z4d (fun ts k p vs k' p' _ q => hvt ⟨vs, k', p', q⟩) nofun
 exact Z7k (m := fun x ρ => bnd (seqM x) fun l => gd (Z0w x) (Z4g I b.sc ρ ts l)) (H v) (st_places H) (Z1e (.inl nofun)) hw rfl hE Iv fr e k
theorem sx_bad2 {m : Vars -> Mm MV} {t : Sem Flow} : Sx g b (fun ρ => bnd (m ρ) fun x => bnd (bad : Mm Vars) fun ρ' => ret (none, ρ')) t := fun st σ ρ r σ' E Q hE Iv fr e k => bE e fun x σ1 e1 f1 => Z0a f1
theorem sx_Assign (P : PFw g) (H : IxS g b.n I) (hC : Cmp g b.n C I) {t v : PySem.Expr} : Sx g b (mX g.cfg C I (.Assign [t] v pos) b.sc) (exec (.Assign [t] v pos) b.env) := by
 have strip : (Y0j t v = true -> Sx g b (fun ρ => bnd (I.e v b.sc ρ) fun x => bnd (Z8k g.cfg I t x b.sc ρ) fun ρ' => ret (none, ρ')) (exec (.Assign [t] v pos) b.env)) -> Sx g b (mX g.cfg C I (.Assign [t] v pos) b.sc) (exec (.Assign [t] v pos) b.env) := fun h st σ ρ r σ' E Q hE Iv fr e k =>
  have e : gd (Y0j t v) (bnd (I.e v b.sc ρ) fun x => bnd (Z8k g.cfg I t x b.sc ρ) fun ρ' => ret (none, ρ')) b.O σ = some (r, σ') := e
  h (gd1 e) hE Iv fr (gd2 e) k
 refine strip fun hsw => ?_
 cases t with
 | Name x p => exact sx_Name H hC
 | Tuple ts k0 p =>
  cases hn : names? ts with
  | some xs => exact sx_congr (fun x ρ => assignM_tup hn) (sx_tuple (H.e b rfl v) hsw)
  | none => exact sx_congr (fun x ρ => assignM_places hn) (sx_places (H.e b rfl) hn)
 | Attribute o a p => exact Z7k (H.e b rfl v) (st_attr P (H.e b rfl o)) (Z1e (.inl nofun)) (Z4d (fun _ _ _ _ _ _ q _ => nomatch q) nofun) rfl
 | Subscript o i p => exact Z7k (H.e b rfl v) (st_item (H.e b rfl o) (H.e b rfl i)) (Z1e (.inl nofun)) (Z4d (fun _ _ _ _ _ _ q _ => nomatch q) nofun) rfl
 | _ => exact sx_bad2
theorem step_x (P : PFw g) (X : ExcAt g) (CX : CallX g n C) (H : IxS g n I) (hC : Cmp g n C I) (b : Fb) (hn : b.n = n) (hlo : b.lo = .frm) (a : Stmt) : Sx g b (mX g.cfg C I a b.sc) (exec a b.env) := by
 have hx := Y1s (H.x b hn hlo)
 cases a with
 | Return e pos => exact sx_Return (H.e b hn)
 | Assign ts v pos => cases ts with
  | nil => exact Z2e fun _ => rfl
  | cons t ts => cases ts with
   | nil => subst hn; exact sx_Assign P H hC
   | cons _ _ => exact Z2e fun _ => rfl
 | For t it bd o pos => cases o with
  | cons _ _ => exact Z2e fun _ => rfl
  | nil => exact sx_For H.nset (H.s b hn it) (hx bd)
 | While t bd o pos => cases o with
  | cons _ _ => exact Z2e fun _ => rfl
  | nil => exact sx_While (H.t b hn t) (hx bd)
 | If t bd o pos => exact sx_If (H.t b hn t) (hx bd) (hx o)
 | Expr v pos => exact sx_Expr (H.e b hn v)
 | Pass pos =>
   refine fun st σ ρ r σ' E Q hE Iv fr e k => ?_
   have q := Z0q (show ret (none, ρ) b.O σ = some (r, σ') from e)
   have h := k st (q.2 ▸ Iv) (.refl _ st) (q.1 ▸ fr)
   rw [<- q.1] at h
   exact wpAny_Pass h
 | Raise x y pos => cases x with
  | none => exact Z2e fun _ => rfl
  | some x => cases y with
   | some _ => exact Z2e fun _ => rfl
   | none => cases x with
    | Call f args kws cp => cases args with
     | nil => exact Z2e fun _ => rfl
     | cons a args => cases args with
      | cons _ _ => exact Z2e fun _ => rfl
      | nil => cases kws with
       | cons _ _ => exact Z2e fun _ => rfl
       | nil => exact sx_Raise P X H.star (H.e b hn a)
    | _ => exact Z2e fun _ => rfl
 | Try bd hs o fin pos => cases o with
  | cons _ _ => exact Z2e fun _ => rfl
  | nil => cases fin with
   | cons _ _ => exact Z2e fun _ => rfl
   | nil => cases bd with
    | nil => exact Z2e fun _ => rfl
    | cons s bd => cases bd with
     | cons _ _ => exact Z2e fun _ => rfl
     | nil => cases s with
      | Expr v p => exact sx_Try (isR := false) P X H.star (hn ▸ CX) (H.e b hn) hlo
      | Return v p => cases v with
       | none => exact Z2e fun _ => rfl
       | some v => exact sx_Try (isR := true) P X H.star (hn ▸ CX) (H.e b hn) hlo
      | _ => exact Z2e fun _ => rfl
 | _ => exact Z2e fun _ => rfl
theorem ix_all (P : PFw g) (X : ExcAt g) (CX : CallX g n C) (L : Leaves g n (calm C)) : ∀ k, IxS g n (ix g.cfg C k) /\ Cmp g n C (ix g.cfg C k)
 | 0 => ⟨⟨fun _ _ _ => Z5h fun _ => rfl, fun _ _ _ => Y0r fun _ => rfl, fun _ _ _ => ss_bad fun _ => rfl, fun _ _ _ _ => Z2e fun _ => rfl, fun _ _ _ _ => rfl, fun _ _ _ _ _ => rfl, fun _ _ _ _ _ => rfl⟩, .inl rfl⟩
 | k + 1 =>
  have ⟨H, hC⟩ := ix_all P X CX L k
  have CS := CX.calm
  ⟨⟨step_e P CS L H, step_t P CS L H, step_s P CS L H, step_x P X CX H hC, fun _ _ _ _ => rfl, fun _ _ _ _ _ => rfl, fun _ _ _ _ _ => rfl⟩, .inr ⟨_, H, rfl⟩⟩
end
section
variable {O O' : Z0c} {st st2 : St} {σ σ' σl : Hp} {n : Nat} {α β γ : Type}
theorem A2.mapO {R : α -> γ -> Prop} {R' : β -> γ -> Prop} {f : α -> Option β} {l : List α} {vs : List γ} (h : A2 R l vs) (k : ∀ a b c, R a c -> f a = some b -> R' b c) : ∀ {ps : List β}, mapO f l = some ps -> A2 R' ps vs := by
 induction h with
 | nil => intro ps e; cases e; exact .nil
 | @cons x v l vs a b ih =>
  intro ps e
  replace e : (match f x with | some y => (match Mine.Internal.mapO f l with | some l => some (y :: l) | none => none) | none => none) = some ps := e
  cases q : f x with
  | none => rw [q] at e; exact Z0a e
  | some y =>
   rw [q] at e
   replace e : (match Mine.Internal.mapO f l with | some l => some (y :: l) | none => none) = some ps := e
   cases q2 : Mine.Internal.mapO f l with
   | none => rw [q2] at e; exact Z0a e
   | some l' => rw [q2] at e; cases e; exact .cons (k _ _ _ a q) (ih q2)
theorem A2.mapO2 {R : α -> Value -> Prop} {R' : β -> Value -> Prop} {f : α -> Option β} {l : List (Str × α)} {vs : List (Str × Value)} (h : A2 (ER R) l vs) (k : ∀ a b c, R a c -> f a = some b -> R' b c) : ∀ {ps : List (Str × β)}, mapO2 f l = some ps -> A2 (ER R') ps vs := by
 induction h with
 | nil => intro ps e; cases e; exact .nil
 | @cons x v l vs a b ih =>
  intro ps e
  obtain ⟨s, x⟩ := x
  replace e : (match f x with | some y => (match Mine.Internal.mapO2 f l with | some l => some ((s, y) :: l) | none => none) | none => none) = some ps := e
  cases q : f x with
  | none => rw [q] at e; exact Z0a e
  | some y =>
   rw [q] at e
   replace e : (match Mine.Internal.mapO2 f l with | some l => some ((s, y) :: l) | none => none) = some ps := e
   cases q2 : Mine.Internal.mapO2 f l with
   | none => rw [q2] at e; exact Z0a e
   | some l' => rw [q2] at e; cases e; exact .cons ⟨a.1, k _ _ _ a.2 q⟩ (ih q2)
theorem Z5x (H : ∀ (i : Nat) o p, σl[i]? = some o -> st2.μ[i]? = some p -> RO g st2 o p.1 p.2) (fz : ∀ a, st2.own a = none -> st.own a = none) (fm : ∀ p, Here st2.μ σl p -> st.own p.1 = none /\ st.own p.2 = none) : ∀ (n : Nat) (v : MV) (p : PV) (u : Value), VM g st2 v u -> Z0f n σl v = some p -> VP g (st.put st2.s) p u := by
 have x : Fz st2 (st.put st2.s) := fun a o n e => ⟨e, fz a n⟩
 intro n
 induction n with
 | zero =>
  intro v p u r e
  cases v with
  | pv q => cases e; exact r.p.ext x
  | _ => exact Z0a e
 | succ n ih =>
  intro v p u r e
  cases v with
  | pv q => cases e; exact r.p.ext x
  | oref l i => exact Z0a e
  | exc => exact Z0a e
  | tup l =>
   replace e : (match mapO (Z0f n σl) l with | some ps => some (PV.tup ps) | none => none) = some p := e
   cases hp : mapO (Z0f n σl) l with
   | none => rw [hp] at e; exact Z0a e
   | some ps => rw [hp] at e; exact Option.some.inj e ▸ r.tupE fun a vs h y => .tupI (FT.ext x h) (y.mapO ih hp)
  | ref i =>
   replace e : (match σl[i]? with
    | some (.lst l) => match mapO (Z0f n σl) l with | some ps => some (PV.lst ps) | none => none
    | some (.dct es) => match mapO2 (Z0f n σl) es with | some ps => some (PV.dct ps) | none => none
    | some (.obj c es) => match mapO2 (Z0f n σl) es with | some ps => some (PV.obj c ps) | none => none
    | some .gone => none
    | none => none) = some p := e
   refine r.refE fun a d hμ => ?_
   cases hl : σl[i]? with
   | none => rw [hl] at e; exact Z0a e
   | some o =>
    rw [hl] at e
    have ro := H i o _ hl hμ
    have nn : o ≠ .gone -> (st.put st2.s).own a = none /\ (st.put st2.s).own d = none := fun n => fm (a, d) ⟨i, o, hμ, hl, n⟩
    cases o with
    | gone => exact Z0a e
    | lst l =>
     replace e : (match mapO (Z0f n σl) l with | some ps => some (PV.lst ps) | none => none) = some p := e
     cases hp : mapO (Z0f n σl) l with
     | none => rw [hp] at e; exact Z0a e
     | some ps => rw [hp] at e; exact Option.some.inj e ▸ have nn := nn nofun; let ⟨vs, h, y⟩ := ro; .lstI ⟨nn.1, h⟩ (y.mapO ih hp)
    | dct es =>
     replace e : (match mapO2 (Z0f n σl) es with | some ps => some (PV.dct ps) | none => none) = some p := e
     cases hp : mapO2 (Z0f n σl) es with
     | none => rw [hp] at e; exact Z0a e
     | some ps => rw [hp] at e; exact Option.some.inj e ▸ have nn := nn nofun; let ⟨vs, z, h, y⟩ := ro; .dctI ⟨nn.1, z, h⟩ (y.mapO2 ih hp)
    | obj c es =>
     replace e : (match mapO2 (Z0f n σl) es with | some ps => some (PV.obj c ps) | none => none) = some p := e
     cases hp : mapO2 (Z0f n σl) es with
     | none => rw [hp] at e; exact Z0a e
     | some ps => rw [hp] at e; exact Option.some.inj e ▸ have nn := nn nofun; let ⟨vs, h, h', y⟩ := ro; .objI ⟨d, ⟨nn.1, h⟩, nn.2, h'⟩ (y.mapO2 ih hp)
theorem frzE {v z : MV} (e : frz σ σl v = some (z, σ')) : ∃ p, Z0f 30 σl v = some p /\ z = .pv p /\ σ' = σ :=
 by
  replace e : (match Z0f 30 σl v with | some p => some (MV.pv p, σ) | none => none) = some (z, σ') := e
  cases h : Z0f 30 σl v with
  | none => rw [h] at e; exact Z0a e
  | some p => rw [h] at e; cases e; exact ⟨p, rfl, rfl, rfl⟩
theorem kx_deep {x : Option Ow} {h h' : Heap} {a : Addr} (k : Kx (dOwn x) h h' a) : Kx x h h' a := by
 cases x with
 | none => exact k
 | some o => cases o <;> exact k
theorem back {W : List Addr} {m : List AMap} {v z : MV} {u : Value} {Q : Value -> Shared -> Prop} (I : Inv g O st σ) (I2 : Inv g O' st2 σl) (X : Step W (st.deep m) st2) (hW : ∀ a ∈ W, st.h.get? a = none) (r : VM g st2 v u) (e : frz σ σl v = some (z, σ')) (k : Aft g O st z σ' Q) : Q u st2.s := by
 obtain ⟨p, hp, rfl, rfl⟩ := frzE e
 have all : ∀ a, Kx (st.own a) st.h st2.h a := fun a => by
  by_cases m : a ∈ W
  ·exact .of fun o e => Z0a ((hW a m).symm.trans e)
  ·exact kx_deep (X.keep a (fun _ => m) fun i q => dOwn_mine q)
 have old : ∀ a o, st.h.get? a = some o -> st2.own a = dOwn (st.own a) := X.own
 refine k (st.put st2.s) u (I.growX all (I2.gens.trans I.gens.symm) (I2.os_.trans I.os_.symm)) (.growX all) (.pv (Z5x I2.heap.at_ (fun a h => ?_) (fun p h => ?_) 30 v p u r hp))
 ·cases q : st.h.get? a with
  | none => exact I.fresh q
  | some o => exact dOwn_none ((old a o q).symm.trans h)
 ·obtain ⟨i, o, hi, -, -⟩ := h
  have z := I2.mine i p hi
  have one : ∀ a, st2.own a = some (.mine i) -> st.own a = none := fun a h => by
   cases q : st.h.get? a with
   | none => exact I.fresh q
   | some o => exact (dOwn_mine ((old a o q).symm.trans h)).elim
  exact ⟨one _ z.1, one _ z.2⟩
theorem args_pvs : ∀ {args : List MV} {ps : List PV}, Z0z args = some ps -> args = pvs ps
 | [], ps, h => by cases h; rfl
 | x :: args, ps, h => by
  obtain ⟨q, qs, rfl, h', rfl⟩ := asPVs_cons h
  exact congrArg (MV.pv q :: ·) (args_pvs h')
theorem deep_pvs {m : List AMap} {args : List MV} {vs : List Value} {ps : List PV} (ra : VMs g st args vs) (ha : Z0z args = some ps) : VMs g (st.deep m) args vs :=
 args_pvs ha ▸ Z3g (st := st.deep m) ((Y0b ra ha).imp fun _ _ r => VP.ext (st := st) (st' := st.deep m) (fun a o n e => ⟨e, congrArg dOwn n⟩) r)
variable {C : Z0j} {A : Around} {a : Addr} {r : FnRow} {RR : Result -> Shared -> Prop} {args : List MV} {vs : List Value} {z : MV}
theorem bindsE {f : Vars -> Mm MV} {y : MV × Hp} (e : (match binds r args with | some ρ => f ρ | none => bad : Mm MV) O σ = some y) {P : Prop} (k : ∀ ρ, binds r args = some ρ -> f ρ O σ = some y -> P) : P := by
 cases h : binds r args with
 | none => rw [h] at e; exact Z0a e
 | some ρ => rw [h] at e; exact k ρ h e
theorem fn_body (P : PFw g) (X : ExcAt g) (CX : CallX g n C) (L : Leaves g n (calm C)) (Fa : FnAt g a r) (rm : RoomC A (n + 1)) (fA : FrA A st) (I : Inv g O st σ) (ra : VMs g st args vs) {ρ : Vars} {t : Option MV × Vars} (eb : binds r args = some ρ) (e : exs (topI g.cfg C) r.scope r.body ρ O σ = some (t, σ'))
  (k : ∀ st' W, Inv g O st' σ' -> Step W st st' -> (∀ a ∈ W, st.h.get? a = none) -> (∀ u, VM g st' (outV t) u -> RR (.ok (.ret u)) st'.s) /\ (outV t = .exc -> ∀ e s', Lz g A st' e s' -> RR (.error e) s')) : codeAny g.M A (.call (.ref a) ⟨vs, []⟩) RR st.s :=
 call_frame P Fa rm.lim I.up ra.len (binds_some eb).1 fun env N s1 m hk hg ho hN F hL hns _ fo => by
  have I1 := I.res (L := some env.locals) hk hN hg ho fun a q => by cases q; exact ⟨m, hns⟩
  have x1 : Step [] st (st.res s1 N (some env.locals)) := .res hk fun a h => (hN a h).1
  have fA1 : FrA (A.deeper env) (st.res s1 N (some env.locals)) := by
   obtain ⟨l, h1, h2⟩ := fA.go x1
   refine ⟨env :: l, Around.frames_deeper h1, fun y hy => ?_⟩
   rcases List.mem_cons.mp hy with rfl | hy
   ·exact ⟨by rw [F.kind]; exact nofun, _, F.frame, res_fr hL, (hN _ hL).2⟩
   ·exact h2 y hy
  refine Y1s (b := ⟨O, A.deeper env, n, N, N, env, r.scope, .frm⟩) ((ix_all P X CX L 40).1.x _ rfl rfl) r.body PassesOwn.leaving I1 (fo (rm.deep env) eb rfl rfl (fun a h => res_prv h) (res_fr hL) fA1 (base_kp (b := ⟨O, A, n, [], [], env, r.scope, .frm⟩) I1) (ra.go x1)) e fun st2 I2 x2 f2 => ?_
  have X2 := (x1.w0 N).trans x2
  have k := k st2 N I2 X2 fun a h => (hN a h).1
  obtain ⟨o, ρ1⟩ := t
  cases o with
  | none => exact k.1 _ (.pv .none)
  | some v => exact ⟨fun hv e s' rz => leave_sound I2 f2.fr rz (k.2 hv e), k.1⟩
theorem fn_open (P : PFw g) (X : ExcAt g) (CX : CallX g n C) (L : Leaves g n (calm C)) (Fa : FnAt g a r) (rm : RoomC A (n + 1)) (fA : FrA A st) (I : Inv g O st σ) (ra : VMs g st args vs) (e : openM g.cfg C r args O σ = some (z, σ')) (k : Aft g O st z σ' fun u s' => RR (.ok (.ret u)) s') (kx : z = .exc -> AftE g A O st σ' fun e s' => RR (.error e) s') : codeAny g.M A (.call (.ref a) ⟨vs, []⟩) RR st.s :=
 bindsE e fun ρ eb e => bE e fun t σ1 e1 f1 => fn_body P X CX L Fa rm fA I ra eb e1 fun st2 W I2 X2 hW => by
  have q := Z0q f1
  have x := Step.shed (W := []) (X2.weak fun a h => List.mem_append_left _ h) hW
  exact ⟨fun u r => k st2 u (q.2 ▸ I2) x (q.1 ▸ r), fun h e s' l => kx (q.1.symm.trans h) st2 e s' (q.2 ▸ I2) x l⟩
theorem fn_pure {m : List AMap} {f : Z0c -> Hp -> Z0c} (P : PFw g) (X : ExcAt g) (CX : CallX g n C) (L : Leaves g n (calm C)) (Fa : FnAt g a r) (rm : RoomC A (n + 1)) (fA : FrA A st) (I : Inv g O st σ) (I0 : Inv g (f O σ) (st.deep m) []) (ra : VMs g (st.deep m) args vs) (e : Y0z g.cfg C r args f O σ = some (z, σ')) (k : Aft g O st z σ' fun u s' => RR (.ok (.ret u)) s') : codeAny g.M A (.call (.ref a) ⟨vs, []⟩) RR st.s :=
 bindsE e fun ρ eb e => by
  replace e : (match exs (topI g.cfg C) r.scope r.body ρ (f O σ) [] with | some (t, σl) => frz σ σl (outV t) | none => none) = some (z, σ') := e
  cases h : exs (topI g.cfg C) r.scope r.body ρ (f O σ) [] with
  | none => rw [h] at e; exact Z0a e
  | some y =>
   rw [h] at e
   have fA' : FrA A (st.deep m) := fA.to rfl fun a q => congrArg dOwn q
   exact fn_body (st := st.deep m) P X CX L Fa rm fA' I0 ra eb (show exs (topI g.cfg C) r.scope r.body ρ (f O σ) [] = some (y.1, y.2) from h) fun st2 W I2 X2 hW => ⟨fun u r => back I I2 X2 hW r e k, fun q => by
    obtain ⟨p, hp, -⟩ := frzE e
    rw [q] at hp; exact Z0a hp⟩
end
noncomputable def vOwn (w : Bool) : Option Ow -> Option Ow
 | some (.mine _) => match w with | true => none | false => some .outer
 | some .outer => match w with | true => none | false => some .outer
 | x => x
noncomputable def St.lent (st : St) (w : Bool) (a d : Addr) : St := ⟨st.s, fun b => if b = a \/ b = d then some (.mine 0) else vOwn w (st.own b), [(a, d)], match w with | true => [] | false => st.μ :: st.μo⟩
section
variable {O : Z0c} {st st2 : St} {σ σ' σl : Hp} {n i : Nat} {a d : Addr} {w : Bool} {l : List MV} {vs : List Value} {x : Option Ow}
theorem vOwn_none (h : x = none) : vOwn w x = none := by subst h; rfl
theorem vOwn_mine {j : Nat} (h : vOwn w x = some (.mine j)) : False := by
 cases x with
 | none => exact nomatch h
 | some o => cases o <;> cases w <;> exact nomatch h
theorem vOwn_frm (h : vOwn w x = some .frm) : x = some .frm := by
 cases x with
 | none => exact nomatch h
 | some o => cases o <;> cases w <;> first | rfl | exact nomatch h
theorem vOwn_of (h : x = some .outer \/ ∃ j, x = some (.mine j)) : vOwn false x = some .outer := by
 rcases h with rfl | ⟨j, rfl⟩ <;> rfl
theorem vOwn_out (h : vOwn false x = none) : x = none := by
 cases x with
 | none => rfl
 | some o => cases o <;> exact nomatch h
theorem kx_lent {h h' : Heap} {b : Addr} (k : Kx (vOwn w x) h h' b) : Kx x h h' b := by
 cases x with
 | none => exact k
 | some o => cases o <;> cases w <;> exact k
theorem Y1h {b : Addr} (h : b = a \/ b = d) : (st.lent w a d).own b = some (.mine 0) := if_pos h
theorem Z1t {b : Addr} (h : ¬ (b = a \/ b = d)) : (st.lent w a d).own b = vOwn w (st.own b) := if_neg h
theorem ints_any {is : List Int} (h : Z1x l = some is) (r : VMs g st l vs) {st' : St} : VMs g st' l vs := by
 induction r generalizing is with
 | nil => exact .nil
 | cons p q ih =>
  obtain ⟨x, ys, rfl, h', -⟩ := allInts_cons h
  exact p.p.intE fun t => .cons (.pv (.int x t)) (ih h')
theorem head_ints (e : Z6e σ i = some l) : σ[i]? = some (.lst l) /\ ∃ is, Z1x l = some is := by
 replace e : (match σ[i]? with | some (.lst l) => (match Z1x l with | some _ => some l | none => none) | _ => none) = some l := e
 cases h : σ[i]? with
 | none => rw [h] at e; exact Z0a e
 | some o =>
  rw [h] at e
  cases o with
  | lst l' =>
   replace e : (match Z1x l' with | some _ => some l' | none => none) = some l := e
   cases h2 : Z1x l' with
   | none => rw [h2] at e; exact Z0a e
   | some is => rw [h2] at e; cases e; exact ⟨rfl, is, h2⟩
  | _ => exact Z0a e
theorem Z2r (I : Inv g O st σ) (hμ : st.μ[i]? = some (a, d)) {b : Addr} {y : Option Ow} (h : st.own b = y) (n : y ≠ some (.mine i)) : ¬ (b = a \/ b = d) := fun q => n (h.symm.trans (q.elim (fun q => q ▸ (I.mine i _ hμ).1) fun q => q ▸ (I.mine i _ hμ).2))
theorem Z8j (I : Inv g O st σ) (hμ : st.μ[i]? = some (a, d)) {b : Addr} (h : st.own b = none) : (st.lent w a d).own b = none := (Z1t (Z2r I hμ h nofun)).trans (vOwn_none h)
theorem lent_inv (I : Inv g O st σ) (hμ : st.μ[i]? = some (a, d)) (hl : σ[i]? = some (.lst l)) {is : List Int} (hi : Z1x l = some is) : Inv g (lentO w σ i O) (st.lent w a d) [.lst l] := by
 have out : ∀ {p : Addr × Addr}, (∃ j, j ≠ i /\ st.own p.1 = some (.mine j) /\ st.own p.2 = some (.mine j)) \/ (st.own p.1 = some .outer /\ st.own p.2 = some .outer) -> (st.lent false a d).own p.1 = some .outer /\ (st.lent false a d).own p.2 = some .outer := fun h => by
  rcases h with ⟨j, n, h1, h2⟩ | ⟨h1, h2⟩
  ·have n : some (Ow.mine j) ≠ some (.mine i) := fun q => n (by injection q with q; injection q)
   exact ⟨(Z1t (Z2r I hμ h1 n)).trans (vOwn_of (.inr ⟨j, h1⟩)), (Z1t (Z2r I hμ h2 n)).trans (vOwn_of (.inr ⟨j, h2⟩))⟩
  ·exact ⟨(Z1t (Z2r I hμ h1 nofun)).trans (vOwn_of (.inl h1)), (Z1t (Z2r I hμ h2 nofun)).trans (vOwn_of (.inl h2))⟩
 have gone : ∀ {j : Nat} {o : MO}, (σ.set i .gone)[j]? = some o -> o ≠ .gone -> j ≠ i /\ σ[j]? = some o := fun {j o} e n => by
  by_cases q : j = i
  ·subst q
   rw [List.getElem?_set_self (List.getElem?_eq_some_iff.mp hl).1] at e
   exact absurd (Option.some.inj e).symm n
  ·rw [List.getElem?_set_ne (Ne.symm q)] at e; exact ⟨q, e⟩
 refine ⟨I.gens, I.os_, fun b o e => ?_, fun b n => ?_, fun j p e => ?_, ?_, ⟨rfl, fun j o p e f => ?_⟩, ?_, fun b n => ?_⟩
 ·obtain ⟨h1, h2⟩ := I.base b o e; exact ⟨h1, Z8j I hμ h2⟩
 ·refine I.live b fun z => n (Z8j I hμ z)
 ·cases j with
  | zero => cases e; exact ⟨Y1h (.inl rfl), Y1h (.inr rfl)⟩
  | succ j => exact nomatch e
 ·cases w with
  | true => exact fun l m σl e => nomatch e
  | false =>
   intro k m σl e f p h
   cases k with
   | zero =>
    cases e; cases f
    obtain ⟨j, o, h1, h2, h3⟩ := h
    obtain ⟨n, -⟩ := gone h2 h3
    have z := I.mine j p h1
    exact out (.inl ⟨j, n, z.1, z.2⟩)
   | succ k => exact out (.inr (I.out k m σl e f p h))
 ·cases j with
  | zero =>
   cases e; cases f
   obtain ⟨vs, h1, h2⟩ := (show RO g st (.lst l) a d from I.heap.at_ i _ _ hl hμ)
   exact ⟨vs, h1, ints_any hi h2⟩
  | succ j => exact nomatch e
 ·cases w with
  | true => exact ⟨rfl, fun l σl m e => nomatch e⟩
  | false =>
   have ex : ∀ l m, Ext (st.lv l m) ((st.lent false a d).lv (l + 1) m) := fun l m => ⟨fun b o n e => ⟨e, Z8j I hμ n⟩, fun _ _ e => e, rfl⟩
   refine ⟨congrArg (· + 1) I.outer.len, fun k σl m e f => ?_⟩
   cases k with
   | zero =>
    cases e; cases f
    refine ⟨I.heap.len.trans (List.length_set ..).symm, fun j o p e f => ?_⟩
    by_cases q : o = .gone
    ·subst q; exact trivial
    ·have e0 : Ext st ((st.lent false a d).lv 0 st.μ) := ⟨fun b o n e => ⟨e, Z8j I hμ n⟩, fun _ _ e => e, rfl⟩
     exact RO.ext e0 (fun _ e => e) (fun _ e => e) (I.heap.at_ j o p (gone e q).2 f)
   | succ k => exact (I.outer.at_ k σl m e f).to (ex k m) rfl fun _ _ _ => ⟨fun _ e => e, fun _ e => e⟩
 ·by_cases q : b = a \/ b = d
  ·exact nomatch (Y1h q).symm.trans n
  ·exact I.frms b (vOwn_frm ((Z1t q).symm.trans n))
theorem lentE {v z : MV} (e : Z3k w σ i v σl = some (z, σ')) : ∃ l' σr is p, σl = .lst l' :: σr /\ Z1x l' = some is /\ Z0f 30 (.gone :: σr) v = some p /\ (w = true -> atomP p = true) /\ z = .pv p /\ σ' = σ.set i (.lst l') := by
 cases σl with
 | nil => exact Z0a e
 | cons o σr => cases o with
  | lst l' =>
   replace e : (match Z1x l' with | some _ => (match Z0f 30 (.gone :: σr) v with | some p => (match !w || atomP p with | true => some (MV.pv p, σ.set i (.lst l')) | false => none) | none => none) | none => none) = some (z, σ') := e
   cases h1 : Z1x l' with
   | none => rw [h1] at e; exact Z0a e
   | some is =>
    rw [h1] at e
    replace e : (match Z0f 30 (.gone :: σr) v with | some p => (match !w || atomP p with | true => some (MV.pv p, σ.set i (.lst l')) | false => none) | none => none) = some (z, σ') := e
    cases h2 : Z0f 30 (.gone :: σr) v with
    | none => rw [h2] at e; exact Z0a e
    | some p =>
     rw [h2] at e
     replace e : (match !w || atomP p with | true => some (MV.pv p, σ.set i (.lst l')) | false => none) = some (z, σ') := e
     cases h3 : !w || atomP p with
     | false => rw [h3] at e; exact Z0a e
     | true =>
      rw [h3] at e; cases e
      exact ⟨l', σr, is, p, rfl, h1, h2, fun q => by rw [q] at h3; exact h3, rfl, rfl⟩
  | _ => exact Z0a e
theorem atom_any {p : PV} {u : Value} (h : atomP p = true) (r : VP g st p u) {st' : St} : VP g st' p u := by
 cases r with
 | none => exact .none
 | bool b => exact .bool b
 | int i t => exact .int i t
 | str s t hs => exact .str s t hs
 | _ => exact Z0y h
theorem atom_of {v : MV} {p : PV} {n : Nat} (h : atomP p = true) (e : Z0f (n + 1) σ v = some p) : v = .pv p := by
 cases v with
 | pv q => cases e; rfl
 | tup l =>
  replace e : (match mapO (Z0f n σ) l with | some ps => some (PV.tup ps) | none => none) = some p := e
  cases q : mapO (Z0f n σ) l with
  | none => rw [q] at e; exact Z0a e
  | some ps => rw [q] at e; cases e; exact Z0y h
 | ref i =>
  replace e : (match σ[i]? with
    | some (.lst l) => match mapO (Z0f n σ) l with | some ps => some (PV.lst ps) | none => none
    | some (.dct es) => match mapO2 (Z0f n σ) es with | some ps => some (PV.dct ps) | none => none
    | some (.obj c es) => match mapO2 (Z0f n σ) es with | some ps => some (PV.obj c ps) | none => none
    | some .gone => none
    | none => none) = some p := e
  cases hl : σ[i]? with
  | none => rw [hl] at e; exact Z0a e
  | some o =>
   rw [hl] at e
   cases o with
   | lst l =>
    replace e : (match mapO (Z0f n σ) l with | some ps => some (PV.lst ps) | none => none) = some p := e
    cases q : mapO (Z0f n σ) l with
    | none => rw [q] at e; exact Z0a e
    | some ps => rw [q] at e; cases e; exact Z0y h
   | dct l =>
    replace e : (match mapO2 (Z0f n σ) l with | some ps => some (PV.dct ps) | none => none) = some p := e
    cases q : mapO2 (Z0f n σ) l with
    | none => rw [q] at e; exact Z0a e
    | some ps => rw [q] at e; cases e; exact Z0y h
   | obj c l =>
    replace e : (match mapO2 (Z0f n σ) l with | some ps => some (PV.obj c ps) | none => none) = some p := e
    cases q : mapO2 (Z0f n σ) l with
    | none => rw [q] at e; exact Z0a e
    | some ps => rw [q] at e; cases e; exact Z0y h
   | gone => exact Z0a e
 | _ => exact Z0a e
theorem lent_back {W : List Addr} {O' : Z0c} {v z : MV} {u : Value} {Q : Value -> Shared -> Prop} (I : Inv g O st σ) (hμ : st.μ[i]? = some (a, d)) (I2 : Inv g O' st2 σl) (X : Step W (st.lent w a d) st2) (hW : ∀ a ∈ W, st.h.get? a = none) (r : VM g st2 v u) (e : Z3k w σ i v σl = some (z, σ')) (k : Aft g O st z σ' Q) : Q u st2.s := by
 obtain ⟨l', σr, is, p, rfl, hi, hp, ha, rfl, rfl⟩ := lentE e
 have hm := I.mine i _ hμ
 have all : ∀ b, ¬ (b = a \/ b = d) -> Kx (st.own b) st.h st2.h b := fun b n => by
  by_cases m : b ∈ W
  ·exact .of fun o e => Z0a ((hW b m).symm.trans e)
  ·have k := X.keep b (fun _ => m) fun j q => vOwn_mine ((Z1t n).symm.trans q)
   rw [Z1t n] at k
   exact kx_lent k
 have kp : ∀ {b : Addr} {y : Option Ow}, st.own b = y -> y ≠ some (.mine i) -> y ≠ some .frm -> Kp st.h st2.h b := fun h n1 n2 => (all _ (Z2r I hμ h n1)).kp (h ▸ n2)
 have lv : ∀ b o, st.h.get? b = some o -> ∃ o', st2.h.get? b = some o' := X.live
 have I3 : Inv g O (st.put st2.s) (σ.set i (.lst l')) := by
  refine I.to (I2.gens.trans I.gens.symm) (I2.os_.trans I.os_.symm) (fun b n o e => ⟨n.elim (fun n => kp n nofun nofun o e) fun n => kp n nofun nofun o e, rfl⟩) (fun b n => let ⟨o, e⟩ := I.live b n; lv b o e) I.mine (fun _ _ e => e) (fun b n => I.ns n (all b (Z2r I hμ n nofun)).s) fun x => I.heap.upd x rfl (fun j p n f => ?_) fun p f => ?_
  ·have m := I.mine j p f
   have ne : some (Ow.mine j) ≠ some (.mine i) := fun q => n (by injection q with q; injection q)
   exact ⟨kp m.1 ne nofun, kp m.2 ne nofun⟩
  ·cases hμ.symm.trans f
   obtain ⟨vs, h1, h2⟩ := (show RO g st2 (.lst l') a d from I2.heap.at_ 0 _ _ rfl (X.mu 0 _ rfl))
   exact ⟨vs, h1, ints_any hi h2⟩
 have x3 : Step [] st (st.put st2.s) := ⟨lv, fun b _ n => all b fun q => n i (q.elim (fun q => q ▸ hm.1) fun q => q ▸ hm.2), fun _ _ _ => rfl, fun _ _ e => e, rfl⟩
 refine k (st.put st2.s) u I3 x3 (.pv ?_)
 have old : ∀ b o, st.h.get? b = some o -> st2.own b = (st.lent w a d).own b := X.own
 cases w with
 | true => exact atom_any (ha rfl) (atom_of (n := 29) (ha rfl) hp ▸ r).p
 | false =>
  refine Z5x (σl := .gone :: σr) (fun j o p e f => ?_) (fun b h => ?_) (fun p h => ?_) 30 v p u r hp
  ·cases j with
   | zero => cases e; exact trivial
   | succ j => exact I2.heap.at_ (j + 1) o p e f
  ·cases q : st.h.get? b with
   | none => exact I.fresh q
   | some o =>
    have z := (old b o q).symm.trans h
    by_cases n : b = a \/ b = d
    ·exact nomatch (Y1h n).symm.trans z
    ·exact vOwn_out ((Z1t n).symm.trans z)
  ·obtain ⟨j, o, hj, ho, hg⟩ := h
   cases j with
   | zero => cases ho; exact absurd rfl hg
   | succ j =>
    have z := I2.mine (j + 1) p hj
    have one : ∀ b, st2.own b = some (.mine (j + 1)) -> st.own b = none := fun b h => by
     cases q : st.h.get? b with
     | none => exact I.fresh q
     | some o =>
      have z := (old b o q).symm.trans h
      by_cases n : b = a \/ b = d
      ·have y := (Y1h n).symm.trans z
       injection y with y; injection y with y; exact nomatch y
      ·exact (vOwn_mine ((Z1t n).symm.trans z)).elim
    exact ⟨one _ z.1, one _ z.2⟩
theorem view_sound (I : Inv g O st σ) (hμ : st.μ[i]? = some (a, d)) (hl : σ[i]? = some (.lst l)) {rest rest' : List MV} {ws : List Value} (e : Z4n w (σ.set i .gone) rest = some rest') (r : VMs g st rest ws) : VMs g (st.lent w a d) rest' ws := by
 cases w with
 | true =>
  replace e : (match mapO (Z0f 30 (σ.set i .gone)) rest with | some ps => some (pvs ps) | none => none) = some rest' := e
  cases h : mapO (Z0f 30 (σ.set i .gone)) rest with
  | none => rw [h] at e; exact Z0a e
  | some ps =>
   rw [h] at e; cases e
   refine Z3g (A2.mapO r (fun v p u rv hp => Z5x (st := st.lent true a d) (st2 := st) (σl := σ.set i .gone) (fun j o p e f => ?_) (fun b n => Z8j I hμ n) (fun p h => ?_) 30 v p u rv hp) h)
   ·by_cases q : j = i
    ·subst q
     rw [List.getElem?_set_self (List.getElem?_eq_some_iff.mp hl).1] at e
     cases e; exact trivial
    ·rw [List.getElem?_set_ne (Ne.symm q)] at e
     exact I.heap.at_ j o p e f
   ·obtain ⟨j, o, h1, h2, h3⟩ := h
    have n : j ≠ i := fun q => by
     subst q
     rw [List.getElem?_set_self (List.getElem?_eq_some_iff.mp hl).1] at h2
     exact h3 (Option.some.inj h2).symm
    have m := I.mine j p h1
    have ne : some (Ow.mine j) ≠ some (.mine i) := fun q => n (by injection q with q; injection q)
    exact ⟨(Z1t (Z2r I hμ m.1 ne)).trans (by rw [m.1]; rfl), (Z1t (Z2r I hμ m.2 ne)).trans (by rw [m.2]; rfl)⟩
 | false =>
  replace e : (match rest.all Z0k with | true => some (rest.map (lift 0)) | false => none) = some rest' := e
  cases h : rest.all Z0k with
  | false => rw [h] at e; exact Z0a e
  | true =>
   rw [h] at e; cases e
   exact vms_lift (l := 0) rfl (VMs.ext (st := st) (st' := (st.lent false a d).lv 0 st.μ) ⟨fun b o n e => ⟨e, Z8j I hμ n⟩, fun _ _ e => e, rfl⟩ r) h
variable {C : Z0j} {A : Around} {r : FnRow} {RR : Result -> Shared -> Prop} {args : List MV} {z : MV} {fa : Addr}
theorem fn_lent (P : PFw g) (X : ExcAt g) (CX : CallX g n C) (L : Leaves g n (calm C)) (Fa : FnAt g fa r) (rm : RoomC A (n + 1)) (fA : FrA A st) (I : Inv g O st σ) (ra : VMs g st args vs) (e : lentM g.cfg C r w args O σ = some (z, σ')) (k : Aft g O st z σ' fun u s' => RR (.ok (.ret u)) s') : codeAny g.M A (.call (.ref fa) ⟨vs, []⟩) RR st.s := by
 obtain ⟨i, rest, rfl⟩ : ∃ i rest, args = .ref i :: rest := by
  cases args with
  | nil => exact Z0a e
  | cons v rest => cases v with
   | ref i => exact ⟨i, rest, rfl⟩
   | _ => exact Z0a e
 replace e : (match Z6e σ i with | some l => (match Z4n w (σ.set i .gone) rest with | some rest' => Y1j g.cfg C r w i l rest' O σ | none => none) | none => none) = some (z, σ') := e
 cases h1 : Z6e σ i with
 | none => rw [h1] at e; exact Z0a e
 | some l =>
  rw [h1] at e
  replace e : (match Z4n w (σ.set i .gone) rest with | some rest' => Y1j g.cfg C r w i l rest' O σ | none => none) = some (z, σ') := e
  cases h2 : Z4n w (σ.set i .gone) rest with
  | none => rw [h2] at e; exact Z0a e
  | some rest' =>
   rw [h2] at e
   replace e : (match binds r (.ref 0 :: rest') with | some ρ => (match exs (topI g.cfg C) r.scope r.body ρ (lentO w σ i O) [.lst l] with | some (t, σl) => Z3k w σ i (outV t) σl | none => none) | none => none) = some (z, σ') := e
   cases h3 : binds r (.ref 0 :: rest') with
   | none => rw [h3] at e; exact Z0a e
   | some ρ =>
    rw [h3] at e
    replace e : (match exs (topI g.cfg C) r.scope r.body ρ (lentO w σ i O) [.lst l] with | some (t, σl) => Z3k w σ i (outV t) σl | none => none) = some (z, σ') := e
    cases h4 : exs (topI g.cfg C) r.scope r.body ρ (lentO w σ i O) [.lst l] with
    | none => rw [h4] at e; exact Z0a e
    | some y =>
     rw [h4] at e
     obtain ⟨hl, is, hi⟩ := head_ints h1
     refine ra.consE fun u ws r0 rs => r0.refE fun a d hμ => ?_
     have fA' : FrA A (st.lent w a d) := fA.to rfl fun b q => (Z1t (Z2r I hμ q nofun)).trans (by rw [q]; rfl)
     have rv : VMs g (st.lent w a d) (.ref 0 :: rest') (.ref a :: ws) := .cons (.ref (d := d) rfl) (view_sound I hμ hl h2 rs)
     refine fn_body (st := st.lent w a d) P X CX L Fa rm fA' (lent_inv I hμ hl hi) rv h3 (show exs (topI g.cfg C) r.scope r.body ρ (lentO w σ i O) [.lst l] = some (y.1, y.2) from h4) fun st2 W I2 X2 hW => ⟨fun u r => lent_back I hμ I2 X2 hW r e k, fun q => ?_⟩
     obtain ⟨l', σr, is', p, -, -, hp, -⟩ := lentE e
     rw [q] at hp; exact Z0a hp
theorem fn_sound (P : PFw g) (X : ExcAt g) (CX : CallX g n C) (L : Leaves g n (calm C)) (Fa : FnAt g fa r) (rm : RoomC A (n + 1)) (fA : FrA A st) (I : Inv g O st σ) (ra : VMs g st args vs) (e : fnM g.cfg C r args O σ = some (z, σ')) (k : Aft g O st z σ' fun u s' => RR (.ok (.ret u)) s') (kx : z = .exc -> AftE g A O st σ' fun e s' => RR (.error e) s') : codeAny g.M A (.call (.ref fa) ⟨vs, []⟩) RR st.s := by
 cases hp : r.isPure with
 | false => exact fn_open P X CX L Fa rm fA I ra (fnM_o hp ▸ e) k kx
 | true =>
  cases hw : r.lent with
  | some w => exact fn_lent P X CX L Fa rm fA I ra (fnM_l hp hw ▸ e) k
  | none =>
   cases ha : Z0z args with
   | some ps => exact fn_pure P X CX L Fa rm fA I I.blank (deep_pvs ra ha) (fnM_p hp hw ha ▸ e) k
   | none =>
    cases hl : args.all Z0k with
    | true => exact fn_pure P X CX L Fa rm fA I I.inner (vms_lift (l := 0) rfl (VMs.ext (st := st) (st' := (st.deep (st.μ :: st.μo)).lv 0 st.μ) ⟨fun a o n e => ⟨e, congrArg dOwn n⟩, fun _ _ e => e, rfl⟩ ra) hl) (fnM_r hp hw ha hl ▸ e) k
    | false =>
     replace e : (match r.isPure with
      | false => openM g.cfg C r args
      | true => match r.lent with
       | some w => lentM g.cfg C r w args
       | none => match Z0z args with
        | some _ => Y0z g.cfg C r args fun _ _ => []
        | none => match args.all Z0k with
         | true => Y0z g.cfg C r (args.map (lift 0)) fun O σ => σ :: O
         | false => bad) O σ = some (z, σ') := e
     rw [hp, hw, ha, hl] at e
     exact Z0a e
end
structure PFf (g : Gl) : Prop where
 base : PFw g
 exc : ExcAt g
 fns : ∀ a r, g.cfg.fns a = some r -> FnAt g a r
 cls : ∀ c row, g.cfg.cls c = some row -> ClsAt g c row
 leaves : ∀ n C, CallS g n C -> Leaves g n C
section
variable {O : Z0c} {st : St} {σ σ' : Hp} {m : Nat} {A : Around} {E : Value -> Shared -> Prop} {args : List MV} {vs : List Value} {z : MV} {Q : Value -> Shared -> Prop} {a c : Addr} {row : ClsRow}
theorem RoomC.made {n : Nat} (rm : RoomC A (n + 1)) (c : Addr) (vs : List Value) : RoomC (A.under (.builtin "type.__call__" ⟨.ref c :: vs, []⟩)) n := by
 refine ⟨rm.handled, ?_, ?_⟩
 ·rw [depth_under_kw]; have := rm.depth; omega
 ·have := rm.units
  show A.units + 1 + 40 * n + 390 < 9900
  omega
theorem noneE {x : Option (MV × Hp)} {f : Hp -> Option (MV × Hp)} {y : MV × Hp} (e : noneV x f = some y) {P : Prop} (k : ∀ σl, x = some (.pv .none, σl) -> f σl = some y -> P) : P := by
 cases x with
 | none => exact Z0a e
 | some t =>
  obtain ⟨v, σl⟩ := t
  cases v with
  | pv p => cases p with
   | none => exact k σl rfl e
   | _ => exact Z0a e
  | _ => exact Z0a e
theorem make_obj (P : PFf g) (hc : g.cfg.cls c = some row) (CX : CallX g m (mraw g.cfg m)) (rm : RoomC A (m + 1 + 1)) (fA : FrA A st) (I : Inv g O st σ) (ra : VMs g st args vs) (e : mraw g.cfg (m + 1) (.fn row.init) (.ref σ.length :: args) O (σ ++ [.obj c []]) = some (.pv .none, σ'))
  (k : ∀ st' x, Inv g O st' σ' -> Step [] st st' -> VM g st' (.ref σ.length) (.ref x) -> Q (.ref x) st'.s) : wpAny g.M A (call (.ref c) vs) Q E st.s := by
 have CA := P.cls c row hc
 obtain ⟨r, hr, hp⟩ := CA.op
 rw [Y1d hr, fnM_o hp] at e
 have X : g.K.In st.h := P.base.kin.keeps I.up
 refine wpAny_call (make_core (makes_of X CA.makes) (looks_findIn X CA.init) (fun self => bind_fn X self CA.fn) (.inl rfl) ?_)
 have hk : ∀ a, Kp st.h ((st.h.push emptyDict).push (instObj c st.h.objs.size)) a := fun a o q => Heap.get?_push_of_some _ (Heap.get?_push_of_some _ q)
 have hx0 : st.h.get? (st.h.objs.size + 1) = none := by
  cases q : st.h.get? (st.h.objs.size + 1) with
  | none => rfl
  | some o => exact absurd (Heap.lt_size q) (Nat.not_lt.mpr (Nat.le_succ _))
 have hx1 : ((st.h.push emptyDict).push (instObj c st.h.objs.size)).get? (st.h.objs.size + 1) = some (instObj c st.h.objs.size) := by
  have := Heap.get?_push_size (st.h.push emptyDict) (o := instObj c st.h.objs.size) rfl
  rwa [Heap.size_push] at this
 have hdd : ((st.h.push emptyDict).push (instObj c st.h.objs.size)).DictOf g.sk st.h.objs.size [] := Z4y (Heap.DictOf.new st.h) fun o q => Heap.get?_push_of_some _ q
 have hld := Z2w hdd
 have hN : ∀ a ∈ [st.h.objs.size + 1, st.h.objs.size], st.h.get? a = none /\ ∃ o, ((st.h.push emptyDict).push (instObj c st.h.objs.size)).get? a = some o := fun a h => by
  rcases List.mem_cons.mp h with rfl | h
  ·exact ⟨hx0, _, hx1⟩
  ·obtain rfl := List.mem_singleton.mp h
   exact ⟨Z0h _, hld⟩
 have I1 := I.res (L := none) (s' := { st.s with heap := (st.h.push emptyDict).push (instObj c st.h.objs.size) }) hk hN rfl rfl
 have I2 := I1.adopt (o := .obj c []) (a := st.h.objs.size + 1) (d := st.h.objs.size) (Z8t (.head _)) (Z8t (.tail _ (.head _))) fun _ => ⟨[], ⟨_, hx1⟩, hdd, .nil⟩
 have x2 := (Step.res (L := none) (st := st) (s' := { st.s with heap := (st.h.push emptyDict).push (instObj c st.h.objs.size) }) hk fun a h => (hN a h).1).adopt hx0 (Z0h _)
 have hμ := adopt_at (st.h.objs.size + 1) st.h.objs.size I1
 have fA2 : FrA (A.under (.builtin "type.__call__" ⟨.ref c :: vs, []⟩)) _ := fA.go x2
 refine fn_open P.base P.exc CX (P.leaves m _ CX.calm) (P.fns _ _ hr) (rm.made c vs) fA2 I2 (.cons (.ref hμ) (ra.go x2)) e (fun st3 u I3 x3 r3 => ?_) nofun
 exact r3.p.noneE ⟨rfl, k st3 _ I3 (x2.trans x3) (.ref (x3.mu _ _ hμ))⟩
theorem call_cls (P : PFf g) (hc : g.cfg.cls c = some row) (CX : CallX g m (mraw g.cfg m)) (rm : RoomC A (m + 1 + 1)) (fA : FrA A st) (I : Inv g O st σ) (ra : VMs g st args vs) (e : clsM (mraw g.cfg (m + 1)) c row args O σ = some (z, σ')) (k : Aft g O st z σ' Q) : wpAny g.M A (call (.ref c) vs) Q E st.s := by
 cases hf : row.isFrozen with
 | false =>
  rw [clsM_o hf] at e
  exact noneE e fun σl h1 h2 => make_obj P hc CX rm fA I ra h1 fun st' x I' X r => by
   cases h2; exact k st' _ I' X r
 | true =>
  replace e : (match row.isFrozen with
   | true => (match Z0z args with
    | some _ => fun _ σ => noneV (mraw g.cfg (m + 1) (.fn row.init) (.ref 0 :: args) [] [.obj c []]) fun σl => frz σ σl (.ref 0)
    | none => bad)
   | false => fun O σ => noneV (mraw g.cfg (m + 1) (.fn row.init) (.ref σ.length :: args) O (σ ++ [.obj c []])) fun σ' => some (.ref σ.length, σ') : Mm MV) O σ = some (z, σ') := e
  rw [hf] at e
  cases ha : Z0z args with
  | none =>
   replace e : (match Z0z args with
    | some _ => fun _ σ => noneV (mraw g.cfg (m + 1) (.fn row.init) (.ref 0 :: args) [] [.obj c []]) fun σl => frz σ σl (.ref 0)
    | none => bad : Mm MV) O σ = some (z, σ') := e
   rw [ha] at e; exact Z0a e
  | some ps =>
   replace e : (match Z0z args with
    | some _ => fun _ σ => noneV (mraw g.cfg (m + 1) (.fn row.init) (.ref 0 :: args) [] [.obj c []]) fun σl => frz σ σl (.ref 0)
    | none => bad : Mm MV) O σ = some (z, σ') := e
   rw [ha] at e
   exact noneE e fun σl h1 h2 => make_obj (st := st.deep []) P hc CX rm (fA.to rfl fun a q => congrArg dOwn q) I.blank (deep_pvs ra ha) h1 fun st' x I' X r => back I I' X (fun _ h => nomatch h) r h2 k
theorem fnsE {f : FnRow -> Mm MV} {y : MV × Hp} (e : (match g.cfg.fns a with | some r => f r | none => bad) O σ = some y) {P : Prop} (k : ∀ r, g.cfg.fns a = some r -> f r O σ = some y -> P) : P := by
 cases h : g.cfg.fns a with
 | none => rw [h] at e; exact Z0a e
 | some r => rw [h] at e; exact k r h e
theorem clsE {f : ClsRow -> Mm MV} {y : MV × Hp} (e : (match g.cfg.cls a with | some r => f r | none => bad) O σ = some y) {P : Prop} (k : ∀ r, g.cfg.cls a = some r -> f r O σ = some y -> P) : P := by
 cases h : g.cfg.cls a with
 | none => rw [h] at e; exact Z0a e
 | some r => rw [h] at e; exact k r h e
theorem mraw_keep (P : PFf g) {p : PV} {r : MV × Hp} (e : mraw g.cfg (m + 1) p args O σ = some r) : ∃ a, (p = .fn a \/ p = .cls a) /\ keepIn g.K (.ref a) = true := by
 cases p with
 | fn a => exact fnsE e fun r hr _ => ⟨a, .inl rfl, (P.fns a r hr).keep⟩
 | cls c => exact clsE e fun r hr _ => ⟨c, .inr rfl, (P.cls c r hr).keep⟩
 | _ => exact Z0a e
theorem callX_two (P : PFf g) : ∀ m, CallX g m (mraw g.cfg m) /\ CallX g (m + 1) (mraw g.cfg (m + 1))
 | 0 =>
  have z : CallX g 0 (mraw g.cfg 0) := ⟨fun _ _ _ _ _ e _ _ => Z0a e, fun e => Z0a e⟩
  ⟨z, fun {O st σ A E p args u vs z' σ' Q} rm fA I rp ra e k kx => by
   cases p with
   | fn a => exact rp.p.fnE (fnsE e fun r hr e => wpAny_call (fn_sound P.base P.exc z (P.leaves 0 _ z.calm) (P.fns a r hr) rm fA I ra e k kx))
   | cls c =>
    refine clsE e fun row hr e => ?_
    cases hf : row.isFrozen with
    | false => rw [clsM_o hf] at e; exact Z0a e
    | true =>
     unfold clsM at e
     rw [hf] at e
     dsimp only at e
     cases ha : Z0z args with
     | none => rw [ha] at e; exact Z0a e
     | some ps => rw [ha] at e; exact Z0a e
   | _ => exact Z0a e, mraw_keep P⟩
 | m + 1 =>
  have ⟨y, x⟩ := callX_two P m
  ⟨x, fun {O st σ A E p args u vs z' σ' Q} rm fA I rp ra e k kx => by
   cases p with
   | fn a => exact rp.p.fnE (fnsE e fun r hr e => wpAny_call (fn_sound P.base P.exc x (P.leaves _ _ x.calm) (P.fns a r hr) rm fA I ra e k kx))
   | cls c => exact rp.p.clsE (clsE e fun row hr e => call_cls P hr y rm fA I ra e k)
   | _ => exact Z0a e, mraw_keep P⟩
theorem callS_all (P : PFf g) (m : Nat) : CallS g m (Z0d g.cfg m) := (callX_two P m).1.calm
end
section
local macro_rules | `(tactic| cases $x:ident) => `(tactic| first | exact Z0a $x | exact Z0y $x | exact no_tf $x | fail)
section
variable {prog : Program} {w : World} {A : Around} {E : Value -> Shared -> Prop} {s : Shared}
theorem keys_miss {a : Addr} {xs : Array Value} {k : Nat} {Q : Option Value -> Shared -> Prop} (hA : A.handled = none) (hx : s.heap.get? a = some { cls := .type "list", dict := none, data := .seq xs k, slots := #[] })
  (h : ∀ h' tk, (∀ b o, s.heap.get? b = some o -> h'.get? b = some o) -> Q none { s with heap := h', toks := tk }) : wpAny (model prog w) A (getAttr? (.ref a) "keys") Q E s := by
 obtain ⟨hp, g, d, tk, os⟩ := s
 have hT : ∀ tk', (⟨hp, g, d, tk', os⟩ : Shared).TypeIs (.ref a) "list" := fun _ => ⟨_, hx, rfl⟩
 have f1 := sub_AttributeError
 have f3 := F.slot_list_getattribute.lookup
 have f4 := F.slot_list_getattribute.bind (.ref a)
 have f5 := am_list_getattr_none
 have hmiss : typeLookup (.type "list") "keys" = pure none := am_miss_of_fast (by decide +kernel)
 unfold getAttr? getAttrBy? getAttrBy
 repeat (any_goals (first | assumption | exact hT _ | ((with_reducible show wpAny _ _ (call (Value.builtin "list.__getattribute__") _ _) _ _ _); refine call_meets F.slot_list_getattribute (hT _) am_entry_list_getattribute (F.args_list_getattribute_2 _ _) (meets_getattribute_miss_list a xs k #[] "keys" _ hmiss (by decide +kernel) (by decide +kernel)) ⟨hx, hA, fun h' tk' e hx' => ?_⟩) | wp_step))
 obtain ⟨t', u', he⟩ := hx'.there
 show wpAny _ _ (getattributeRaised _ _ _ _ _ _ _) _ _ _
 unfold getattributeRaised
 repeat (any_goals (first | assumption | wp_step))
 exact h _ _ hx'.keeps
end
inductive PairsAt (D it : Addr) (h : Heap) : List Value -> List (Str × Value) -> Prop
 | nil : PairsAt D it h [] []
 | cons {t : Addr} {k : Str} {tk : Tok} {v : Value} {us : List Value} {kvs : List (Str × Value)} : t ≠ D -> t ≠ it -> TX h t [.str k tk, v] -> PairsAt D it h us kvs -> PairsAt D it h (.ref t :: us) ((k, v) :: kvs)
theorem PairsAt.keep {h h' : Heap} {D it : Addr} (hk : ∀ b o, b ≠ D -> b ≠ it -> h.get? b = some o -> h'.get? b = some o) : ∀ {us : List Value} {kvs : List (Str × Value)}, PairsAt D it h us kvs -> PairsAt D it h' us kvs
 | _, _, .nil => .nil
 | _, _, .cons n1 n2 a b => .cons n1 n2 (a.at fun o q => hk _ o n1 n2 q) (PairsAt.keep hk b)
theorem PairsAt.length {D it : Addr} {h : Heap} : ∀ {us : List Value} {kvs : List (Str × Value)}, PairsAt D it h us kvs -> us.length = kvs.length
 | _, _, .nil => rfl
 | _, _, .cons _ _ _ b => by simp [b.length]
section
variable {prog : Program} {w : World} {A : Around} {E : Value -> Shared -> Prop}
theorem Z4j : entryFor table "dict.update.loop" = some Builtin.«dict.update.loop» := entryFor_of_tree (by kernel_rfl)
theorem Y1b {s : Shared} {t : Addr} {vs : List Value} {Q : List Value -> Shared -> Prop} (x : TX s.heap t vs) (h : Q vs s) : wpAny (model prog w) A (Builtin.Dict.pairItems (.ref t)) Q E s := by
 obtain ⟨n, x⟩ := x
 unfold Builtin.Dict.pairItems
 refine wpAny_bind (wpAny_typeOf (T := "tuple") ⟨_, x, rfl⟩ ?_)
 have e : (Value.type "tuple" == Value.type "list" || Value.type "tuple" == Value.type "tuple") = true := by decide
 rw [e]
 simp only [if_true]
 refine wpAny_bind (wpAny_seqItems x rfl (wpAny_pure ?_))
 simpa using h
theorem update_loop {D it l : Addr} {all : List Value} (hDi : D ≠ it) (hlD : l ≠ D) (hli : l ≠ it) : ∀ (m : Nat) (i : Nat) (s : Shared) (j : Int) (jt : Tok) (us : List Value) (kvs acc : List (Str × Value)) {R : Result -> Shared -> Prop}, m = us.length -> A.handled = none -> s.heap.IsListIter it l i -> s.heap.IsList l all.toArray -> us = all.drop i -> PairsAt D it s.heap us kvs ->
  s.heap.DictOf (PySem.strKind prog w) D acc -> acc.length + kvs.length <= 1000000 ->
  (∀ h' tk, h'.DictOf (PySem.strKind prog w) D (merged acc kvs) -> (∀ b o, b ≠ D -> b ≠ it -> s.heap.get? b = some o -> h'.get? b = some o) -> R (.ok (.ret .none)) { s with heap := h', toks := tk }) ->
  codeAny (model prog w) A (.builtin "dict.update.loop" ⟨[.ref D, .ref it, .int j jt, .none], []⟩) R s := by
 intro m
 induction m with
 | zero =>
  intro i s j jt us kvs acc R hm hA hit hl hus hp hd hsz hR
  refine codeAny_builtin Z4j ?_
  have hA' : (A.under (.builtin "dict.update.loop" ⟨[.ref D, .ref it, .int j jt, .none], []⟩)).handled = none := hA
  cases hp with
  | nil =>
   have hx : all.toArray[i]? = none := by
    have := List.drop_eq_nil_iff.mp hus.symm
    simp [this]
   show wpAny _ _ (pyNext (.ref it) >>= _) _ _ s
   refine wpAny_bind (wpAny_pyNext_list_end hA' hit hl hx fun h' he => ?_)
   show wpAny _ _ (Builtin.Dict.addKeywords D [] >>= _) _ _ _
   refine wpAny_bind (wpAny_pure (wpAny_pure ?_))
   refine hR h' s.toks ?_ fun b o _ b2 q => he b o b2 q
   exact Z4y hd fun o q => he D o hDi q
  | cons _ _ _ _ => exact absurd hm.symm (Nat.succ_ne_zero _)
 | succ m ih =>
  intro i s j jt us kvs acc R hm hA hit hl hus hp hd hsz hR
  refine codeAny_builtin Z4j ?_
  have hA' : (A.under (.builtin "dict.update.loop" ⟨[.ref D, .ref it, .int j jt, .none], []⟩)).handled = none := hA
  cases hp with
  | nil => exact absurd hm (Nat.succ_ne_zero _)
  | @cons t k tk v us kvs n1 n2 htx hrest =>
   have hi : i < all.length := by
    apply Nat.lt_of_not_le
    intro q
    rw [List.drop_eq_nil_of_le q] at hus; cases hus
   have hus2 : us = all.drop (i + 1) := by
    rw [List.drop_eq_getElem_cons hi] at hus
    injection hus with h1 h2
   have hx : all.toArray[i]? = some (.ref t) := by
    rw [List.drop_eq_getElem_cons hi] at hus
    injection hus with h1 h2
    simp [hi, <- h1]
   show wpAny _ _ (pyNext (.ref it) >>= _) _ _ s
   refine wpAny_bind (wpAny_pyNext_list_item hit hl hx fun h1 hit1 hs1 => ?_)
   have htx1 : TX h1 t [.str k tk, v] := htx.at fun o q => hs1.extBut t o n2 q
   refine wpAny_bind (m := holding [Value.ref t] _) (wpAny_holding (wpAny_bind (wpAny_tryCatch (Y1b htx1 ?_))))
   have hd1 : h1.DictOf (PySem.strKind prog w) D acc := Z4y hd fun o q => hs1.extBut D o hDi q
   refine wpAny_holding (wpAny_dictSet_pairs (knd := PySem.strKind prog w) (k := k) (by simp [PySem.strKind, Value.isStrOf]) hd1 (fun h2 hd2 hs2 => ?_) (by rw [List.length_cons] at hsz; exact Nat.le_trans (by omega : acc.length <= 1000000) (by decide)))
   refine wpAny_pure ⟨Code.quiet_builtin _ (by decide +kernel), ?_⟩
   have hk2 : ∀ b o, b ≠ D -> b ≠ it -> s.heap.get? b = some o -> h2.get? b = some o := fun b o b1 b2 q => hs2.extBut b o b1 (hs1.extBut b o b2 q)
   refine ih (i + 1) _ (j + 1) 0 us kvs (stored acc k v) (Nat.succ.inj hm) hA ?_ ?_ hus2 (hrest.keep hk2) hd2 ?_ ?_
   ·obtain ⟨o, q, r⟩ := hit1
    exact ⟨o, hs2.extBut it o (Ne.symm hDi) q, r⟩
   ·obtain ⟨o, q, r⟩ := hl
    exact ⟨o, hk2 l o hlD hli q, r⟩
   ·have := stored_length_le acc k v
    rw [List.length_cons] at hsz
    omega
   ·intro h' tk' hd' hk'
    exact hR h' tk' hd' fun b o b1 b2 q => hk' b o b1 b2 (hk2 b o b1 b2 q)
end
section
variable {prog : Program} {w : World} {A : Around} {E : Value -> Shared -> Prop}
theorem dict_pairs {s : Shared} {l : Addr} {us : List Value} {kvs : List (Str × Value)} {Q : Value -> Shared -> Prop} (hA : A.handled = none) (hl : LX s.heap l us) (hp : ∀ D it, s.heap.get? D = none -> s.heap.get? it = none -> PairsAt D it s.heap us kvs) (hsz : us.length <= 1000000)
  (h : ∀ D h' tk, s.heap.get? D = none -> h'.DictOf (PySem.strKind prog w) D (merged [] kvs) -> (∀ b o, s.heap.get? b = some o -> h'.get? b = some o) -> Q (.ref D) { s with heap := h', toks := tk }) :
  wpAny (model prog w) A (call (.type "dict") [.ref l]) Q E s := by
 refine callType_codes (Q₁ := fun obj s₁ => obj = .ref s.heap.objs.size /\ s₁ = { s with heap := s.heap.push { cls := .type "dict", data := .dict #[] } }) F.kt_called_dict (F.kt_typeCall_dict_1 _) F.entry_dict_init (kt_code_dict_new _ ⟨rfl, rfl⟩) ?_
 rintro obj s₁ ⟨rfl, rfl⟩
 generalize hDD : s.heap.objs.size = D
 have hD0 : s.heap.get? D = none := hDD ▸ Z0h _
 have hnew : (s.heap.push { cls := .type "dict", data := .dict #[] }).DictOf (PySem.strKind prog w) D [] := hDD ▸ Heap.DictOf.new s.heap
 have hk0 : ∀ b o, s.heap.get? b = some o -> (s.heap.push { cls := .type "dict", data := .dict #[] }).get? b = some o := fun b o q => Heap.get?_push_of_some _ q
 obtain ⟨n, hl0⟩ := hl
 have hl1 := hk0 _ _ hl0
 refine ⟨hnew.typeIs, F.args_dict_init_2 _ _, ?_⟩
 unfold Builtin.«dict.__init__»
 refine wpAny_bind ?_
 unfold Builtin.Dict.selfAndRest
 refine wpAny_bind (wpAny_notOrdered_dict hnew.typeIs ?_)
 show wpAny _ _ (pure (D, [Value.ref l])) _ _ _
 refine wpAny_pure ?_
 show wpAny _ _ (Builtin.Dict.updateFrom "dict.__init__" D (.ref l) [] .none) _ _ _
 unfold Builtin.Dict.updateFrom
 refine wpAny_bind (wpAny_typeOf (T := "list") ⟨_, hl1, rfl⟩ ?_)
 rw [if_pos (by decide)]
 refine wpAny_bind (keys_miss (A := A.in1.in1) hA hl1 fun h' tk hk => ?_)
 simp only [Option.isNone_none, if_true]
 refine wpAny_bind (wpAny_rule ?_)
 have hl2 : h'.IsList l us.toArray := ⟨_, hk _ _ hl1, rfl, n, rfl⟩
 refine wpAny_bind (wpAny_pyIter_list (s := { s with heap := h', toks := tk }) hl2 ?_)
 generalize hII : h'.objs.size = it
 have hI0 : h'.get? it = none := hII ▸ Z0h _
 have hIs : s.heap.get? it = none := by
  cases q : s.heap.get? it with
  | none => rfl
  | some o => rw [hk _ _ (hk0 _ _ q)] at hI0; cases hI0
 have hDl : ∃ o, h'.get? D = some o := let ⟨o, _, _, q, _⟩ := hnew; ⟨o, hk _ _ q⟩
 have hDi : D ≠ it := fun q => by obtain ⟨o, z⟩ := hDl; rw [q, hI0] at z; cases z
 have hki : ∀ b o, h'.get? b = some o -> (h'.push { cls := .type "list_iterator", data := .fields #[.ref l, .int 0 0] }).get? b = some o := fun b o q => Heap.get?_push_of_some _ q
 have hitg : (h'.push { cls := .type "list_iterator", data := .fields #[.ref l, .int 0 0] }).get? it = some { cls := .type "list_iterator", data := .fields #[.ref l, .int 0 0] } := hII ▸ Z4b rfl
 have all : ∀ b o, s.heap.get? b = some o -> (h'.push { cls := .type "list_iterator", data := .fields #[.ref l, .int 0 0] }).get? b = some o := fun b o q => hki _ _ (hk _ _ (hk0 _ _ q))
 refine wpAny_pure ⟨Code.quiet_builtin _ (by decide +kernel), ?_⟩
 have hpp := hp D it hD0 hIs
 refine update_loop (prog := prog) (w := w) (all := us) (l := l) hDi (fun q => by rw [q, hD0] at hl0; cases hl0) (fun q => by rw [q, hIs] at hl0; cases hl0) us.length 0 _ 0 0 us kvs [] rfl hA ⟨_, hitg, rfl, rfl⟩ ⟨_, hki _ _ (hk _ _ hl1), rfl, n, rfl⟩ rfl
  (hpp.keep fun b o _ _ q => all b o q) (Z4y hnew fun o q => hki _ _ (hk _ _ q)) (by rw [<- hpp.length]; simpa using hsz) fun h3 tk3 hd3 hk3 => ?_
 refine ⟨rfl, h D h3 tk3 hD0 hd3 fun b o q => hk3 b o (fun z => by rw [z, hD0] at q; cases q) (fun z => by rw [z, hIs] at q; cases q) (all b o q)⟩
end
section
variable {prog : Program} {w : World} {A : Around} {E : Value -> Shared -> Prop} {s : Shared}
theorem dictAt_of {h : Heap} {d : Addr} {kvs : List (Str × Value)} (x : h.DictOf (PySem.strKind prog w) d kvs) : ∃ ep, h.DictAt (PySem.strKind prog w) d kvs ep := let ⟨o, es, ep, a, b, c⟩ := x; ⟨ep, o, es, a, b, c⟩
theorem collect_dict {d : Addr} {kvs : List (Str × Value)} {Q : List Value -> Shared -> Prop} (hh : A.handled = none) (hds : (d == sysModules) = false) (hm : s.heap.DictOf (PySem.strKind prog w) d kvs) (hn : kvs.length <= 1000000)
  (hQ : ∀ s' acc, (∀ b o, s.heap.get? b = some o -> s'.heap.get? b = some o) -> s'.gens = s.gens -> s'.os = s.os -> s'.drawn = s.drawn -> ItemsOf (fun i v => ∃ k x, kvs[i]? = some (k, x) /\ (PySem.strKind prog w).is k v = true) acc kvs.length -> Q acc.toList s') :
  wpAny (model prog w) A (collect (.ref d)) Q E s := by
 obtain ⟨ep, hm⟩ := dictAt_of hm
 have hd0 : ∃ o, s.heap.get? d = some o := let ⟨o, _, q, _⟩ := hm; ⟨o, q⟩
 unfold collect
 refine wpAny_bind (wpAny_runValue (codeAny_builtin F.entry_proto_collect ?_))
 rw [Around.under_plainId F.plain_proto_collect _]
 show wpAny _ A.in1 (newList [] >>= fun l => again (.builtin "list.__iadd__" ⟨[l, .ref d], []⟩)) _ _ s
 refine wpAny_bind (wpAny_newObj_type ?_)
 refine wpAny_pure ⟨plainId_quiet F.plain_list_iadd _, codeAny_builtin F.entry_list_iadd ?_⟩
 rw [Around.under_plainId F.plain_list_iadd _]
 generalize hSS : s.heap.objs.size = S
 have hS0 : s.heap.get? S = none := hSS ▸ Z0h _
 have hSd : S ≠ d := fun q => by obtain ⟨o, z⟩ := hd0; rw [<- q, hS0] at z; cases z
 have k1 : ∀ b o, s.heap.get? b = some o -> (s.heap.push { cls := .type "list", data := .seq ([] : List Value).toArray }).get? b = some o := fun b o q => Heap.get?_push_of_some _ q
 have hS1 : (s.heap.push { cls := .type "list", data := .seq ([] : List Value).toArray }).get? S = some { cls := .type "list", data := .seq ([] : List Value).toArray } := hSS ▸ Heap.get?_push_size _ rfl
 have hsz1 : (s.heap.push { cls := .type "list", data := .seq ([] : List Value).toArray }).objs.size = S + 1 := by rw [Heap.size_push, hSS]
 generalize hH1 : s.heap.push { cls := .type "list", data := .seq ([] : List Value).toArray } = H1 at k1 hS1 hsz1
 have hm1 : H1.DictAt (PySem.strKind prog w) d kvs ep := hm.at' fun o q => k1 d o q
 show wpAny _ A.in1 (Builtin.List.listExtendWith (.ref S) (.ref d) (.ref S)) _ _ { s with heap := H1 }
 unfold Builtin.List.listExtendWith
 refine wpAny_bind (wpAny_typeOf (T := "dict") hm1.dictOf.typeIs ?_)
 have h1 : Builtin.List.listSameRef (.ref S) (.ref d) = false := by simp [Builtin.List.listSameRef, hSd]
 refine wpAny_ite_false (by rw [h1]; decide) ?_
 refine wpAny_bind (wpAny_pyIter_dict (s := { s with heap := H1 }) (knd := PySem.strKind prog w) hds hm1 ?_)
 generalize hII : H1.objs.size = I
 have hI0 : H1.get? I = none := hII ▸ Z0h _
 have k2 : ∀ b o, H1.get? b = some o -> (H1.push { cls := .type "dict_keyiterator", data := .fields #[.ref d, .int 0 0, .int kvs.length 0, .int ep 0] }).get? b = some o := fun b o q => Heap.get?_push_of_some _ q
 have hI2 : (H1.push { cls := .type "dict_keyiterator", data := .fields #[.ref d, .int 0 0, .int kvs.length 0, .int ep 0] }).get? I = some { cls := .type "dict_keyiterator", data := .fields #[.ref d, .int 0 0, .int kvs.length 0, .int ep 0] } := hII ▸ Z4b rfl
 generalize hH2 : H1.push { cls := .type "dict_keyiterator", data := .fields #[.ref d, .int 0 0, .int kvs.length 0, .int ep 0] } = H2 at k2 hI2
 have hm2 : H2.DictAt (PySem.strKind prog w) d kvs ep := hm1.at' fun o q => k2 d o q
 have hS2 := k2 _ _ hS1
 have hSI : S ≠ I := fun q => by rw [q, hI0] at hS1; cases hS1
 have hdI : d ≠ I := fun q => by obtain ⟨o, _, z, _⟩ := hm1; rw [q, hI0] at z; cases z
 refine wpAny_bind (wpAny_holding ?_)
 have hT2 : ({ s with heap := H2 } : Shared).TypeIs (.ref d) "dict" := hm2.dictOf.typeIs
 unfold Builtin.List.listLengthHint
 refine wpAny_bind (wpAny_specialOf hT2 F.slot_dict_len.lookup ?_)
 generalize hid : ("dict.__len__" : String) = id0
 dsimp only
 rw [show splitId id0 = some ("dict", "__len__") from by subst hid; decide +kernel]
 subst hid
 dsimp only
 refine wpAny_bind (wpAny_isInstance (b := true) hT2 isSubtype_dict_dict ?_)
 refine wpAny_ite_false (by decide) (wpAny_ite_true (by decide +kernel) ?_)
 refine wpAny_bind (wpAny_typeOf (T := "dict") hT2 ?_)
 refine wpAny_pure (wpAny_ite_true (by decide +kernel) ?_)
 refine wpAny_bind (wpAny_rule ?_)
 refine wpAny_bind ?_
 show wpAny _ A.in1 (updateSeq S (·.push .none) >>= fun _ => updateSeq S (·.pop)) _ _ _
 refine wpAny_bind (wpAny_updateSeq hS2 rfl ?_)
 have hS3 := Heap.get?_update_self (Obj.mapSeq (·.push Value.none)) hS2 rfl
 refine wpAny_updateSeq hS3 rfl ?_
 have hS4 := Heap.get?_update_self (Obj.mapSeq (·.pop)) hS3 rfl
 have oth : ∀ b o, b ≠ S -> H2.get? b = some o -> ((H2.update S (Obj.mapSeq (·.push Value.none))).update S (Obj.mapSeq (·.pop))).get? b = some o :=
  fun b o hb e => (Heap.get?_update_other _ _ (Ne.symm hb)).trans ((Heap.get?_update_other _ _ (Ne.symm hb)).trans e)
 have W := (Walks.dictKeys (prog := prog) (w := w) (knd := PySem.strKind prog w) (A := A.in1) hh I d hdI kvs ep).toS
 have hSf : S ∉ [I, d] := fun q => by
  rcases List.mem_cons.mp q with q | q
  ·exact hSI q
  ·exact hSd (List.mem_singleton.mp q)
 refine wpAny_pure ⟨plainId_quiet F.plain_extend_loop _, codeAny_extend_loopS W (Nat.le_trans hn (by decide)) S hSf _ kvs.length 0 _ _ _ rfl (Nat.zero_le _) ⟨?_, ?_⟩ hS4 (ItemsOf.nil _) fun s' acc' c' hmv hS' hacc => ?_⟩
 ·exact ⟨_, oth I _ (Ne.symm hSI) hI2, rfl, rfl⟩
 ·exact hm2.at' fun o q => oth d o (Ne.symm hSd) q
 ·show wpAny _ A (load S >>= _) _ _ s'
  refine wpAny_bind (wpAny_load hS' ?_)
  refine wpAny_pure (hQ s' acc' (fun b o q => ?_) hmv.gens hmv.os hmv.drawn hacc)
  have hbS : b ≠ S := fun z => by rw [z, hS0] at q; cases q
  have q1 := k1 b o q
  have hbI : b ≠ I := fun z => by rw [z, hI0] at q1; cases q1
  exact hmv.heap b o (fun z => by
   rcases List.mem_cons.mp z with z | z
   ·exact hbS z
   ·exact hbI (List.mem_singleton.mp z)) (oth b o hbS (k2 b o q1))
end
theorem leStr_eq : ∀ a b : List Nat, leStr a b = decide (a <= b)
 | [], b => by unfold leStr; simp
 | a :: r, [] => by unfold leStr; simp
 | a :: x, b :: y => by
  unfold leStr
  rw [leStr_eq x y]
  by_cases h : a < b
  ·have e : Nat.blt a b = true := by simpa [Nat.blt_eq] using h
   rw [e]
   simp [List.cons_le_cons_iff, h]
  ·have e : Nat.blt a b = false := by
    cases q : Nat.blt a b with
    | false => rfl
    | true => exact absurd (by simpa [Nat.blt_eq] using q) h
   rw [e]
   by_cases h2 : a = b
   ·subst h2
    simp [List.cons_le_cons_iff]
   ·have e2 : Nat.beq a b = false := by
     cases q : Nat.beq a b with
     | false => rfl
     | true => exact absurd (Nat.eq_of_beq_eq_true q) h2
    rw [e2]
    simp [List.cons_le_cons_iff, h, h2]
noncomputable def Sle (a b : Str) : Prop := a.cps.toList <= b.cps.toList
theorem sle_of_not {a b : Str} (h : ¬ Sle a b) : Sle b a := by
 rcases List.le_total a.cps.toList b.cps.toList with q | q
 ·exact absurd q h
 ·exact q
theorem Y1m {α : Type} (x : Str × α) : ∀ l : List (Str × α), (insK x l).Perm (x :: l)
 | [] => .refl _
 | y :: r => by
  unfold insK
  split
  ·exact .refl _
  ·exact ((Y1m x r).cons y).trans (.swap x y r)
theorem Y1k {α : Type} (x : Str × α) : ∀ l : List (Str × α), l.Pairwise (fun a b => Sle a.1 b.1) -> (insK x l).Pairwise fun a b => Sle a.1 b.1
 | [], _ => by unfold insK; simp
 | y :: r, h => by
  obtain ⟨h1, h2⟩ := List.pairwise_cons.mp h
  unfold insK
  rw [leStr_eq]
  by_cases q : x.1.cps.toList <= y.1.cps.toList
  ·simp only [q, decide_true]
   refine List.pairwise_cons.mpr ⟨fun z hz => ?_, h⟩
   rcases List.mem_cons.mp hz with rfl | hz
   ·exact q
   ·exact List.le_trans q (h1 z hz)
  ·simp only [q, decide_false]
   refine List.pairwise_cons.mpr ⟨fun z hz => ?_, Y1k x r h2⟩
   rcases List.mem_cons.mp ((Y1m x r).mem_iff.mp hz) with rfl | hz
   ·exact sle_of_not q
   ·exact h1 z hz
theorem sortK_perm {α : Type} : ∀ l : List (Str × α), (sortK l).Perm l
 | [] => .refl _
 | x :: r => (Y1m x _).trans ((sortK_perm r).cons x)
theorem Z8s {α : Type} : ∀ l : List (Str × α), (sortK l).Pairwise fun a b => Sle a.1 b.1
 | [] => .nil
 | x :: r => Y1k x _ (Z8s r)
theorem Z2n (l : List Str) : (Z2t l).Perm l := by
 unfold Z2t
 have := (sortK_perm (l.map fun x => (x, ()))).map (·.1)
 rw [List.map_map] at this
 simpa [Function.comp_def] using this
theorem Z5j (l : List Str) : (Z2t l).Pairwise Sle := by
 unfold Z2t
 rw [List.pairwise_map]
 exact Z8s _
theorem Z5n : ∀ (l : List Str) (p : Str), risingS p l = true -> (p :: l).Pairwise Sle
 | [], p, _ => by simp
 | x :: r, p, h => by
  obtain ⟨h1, h2⟩ := Bool.and_eq_true_iff.mp (show (!PySem.Spec.ltCps x.cps.toList p.cps.toList && risingS x r) = true from h)
  have ih := Z5n r x h2
  have hpx : Sle p x := by
   rw [ltCps_eq] at h1
   simp only [Bool.not_eq_true', decide_eq_false_iff_not] at h1
   exact List.not_lt.mp h1
  refine List.pairwise_cons.mpr ⟨fun z hz => ?_, ih⟩
  rcases List.mem_cons.mp hz with rfl | hz
  ·exact hpx
  ·exact List.le_trans hpx ((List.pairwise_cons.mp ih).1 z hz)
theorem sorted_unique {l ss' : List Str} (hp : ss'.Perm l) (hs : sortedS ss' = true) : ss' = Z2t l := by
 have h1 : ss'.Pairwise Sle := by
  cases ss' with
  | nil => exact .nil
  | cons x r => exact Z5n r x hs
 refine List.Perm.eq_of_pairwise (le := Sle) (fun a b _ _ h1 h2 => ?_) h1 (Z5j l) (hp.trans (Z2n l).symm)
 have := List.le_antisymm h1 h2
 obtain ⟨⟨a⟩⟩ := a
 obtain ⟨⟨b⟩⟩ := b
 simpa using this
section
variable {prog : Program} {w : World} {A : Around} {E : Value -> Shared -> Prop} {s : Shared}
theorem Y0q {v : Value} {ss : List Str} {Q : Value -> Shared -> Prop}
  (hcol : ∀ {Q' : List Value -> Shared -> Prop}, (∀ s1 vs, (∀ b o, s.heap.get? b = some o -> s1.heap.get? b = some o) -> s1.gens = s.gens -> s1.os = s.os -> StrsAre vs ss -> vs.length < 64 -> Q' vs s1) -> wpAny (model prog w) A.in1 (collect v) Q' E s)
  (h : ∀ s1 (out : Array Value) L e, (∀ b o, s.heap.get? b = some o -> s1.heap.get? b = some o) -> s1.gens = s.gens -> s1.os = s.os -> s.heap.get? L = none -> s1.heap.get? L = some { cls := .type "list", dict := none, data := .seq out e, slots := #[] } -> StrsAre out.toList (Z2t ss) -> Q (.ref L) s1) :
  wpAny (model prog w) A (call (.builtin "sorted") [v]) Q E s := by
 refine Calls.call_function_entry kind_sorted plain_sorted entry_sorted (args_sorted1 _) ?_
 unfold Builtin.«sorted»
 refine wpAny_bind (m := checkCount "sorted" 1 1 _) (wpAny_pure ?_)
 refine wpAny_bind (hcol fun s1 vs hk hg ho hS h64 => ?_)
 refine wpAny_bind (wpAny_newList ?_)
 generalize hLL : s1.heap.objs.size = L
 have hL0 : s1.heap.get? L = none := hLL ▸ Z0h _
 have hLs : s.heap.get? L = none := by
  cases q : s.heap.get? L with
  | none => rfl
  | some o => rw [hk _ _ q] at hL0; cases hL0
 have hoL : (s1.heap.push (seqObj "list" vs.toArray 0)).get? L = some (seqObj "list" vs.toArray 0) := hLL ▸ Heap.get?_push_size _ rfl
 refine wpAny_bind (wpAny_holding (wpAny_call_entry slot_list_sort ⟨_, hoL, rfl⟩ entry_list_sort (list_sort_treeK (s := { s1 with heap := s1.heap.push (seqObj "list" vs.toArray 0) }) strKind_oneLt hoL hS.keysOf (fun v₁ v₂ rest e => keyKind_strs (by rw [<- e]; exact hS)) h64 fun st' a1 a2 => ⟨_, rfl, ?_⟩) (args_list_sort _)))
 obtain ⟨ss', h1, h2, h3⟩ := sorted_out_str hS a1 a2
 obtain ⟨e, he⟩ := sortedHeap_at (out := (arrOf st').map (·.2)) hoL
 rw [sorted_unique h2 h3] at h1
 refine wpAny_pure ⟨_, rfl, h _ _ L e (fun b o q => ?_) hg ho hLs he h1⟩
 have q1 := hk b o q
 have hbL : b ≠ L := fun z => by rw [z, hL0] at q1; cases q1
 have q2 := Heap.get?_push_of_some (seqObj "list" vs.toArray 0) q1
 show (sortedHeap (s1.heap.push (seqObj "list" vs.toArray 0)) L vs _).get? b = some o
 rw [sortedHeap_old hbL (Heap.lt_size q2)]
 exact q2
end
end
theorem Z7m {P : Str -> Value -> Bool} (hP : ∀ k v, P k v = true -> ∃ t, v = .str k t) : ∀ (kvs : List (Str × Value)) (vs : List Value), (∀ (j : Nat) (v : Value), vs[j]? = some v -> ∃ k x, kvs[j]? = some (k, x) /\ P k v = true) -> vs.length = kvs.length -> StrsAre vs (kvs.map (·.1))
 | [], [] => fun _ _ => .nil
 | [], _ :: _ => fun _ h => nomatch h
 | _ :: _, [] => fun _ h => nomatch h
 | kx :: kvs, v :: vs => fun h hl => by
  obtain ⟨k', x', h1, h2⟩ := h 0 v rfl
  obtain ⟨t, rfl⟩ := hP _ _ h2
  exact Option.some.inj h1 ▸ .cons k' t (Z7m hP kvs vs (fun j u hu => h (j + 1) u hu) (Nat.succ.inj hl))
theorem strs_are : ∀ k : List (Str × Tok), StrsAre (strValues k) (k.map (·.1))
 | [] => .nil
 | (x, t) :: k => .cons x t (strs_are k)
theorem strs_len {vs : List Value} {ss : List Str} (h : StrsAre vs ss) : vs.length = ss.length := by
 induction h with
 | nil => rfl
 | cons _ _ _ ih => exact congrArg (· + 1) ih
noncomputable def PR (h : Heap) (u : Value) (kv : Str × Value) : Prop := ∃ t tk, u = .ref t /\ TX h t [.str kv.1 tk, kv.2]
theorem PairsAt.of {D it : Addr} {h : Heap} (hD : h.get? D = none) (hi : h.get? it = none) {us : List Value} {kvs : List (Str × Value)} (r : A2 (PR h) us kvs) : PairsAt D it h us kvs := by
 induction r with
 | nil => exact .nil
 | @cons u kv us kvs a b ih =>
  obtain ⟨t, tk, rfl, m, x⟩ := a
  exact .cons (fun q => Z0a (hD.symm.trans (q ▸ x))) (fun q => Z0a (hi.symm.trans (q ▸ x))) ⟨m, x⟩ ih
section
variable {O : Z0c} {st : St} {σ σ' : Hp} {A : Around} {n : Nat} {E : Value -> Shared -> Prop} {Q : Value -> Shared -> Prop} {mu : Bool} {v z : MV} {u : Value} {l args : List MV} {vs : List Value}
theorem vms_of_strs {ss : List Str} (h : StrsAre vs ss) : (∀ x ∈ ss, PyData.strOk x = true) -> VMs g st (ss.map fun x => .pv (.str x)) vs := by
 induction h with
 | nil => exact fun _ => .nil
 | cons x t h ih => exact fun hs => .cons (.pv (.str x t (hs x (.head _)))) (ih fun y hy => hs y (.tail _ hy))
theorem vmes_keys {es : List (Str × MV)} {kvs : List (Str × Value)} (r : VMes g st es kvs) : kvs.map (·.1) = es.map (·.1) /\ ∀ x ∈ es.map (·.1), PyData.strOk x = true := by
 induction r with
 | nil => exact ⟨rfl, fun _ h => nomatch h⟩
 | @cons e d es kvs a b ih =>
  refine ⟨?_, fun y hy => (List.mem_cons.mp hy).elim (fun q => q ▸ a.1.2) (ih.2 y)⟩
  rw [List.map_cons, List.map_cons, ih.1, a.1.1]
theorem sorted_sound (rm : Room A n) (I : Inv g O st σ) (r : VM g st v u) (e : bnd (Z0n v) (fun o => bnd (ofO (Y0m o)) fun l => gd (Nat.blt l.length 64) (Z1w mu ((Z2t l).map fun x => .pv (.str x)))) O σ = some (z, σ')) (k : Aft g O st z σ' Q) : wpAny g.M A (call (.builtin "sorted") [u]) Q E st.s := by
 refine oR I r e fun o a d ro f => oE f fun ss hss f => ?_
 have h64 : ss.length < 64 := Nat.le_of_ble_eq_true (gd1 f)
 have fin : (∀ x ∈ ss, PyData.strOk x = true) -> ∀ s1 (out : Array Value) L e, (∀ b o, st.s.heap.get? b = some o -> s1.heap.get? b = some o) -> s1.gens = st.s.gens -> s1.os = st.s.os -> st.s.heap.get? L = none -> s1.heap.get? L = some { cls := .type "list", dict := none, data := .seq out e, slots := #[] } -> StrsAre out.toList (Z2t ss) -> Q (.ref L) s1 :=
  fun hok s1 out L e hk hg ho hL hx hS => list_put I (vms_of_strs hS fun x hx => hok x ((Z2n ss).mem_iff.mp hx)) (gd2 f) hL hk ⟨e, hx⟩ k hg ho
 cases o with
 | lst l =>
  obtain ⟨vs, x1, y1⟩ := ro
  obtain ⟨ks, rfl, hm, hok⟩ := Z9d y1 hss
  have hS : StrsAre (strValues ks) ss := hm ▸ strs_are ks
  have hl := strs_len hS
  refine Y0q (fun {Q'} hq => ?_) (fin hok)
  refine collect_list x1.is (hq _ _ (fun b o q => ?_) rfl rfl hS (hl ▸ h64)) (Nat.le_trans (by show (strValues ks).length <= 64; omega) (by decide))
  have hb : b ≠ st.h.objs.size := fun z => Z0a ((Z0h _).symm.trans (z ▸ q))
  rw [Heap.get?_update_ne _ _ _ _ hb]
  exact Heap.get?_push_of_some _ q
 | dct es =>
  obtain ⟨kvs, zz, x1, y1⟩ := ro
  cases hss
  obtain ⟨hke, hok⟩ := vmes_keys y1
  have hl : kvs.length < 64 := by rw [y1.len, <- List.length_map (f := (·.1))]; exact h64
  refine Y0q (fun {Q'} hq => ?_) (fin hok)
  refine collect_dict rm.handled zz x1 (by omega) fun s' acc hk hg ho hd hi => ?_
  have ha : acc.toList.length = kvs.length := hi.1
  exact hq s' acc.toList hk hg ho (hke ▸ Z7m (P := g.sk.is) (fun k v h => Value.isStrOf_shape h) _ _ (fun j v hv => hi.2 j v (by simpa using hv)) ha) (ha.symm ▸ hl)
 | _ => exact Z0a hss
theorem pairs_cons {x : MV} {es : List (Str × MV)} (e : pairs (x :: l) = some es) : ∃ k v r, x = .pv (.tup [.str k, v]) /\ pairs l = some r /\ es = (k, .pv v) :: r := by
 cases x with
 | pv p => cases p with
  | tup q => cases q with
   | nil => exact Z0a e
   | cons s q => cases s with
    | str k => cases q with
     | nil => exact Z0a e
     | cons v q => cases q with
      | nil =>
       replace e : (match pairs l with | some es => some ((k, MV.pv v) :: es) | none => none) = some es := e
       cases h : pairs l with
       | none => rw [h] at e; exact Z0a e
       | some r => rw [h] at e; cases e; exact ⟨k, v, r, rfl, rfl, rfl⟩
      | cons _ _ => exact Z0a e
    | _ => exact Z0a e
  | _ => exact Z0a e
 | _ => exact Z0a e
theorem pairs_at (r : VMs g st l vs) : ∀ {es : List (Str × MV)}, pairs l = some es -> ∃ kvs, A2 (PR st.h) vs kvs /\ VMes g st es kvs := by
 induction r with
 | nil => intro es e; cases e; exact ⟨[], .nil, .nil⟩
 | cons a b ih =>
  intro es e
  obtain ⟨k, v, r, rfl, h, rfl⟩ := pairs_cons e
  obtain ⟨kvs, h1, h2⟩ := ih h
  refine a.p.tupE fun t vs ht hv => ?_
  revert ht
  exact hv.consE fun u1 w1 r1 hv => hv.consE fun u2 w2 r2 hv => hv.nilE (r1.strE fun tk hs ht => ⟨(k, u2) :: kvs, .cons ⟨t, tk, rfl, ht.2⟩ h1, .cons ⟨⟨rfl, hs⟩, .pv r2⟩ h2⟩)
theorem dict_sound (P : PFw g) (rm : Room A n) (I : Inv g O st σ) (r : VM g st v u) (e : bnd (Z0n v) (fun o => bnd (ofO (dictO o)) fun es => Z7r mu es) O σ = some (z, σ')) (k : Aft g O st z σ' Q) : wpAny g.M A (call (.type "dict") [u]) Q E st.s := by
 refine oR I r e fun o a d ro f => oE f fun es hes f => ?_
 cases o with
 | lst l =>
  obtain ⟨vs, x1, y1⟩ := ro
  replace hes : (match small l with | true => (match pairs l with | some es => some (Z4w [] es) | none => none) | false => none) = some es := hes
  cases hsl : small l with
  | false => rw [hsl] at hes; exact Z0a hes
  | true =>
   rw [hsl] at hes
   replace hes : (match pairs l with | some es => some (Z4w [] es) | none => none) = some es := hes
   cases he : pairs l with
   | none => rw [he] at hes; exact Z0a hes
   | some es' =>
    rw [he] at hes
    obtain ⟨kvs, h1, h2⟩ := pairs_at y1 he
    cases hes
    exact dict_pairs rm.handled x1 (fun D it hD hi => .of hD hi h1) (y1.len ▸ Z1s hsl) fun D h' tk hD hd hk => dict_put (s' := { st.s with heap := h', toks := tk }) I (Y1r h2 .nil .nil) f hD hk (not_sys P I hD) hd k
 | dct es' =>
  obtain ⟨kvs, zz, x1, y1⟩ := ro
  cases hes
  exact Y1w I zz x1 y1 (not_sys P I (Z0h _)) f k
 | _ => exact Z0a hes
theorem bi1_sound (P : PFw g) (rm : Room A n) (I : Inv g O st σ) {b : BI} (r : VM g st v u) (e : bi1 mu b v O σ = some (z, σ')) (k : Aft g O st z σ' Q) : wpAny g.M A (call (biVal b) [u]) Q E st.s := by
 cases b with
 | len => exact len_sound I r e k
 | list => exact list_sound I r e k
 | tuple => exact tuple_sound I r e k
 | dict => exact dict_sound P rm I r e k
 | sorted => exact sorted_sound rm I r e k
 | range =>
  cases v with
  | pv p => cases p with
   | int m => exact r.p.intE fun t => range_sound I (k.ret (gd2 e))
   | _ => exact Z0a e
  | _ => exact Z0a e
 | str =>
  cases v with
  | pv p => cases p with
   | int m => exact r.p.intE fun t => gd3 e fun h1 h2 e => str_sound I h1 h2 (k.ret e)
   | _ => exact Z0a e
  | _ => exact Z0a e
 | int =>
  cases v with
  | pv p => cases p with
   | int m => exact r.p.intE fun t => call_int_int ((k.ret e).here I (.pv (.int m t)))
   | bool c =>
    refine r.p.boolE (call_int_bool ?_)
    have e2 : (if c = true then (1 : Int) else 0) = Z5y c := by cases c <;> rfl
    rw [e2]
    exact (k.ret e).tok I (.pv (.int _ _)) _
   | _ => exact Z0a e
  | _ => exact Z0a e
 | _ => exact Z0a e
theorem bi_sound (P : PFw g) (rm : Room A n) (I : Inv g O st σ) {b : BI} (ra : VMs g st args vs) (e : biM mu b args O σ = some (z, σ')) (k : Aft g O st z σ' Q) : wpAny g.M A (call (biVal b) vs) Q E st.s := by
 cases args with
 | nil => exact Z0a e
 | cons v args =>
  refine ra.consE fun u ws r ra => ?_
  cases args with
  | nil => exact ra.nilE (bi1_sound P rm I r e k)
  | cons c args =>
   exact Z0a e
end
noncomputable abbrev zh1 (k : Kd) (h : Heap) (l1 : Addr) : Heap := h.push { cls := .type k.it, data := .fields #[.ref l1, .int 0 0] }
noncomputable abbrev zh2 (ka kb : Kd) (h : Heap) (l1 l2 : Addr) : Heap := (zh1 ka h l1).push { cls := .type kb.it, data := .fields #[.ref l2, .int 0 0] }
noncomputable abbrev zh3 (ka kb : Kd) (h : Heap) (l1 l2 : Addr) : Heap := (zh2 ka kb h l1 l2).push { cls := .type "tuple", data := .seq #[.ref h.objs.size, .ref (zh1 ka h l1).objs.size] }
noncomputable abbrev zh4 (ka kb : Kd) (h : Heap) (l1 l2 : Addr) : Heap := (zh3 ka kb h l1 l2).push { cls := .type "tuple", data := .seq #[.none, .none] }
noncomputable abbrev zh5 (ka kb : Kd) (h : Heap) (l1 l2 : Addr) : Heap := (zh4 ka kb h l1 l2).push { cls := .type "zip", data := .fields #[.none, .bool false, .bool false, .ref (zh2 ka kb h l1 l2).objs.size, .ref (zh3 ka kb h l1 l2).objs.size] }
theorem meets_zip (ka kb : Kd) (l1 l2 : Addr) (xs ys : Array Value) :
  Meets (Builtin.«zip.__new__» ⟨[.type "zip", .ref l1, .ref l2], []⟩) (fun _ R s => IsSq ka s.heap l1 xs /\ IsSq kb s.heap l2 ys /\
   R (.ok (.ret (.ref (zh4 ka kb s.heap l1 l2).objs.size))) { s with heap := zh5 ka kb s.heap l1 l2 }) :=
 .of_wp fun prog w A R s h => by
  obtain ⟨hp, g, d, tk, os⟩ := s; obtain ⟨hl1, hl2, h⟩ := h
  have hsub := sub_zip
  have hL1 : IsSq ka (Shared.heap ⟨hp, g, d, tk, os⟩) l1 xs := hl1
  have hL2 : IsSq kb (Shared.heap ⟨hp.push { cls := .type ka.it, data := .fields #[.ref l1, .int 0 0] }, g, d, tk, os⟩) l2 ys := hl2.keep fun o q => Heap.get?_push_of_some _ q
  wp_walk using sq_iter hL1, sq_iter hL2
  exact ⟨_, rfl, h⟩
section
variable {prog : Program} {w : World} {A : Around} {E : Value -> Shared -> Prop} {s : Shared}
theorem call_zip {ka kb : Kd} {l1 l2 : Addr} {xs ys : Array Value} {Q : Value -> Shared -> Prop} (hl1 : IsSq ka s.heap l1 xs) (hl2 : IsSq kb s.heap l2 ys)
  (h : ∀ h', IsZip h' (s.heap.objs.size + 4) (s.heap.objs.size + 2) (s.heap.objs.size + 3) .none -> IsPair h' (s.heap.objs.size + 2) (.ref s.heap.objs.size) (.ref (s.heap.objs.size + 1)) ->
   IsPair h' (s.heap.objs.size + 3) .none .none -> IsIt ka h' s.heap.objs.size l1 0 -> IsIt kb h' (s.heap.objs.size + 1) l2 0 ->
   (∀ c o, s.heap.get? c = some o -> h'.get? c = some o) -> Q (.ref (s.heap.objs.size + 4)) { s with heap := h' }) :
  wpAny (model prog w) A (call (.type "zip") [.ref l1, .ref l2]) Q E s := by
 refine callType_new F.called_zip (by decide) (F.typeCall_zip_2 _ _) (F.newCall_zip_2 _ _) (fun obj => F.args_object_init_3 obj _ _) F.entry_zip_new
  (meets_zip ka kb l1 l2 xs ys) ⟨hl1, hl2, ?_⟩
 have z1 : (zh1 ka s.heap l1).objs.size = s.heap.objs.size + 1 := Heap.size_push ..
 have z2 : (zh2 ka kb s.heap l1 l2).objs.size = s.heap.objs.size + 2 := by rw [Heap.size_push, z1]
 have z3 : (zh3 ka kb s.heap l1 l2).objs.size = s.heap.objs.size + 3 := by rw [Heap.size_push, z2]
 have z4 : (zh4 ka kb s.heap l1 l2).objs.size = s.heap.objs.size + 4 := by rw [Heap.size_push, z3]
 have g5 : (zh5 ka kb s.heap l1 l2).get? (zh4 ka kb s.heap l1 l2).objs.size = some _ := Heap.get?_push_size _ rfl
 have g4 : (zh5 ka kb s.heap l1 l2).get? (zh3 ka kb s.heap l1 l2).objs.size = some _ := Heap.get?_push_of_some _ (Heap.get?_push_size _ rfl)
 have g3 : (zh5 ka kb s.heap l1 l2).get? (zh2 ka kb s.heap l1 l2).objs.size = some _ := Heap.get?_push_of_some _ (Heap.get?_push_of_some _ (Heap.get?_push_size _ rfl))
 have g2 : (zh5 ka kb s.heap l1 l2).get? (zh1 ka s.heap l1).objs.size = some _ := Heap.get?_push_of_some _ (Heap.get?_push_of_some _ (Heap.get?_push_of_some _ (Heap.get?_push_size _ rfl)))
 have g1 : (zh5 ka kb s.heap l1 l2).get? s.heap.objs.size = some _ := Heap.get?_push_of_some _ (Heap.get?_push_of_some _ (Heap.get?_push_of_some _ (Heap.get?_push_of_some _ (Heap.get?_push_size _ rfl))))
 show _ /\ _
 rw [z2, z3, z4] at g5
 rw [z1, z2] at g3
 rw [z3] at g4
 rw [z1] at g2
 rw [z4]
 exact ⟨⟨_, g5, rfl⟩, h _ g5 g3 g4 ⟨_, g1, rfl, rfl⟩ ⟨_, g2, rfl, rfl⟩ fun c o x => Heap.get?_push_of_some _ (Heap.get?_push_of_some _ (Heap.get?_push_of_some _ (Heap.get?_push_of_some _ (Heap.get?_push_of_some _ x))))⟩
end
section
variable {O : Z0c} {st : St} {σ σ1 σ' : Hp} {A : Around} {E : Value -> Shared -> Prop} {Q : Value -> Shared -> Prop} {x y : MV} {u v : Value} {l r : List MV}
@[elab_as_elim] theorem frozen_seq (rx : VM g st x u) (hf : Z3p x = true) (e : seqM x O σ = some (l, σ1)) {P : Value -> Prop} (k : σ1 = σ -> ∀ kd a vs, st.own a = none -> IsSq kd st.h a vs.toArray -> VMs g st l vs -> P (.ref a)) : P u := by
 cases x with
 | pv p => cases p with
  | tup l' => cases e; exact rx.p.tupE fun a vs h y => k rfl .t a vs h.1 h.2.is (Z3g y)
  | lst l' => cases e; exact rx.p.lstE fun a vs h y => k rfl .l a vs h.1 h.2.is (Z3g y)
  | _ => exact Z0a e
 | tup l' => cases e; exact rx.tupE fun a vs h y => k rfl .t a vs h.1 h.2.is y
 | _ => exact Z0y hf
theorem zip_sound (I : Inv g O st σ) (rx : VM g st x u) (ry : VM g st y v) (fx : Z3p x = true) (fy : Z3p y = true) (ex : seqM x O σ = some (l, σ1)) (ey : seqM y O σ1 = some (r, σ')) (k : AftSrc g O st (.zipped (zipL l r)) σ' Q) : wpAny g.M A (call (.type "zip") [u, v]) (fun z s1 => wpAny g.M A (pyIter z) Q E s1) E st.s :=
 frozen_seq rx fx ex fun q1 ka a vs na ha ra => frozen_seq ry fy ey fun q2 kb b ws nb hb rb => call_zip ha hb fun h' g1 g2 g3 g4 g5 hk => wpAny_pyIter_zip g1 (by
  have dead : ∀ c, st.h.objs.size <= c -> st.h.get? c = none := fun c hc => by
   cases q : st.h.get? c with
   | none => rfl
   | some o => exact absurd (Heap.lt_size q) (Nat.not_lt.mpr hc)
  have alt : a < st.h.objs.size := let ⟨_, q, _⟩ := ha; Heap.lt_size q
  have blt : b < st.h.objs.size := let ⟨_, q, _⟩ := hb; Heap.lt_size q
  generalize hS : st.h.objs.size = S at *
  have hN : ∀ c ∈ [S + 4, S + 2, S + 3, S, S + 1], st.h.get? c = none /\ ∃ o, h'.get? c = some o := by
   intro c hc
   simp only [List.mem_cons, List.mem_nil_iff, or_false] at hc
   rcases hc with rfl | rfl | rfl | rfl | rfl
   ·exact ⟨dead _ (Nat.le_add_right _ _), _, g1⟩
   ·exact ⟨dead _ (Nat.le_add_right _ _), _, g2⟩
   ·exact ⟨dead _ (Nat.le_add_right _ _), _, g3⟩
   ·exact ⟨dead _ (Nat.le_refl _), let ⟨o, q, _⟩ := g4; ⟨o, q⟩⟩
   ·exact ⟨dead _ (Nat.le_add_right _ _), let ⟨o, q, _⟩ := g5; ⟨o, q⟩⟩
  have X : Step [] st (st.res { st.s with heap := h' } [S + 4, S + 2, S + 3, S, S + 1]) := .res hk fun c hc => (hN c hc).1
  have out : ∀ {c}, st.own c = none -> (∃ o, st.h.get? c = some o) -> (st.res { st.s with heap := h' } [S + 4, S + 2, S + 3, S, S + 1]).own c = none := fun {c} n ⟨o, e⟩ => (X.own c o e).trans n
  refine k (st.res { st.s with heap := h' } [S + 4, S + 2, S + 3, S, S + 1]) _ _ ((q2.trans q1).symm ▸ I.res hk hN rfl rfl) X (fun c hc => ⟨(hN c hc).1, Z8t hc⟩) ?_
  refine .zip (vs1 := vs) (vs2 := ws) (k1 := 0) (k2 := 0) rfl ?_ g1 g2 g3 g4 g5 ⟨ha.keep (hk _), out na (let ⟨o, q, _⟩ := ha; ⟨o, q⟩)⟩ ⟨hb.keep (hk _), out nb (let ⟨o, q, _⟩ := hb; ⟨o, q⟩)⟩ (ra.go X) (rb.go X)
  have alt : @LT.lt Nat _ a S := alt
  have blt : @LT.lt Nat _ b S := blt
  constructor <;> (intro q; have q' : @Eq Nat _ _ := q; omega))
end
theorem leaves_all {n : Nat} {C : Z0j} (P : PFw g) : Leaves g n C := ⟨fun rm I ra e k => bi_sound P rm I ra e k, fun rm I rx ry fx fy ex ey k => zip_sound I rx ry fx fy ex ey k⟩
noncomputable def vpsB (f : PV -> Value -> Bool) : List PV -> List Value -> Bool
 | [], [] => true
 | p :: l, v :: vs => f p v && vpsB f l vs
 | _, _ => false
noncomputable def seqB (da : Data) (k : List Value -> Bool) : Bool := match da with
 | .seq vs _ => k vs.toList
 | _ => false
noncomputable def tupB (o : Option Obj) (k : List Value -> Bool) : Bool := match o with
 | some o => (o.cls == .type "tuple") && (o.dict.isNone && (o.slots.isEmpty && seqB o.data k))
 | none => false
noncomputable def noneB : Value -> Bool
 | .none => true
 | _ => false
noncomputable def boolB (b : Bool) (v : Value) : Bool := match v with
 | .bool c => b == c
 | _ => false
noncomputable def intB (i : Int) (v : Value) : Bool := match v with
 | .int j _ => intEq i j
 | _ => false
noncomputable def strB (s : Str) (v : Value) : Bool := match v with
 | .str t _ => Z0g s t && PyData.strOk s
 | _ => false
noncomputable def refB (v : Value) (k : Addr -> Bool) : Bool := match v with
 | .ref a => k a
 | _ => false
noncomputable def vpB (K : Frag) (f : PV -> Value -> Bool) (p : PV) (v : Value) : Bool := match p with
 | .none => noneB v
 | .bool b => boolB b v
 | .int i => intB i v
 | .str s => strB s v
 | .tup l => refB v fun a => tupB (K.lookup a) (vpsB f l)
 | .fn a => refB v (Nat.beq a)
 | .cls a => refB v (Nat.beq a)
 | _ => false
noncomputable def vpN (K : Frag) (n : Nat) : PV -> Value -> Bool := Nat.rec (fun _ _ => false) (fun _ f => vpB K f) n
noncomputable abbrev vpIn (K : Frag) : PV -> Value -> Bool := vpN K 12
section
variable {g : Gl} {f : PV -> Value -> Bool}
theorem refE {v : Value} {k : Addr -> Bool} (h : refB v k = true) {P : Value -> Prop} (j : ∀ a, k a = true -> P (.ref a)) : P v := by
 cases v <;> first | exact j _ h | exact Z0y h
theorem seqBE {da : Data} {k : List Value -> Bool} (h : seqB da k = true) {P : Data -> Prop} (j : ∀ vs m, k vs.toList = true -> P (.seq vs m)) : P da := by
 cases da <;> first | exact j _ _ h | exact Z0y h
theorem tupBE {o : Option Obj} {k : List Value -> Bool} (h : tupB o k = true) : ∃ vs m, o = some { cls := .type "tuple", dict := none, data := .seq vs m, slots := #[] } /\ k vs.toList = true := by
 cases o with
 | none => exact Z0y h
 | some o =>
  obtain ⟨c, d, da, sl⟩ := o
  have ⟨h1, h⟩ := Bool.and_eq_true_iff.mp h
  have ⟨h2, h⟩ := Bool.and_eq_true_iff.mp h
  have ⟨h3, h4⟩ := Bool.and_eq_true_iff.mp h
  have h1 : c = .type "tuple" := beq_iff_eq.mp h1
  have h2 : d = none := Option.isNone_iff_eq_none.mp h2
  have h3 : sl = #[] := Array.isEmpty_iff.mp h3
  rw [h1, h2, h3]
  exact seqBE (da := da) h4 (P := fun da => ∃ vs m, some { cls := .type "tuple", dict := none, data := da, slots := #[] } = some ({ cls := .type "tuple", dict := none, data := .seq vs m, slots := #[] } : Obj) /\ k vs.toList = true) fun vs m h => ⟨vs, m, rfl, h⟩
theorem vps_b (hf : ∀ p v, f p v = true -> VP g g.st0 p v) : ∀ (l : List PV) (vs : List Value), vpsB f l vs = true -> VPs g g.st0 l vs
 | [], [], _ => .nil
 | [], _ :: _, e => Z0y e
 | _ :: _, [], e => Z0y e
 | p :: l, v :: vs, e => .cons (hf p v (Bool.and_eq_true_iff.mp e).1) (vps_b hf l vs (Bool.and_eq_true_iff.mp e).2)
theorem vp_b (X : g.K.In g.hb) (hf : ∀ p v, f p v = true -> VP g g.st0 p v) (p : PV) (v : Value) (h : vpB g.K f p v = true) : VP g g.st0 p v := by
 cases p with
 | none => cases v <;> first | exact .none | exact Z0y h
 | bool b => cases v <;> first | exact beq_iff_eq.mp (show (b == _) = true from h) ▸ .bool b | exact Z0y h
 | int i => cases v <;> first | exact of_decide_eq_true (show decide (i = _) = true from h) ▸ .int i _ | exact Z0y h
 | str s => cases v <;> first | exact strEq_true.mp (Bool.and_eq_true_iff.mp (show (Z0g s _ && PyData.strOk s) = true from h)).1 ▸ .str s _ (Bool.and_eq_true_iff.mp (show (Z0g s _ && PyData.strOk s) = true from h)).2 | exact Z0y h
 | tup l =>
   refine refE h fun a h => ?_
   obtain ⟨vs, m, ho, hk⟩ := tupBE h
   exact .tupI ⟨rfl, m, X _ _ ho⟩ (vps_b hf l _ hk)
 | fn a => exact refE h fun b h => Nat.eq_of_beq_eq_true h ▸ .fn a
 | cls a => exact refE h fun b h => Nat.eq_of_beq_eq_true h ▸ .cls a
 | _ => exact Z0y h
theorem vp_n (X : g.K.In g.hb) : ∀ n p v, vpN g.K n p v = true -> VP g g.st0 p v
 | 0, _, _, h => Z0y h
 | n + 1, p, v, h => vp_b X (vp_n X n) p v h
theorem vp_in (X : g.K.In g.hb) (p : PV) (v : Value) (h : vpIn g.K p v = true) : VP g g.st0 p v := vp_n X 12 p v h
noncomputable def argsPlain (ps : Arguments) : Bool := ps.posonlyargs.isEmpty && ps.vararg.isNone && ps.kwonlyargs.isEmpty && ps.kwarg.isNone
noncomputable def pkOk (r : FnRow) : Bool := r.params.all fun x => match look r.scope.names x with
 | some .local => true
 | some .cell => true
 | _ => false
noncomputable def noFree (l : List (Str × NameKind)) : Bool := l.all fun x => match x.2 with
 | .free => false
 | _ => true
noncomputable def rowOk (r : FnRow) : Bool := isFun r.scope.kind && (!r.scope.isCoroutine && (!r.scope.isGenerator && (Z3x r.params && (pkOk r && (noFree r.scope.names && Nat.ble r.dflts.length r.params.length)))))
noncomputable def dfIn (K : Frag) (dV : Value) (d : List PV) : Bool := match dV with
 | .none => d.isEmpty
 | .ref T => vpIn K (.tup d) (.ref T)
 | _ => false
noncomputable def fnB (K : Frag) (a : Addr) (r : FnRow) (qual : Str) (params : Arguments) (dV : Value) (cd : Addr) : Bool := codeIn K (.ref cd) qual && (argsPlain params && (rowOk r && (keepIn K (.ref a) && dfIn K dV r.dflts)))
theorem Z0r {a : Addr} {r : FnRow} {name qual : Str} {params : Arguments} {dV pm : Value} {cd : Addr} (X : g.K.In g.hb) (hl : g.K.lookup a = some ⟨.type "function", none, .func (fnOf name qual params r.body r.scope dV .none .none pm none (.ref cd) .none), #[]⟩) (hp : params.args.map (·.arg) = r.params) (hb : fnB g.K a r qual params dV cd = true) : FnAt g a r := by
 have ⟨hc, hb⟩ := Bool.and_eq_true_iff.mp hb
 have ⟨ha, hb⟩ := Bool.and_eq_true_iff.mp hb
 have ⟨hr, hb⟩ := Bool.and_eq_true_iff.mp hb
 have ⟨hk, hd⟩ := Bool.and_eq_true_iff.mp hb
 have ⟨ha, a4⟩ := Bool.and_eq_true_iff.mp ha
 have ⟨ha, a3⟩ := Bool.and_eq_true_iff.mp ha
 have ⟨a1, a2⟩ := Bool.and_eq_true_iff.mp ha
 have ⟨r1, hr⟩ := Bool.and_eq_true_iff.mp hr
 have ⟨r2, hr⟩ := Bool.and_eq_true_iff.mp hr
 have ⟨r3, hr⟩ := Bool.and_eq_true_iff.mp hr
 have ⟨r4, hr⟩ := Bool.and_eq_true_iff.mp hr
 have ⟨r5, hr⟩ := Bool.and_eq_true_iff.mp hr
 have ⟨r6, r7⟩ := Bool.and_eq_true_iff.mp hr
 refine ⟨⟨_, _, _, name, qual, params, dV, .none, .none, pm, none, .ref cd, .none, hl, hc, List.isEmpty_iff.mp a1, Option.isNone_iff_eq_none.mp a2, List.isEmpty_iff.mp a3, Option.isNone_iff_eq_none.mp a4, hp, ?_⟩, hk, ?_, (Bool.not_eq_true' _).mp r2, (Bool.not_eq_true' _).mp r3, Z2s r4, ?_, ?_, Nat.le_of_ble_eq_true r7⟩
 ·cases dV with
  | none => exact .inl ⟨rfl, List.isEmpty_iff.mp hd⟩
  | ref T => exact .inr ((vp_in X _ _ (show vpIn g.K (.tup r.dflts) (.ref T) = true from hd)).tupE fun a vs h r => ⟨a, vs, rfl, h.2, r⟩)
  | _ => exact Z0y hd
 ·cases q : r.scope.kind <;> rw [q] at r1 <;> first | rfl | cases r1
 ·intro x hx
  have := List.all_eq_true.mp r5 x hx
  revert this
  cases look r.scope.names x with
  | none => intro h; cases h
  | some k => cases k <;> intro h <;> first | exact .inl rfl | exact .inr rfl | cases h
 ·intro x hx q
  have := List.all_eq_true.mp r6 x hx
  rw [q] at this; cases this
noncomputable def clsOk (cfg : Cfg) (K : Frag) (c : Addr) (row : ClsRow) : Bool := keepIn K (.ref c) && (makesIn K c && (findIn K (.ref c) "__init__" == some (some (.ref row.init)) && (typeIn K (.ref row.init) == some (.type "function") && (match cfg.fns row.init with | some r => !r.isPure | none => false))))
theorem cls_at {c : Addr} {row : ClsRow} (h : clsOk g.cfg g.K c row = true) : ClsAt g c row := by
 have ⟨h1, h⟩ := Bool.and_eq_true_iff.mp h
 have ⟨h2, h⟩ := Bool.and_eq_true_iff.mp h
 have ⟨h3, h⟩ := Bool.and_eq_true_iff.mp h
 have ⟨h4, h5⟩ := Bool.and_eq_true_iff.mp h
 refine ⟨h1, h2, beq_iff_eq.mp h3, beq_iff_eq.mp h4, ?_⟩
 cases q : g.cfg.fns row.init with
 | none => rw [q] at h5; exact Z0y h5
 | some r => rw [q] at h5; exact ⟨r, rfl, (Bool.not_eq_true' _).mp h5⟩
noncomputable def attrsOk (K : Frag) (c : Addr) (row : ClsRow) : Bool := row.attrs.all fun a => Z9z K c a && (Z4f K c a && PyData.strOk a)
noncomputable def methsOk (K : Frag) (c : Addr) (row : ClsRow) : Bool := row.meths.all fun m => methGood K c m
noncomputable def globOk (K : Frag) (x : Str) (p : PV) : Bool := match p with
 | .bi b => (match nsIn K mainGlobals x with | some none => true | _ => false) && (!Z0g x "__name__" && (match bootBuiltins x with | some v => v == biVal b | none => false))
 | p => match nsIn K mainGlobals x with
  | some (some v) => vpIn K p v
  | _ => false
theorem glob_ok {p : Program} {loose : List Str} {mg mb : Str -> Option Value} {x : Str} {v : PV} (X : g.K.In g.hb) (T : TopRead p loose mg mb g.hb) (h : globOk g.K x v = true) : ∃ u, VP g g.st0 v u /\ (mg x = some u \/ (mg x = none /\ mb x = some u)) := by
 have plain : (match nsIn g.K mainGlobals x with | some (some u) => vpIn g.K v u | _ => false) = true -> ∃ u, VP g g.st0 v u /\ (mg x = some u \/ (mg x = none /\ mb x = some u)) := by
  intro h
  cases q : nsIn g.K mainGlobals x with
  | none => rw [q] at h; exact Z0y h
  | some y => cases y with
   | none => rw [q] at h; exact Z0y h
   | some u => rw [q] at h; exact ⟨u, vp_in X _ _ h, .inl (mg_of X T.g q)⟩
 cases v with
 | bi b =>
  have ⟨h1, h⟩ := Bool.and_eq_true_iff.mp h
  have ⟨h2, h3⟩ := Bool.and_eq_true_iff.mp h
  have hn : nsIn g.K mainGlobals x = some none := by
   revert h1
   cases nsIn g.K mainGlobals x with
   | none => intro h; cases h
   | some y => cases y with
    | none => intro _; rfl
    | some _ => intro h; cases h
  have hx : x ≠ "__name__" := by
   rintro rfl
   have : Z0g ("__name__" : Str) "__name__" = true := strEq_true.mpr rfl
   rw [this] at h2; cases h2
  have hb' : bootBuiltins x = some (biVal b) := by
   revert h3
   cases bootBuiltins x with
   | none => intro h; cases h
   | some y => intro h; rw [beq_iff_eq.mp h]
  exact ⟨biVal b, .bi b, .inr ⟨ns_none_of X T.g hn, by rw [T.builtins x hx, hb']⟩⟩
 | _ => exact plain h
end
end Mine.Internal
end
section
open PySem PySem.W PyProof.Rows
noncomputable section
namespace Mine.Internal
noncomputable abbrev gl (w : World) (hb : Heap) (os : OsState) : Gl := ⟨pw, w, hb, os, K w.params, cfg⟩
section
variable {w : World} {hb : Heap} {os : OsState}
theorem look_all {α : Type} {P : Nat -> α -> Prop} : ∀ {l : List (Nat × α)}, (∀ p ∈ l, P p.1 p.2) -> ∀ a r, lookN l a = some r -> P a r
 | (k, v) :: t, h, a, r, e => by
  replace e : (match Nat.beq k a with | true => some v | false => lookN t a) = some r := e
  cases q : Nat.beq k a with
  | true => rw [q] at e; cases e; exact (Nat.eq_of_beq_eq_true q) ▸ h (k, v) (.head _)
  | false => rw [q] at e; exact look_all (fun p hp => h p (.tail _ hp)) a r e
theorem Z0t {a : Addr} {r : FnRow} {l : List (Nat × FnRow)} (h : FnAt (gl w hb os) a r) (t : ∀ p ∈ l, FnAt (gl w hb os) p.1 p.2) : ∀ p ∈ (a, r) :: l, FnAt (gl w hb os) p.1 p.2 := List.forall_mem_cons.mpr ⟨h, t⟩
theorem fns_at (X : (K w.params).In hb) : ∀ a r, cfg.fns a = some r -> FnAt (gl w hb os) a r := by
 refine look_all (l := fnTab) ?_
 refine Z0t (Z0r X rfl rfl (by kernel_rfl)) ?_
 refine Z0t (Z0r X rfl rfl (by kernel_rfl)) ?_
 refine Z0t (Z0r X rfl rfl (by kernel_rfl)) ?_
 refine Z0t (Z0r X rfl rfl (by kernel_rfl)) ?_
 refine Z0t (Z0r X rfl rfl (by kernel_rfl)) ?_
 refine Z0t (Z0r X rfl rfl (by kernel_rfl)) ?_
 refine Z0t (Z0r X rfl rfl (by kernel_rfl)) ?_
 refine Z0t (Z0r X rfl rfl (by kernel_rfl)) ?_
 refine Z0t (Z0r X rfl rfl (by kernel_rfl)) ?_
 refine Z0t (Z0r X rfl rfl (by kernel_rfl)) ?_
 refine Z0t (Z0r X rfl rfl (by kernel_rfl)) ?_
 refine Z0t (Z0r X rfl rfl (by kernel_rfl)) ?_
 refine Z0t (Z0r X rfl rfl (by kernel_rfl)) ?_
 refine Z0t (Z0r X rfl rfl (by kernel_rfl)) ?_
 refine Z0t (Z0r X rfl rfl (by kernel_rfl)) ?_
 refine Z0t (Z0r X rfl rfl (by kernel_rfl)) ?_
 refine Z0t (Z0r X rfl rfl (by kernel_rfl)) ?_
 refine Z0t (Z0r X rfl rfl (by kernel_rfl)) ?_
 refine Z0t (Z0r X rfl rfl (by kernel_rfl)) ?_
 refine Z0t (Z0r X rfl rfl (by kernel_rfl)) ?_
 refine Z0t (Z0r X rfl rfl (by kernel_rfl)) ?_
 refine Z0t (Z0r X rfl rfl (by kernel_rfl)) ?_
 refine Z0t (Z0r X rfl rfl (by kernel_rfl)) ?_
 refine Z0t (Z0r X rfl rfl (by kernel_rfl)) ?_
 refine Z0t (Z0r X rfl rfl (by kernel_rfl)) ?_
 refine Z0t (Z0r X rfl rfl (by kernel_rfl)) ?_
 refine Z0t (Z0r X rfl rfl (by kernel_rfl)) ?_
 refine Z0t (Z0r X rfl rfl (by kernel_rfl)) ?_
 refine Z0t (Z0r X rfl rfl (by kernel_rfl)) ?_
 refine Z0t (Z0r X rfl rfl (by kernel_rfl)) ?_
 refine Z0t (Z0r X rfl rfl (by kernel_rfl)) ?_
 refine Z0t (Z0r X rfl rfl (by kernel_rfl)) ?_
 refine Z0t (Z0r X rfl rfl (by kernel_rfl)) ?_
 refine Z0t (Z0r X rfl rfl (by kernel_rfl)) ?_
 refine Z0t (Z0r X rfl rfl (by kernel_rfl)) ?_
 refine Z0t (Z0r X rfl rfl (by kernel_rfl)) ?_
 refine Z0t (Z0r X rfl rfl (by kernel_rfl)) ?_
 refine Z0t (Z0r X rfl rfl (by kernel_rfl)) ?_
 refine Z0t (Z0r X rfl rfl (by kernel_rfl)) ?_
 refine Z0t (Z0r X rfl rfl (by kernel_rfl)) ?_
 refine Z0t (Z0r X rfl rfl (by kernel_rfl)) ?_
 refine Z0t (Z0r X rfl rfl (by kernel_rfl)) ?_
 refine Z0t (Z0r X rfl rfl (by kernel_rfl)) ?_
 refine Z0t (Z0r X rfl rfl (by kernel_rfl)) ?_
 refine Z0t (Z0r X rfl rfl (by kernel_rfl)) ?_
 refine Z0t (Z0r X rfl rfl (by kernel_rfl)) ?_
 refine Z0t (Z0r X rfl rfl (by kernel_rfl)) ?_
 refine Z0t (Z0r X rfl rfl (by kernel_rfl)) ?_
 refine Z0t (Z0r X rfl rfl (by kernel_rfl)) ?_
 refine Z0t (Z0r X rfl rfl (by kernel_rfl)) ?_
 refine Z0t (Z0r X rfl rfl (by kernel_rfl)) ?_
 refine Z0t (Z0r X rfl rfl (by kernel_rfl)) ?_
 exact fun p h => nomatch h
end
theorem clsTab_ok (P : Params) : clsTab.all (fun p => clsOk cfg (K P) p.1 p.2 && (attrsOk (K P) p.1 p.2 && methsOk (K P) p.1 p.2)) = true := by kernel_rfl
theorem glob_tab_ok (P : Params) : globTab.all (fun p => globOk (K P) p.1 p.2) = true := by kernel_rfl
noncomputable def row29 : FnRow := row 1 (some 0) [.none] false none
theorem init_row : InitRow row29 := ⟨rfl, rfl, by rfl, by rfl, by rfl, by rfl, by decide +kernel, ⟨_, _, _, _, _, _, _, _, _, _, _, _, _, _, rfl, rfl⟩⟩
theorem exc_at {w : World} {hb : Heap} {os : OsState} {mg mb : Str -> Option Value} {p : Program} {loose : List Str} (X : (K w.params).In hb) (T : TopRead p loose mg mb hb) : ExcAt (gl w hb os) :=
 ⟨⟨_, _, _, rfl, rfl, rfl⟩, ⟨_, _, _, _, _, _, _, _, _, _, _, _, _, _, _, rfl⟩, by kernel_rfl, by kernel_rfl, by kernel_rfl,
  ⟨29, row29, by kernel_rfl, by kernel_rfl, Z0r (g := gl w hb os) X rfl rfl (by kernel_rfl), init_row⟩, by kernel_rfl, by kernel_rfl, by kernel_rfl, by kernel_rfl,
  ⟨mg, mb, T.g, T.b, ns_none_of X T.g (by kernel_rfl), (T.builtins _ (by decide)).trans (by kernel_rfl)⟩⟩
end Mine.Internal
end
section
open PySem PySem.W PyProof.Rows
noncomputable section
namespace Mine.Internal
theorem calls_of {w : World} {hb : Heap} {os : OsState} {mg mb : Str -> Option Value} {p : Program} {loose : List Str} (X : (K w.params).In hb) (T : TopRead p loose mg mb hb) : CallS (gl w hb os) 150 (Z0d cfg 150) := by
 have hc := List.all_eq_true.mp (clsTab_ok w.params)
 have hc' : ∀ c row, cfg.cls c = some row -> clsOk cfg (K w.params) c row = true /\ attrsOk (K w.params) c row = true /\ methsOk (K w.params) c row = true := by
  refine look_all (l := clsTab) fun p hp => ?_
  have h := Bool.and_eq_true_iff.mp (hc p hp)
  exact ⟨h.1, Bool.and_eq_true_iff.mp h.2⟩
 have hg := List.all_eq_true.mp (glob_tab_ok w.params)
 have ha : ∀ c row, cfg.cls c = some row -> ∀ a ∈ row.attrs, Z9z (K w.params) c a = true /\ (Z4f (K w.params) c a && PyData.strOk a) = true := fun c row e a ha => Bool.and_eq_true_iff.mp (List.all_eq_true.mp (hc' c row e).2.1 a ha)
 have pw' : PFw (gl w hb os) := ⟨X, T.nolimit, ⟨mg, mb, T.g, T.b, fun x v e => glob_ok (g := gl w hb os) X T (hg (x, v) (Z3e e))⟩, ⟨fun c row e a h => ⟨(ha c row e a h).1, (Bool.and_eq_true_iff.mp (ha c row e a h).2).1⟩, fun c row e a h => (Bool.and_eq_true_iff.mp (ha c row e a h).2).2, fun c row e m hm => List.all_eq_true.mp (hc' c row e).2.2 m hm⟩, ⟨_, X 1 _ rfl⟩⟩
 exact goal_all (fun P F C E => callS_all ⟨P, E, F, C, fun n C _ => leaves_all P⟩ 150) (gl w hb os) pw' (fns_at X) (fun c row e => cls_at (g := gl w hb os) (hc' c row e).1) (exc_at X T)
theorem ints_of {R : WRecords} : ∀ {xs : List WData}, WShape.hasItems R xs .int = true -> ∃ l : List Int, xs = l.map .int
 | [], _ => ⟨[], rfl⟩
 | x :: xs, h => by
  have h : WShape.has R x .int = true /\ WShape.hasItems R xs .int = true := Bool.and_eq_true_iff.mp h
  obtain ⟨i, rfl⟩ := hasW_int h.1
  obtain ⟨l, rfl⟩ := ints_of h.2
  exact ⟨i :: l, rfl⟩
theorem vps_ints {g : Gl} {st : St} {h : Heap} {P : Params} : ∀ {l : List Int} {vs : List Value}, WellAll P h vs (l.map .int) -> VPs g st (l.map .int) vs
 | [], _, r => by cases r; exact .nil
 | i :: l, _, r => by
  cases r with
  | cons a b => cases a with | int _ t => exact .cons (.int i t) (vps_ints b)
theorem post_true {l : List Int} : PySem.Challenge.rw_pq0707_01.row.toRowW.claim.post [WData.list (l.map WData.int)] (WData.bool true) [WData.list (l.map WData.int)] = true := by
 show (WShape.has [] (.bool true) .bool && WTm.holds [] (.eq .res (.lit (.bool true))) { args := [WData.list (l.map WData.int)], res := some (.bool true), after := [WData.list (l.map WData.int)] }) = true
 refine Bool.and_eq_true_iff.mpr ⟨by kernel_rfl, ?_⟩
 simp [WTm.holds, WTm.value, same]
theorem none_ne {α : Type} {a : α} (e : (none : Option α) = some a) : False := nomatch e
theorem inv0 {g : Gl} {s : Shared} (hg : s.gens = #[]) (ho : s.os = g.os) (hh : s.heap = g.hb) : Inv g [] ⟨s, fun _ => none, [], []⟩ [] :=
 ⟨hg, ho, fun a o e => ⟨(congrArg (fun h : Heap => h.get? a) hh).trans e, rfl⟩, fun _ h => absurd rfl h, nofun, nofun, ⟨rfl, nofun⟩, ⟨rfl, nofun⟩, nofun⟩
theorem frA0 {A : Around} {st : St} (h : A.frames = some []) : FrA A st := ⟨[], h, fun _ m => nomatch m⟩
theorem old0 {s : Shared} {st' : St} (x : Step [] ⟨s, fun _ => none, [], []⟩ st') : OldK s.heap st'.s.heap := OldK.of_keep fun b => (x.keep b (fun h => (h.elim none_ne none_ne).elim) (fun _ h => none_ne h)).kp none_ne
theorem no_mem {α : Type} {P : Prop} {a : α} (h : a ∈ ([] : List α)) : P := nomatch h
theorem join (h : ∀ l : List Int, l.length <= 63 -> ∃ σ', Z0d cfg 150 (.fn 652) [.pv (.lst (l.map .int))] [] [] = some (.pv (.bool true), σ')) : PySem.Challenge.rw_pq0707_01.Holds := by
 refine top fun w s₀ s₁ mg mb G Y a o pm cd doc dV kV h2 h3 h4 h5 hf hgens args vals as hpre hlay hR hW has => ?_
 have X : (K w.params).In s₁.heap := kIn_of Y
 have T := topRead_of G.T
 have ha : a = 652 := by
  have := mg_of X T.g (show nsIn (K w.params) mainGlobals "law" = some (some (.ref 652)) by rfl)
  rw [show mg "law" = some (.ref a) from hf] at this
  injection this with this; injection this
 subst ha
 obtain ⟨hsh, hho⟩ := pre_splitW hpre
 obtain ⟨d, r, rfl, hd, hr⟩ := hasAllW_cons hsh
 obtain rfl := hasAllW_nil hr
 obtain ⟨xs, rfl, hi⟩ := hasW_list hd
 obtain ⟨l, rfl⟩ := ints_of hi
 have hlen : l.length <= 63 := by
  apply Nat.le_of_not_lt
  intro hlt
  have e : WTm.holds [] (OpenLaw.pre PySem.Challenge.rw_pq0707_01) { args := [.list (l.map .int)] } = true := hho
  unfold OpenLaw.pre PySem.Challenge.rw_pq0707_01 WTm.holds at e
  have hq : less? (.int 63) (.int l.length) = some true := by
   have : (63 : Int) < l.length := by omega
   simp [less?, Num.less?, this]
  simp [WTm.value, hq] at e
 obtain ⟨σ', hm⟩ := h l hlen
 cases hW with | cons hw hw' => cases hw' with | nil => cases hw with | @list a0 vs _ hla hws =>
 have I : Inv (gl w s₁.heap s₁.os) [] ⟨s₁, fun _ => none, [], []⟩ [] := inv0 hgens rfl rfl
 refine (calls_of (os := s₁.os) X T).sound (A := callerA) ⟨rfl, by decide, by decide⟩ (frA0 rfl) I (.pv (.fn 652)) (.cons (.pv (.lstI ⟨rfl, 0, hla⟩ (vps_ints hws))) .nil) hm fun st' u I' x r => r.p.boolE ?_
 exact ⟨.inl ⟨.bool true, .bool true, [], rfl, fun _ => rfl, .bool true, post_true, fun _ => ⟨.nil, fun _ h => no_mem h⟩⟩, old0 x, I'.os_, AllBare.of_eq I'.gens⟩
end Mine.Internal
end
section
namespace Mine.Internal
noncomputable abbrev Tk := List Nat
noncomputable abbrev Rp (α : Type) := Tk -> (α -> Hp -> Tk -> Prop) -> Z0c -> Hp -> Prop
noncomputable def rret {α : Type} (a : α) : Rp α := fun A K _ σ => K a σ A
noncomputable def rbad {α : Type} : Rp α := fun _ _ _ _ => True
noncomputable def rbnd {α β : Type} (m : Rp α) (f : α -> Rp β) : Rp β := fun A K O σ => m A (fun a σ' A' => f a A' K O σ') O σ
noncomputable def rgd {α : Type} (c : Bool) (m : Rp α) : Rp α := fun A K O σ => match c with | true => m A K O σ | false => True
noncomputable def rask {α : Type} (m : Mm α) : Rp α := fun A K O σ => ∀ a σ', m O σ = some (a, σ') -> K a σ' A
noncomputable def rdo {α : Type} (m : Mm α) : Rp α := fun A K O σ => match m O σ with | some (a, σ') => K a σ' A | none => True
noncomputable def rloop {α : Type} (m : Mm α) (r : Rp α) : Rp α := fun A K O σ => match A with
 | [] => rdo m [] K O σ
 | 0 :: A' => rask m A' K O σ
 | 1 :: A' => r A' K O σ
 | (n + 2) :: A' => rdo m (n :: A') K O σ
noncomputable def rp {α : Type} (m : Mm α) : Rp α := rloop m (rask m)
noncomputable def rck {α : Type} (c : Bool) (m : Rp α) : Rp α := fun A K O σ => match A with
 | [] => (match c with | true => m [] K O σ | false => True)
 | 0 :: A' => c = true -> m A' K O σ
 | 1 :: A' => c = true -> m A' K O σ
 | (n + 2) :: A' => (match c with | true => m (n :: A') K O σ | false => True)
noncomputable def rsel (b : Bool) : Rp Bool := fun A K _ σ => match A with
 | [] => K b σ []
 | 0 :: A' => b = true -> K true σ A'
 | 1 :: A' => b = false -> K false σ A'
 | (n + 2) :: A' => K b σ (n :: A')
noncomputable def rtru (v : MV) : Rp Bool := match v with
 | .pv p => (match p with | .bool b => rsel b | _ => rbad)
 | _ => rbad
noncomputable def rmk (mu : Bool) (l : List MV) : Rp MV := rck (small l) (match mu with
 | true => rdo (alloc (.lst l))
 | false => rbnd (rp (ofO (Z0z l))) fun ps => rret (.pv (.lst ps)))
noncomputable def rseq : List (Rp MV) -> Rp (List MV)
 | [] => rret []
 | m :: r => rbnd m fun v => rbnd (rseq r) fun l => rret (v :: l)
noncomputable def rboolM (op : BoolOp) : List (Rp MV) -> Rp MV
 | [] => rbad
 | [x] => x
 | x :: r => rbnd x fun v => rbnd (rtru v) fun b => match op, b with
  | .And, false => rret v
  | .Or, true => rret v
  | _, _ => rboolM op r
noncomputable def rloopL {α : Type} (f : MV -> α -> Rp (Option MV × α)) : List MV -> α -> Rp (Option MV × α)
 | [], a => rret (none, a)
 | x :: r, a => rbnd (f x a) fun t => match t with
  | (none, a') => rloopL f r a'
  | (some v, a') => rret (some v, a')
noncomputable def rlst (o : MO) : Rp (List MV) := match o with
 | .lst l => rret l
 | _ => rbad
noncomputable def rloopV {α : Type} (f : MV -> α -> Rp (Option MV × α)) (v : MV) : Nat -> Nat -> α -> Rp (Option MV × α)
 | 0, _, _ => rbad
 | n + 1, k, a => rbnd (rp (Z0n v)) fun o => rbnd (rlst o) fun l => match l[k]? with
  | none => rret (none, a)
  | some x => rbnd (f x a) fun t => match t with
   | (none, a') => rloopV f v n (k + 1) a'
   | (some r, a') => rret (some r, a')
noncomputable def rloopS {α : Type} (tup : Bool) (s : Src) (g : MV -> α -> Mm (Option MV × α)) (f : MV -> α -> Rp (Option MV × α)) (a : α) : Rp (Option MV × α) :=
 rloop (Z2k tup s g a) (match s with
  | .items l => rloopL f l a
  | .zipped l => rgd tup (rloopL f l a)
  | .live v => rloopV f v 1000 0 a)
noncomputable def rwhileF (t : Vars -> Rp Bool) (body : Vars -> Rp (Option MV × Vars)) : Nat -> Vars -> Rp (Option MV × Vars)
 | 0, _ => rbad
 | n + 1, ρ => rbnd (t ρ) fun b => match b with
  | false => rret (none, ρ)
  | true => rbnd (body ρ) fun r => match r with
   | (none, ρ') => rwhileF t body n ρ'
   | (some v, ρ') => rret (some v, ρ')
noncomputable def rpairs : List (Option (Rp MV) × Rp MV) -> Rp (List (Str × MV))
 | [] => rret []
 | (some k, v) :: r => rbnd k fun kv => rbnd v fun vv => match kv with
  | .pv (.str s) => rbnd (rpairs r) fun l => rret ((s, vv) :: l)
  | _ => rbad
 | _ => rbad
noncomputable def robj (v : MV) : Rp MO := rp (Z0n v)
noncomputable def Z9e (v : MV) : Rp (List MV) := match v with
 | .pv p => (match p with | .tup l => rret (pvs l) | p => rbnd (robj (.pv p)) fun o => match o with | .lst l => rret l | _ => rbad)
 | .tup l => rret l
 | v => rbnd (robj v) fun o => match o with | .lst l => rret l | _ => rbad
noncomputable def rsubI (o : MV) (k : Int) : Rp MV := rbnd (Z9e o) fun l => rbnd (rp (ofO (idxOf k l.length))) fun j => rck (small l) (rp (ofO l[j]?))
noncomputable def rsub (o i : MV) : Rp MV := match i with
 | .pv p => (match p with
  | .int k => (match o with
   | .pv (.str s) => rp (ofO (charM s k))
   | o => rsubI o k)
  | .str k => rbnd (robj o) fun x => rp (ofO (getKey x k))
  | _ => rbad)
 | _ => rbad
noncomputable def reqO (a b : MV) : Rp Bool := rbnd (robj a) fun x => rbnd (robj b) fun y => rp (eqO x y)
noncomputable def reqM (a b : MV) : Rp Bool := match a, b with
 | .pv x, .pv y => (match Z3w x && Z3w y with
  | true => reqO (.pv x) (.pv y)
  | false => rp (ofO (eqPV x y)))
 | .pv x, b => reqO (.pv x) b
 | a, b => reqO a b
noncomputable def rinM (x c : MV) : Rp Bool := match x with
 | .pv p => (match c with
  | .pv q => (match q with | .tup l => rp (ofO (Z5r p l)) | q => rbnd (robj (.pv q)) fun o => rp (ofO (inL p o)))
  | c => rbnd (robj c) fun o => rp (ofO (inL p o)))
 | _ => rbad
noncomputable def rcmp (op : CmpOp) (a b : MV) : Rp MV := match op with
 | .Eq => rbnd (reqM a b) fun r => rret (bv r)
 | .NotEq => rbnd (reqM a b) fun r => rret (bv (!r))
 | .In => rbnd (rinM a b) fun r => rret (bv r)
 | .NotIn => rbnd (rinM a b) fun r => rret (bv (!r))
 | op => rp (cmpM op a b)
noncomputable def raddO (mu : Bool) (a b : MV) : Rp MV := rbnd (robj a) fun x => rbnd (robj b) fun y => rbnd (rp (ofO (addL x y))) fun l => rmk mu l
noncomputable def rbin (mu : Bool) (op : Operator) (a b : MV) : Rp MV := match op with
 | .Add => (match a, b with
  | .pv x, .pv y => (match x, y with
   | .lst x, .lst y => rmk mu (pvs x ++ pvs y)
   | .tup x, .tup y => rck (Nat.ble (x.length + y.length) lim) (rret (.pv (.tup (x ++ y))))
   | x, y => rp (addM mu (.pv x) (.pv y)))
  | .pv x, b => raddO mu (.pv x) b
  | a, b => raddO mu a b)
 | op => rp (binM mu op a b)
noncomputable def rcut (mu : Bool) (o : MV) (u st : Option MV) : Rp MV := rbnd (Z9e o) fun l => rck (small l) (rbnd (rp (ofO (cutL u st l))) fun r => match Z0w o with
 | true => rgd (isNone? st) (rp (Z4h r))
 | false => rmk mu r)
noncomputable def rsetI (o i v : MV) : Rp Unit := match o with
 | .ref r => rbnd (robj (.ref r)) fun x => rp (bnd (ofO (Z8g x i v)) fun x' => setAt r x')
 | _ => rbad
noncomputable def rsrc (v : MV) : Rp Src := match v with
 | .pv p => rp (srcM (.pv p))
 | v => rp (srcM v)
noncomputable def rbi1 (mu : Bool) (b : BI) (v : MV) : Rp MV := match b with
 | .len => (match Z0w v with
  | true => rbnd (Z9e v) fun l => rck (small l) (rret (.pv (.int l.length)))
  | false => rbnd (robj v) fun o => rbnd (rp (ofO (lenO o))) fun n => rck (Nat.ble n lim) (rret (.pv (.int n))))
 | .list => rbnd (Z9e v) fun l => rmk mu l
 | .tuple => rbnd (Z9e v) fun l => rp (Z4h l)
 | .dict => rbnd (robj v) fun o => rp (bnd (ofO (dictO o)) fun es => Z7r mu es)
 | .sorted => rbnd (robj v) fun o => rp (bnd (ofO (Y0m o)) fun l => gd (Nat.blt l.length 64) (Z1w mu ((Z2t l).map fun x => .pv (.str x))))
 | b => rp (bi1 mu b v)
noncomputable def rbi (mu : Bool) (b : BI) (vs : List MV) : Rp MV := match vs with
 | [v] => rbi1 mu b v
 | vs => rp (biM mu b vs)
section
variable (cfg : Cfg) (C : Z0j)
noncomputable def rgetA (o : MV) (a : Str) : Rp MV := rbnd (robj o) fun x => rp (bnd (ofO (attrOf x a)) fun p => gd (okAttr cfg p.1 a) (ret p.2))
noncomputable def rsetA (o : MV) (a : Str) (v : MV) : Rp Unit := match o with
 | .ref r => rbnd (robj (.ref r)) fun x => rp (bnd (ofO (putAttr x a v)) fun p => gd (okAttr cfg p.1 a) (setAt r p.2))
 | _ => rbad
noncomputable def rpre (o : MV) (name : Str) : Rp Callee := match Z3t name with
 | .own => rbnd (robj o) fun x => rp (bnd (ofO (clsOf name x)) fun c => bnd (ofO (methOf cfg c name)) fun f => ret (.own f))
 | .get => rbnd (robj o) fun x => rp (getCal x)
 | m => rp (preC cfg o name m)
noncomputable def rcallM (mu : Bool) (fv : MV) (vs : List MV) : Rp MV := match fv with
 | .pv p => match p with
  | .bi b => rbi mu b vs
  | p => rask (C p vs)
 | _ => rbad
noncomputable def rrunM (mu : Bool) (c : Callee) (o : MV) (vs : List MV) : Rp MV := match c with
 | .own f => rask (C (.fn f) (o :: vs))
 | .get => (match vs with
  | [k, d] => (match k with
   | .pv p => (match p with
    | .str k => rbnd (robj o) fun x => rp (dgetM k d x)
    | _ => rbad)
   | _ => rbad)
  | _ => rbad)
 | c => rp (runM C mu c o vs)
structure Rx where
 e : PySem.Expr -> Scope -> Vars -> Rp MV
 t : PySem.Expr -> Scope -> Vars -> Rp Bool
 s : PySem.Expr -> Scope -> Vars -> Rp Src
 x : Stmt -> Scope -> Vars -> Rp (Option MV × Vars)
variable (J : Ix) (I : Rx)
noncomputable def rtstAll (op : BoolOp) (sc : Scope) (ρ : Vars) : List PySem.Expr -> Rp Bool
 | [] => rret (match op with | .And => true | .Or => false)
 | x :: r => rbnd (I.t x sc ρ) fun b => match op, b with
  | .And, false => rret false
  | .Or, true => rret true
  | _, _ => rtstAll op sc ρ r
noncomputable def rtsts (sc : Scope) (ρ : Vars) : List PySem.Expr -> Rp Bool
 | [] => rret true
 | x :: r => rbnd (I.t x sc ρ) fun b => match b with | true => rtsts sc ρ r | false => rret false
noncomputable def rcturn (t : PySem.Expr) (ifs : List PySem.Expr) (sc : Scope) (rest : Vars -> List MV -> Rp (List MV × Vars)) (x : MV) (acc : List MV × Vars) : Rp (Option MV × (List MV × Vars)) :=
 rbnd (rdo (Z1g t x sc acc.2)) fun ρ' => rbnd (rtsts I sc ρ' ifs) fun ok => match ok with
  | false => rret (none, (acc.1, ρ'))
  | true => rbnd (rest ρ' acc.1) fun r => rret (none, r)
noncomputable def rcomp (elt : PySem.Expr) (sc : Scope) : List Comprehension -> Vars -> List MV -> Rp (List MV × Vars)
 | [], ρ, acc => rbnd (I.e elt sc ρ) fun v => rck (small acc) (rret (acc ++ [v], ρ))
 | ⟨t, it, ifs, 0⟩ :: rest, ρ, acc => rbnd (I.s it sc ρ) fun s =>
   rbnd (rloopS (Z3b t) s (Z5s J t ifs sc (comp J elt sc rest)) (rcturn I t ifs sc (rcomp elt sc rest)) (acc, ρ)) fun r => rret r.2
 | _, _, _ => rbad
noncomputable def rcallE (args : List PySem.Expr) (sc : Scope) (ρ : Vars) (apos pos : Pos) (o : PySem.Expr) (name : Str) : Rp MV :=
 rgd (Nat.beq apos.endLine pos.line && Nat.blt args.length 30 && Z8c o) <| rbnd (I.e o sc ρ) fun ov => rbnd (rpre cfg ov name) fun c => rbnd (rseq (args.map fun e => I.e e sc ρ)) fun vs => rrunM C (cfg.muts pos) c ov vs
noncomputable def rE (e : PySem.Expr) (sc : Scope) (ρ : Vars) : Rp MV := match e with
 | .Constant c _ _ => rdo (constM c)
 | .Name x _ => rdo (nameM cfg sc ρ x)
 | .BoolOp op vs _ => rboolM op (vs.map fun e => I.e e sc ρ)
 | .BinOp l op r pos => rbnd (I.e l sc ρ) fun a => rbnd (I.e r sc ρ) fun b => rbin (cfg.muts pos) op a b
 | .UnaryOp op x _ => (match op with
  | .Not => rbnd (I.e x sc ρ) fun v => rbnd (rtru v) fun b => rret (bv (!b))
  | .USub => rbnd (I.e x sc ρ) fun v => rp (negM v)
  | _ => rbad)
 | .IfExp t b o _ => rbnd (I.t t sc ρ) fun c => match c with | true => I.e b sc ρ | false => I.e o sc ρ
 | .Dict ks vs pos => rgd (Nat.ble vs.length 15 && Nat.beq ks.length vs.length) <| rbnd (rpairs ((ks.map fun o => o.map fun e => I.e e sc ρ).zip (vs.map fun e => I.e e sc ρ))) fun es => rp (Z7r (cfg.muts pos) (Z4w [] es))
 | .ListComp elt gens scope pos => (match gens with
  | ⟨t, it, ifs, 0⟩ :: rest => rgd (isFun scope.kind && Z3r sc.names scope.names scope.names && rest.all sync) <| rbnd (I.s it sc ρ) fun s =>
   rbnd (rloopS (Z3b t) s (Z5s J t ifs scope (comp J elt scope rest)) (rcturn I t ifs scope (rcomp J I elt scope rest)) ([], Z2a ρ scope.names)) fun r => rmk (cfg.muts pos) r.2.1
  | _ => rbad)
 | .Compare l ops rs _ => (match ops, rs with
  | [op], [r] => rbnd (I.e l sc ρ) fun a => rbnd (I.e r sc ρ) fun b => rcmp op a b
  | _, _ => rbad)
 | .Call f args kws pos => (match kws with
  | [] => (match f with
   | .Attribute o name apos => rcallE cfg C I args sc ρ apos pos o name
   | .Name x p => rbnd (I.e (.Name x p) sc ρ) fun fv => rbnd (rseq (args.map fun e => I.e e sc ρ)) fun vs => rcallM C (cfg.muts pos) fv vs
   | _ => rbad)
  | _ => rbad)
 | .Attribute v a _ => rgd (Z8c v) <| rbnd (I.e v sc ρ) fun o => rgetA cfg o a
 | .Subscript v i pos => (match i with
  | .Slice l u st _ => (match l with
   | none => rbnd (I.e v sc ρ) fun o => rbnd (match u with | none => rret none | some e => rbnd (I.e e sc ρ) fun v => rret (some v)) fun uv => rbnd (match st with | none => rret none | some e => rbnd (I.e e sc ρ) fun v => rret (some v)) fun sv => rcut (cfg.muts pos) o uv sv
   | some _ => rbad)
  | .Constant c k p => rbnd (I.e v sc ρ) fun o => rbnd (I.e (.Constant c k p) sc ρ) fun k => rsub o k
  | .Name x p => rbnd (I.e v sc ρ) fun o => rbnd (I.e (.Name x p) sc ρ) fun k => rsub o k
  | .UnaryOp op x p => rbnd (I.e v sc ρ) fun o => rbnd (I.e (.UnaryOp op x p) sc ρ) fun k => rsub o k
  | .Subscript x j p => rbnd (I.e v sc ρ) fun o => rbnd (I.e (.Subscript x j p) sc ρ) fun k => rsub o k
  | .Call f args kws p => rbnd (I.e v sc ρ) fun o => rbnd (I.e (.Call f args kws p) sc ρ) fun k => rsub o k
  | _ => rbad)
 | .List es pos => rbnd (rseq (es.map fun e => I.e e sc ρ)) fun vs => rmk (cfg.muts pos) vs
 | .Tuple es _ _ => rbnd (rseq (es.map fun e => I.e e sc ρ)) fun vs => rdo (Z4h vs)
 | _ => rbad
noncomputable def rT (e : PySem.Expr) (sc : Scope) (ρ : Vars) : Rp Bool := match e with
 | .UnaryOp op x p => (match op with
  | .Not => rbnd (I.t x sc ρ) fun b => rret (!b)
  | _ => rbad)
 | .BoolOp op vs _ => rtstAll I op sc ρ vs
 | .Compare l ops rs p => rbnd (rE cfg C J I (.Compare l ops rs p) sc ρ) fun v => rtru v
 | .Call f args kws p => rbnd (rE cfg C J I (.Call f args kws p) sc ρ) fun v => rtru v
 | .Name x p => rbnd (rE cfg C J I (.Name x p) sc ρ) fun v => rtru v
 | .Attribute x a p => rbnd (rE cfg C J I (.Attribute x a p) sc ρ) fun v => rtru v
 | .Subscript x a p => rbnd (rE cfg C J I (.Subscript x a p) sc ρ) fun v => rtru v
 | _ => rbad
noncomputable def rS (e : PySem.Expr) (sc : Scope) (ρ : Vars) : Rp Src := match e with
 | .Call f args kws pos => (match isZip cfg sc f, kws, args with
  | true, [], [a, b] => rbnd (I.e a sc ρ) fun x => rbnd (I.e b sc ρ) fun y => rgd (Z3p x && Z3p y) <| rbnd (Z9e x) fun l => rbnd (Z9e y) fun r => rret (.zipped (zipL l r))
  | false, kws, args => rbnd (rE cfg C J I (.Call f args kws pos) sc ρ) fun v => rsrc v
  | _, _, _ => rbad)
 | .Name x p => rbnd (rE cfg C J I (.Name x p) sc ρ) fun v => rsrc v
 | .Attribute x a p => rbnd (rE cfg C J I (.Attribute x a p) sc ρ) fun v => rsrc v
 | .Subscript x a p => rbnd (rE cfg C J I (.Subscript x a p) sc ρ) fun v => rsrc v
 | .Tuple es c p => rbnd (rE cfg C J I (.Tuple es c p) sc ρ) fun v => rsrc v
 | .List es p => rbnd (rE cfg C J I (.List es p) sc ρ) fun v => rsrc v
 | _ => rbad
noncomputable def rput (o i : PySem.Expr) (v : MV) (sc : Scope) (ρ : Vars) : Rp Vars := rbnd (I.e o sc ρ) fun ov => rbnd (I.e i sc ρ) fun iv => rbnd (rsetI ov iv v) fun _ => rret ρ
noncomputable def rputAll (sc : Scope) (ρ : Vars) : List PySem.Expr -> List MV -> Rp Vars
 | [], [] => rret ρ
 | .Subscript o i _ :: r, v :: t => rbnd (rput I o i v sc ρ) fun _ => rputAll sc ρ r t
 | _, _ => rbad
noncomputable def rA (t : PySem.Expr) (v : MV) (sc : Scope) (ρ : Vars) : Rp Vars := match t with
 | .Attribute o a _ => rbnd (I.e o sc ρ) fun ov => rbnd (rsetA cfg ov a v) fun _ => rret ρ
 | .Subscript o i _ => rput I o i v sc ρ
 | .Name x c => rdo (Z1g (.Name x c) v sc ρ)
 | .Tuple es c p => (match names? es with
  | some _ => rp (Z1g (.Tuple es c p) v sc ρ)
  | none => rbnd (Z9e v) fun l => rgd (Z0w v) (rputAll I sc ρ es l))
 | _ => rbad
noncomputable def rexs (sc : Scope) : List Stmt -> Vars -> Rp (Option MV × Vars)
 | [], ρ => rret (none, ρ)
 | s :: r, ρ => rbnd (I.x s sc ρ) fun t => match t with
  | (none, ρ') => rexs sc r ρ'
  | (some v, ρ') => rret (some v, ρ')
noncomputable def rturn (t : PySem.Expr) (b : List Stmt) (sc : Scope) (x : MV) (ρ : Vars) : Rp (Option MV × Vars) := rbnd (rdo (Z1g t x sc ρ)) fun ρ' => rexs I sc b ρ'
noncomputable def rown (c : Callee) (o : MV) (vs : List MV) : Rp MV := match c with
 | .own f => rask (C (.fn f) (o :: vs))
 | _ => rbad
noncomputable def rcallX (e : PySem.Expr) (sc : Scope) (ρ : Vars) : Rp MV := match e with
 | .Call f args kws pos => (match kws, f with
  | [], .Attribute o name apos => rgd (Nat.beq apos.endLine pos.line && Nat.blt args.length 30 && Z8c o) <| rbnd (I.e o sc ρ) fun ov => rbnd (rpre cfg ov name) fun c => rbnd (rseq (args.map fun e => I.e e sc ρ)) fun vs => rown C c ov vs
  | _, _ => rbad)
 | _ => rbad
noncomputable def rTry (isR : Bool) (v : PySem.Expr) (hs : List ExceptHandler) (sc : Scope) (ρ : Vars) : Rp (Option MV × Vars) := match hs with
 | [x] => (match Z3n x with
  | some th => rgd (isExc cfg sc th.1) <| rbnd (rcallX cfg C I v sc ρ) fun z => rdo (Y0e isR th.2 z ρ)
  | none => rbad)
 | _ => rbad
noncomputable def rtryM (b : List Stmt) (hs : List ExceptHandler) (sc : Scope) (ρ : Vars) : Rp (Option MV × Vars) := match b with
 | [s] => (match s with
  | .Expr v _ => rTry cfg C I false v hs sc ρ
  | .Return v _ => (match v with
   | some v => rTry cfg C I true v hs sc ρ
   | none => rbad)
  | _ => rbad)
 | _ => rbad
noncomputable def rraise (x y : Option PySem.Expr) (sc : Scope) (ρ : Vars) : Rp (Option MV × Vars) := match x, y with
 | some x, none => (match x with
  | .Call f args kws _ => (match args, kws with
   | [a], [] => rgd (isExc cfg sc f) <| rbnd (I.e a sc ρ) fun v => rgd (isStrV v) (rret (some .exc, ρ))
   | _, _ => rbad)
  | _ => rbad)
 | _, _ => rbad
noncomputable def rX (s : Stmt) (sc : Scope) (ρ : Vars) : Rp (Option MV × Vars) := match s with
 | .Expr v _ => rgd (!isComp v) <| rbnd (I.e v sc ρ) fun r => match r with
  | .pv .none => rret (none, ρ)
  | _ => rbad
 | .Pass _ => rret (none, ρ)
 | .Return e _ => (match e with
  | none => rret (some (.pv .none), ρ)
  | some e => rbnd (I.e e sc ρ) fun v => rret (some v, ρ))
 | .Assign ts v _ => (match ts with
  | [t] => rgd (Y0j t v) <| rbnd (I.e v sc ρ) fun x => rbnd (rA cfg I t x sc ρ) fun ρ' => rret (none, ρ')
  | _ => rbad)
 | .If t b o _ => rbnd (I.t t sc ρ) fun c => match c with | true => rexs I sc b ρ | false => rexs I sc o ρ
 | .While t b o _ => (match o with
  | [] => rloop (Z3s (J.t t sc) (exs J sc b) big ρ) (rwhileF (I.t t sc) (rexs I sc b) big ρ)
  | _ => rbad)
 | .For t it b o _ => (match o with
  | [] => rbnd (I.s it sc ρ) fun s => rloopS (Z3b t) s (mturn J t b sc) (rturn I t b sc) ρ
  | _ => rbad)
 | .Raise x y _ => rraise cfg I x y sc ρ
 | .Try b hs o fin _ => (match o, fin with
  | [], [] => rtryM cfg C I b hs sc ρ
  | _, _ => rbad)
 | _ => rbad
noncomputable def rx0 : Rx := ⟨fun _ _ _ => rbad, fun _ _ _ => rbad, fun _ _ _ => rbad, fun _ _ _ => rbad⟩
noncomputable def stepR (Cc : Z0j) : Rx := ⟨rE cfg Cc J I, rT cfg Cc J I, rS cfg Cc J I, rX cfg C J I⟩
end
noncomputable def rx (cfg : Cfg) (C Cc : Z0j) (n : Nat) : Rx := Nat.rec rx0 (fun k I => stepR cfg C (ix cfg C k) I Cc) n
noncomputable def Rok {α : Type} (r : Rp α) (m : Mm α) : Prop := ∀ A K O σ, (∀ a σ' A', m O σ = some (a, σ') -> K a σ' A') -> r A K O σ
section
variable {α β : Type} {m : Mm α} {r : Rp α} {f : α -> Mm β} {g : α -> Rp β}
theorem Z0e (a : α) : Rok (rret a) (ret a) := fun A _ _ σ k => k a σ A rfl
theorem Z0b : Rok rbad m := fun _ _ _ _ _ => trivial
theorem Rok.bnd (h : Rok r m) (k : ∀ a, Rok (g a) (f a)) : Rok (rbnd r g) (Mine.Internal.bnd m f) := fun A K O σ j =>
 h A _ O σ fun a σ' A' e => k a A' K O σ' fun b σ2 A2 e2 => j b σ2 A2 (by unfold Mine.Internal.bnd; rw [e]; exact e2)
theorem Rok.gd {c : Bool} (h : Rok r m) : Rok (rgd c r) (Mine.Internal.gd c m) := by
 cases c with
 | true => exact h
 | false => exact fun _ _ _ _ _ => trivial
theorem Y0w (m : Mm α) : Rok (rask m) m := fun A _ _ _ k a σ' e => k a σ' A e
theorem Z6r (m : Mm α) : Rok (rdo m) m := fun A K O σ k => by
 unfold rdo
 cases e : m O σ with
 | none => trivial
 | some p => exact k p.1 p.2 A e
theorem Rok.loop (h : Rok r m) : Rok (rloop m r) m
 | [], K, O, σ, k => Z6r m [] K O σ k
 | 0 :: A', K, O, σ, k => Y0w m A' K O σ k
 | 1 :: A', K, O, σ, k => h A' K O σ k
 | (n + 2) :: A', K, O, σ, k => Z6r m (n :: A') K O σ k
theorem Z1h (m : Mm α) : Rok (rp m) m := (Y0w m).loop
end
section
variable {cfg : Cfg} {C : Z0j}
structure RxOk (I : Rx) (J : Ix) : Prop where
 e : ∀ e sc ρ, Rok (I.e e sc ρ) (J.e e sc ρ)
 t : ∀ e sc ρ, Rok (I.t e sc ρ) (J.t e sc ρ)
 s : ∀ e sc ρ, Rok (I.s e sc ρ) (J.s e sc ρ)
 x : ∀ s sc ρ, Rok (I.x s sc ρ) (J.x s sc ρ)
theorem Rok.ck {α : Type} {c : Bool} {m : Mm α} {r : Rp α} (h : Rok r m) : Rok (rck c r) (Mine.Internal.gd c m)
 | [], K, O, σ, k => by
  cases c with
  | true => exact h _ _ _ _ k
  | false => exact trivial
 | 0 :: A', K, O, σ, k => fun e => by subst e; exact h _ _ _ _ k
 | 1 :: A', K, O, σ, k => fun e => by subst e; exact h _ _ _ _ k
 | (n + 2) :: A', K, O, σ, k => by
  cases c with
  | true => exact h _ _ _ _ k
  | false => exact trivial
theorem rok_sel (b : Bool) : Rok (rsel b) (ret b)
 | [], K, O, σ, k => k _ _ _ rfl
 | 0 :: A', K, O, σ, k => fun e => by subst e; exact k _ _ _ rfl
 | 1 :: A', K, O, σ, k => fun e => by subst e; exact k _ _ _ rfl
 | (n + 2) :: A', K, O, σ, k => k _ _ _ rfl
theorem rok_tru (v : MV) : Rok (rtru v) (Z8n v) := by
 cases v with
 | pv p => cases p <;> first | exact rok_sel _ | exact Z0b
 | _ => exact Z0b
theorem rok_mk (mu : Bool) (l : List MV) : Rok (rmk mu l) (Z1w mu l) := by
 refine Rok.ck ?_
 cases mu with
 | true => exact Z6r _
 | false => exact (Z1h _).bnd fun ps => Z0e _
theorem Z1n (v : MV) : Rok (robj v) (Z0n v) := Z1h _
theorem rok_rlst (o : MO) : Rok (rlst o) (lstM o) := by
 cases o <;> first | exact Z0e _ | exact Z0b
theorem rok_lst (o : MO) : Rok (match o with | .lst l => rret l | _ => rbad) (lstM o) := by
 cases o <;> first | exact Z0e _ | exact Z0b
theorem Z3c (v : MV) : Rok (Z9e v) (seqM v) := by
 cases v with
 | pv p => cases p <;> first | exact Z0e _ | exact (Z1n _).bnd rok_lst
 | tup l => exact Z0e _
 | _ => exact (Z1n _).bnd rok_lst
theorem rok_subI (o : MV) (k : Int) : Rok (rsubI o k) (subI o k) := (Z3c o).bnd fun l => (Z1h _).bnd fun j => (Z1h _).ck
theorem rok_sub (o i : MV) : Rok (rsub o i) (subM o i) := by
 cases i with
 | pv p => cases p with
  | int k => cases o with
   | pv q => cases q <;> first | exact Z1h _ | exact rok_subI _ _
   | _ => exact rok_subI _ _
  | str k => exact (Z1n o).bnd fun x => Z1h _
  | _ => exact Z0b
 | _ => exact Z0b
theorem rok_eqO (a b : MV) : Rok (reqO a b) (eqRef a b) := (Z1n a).bnd fun x => (Z1n b).bnd fun y => Z1h _
theorem rok_eqM (a b : MV) : Rok (reqM a b) (eqM a b) := by
 cases a with
 | pv x => cases b with
  | pv y =>
   show Rok (match Z3w x && Z3w y with | true => reqO (.pv x) (.pv y) | false => rp (ofO (eqPV x y))) (match Z3w x && Z3w y with | true => eqRef (.pv x) (.pv y) | false => ofO (eqPV x y))
   cases Z3w x && Z3w y with
   | true => exact rok_eqO _ _
   | false => exact Z1h _
  | _ => exact rok_eqO _ _
 | _ => exact rok_eqO _ _
theorem rok_inM (x c : MV) : Rok (rinM x c) (inM x c) := by
 cases x with
 | pv p => cases c with
  | pv q => cases q <;> first | exact Z1h _ | exact (Z1n _).bnd fun o => Z1h _
  | _ => exact (Z1n _).bnd fun o => Z1h _
 | _ => exact Z0b
theorem rok_cmp (op : CmpOp) (a b : MV) : Rok (rcmp op a b) (cmpM op a b) := by
 cases op <;> first | exact (rok_eqM a b).bnd fun r => Z0e _ | exact (rok_inM a b).bnd fun r => Z0e _ | exact Z1h _
theorem rok_addO (mu : Bool) (a b : MV) : Rok (raddO mu a b) (addRef mu a b) := (Z1n a).bnd fun x => (Z1n b).bnd fun y => (Z1h _).bnd fun l => rok_mk mu l
theorem rok_bin (mu : Bool) (op : Operator) (a b : MV) : Rok (rbin mu op a b) (binM mu op a b) := by
 cases op with
 | Add => cases a with
  | pv x => cases b with
   | pv y => cases x <;> cases y <;> first | exact Z1h _ | exact rok_mk _ _ | exact (Z0e _).ck
   | _ => cases x <;> exact rok_addO _ _ _
  | _ => exact rok_addO _ _ _
 | _ => exact Z1h _
theorem rok_cut (mu : Bool) (o : MV) (u st : Option MV) : Rok (rcut mu o u st) (cutM mu o u st) := by
 show Rok (rbnd (Z9e o) fun l => rck (small l) (rbnd (rp (ofO (cutL u st l))) fun r => match Z0w o with | true => rgd (isNone? st) (rp (Z4h r)) | false => rmk mu r)) (bnd (seqM o) fun l => gd (small l) (bnd (ofO (cutL u st l)) fun r => match Z0w o with | true => gd (isNone? st) (Z4h r) | false => Z1w mu r))
 cases Z0w o with
 | true => exact (Z3c o).bnd fun l => ((Z1h _).bnd fun r => (Z1h _).gd).ck
 | false => exact (Z3c o).bnd fun l => ((Z1h _).bnd fun r => rok_mk mu r).ck
theorem rok_setI (o i v : MV) : Rok (rsetI o i v) (Z9j o i v) := by
 cases o with
 | ref r => exact (Z1n _).bnd fun x => Z1h _
 | _ => exact Z0b
theorem rok_src (v : MV) : Rok (rsrc v) (srcM v) := by
 cases v with
 | pv p => exact Z1h _
 | _ => exact Z1h _
theorem rok_bi1 (mu : Bool) (b : BI) (v : MV) : Rok (rbi1 mu b v) (bi1 mu b v) := by
 cases b with
 | len =>
  show Rok (match Z0w v with | true => rbnd (Z9e v) fun l => rck (small l) (rret (MV.pv (PV.int l.length))) | false => rbnd (robj v) fun o => rbnd (rp (ofO (lenO o))) fun n => rck (Nat.ble n lim) (rret (MV.pv (PV.int n)))) (match Z0w v with
   | true => bnd (seqM v) fun l => gd (small l) (ret (MV.pv (PV.int l.length)))
   | false => bnd (Z0n v) fun o => bnd (ofO (lenO o)) fun n => gd (Nat.ble n lim) (ret (MV.pv (PV.int n))))
  cases Z0w v with
  | true => exact (Z3c v).bnd fun l => (Z0e _).ck
  | false => exact (Z1n v).bnd fun o => (Z1h _).bnd fun n => (Z0e _).ck
 | list => exact (Z3c v).bnd fun l => rok_mk mu l
 | tuple => exact (Z3c v).bnd fun l => Z1h _
 | dict => exact (Z1n v).bnd fun o => Z1h _
 | sorted => exact (Z1n v).bnd fun o => Z1h _
 | _ => exact Z1h _
theorem rok_bi (mu : Bool) (b : BI) : ∀ vs, Rok (rbi mu b vs) (biM mu b vs)
 | [] => Z1h _
 | [v] => rok_bi1 mu b v
 | _ :: _ :: _ => Z1h _
theorem rok_getA (o : MV) (a : Str) : Rok (rgetA cfg o a) (Z9x cfg o a) := (Z1n o).bnd fun x => Z1h _
theorem rok_setA (o : MV) (a : Str) (v : MV) : Rok (rsetA cfg o a v) (Z9k cfg o a v) := by
 cases o with
 | ref r => exact (Z1n _).bnd fun x => Z1h _
 | _ => exact Z0b
theorem rok_pre (o : MV) (name : Str) : Rok (rpre cfg o name) (preM cfg o name) := by
 show Rok (match Z3t name with
  | .own => rbnd (robj o) fun x => rp (bnd (ofO (clsOf name x)) fun c => bnd (ofO (methOf cfg c name)) fun f => ret (.own f))
  | .get => rbnd (robj o) fun x => rp (getCal x)
  | m => rp (preC cfg o name m)) (preC cfg o name (Z3t name))
 cases Z3t name with
 | own => exact (Z1n o).bnd fun x => Z1h _
 | get => exact (Z1n o).bnd fun x => Z1h _
 | _ => exact Z1h _
theorem rok_run (mu : Bool) (c : Callee) (o : MV) (vs : List MV) : Rok (rrunM C mu c o vs) (runM C mu c o vs) := by
 cases c with
 | own f => exact Y0w _
 | get =>
  match vs with
  | [k, d] =>
   cases k with
   | pv p => cases p with
    | str k => exact (Z1n o).bnd fun x => by cases x <;> exact Z1h _
    | _ => exact Z0b
   | _ => exact Z0b
  | [] => exact Z0b
  | [_] => exact Z0b
  | _ :: _ :: _ :: _ => exact Z0b
 | _ => exact Z1h _
variable {I : Rx} {J : Ix} (H : RxOk I J)
include H
theorem Z6b (sc : Scope) (ρ : Vars) : ∀ es, Rok (rseq (es.map fun e => I.e e sc ρ)) (Z5e J es sc ρ)
 | [] => Z0e _
 | e :: r => (H.e e sc ρ).bnd fun v => (Z6b sc ρ r).bnd fun l => Z0e _
theorem rok_bool (op : BoolOp) (sc : Scope) (ρ : Vars) : ∀ es : List PySem.Expr, Rok (rboolM op (es.map fun e => I.e e sc ρ)) (boolM op (es.map fun e => J.e e sc ρ))
 | [] => Z0b
 | [x] => H.e x sc ρ
 | x :: y :: r => (H.e x sc ρ).bnd fun v => (rok_tru v).bnd fun b => by
  cases op <;> cases b <;> first | exact Z0e _ | exact rok_bool _ sc ρ (y :: r)
theorem rok_tall (op : BoolOp) (sc : Scope) (ρ : Vars) : ∀ es, Rok (rtstAll I op sc ρ es) (tstAll J op sc ρ es)
 | [] => Z0e _
 | x :: r => (H.t x sc ρ).bnd fun b => by
  cases op <;> cases b <;> first | exact Z0e _ | exact rok_tall _ sc ρ r
theorem rok_tsts (sc : Scope) (ρ : Vars) : ∀ es, Rok (rtsts I sc ρ es) (tsts J sc ρ es)
 | [] => Z0e _
 | x :: r => (H.t x sc ρ).bnd fun b => by
  cases b with
  | true => exact rok_tsts sc ρ r
  | false => exact Z0e _
theorem rok_pairs (sc : Scope) (ρ : Vars) : ∀ (ks : List (Option PySem.Expr)) (vs : List PySem.Expr), Rok (rpairs ((ks.map fun o => o.map fun e => I.e e sc ρ).zip (vs.map fun e => I.e e sc ρ))) (Z7p ((ks.map fun o => o.map fun e => J.e e sc ρ).zip (vs.map fun e => J.e e sc ρ)))
 | [], _ => Z0e _
 | none :: _, [] => Z0e _
 | some _ :: _, [] => Z0e _
 | none :: _, _ :: _ => Z0b
 | some k :: ks, v :: vs => (H.e k sc ρ).bnd fun kv => (H.e v sc ρ).bnd fun vv => by
  cases kv with
  | pv p => cases p with
   | str s => exact (rok_pairs sc ρ ks vs).bnd fun l => Z0e _
   | _ => exact Z0b
  | _ => exact Z0b
omit H
theorem Y0t {α : Type} {f : MV -> α -> Rp (Option MV × α)} {g : MV -> α -> Mm (Option MV × α)} (h : ∀ x a, Rok (f x a) (g x a)) : ∀ l a, Rok (rloopL f l a) (Z6j g l a)
 | [], _ => Z0e _
 | x :: r, a => (h x a).bnd fun t => by
  obtain ⟨o, a'⟩ := t
  cases o with
  | none => exact Y0t h r a'
  | some v => exact Z0e _
theorem rok_loopV {α : Type} {f : MV -> α -> Rp (Option MV × α)} {g : MV -> α -> Mm (Option MV × α)} (h : ∀ x a, Rok (f x a) (g x a)) (v : MV) : ∀ n k a, Rok (rloopV f v n k a) (Z7c g v n k a)
 | 0, _, _ => Z0b
 | n + 1, k, a => (Z1h _).bnd fun o => (rok_rlst o).bnd fun l => by
  show Rok (match l[k]? with | none => rret (none, a) | some x => rbnd (f x a) fun t => match t with | (none, a') => rloopV f v n (k + 1) a' | (some r, a') => rret (some r, a')) (match l[k]? with | none => ret (none, a) | some x => bnd (g x a) fun t => match t with | (none, a') => Z7c g v n (k + 1) a' | (some r, a') => ret (some r, a'))
  cases l[k]? with
  | none => exact Z0e _
  | some x =>
   refine (h x a).bnd fun t => ?_
   obtain ⟨o, a'⟩ := t
   cases o with
   | none => exact rok_loopV h v n (k + 1) a'
   | some r => exact Z0e _
theorem Y0s {α : Type} {f : MV -> α -> Rp (Option MV × α)} {g : MV -> α -> Mm (Option MV × α)} (h : ∀ x a, Rok (f x a) (g x a)) (tup : Bool) (s : Src) (a : α) : Rok (rloopS tup s g f a) (Z2k tup s g a) := by
 refine Rok.loop ?_
 cases s with
 | items l => exact Y0t h l a
 | zipped l => exact (Y0t h l a).gd
 | live v => exact rok_loopV h v 1000 0 a
theorem rok_while {t : Vars -> Mm Bool} {rt : Vars -> Rp Bool} {b : Vars -> Mm (Option MV × Vars)} {rb : Vars -> Rp (Option MV × Vars)} (ht : ∀ ρ, Rok (rt ρ) (t ρ)) (hb : ∀ ρ, Rok (rb ρ) (b ρ)) : ∀ n ρ, Rok (rwhileF rt rb n ρ) (Z3s t b n ρ)
 | 0, _ => Z0b
 | n + 1, ρ => (ht ρ).bnd fun c => by
  cases c with
  | false => exact Z0e _
  | true =>
   refine (hb ρ).bnd fun r => ?_
   obtain ⟨o, ρ'⟩ := r
   cases o with
   | none => exact rok_while ht hb n ρ'
   | some v => exact Z0e _
include H
theorem Y0v {t : PySem.Expr} {ifs : List PySem.Expr} {sc : Scope} {rest : Vars -> List MV -> Rp (List MV × Vars)} {mrest : Vars -> List MV -> Mm (List MV × Vars)} (h : ∀ ρ acc, Rok (rest ρ acc) (mrest ρ acc)) (x : MV) (acc : List MV × Vars) :
  Rok (rcturn I t ifs sc rest x acc) (Z5s J t ifs sc mrest x acc) :=
 (Z6r _).bnd fun ρ' => (rok_tsts H sc ρ' ifs).bnd fun ok => by
  cases ok with
  | false => exact Z0e _
  | true => exact (h ρ' acc.1).bnd fun r => Z0e _
theorem rok_comp (elt : PySem.Expr) (sc : Scope) : ∀ gens ρ acc, Rok (rcomp J I elt sc gens ρ acc) (comp J elt sc gens ρ acc)
 | [], ρ, acc => (H.e elt sc ρ).bnd fun v => (Z0e _).ck
 | ⟨t, it, ifs, 0⟩ :: rest, ρ, acc => (H.s it sc ρ).bnd fun s => (Y0s (Y0v H (rok_comp elt sc rest)) _ s _).bnd fun r => Z0e _
 | ⟨_, _, _, .ofNat (_ + 1)⟩ :: _, _, _ => Z0b
 | ⟨_, _, _, .negSucc _⟩ :: _, _, _ => Z0b
theorem rok_callE (args : List PySem.Expr) (sc : Scope) (ρ : Vars) (apos pos : Pos) (o : PySem.Expr) (name : Str) : Rok (rcallE cfg C I args sc ρ apos pos o name) (mcallE cfg C J args sc ρ apos pos o name) :=
 ((H.e o sc ρ).bnd fun ov => (rok_pre ov name).bnd fun c => (Z6b H sc ρ args).bnd fun vs => by
  exact rok_run _ c ov vs).gd
theorem rok_callF (fv : MV) (mu : Bool) (vs : List MV) : Rok (rcallM C mu fv vs) (callM C mu fv vs) := by
 cases fv with
 | pv p => cases p <;> first | exact rok_bi _ _ _ | exact Y0w _
 | _ => exact Z0b
theorem rok_opt (o : Option PySem.Expr) (sc : Scope) (ρ : Vars) : Rok (match o with | none => rret none | some e => rbnd (I.e e sc ρ) fun v => rret (some v)) (mopt J o sc ρ) := by
 cases o with
 | none => exact Z0e _
 | some e => exact (H.e e sc ρ).bnd fun v => Z0e _
theorem rok_E (e : PySem.Expr) (sc : Scope) (ρ : Vars) : Rok (rE cfg C J I e sc ρ) (mE cfg C J e sc ρ) := by
 cases e with
 | Constant c k p => exact Z6r _
 | Name x p => exact Z6r _
 | BoolOp op vs p => exact rok_bool H op sc ρ vs
 | BinOp l op r p => exact (H.e l sc ρ).bnd fun a => (H.e r sc ρ).bnd fun b => rok_bin _ op a b
 | UnaryOp op x p =>
  cases op with
  | Not => exact (H.e x sc ρ).bnd fun a => (rok_tru a).bnd fun b => Z0e _
  | USub => exact (H.e x sc ρ).bnd fun a => Z1h _
  | _ => exact Z0b
 | IfExp t b o p =>
  refine (H.t t sc ρ).bnd fun c => ?_
  cases c with
  | true => exact H.e b sc ρ
  | false => exact H.e o sc ρ
 | Dict ks vs p => exact ((rok_pairs H sc ρ ks vs).bnd fun es => Z1h _).gd
 | ListComp elt gens scope p =>
  cases gens with
  | nil => exact Z0b
  | cons g rest =>
   obtain ⟨t, it, ifs, as⟩ := g
   match as with
   | .ofNat (_ + 1) => exact Z0b
   | .negSucc _ => exact Z0b
   | .ofNat 0 => exact ((H.s it sc ρ).bnd fun s => (Y0s (Y0v H (rok_comp H elt scope rest)) _ s _).bnd fun r => rok_mk _ _).gd
 | Compare l ops rs p =>
  cases ops with
  | nil => exact Z0b
  | cons op ops => cases ops with
   | cons _ _ => exact Z0b
   | nil => cases rs with
    | nil => exact Z0b
    | cons r rs => cases rs with
     | cons _ _ => exact Z0b
     | nil => exact (H.e l sc ρ).bnd fun a => (H.e r sc ρ).bnd fun b => rok_cmp op a b
 | Call f args kws p =>
  cases kws with
  | nil => cases f with
   | Attribute o name apos => exact rok_callE H args sc ρ apos p o name
   | Name x q => exact (H.e _ sc ρ).bnd fun fv => (Z6b H sc ρ args).bnd fun vs => rok_callF H fv _ vs
   | _ => exact Z0b
  | cons _ _ => exact Z0b
 | Attribute v a p => exact ((H.e v sc ρ).bnd fun o => rok_getA o a).gd
 | Subscript v i p =>
  cases i with
  | Slice l u st q => cases l with
   | none => exact (H.e v sc ρ).bnd fun o => (rok_opt H u sc ρ).bnd fun uv => (rok_opt H st sc ρ).bnd fun sv => rok_cut _ o uv sv
   | some _ => exact Z0b
  | _ => first | exact Z0b | exact (H.e v sc ρ).bnd fun o => (H.e _ sc ρ).bnd fun k => rok_sub o k
 | List es p => exact (Z6b H sc ρ es).bnd fun vs => rok_mk _ vs
 | Tuple es c p => exact (Z6b H sc ρ es).bnd fun vs => Z6r _
 | _ => exact Z0b
theorem rok_T (e : PySem.Expr) (sc : Scope) (ρ : Vars) : Rok (rT cfg C J I e sc ρ) (mT cfg C J e sc ρ) := by
 cases e with
 | UnaryOp op x p => cases op with
  | Not => exact (H.t x sc ρ).bnd fun b => Z0e _
  | _ => exact Z0b
 | BoolOp op vs p => exact rok_tall H op sc ρ vs
 | _ => first | exact Z0b | exact (rok_E H _ sc ρ).bnd fun v => rok_tru v
theorem rok_S (e : PySem.Expr) (sc : Scope) (ρ : Vars) : Rok (rS cfg C J I e sc ρ) (mS cfg C J e sc ρ) := by
 cases e with
 | Call f args kws p =>
  unfold rS mS
  dsimp only
  cases isZip cfg sc f with
  | false => exact (rok_E H _ sc ρ).bnd fun v => rok_src v
  | true =>
   cases kws with
   | cons _ _ => exact Z0b
   | nil => cases args with
    | nil => exact Z0b
    | cons a r => cases r with
     | nil => exact Z0b
     | cons b r => cases r with
      | cons _ _ => exact Z0b
      | nil => exact (H.e a sc ρ).bnd fun x => (H.e b sc ρ).bnd fun y => ((Z3c x).bnd fun l => (Z3c y).bnd fun r => Z0e _).gd
 | _ => first | exact Z0b | exact (rok_E H _ sc ρ).bnd fun v => rok_src v
theorem rok_put (o i : PySem.Expr) (v : MV) (sc : Scope) (ρ : Vars) : Rok (rput I o i v sc ρ) (putM J o i v sc ρ) := (H.e o sc ρ).bnd fun ov => (H.e i sc ρ).bnd fun iv => (rok_setI ov iv v).bnd fun _ => Z0e _
theorem rok_putAll (sc : Scope) (ρ : Vars) : ∀ es l, Rok (rputAll I sc ρ es l) (Z4g J sc ρ es l)
 | [], [] => Z0e _
 | [], _ :: _ => Z0b
 | e :: r, [] => by cases e <;> exact Z0b
 | e :: r, v :: t => by
  cases e <;> first | exact Z0b | exact (rok_put H _ _ v sc ρ).bnd fun _ => rok_putAll sc ρ r t
theorem rok_A (t : PySem.Expr) (v : MV) (sc : Scope) (ρ : Vars) : Rok (rA cfg I t v sc ρ) (Z8k cfg J t v sc ρ) := by
 cases t with
 | Attribute o a p => exact (H.e o sc ρ).bnd fun ov => (rok_setA ov a v).bnd fun _ => Z0e _
 | Subscript o i p => exact rok_put H o i v sc ρ
 | Name x c => exact Z6r _
 | Tuple es c p =>
  show Rok (match names? es with | some _ => rp (Z1g (.Tuple es c p) v sc ρ) | none => rbnd (Z9e v) fun l => rgd (Z0w v) (rputAll I sc ρ es l)) (match names? es with | some _ => Z1g (.Tuple es c p) v sc ρ | none => bnd (seqM v) fun l => gd (Z0w v) (Z4g J sc ρ es l))
  cases names? es with
  | some _ => exact Z1h _
  | none => exact (Z3c v).bnd fun l => (rok_putAll H sc ρ es l).gd
 | _ => exact Z0b
theorem Z4a (sc : Scope) : ∀ b ρ, Rok (rexs I sc b ρ) (exs J sc b ρ)
 | [], ρ => Z0e _
 | s :: r, ρ => (H.x s sc ρ).bnd fun t => by
  obtain ⟨o, ρ'⟩ := t
  cases o with
  | none => exact Z4a sc r ρ'
  | some v => exact Z0e _
theorem rok_turn (t : PySem.Expr) (b : List Stmt) (sc : Scope) (x : MV) (ρ : Vars) : Rok (rturn I t b sc x ρ) (mturn J t b sc x ρ) := (Z6r _).bnd fun ρ' => Z4a H sc b ρ'
theorem rok_own (c : Callee) (o : MV) (vs : List MV) : Rok (rown C c o vs) (ownM C c o vs) := by
 cases c <;> first | exact Z0b | exact Y0w _
theorem rok_callX (e : PySem.Expr) (sc : Scope) (ρ : Vars) : Rok (rcallX cfg C I e sc ρ) (mcallX cfg C J e sc ρ) := by
 cases e with
 | Call f args kws p => cases kws with
  | cons _ _ => exact Z0b
  | nil => cases f with
   | Attribute o name apos => exact ((H.e o sc ρ).bnd fun ov => (rok_pre ov name).bnd fun c => (Z6b H sc ρ args).bnd fun vs => rok_own H c ov vs).gd
   | _ => exact Z0b
 | _ => exact Z0b
theorem rok_Try (isR : Bool) (v : PySem.Expr) (hs : List ExceptHandler) (sc : Scope) (ρ : Vars) : Rok (rTry cfg C I isR v hs sc ρ) (mTry cfg C J isR v hs sc ρ) := by
 cases hs with
 | nil => exact Z0b
 | cons x hs => cases hs with
  | cons _ _ => exact Z0b
  | nil =>
   show Rok (match Z3n x with | some th => rgd (isExc cfg sc th.1) <| rbnd (rcallX cfg C I v sc ρ) fun z => rdo (Y0e isR th.2 z ρ) | none => rbad) (match Z3n x with | some th => gd (isExc cfg sc th.1) <| bnd (mcallX cfg C J v sc ρ) fun z => Y0e isR th.2 z ρ | none => bad)
   cases Z3n x with
   | none => exact Z0b
   | some th => exact ((rok_callX H v sc ρ).bnd fun z => Z6r _).gd
theorem rok_tryM (b : List Stmt) (hs : List ExceptHandler) (sc : Scope) (ρ : Vars) : Rok (rtryM cfg C I b hs sc ρ) (tryM cfg C J b hs sc ρ) := by
 cases b with
 | nil => exact Z0b
 | cons s r => cases r with
  | cons _ _ => exact Z0b
  | nil => cases s with
   | Expr v p => exact rok_Try H false v hs sc ρ
   | Return v p => cases v with
    | none => exact Z0b
    | some v => exact rok_Try H true v hs sc ρ
   | _ => exact Z0b
theorem rok_raise (x y : Option PySem.Expr) (sc : Scope) (ρ : Vars) : Rok (rraise cfg I x y sc ρ) (raiseM cfg J x y sc ρ) := by
 cases x with
 | none => exact Z0b
 | some x => cases y with
  | some _ => exact Z0b
  | none => cases x with
   | Call f args kws p => cases args with
    | nil => exact Z0b
    | cons a r => cases r with
     | cons _ _ => exact Z0b
     | nil => cases kws with
      | cons _ _ => exact Z0b
      | nil => exact ((H.e a sc ρ).bnd fun v => (Z0e _).gd).gd
   | _ => exact Z0b
theorem rok_X (s : Stmt) (sc : Scope) (ρ : Vars) : Rok (rX cfg C J I s sc ρ) (mX cfg C J s sc ρ) := by
 cases s with
 | Expr v p =>
  refine ((H.e v sc ρ).bnd fun r => ?_).gd
  cases r with
  | pv p => cases p with
   | none => exact Z0e _
   | _ => exact Z0b
  | _ => exact Z0b
 | Pass p => exact Z0e _
 | Return e p => cases e with
  | none => exact Z0e _
  | some e => exact (H.e e sc ρ).bnd fun v => Z0e _
 | Assign ts v p => cases ts with
  | nil => exact Z0b
  | cons t ts => cases ts with
   | cons _ _ => exact Z0b
   | nil => exact ((H.e v sc ρ).bnd fun x => (rok_A H t x sc ρ).bnd fun ρ' => Z0e _).gd
 | If t b o p =>
  refine (H.t t sc ρ).bnd fun c => ?_
  cases c with
  | true => exact Z4a H sc b ρ
  | false => exact Z4a H sc o ρ
 | While t b o p => cases o with
  | nil => exact (rok_while (fun ρ => H.t t sc ρ) (Z4a H sc b) big ρ).loop
  | cons _ _ => exact Z0b
 | For t it b o p => cases o with
  | nil => exact (H.s it sc ρ).bnd fun s => Y0s (rok_turn H t b sc) _ s ρ
  | cons _ _ => exact Z0b
 | Raise x y p => exact rok_raise H x y sc ρ
 | Try b hs o fin p => cases o with
  | cons _ _ => exact Z0b
  | nil => cases fin with
   | cons _ _ => exact Z0b
   | nil => exact rok_tryM H b hs sc ρ
 | _ => exact Z0b
omit H
theorem rx_ok (n : Nat) : RxOk (rx cfg C (calm C) n) (ix cfg C n) := by
 induction n with
 | zero => exact ⟨fun _ _ _ => Z0b, fun _ _ _ => Z0b, fun _ _ _ => Z0b, fun _ _ _ => Z0b⟩
 | succ n ih => exact ⟨rok_E ih, rok_T ih, rok_S ih, rok_X ih⟩
end
noncomputable abbrev S (x : String) : Str := Str.ofString x
noncomputable abbrev sv (x : String) : PV := .str (S x)
noncomputable abbrev ixc (n k : Nat) : Ix := ix cfg (mraw cfg n) k
noncomputable abbrev rxc (n k : Nat) : Rx := rx cfg (mraw cfg n) (Z0d cfg n) k
theorem Z6q (n k : Nat) : RxOk (rxc n k) (ixc n k) := rx_ok k
noncomputable def Z2z (r : FnRow) : Nat := match r.isPure with
 | false => 0
 | true => match r.lent with
  | none => 1
  | some false => 2
  | some true => 3
noncomputable def Z7g (a : Addr) (args : List MV) : Option (Nat × Vars) := match cfg.fns a with
 | some r => match binds r args with | some ρ => some (Z2z r, ρ) | none => none
 | none => none
noncomputable def kindAt (a : Addr) (args : List MV) : Option Nat := match Z7g a args with
 | some x => some x.1
 | none => none
noncomputable def rbody (n : Nat) (a : Addr) (args : List MV) : Rp (Option MV × Vars) := match cfg.fns a with
 | some r => match binds r args with
  | some ρ => rexs (rxc n 40) r.scope r.body ρ
  | none => rbad
 | none => rbad
section
variable {n : Nat} {a : Addr} {args : List MV} {ps : List PV} {O : Z0c} {σ : Hp} {k : Nat}
theorem body_at (h : kindAt a args = some k) : ∃ r ρ, cfg.fns a = some r /\ Z2z r = k /\ binds r args = some ρ /\ rbody n a args = rexs (rxc n 40) r.scope r.body ρ := by
 unfold kindAt Z7g at h
 unfold rbody
 cases e : cfg.fns a with
 | none => rw [e] at h; exact nomatch h
 | some r =>
  rw [e] at h
  cases e2 : binds r args with
  | none => replace h : (match (match binds r args with | some ρ => some (Z2z r, ρ) | none => none) with | some x => some x.1 | none => none) = some k := h; rw [e2] at h; exact nomatch h
  | some ρ =>
   replace h : (match (match binds r args with | some ρ => some (Z2z r, ρ) | none => none) with | some x => some x.1 | none => none) = some k := h
   rw [e2] at h
   refine ⟨r, ρ, rfl, Option.some.inj h, e2, ?_⟩
   show (match binds r args with | some ρ => rexs (rxc n 40) r.scope r.body ρ | none => rbad) = _
   rw [e2]
theorem kind0 {r : FnRow} (h : Z2z r = 0) : r.isPure = false := by
 unfold Z2z at h
 cases e : r.isPure with
 | false => rfl
 | true =>
  rw [e] at h
  cases e2 : r.lent with
  | none => rw [e2] at h; exact nomatch h
  | some w => rw [e2] at h; cases w <;> exact nomatch h
theorem kind1 {r : FnRow} (h : Z2z r = 1) : r.isPure = true /\ r.lent = none := by
 unfold Z2z at h
 cases e : r.isPure with
 | false => rw [e] at h; exact nomatch h
 | true =>
  rw [e] at h
  cases e2 : r.lent with
  | none => exact ⟨rfl, rfl⟩
  | some w => rw [e2] at h; cases w <;> exact nomatch h
noncomputable def lentK (w : Bool) : Nat := match w with
 | false => 2
 | true => 3
theorem kind2 {r : FnRow} {w : Bool} (h : Z2z r = lentK w) : r.isPure = true /\ r.lent = some w := by
 unfold Z2z at h
 cases e : r.isPure with
 | false => rw [e] at h; cases w <;> exact nomatch h
 | true =>
  rw [e] at h
  cases e2 : r.lent with
  | none => rw [e2] at h; cases w <;> exact nomatch h
  | some u => rw [e2] at h; cases w <;> cases u <;> first | exact ⟨rfl, rfl⟩ | exact nomatch h
noncomputable def KW (n : Nat) (a : Addr) (args : List MV) (O : Z0c) (σ : Hp) (t : Option MV × Vars) (σ' : Hp) (_ : Tk) : Prop := mraw cfg (n + 1) (.fn a) args O σ = some (outV t, σ')
noncomputable def KO (n : Nat) (a : Addr) (args : List MV) (O : Z0c) (σ : Hp) (t : Option MV × Vars) (σ' : Hp) (_ : Tk) : Prop := Z0d cfg (n + 1) (.fn a) args O σ = noExc (outV t) O σ'
noncomputable def KP (n : Nat) (a : Addr) (args : List MV) (O : Z0c) (σ : Hp) (t : Option MV × Vars) (σl : Hp) (_ : Tk) : Prop := ∀ p, Z0f 30 σl (outV t) = some p -> Z0d cfg (n + 1) (.fn a) args O σ = some (.pv p, σ)
variable {r : Option (MV × Hp)}
theorem Z7s {p : PV} {z : MV} {σ' : Hp} (h : mraw cfg n p args O σ = some (z, σ')) : Z0d cfg n p args O σ = noExc z O σ' := by
 show bnd (mraw cfg n p args) noExc O σ = _
 unfold bnd
 rw [h]
theorem raw_o {r : FnRow} {ρ : Vars} {t : Option MV × Vars} {σ' : Hp} (h1 : cfg.fns a = some r) (h2 : Z2z r = 0) (h3 : binds r args = some ρ) (e : exs (ixc n 40) r.scope r.body ρ O σ = some (t, σ')) : mraw cfg (n + 1) (.fn a) args O σ = some (outV t, σ') := by
 rw [Y1d h1, fnM_o (kind0 h2)]
 unfold openM
 rw [h3]
 dsimp only
 unfold bnd
 rw [e]; rfl
theorem Z3q (hb : kindAt a args = some 0) (A : Tk) (F : rbody n a args A (KW n a args O σ) O σ -> mraw cfg (n + 1) (.fn a) args O σ = r) : mraw cfg (n + 1) (.fn a) args O σ = r := F (by
 obtain ⟨r, ρ, h1, h2, h3, h4⟩ := body_at (n := n) hb
 rw [h4]
 exact Z4a (Z6q n 40) r.scope r.body ρ A _ O σ fun t σ' A' e => raw_o h1 h2 h3 e)
theorem Z2j (hb : kindAt a args = some 0) (A : Tk) (F : rbody n a args A (KO n a args O σ) O σ -> Z0d cfg (n + 1) (.fn a) args O σ = r) : Z0d cfg (n + 1) (.fn a) args O σ = r := F (by
 obtain ⟨r, ρ, h1, h2, h3, h4⟩ := body_at (n := n) hb
 rw [h4]
 exact Z4a (Z6q n 40) r.scope r.body ρ A _ O σ fun t σ' A' e => Z7s (raw_o h1 h2 h3 e))
theorem pure_eq {g : Z0c -> Hp -> Z0c} {args' : List MV} {r : FnRow} {ρ : Vars} {t : Option MV × Vars} {σl : Hp} {p : PV} (h3 : binds r args' = some ρ) (e : exs (ixc n 40) r.scope r.body ρ (g O σ) [] = some (t, σl)) (hp : Z0f 30 σl (outV t) = some p) : Y0z cfg (mraw cfg n) r args' g O σ = some (.pv p, σ) := by
 unfold Y0z
 rw [h3]
 show (match exs (ixc n 40) r.scope r.body ρ (g O σ) [] with | some (t, σl) => frz σ σl (outV t) | none => none) = _
 rw [e]
 show (match Z0f 30 σl (outV t) with | some p => some (MV.pv p, σ) | none => none) = _
 rw [hp]
theorem Z0x (ha : Z0z args = some ps) (hb : kindAt a args = some 1) (A : Tk) (F : rbody n a args A (KP n a args O σ) [] [] -> Z0d cfg (n + 1) (.fn a) args O σ = r) : Z0d cfg (n + 1) (.fn a) args O σ = r := F (by
 obtain ⟨r, ρ, h1, h2, h3, h4⟩ := body_at (n := n) hb
 rw [h4]
 refine Z4a (Z6q n 40) r.scope r.body ρ A _ [] [] fun t σ' A' e p hp => ?_
 refine (Z7s (z := .pv p) (σ' := σ) ?_).trans rfl
 rw [Y1d h1, fnM_p (kind1 h2).1 (kind1 h2).2 ha]
 exact pure_eq h3 e hp)
theorem call_r (ha : Z0z args = none) (hl : args.all Z0k = true) (hb : kindAt a (args.map (lift 0)) = some 1) (A : Tk) (F : rbody n a (args.map (lift 0)) A (KP n a args O σ) (σ :: O) [] -> Z0d cfg (n + 1) (.fn a) args O σ = r) : Z0d cfg (n + 1) (.fn a) args O σ = r := F (by
 obtain ⟨r, ρ, h1, h2, h3, h4⟩ := body_at (n := n) hb
 rw [h4]
 refine Z4a (Z6q n 40) r.scope r.body ρ A _ (σ :: O) [] fun t σ' A' e p hp => ?_
 refine (Z7s (z := .pv p) (σ' := σ) ?_).trans rfl
 rw [Y1d h1, fnM_r (kind1 h2).1 (kind1 h2).2 ha hl]
 exact pure_eq h3 e hp)
theorem lentEnd_pv {w : Bool} {i : Nat} {v z : MV} {σl σ' : Hp} (e : Z3k w σ i v σl = some (z, σ')) : noExc z O σ' = some (z, σ') := by
 unfold Z3k at e
 split at e
 ·split at e
  ·split at e
   ·split at e
    ·cases e; rfl
    ·cases e
   ·cases e
  ·cases e
 ·cases e
end
noncomputable abbrev CRow := Nat × PySem.Expr × List Comprehension × Scope
noncomputable def cps : Nat -> PySem.Expr -> List CRow
 | 0, _ => []
 | n + 1, e => match e with
  | .ListComp elt gens sc _ => (n, elt, gens, sc) :: (gens.flatMap (fun g => cps n g.iter ++ g.ifs.flatMap (cps n)) ++ cps n elt)
  | .Call f args _ _ => cps n f ++ args.flatMap (cps n)
  | .BinOp l _ r _ => cps n l ++ cps n r
  | .BoolOp _ vs _ => vs.flatMap (cps n)
  | .UnaryOp _ x _ => cps n x
  | .IfExp a b c _ => cps n a ++ cps n b ++ cps n c
  | .Compare l _ rs _ => cps n l ++ rs.flatMap (cps n)
  | .Attribute v _ _ => cps n v
  | .Subscript v i _ => cps n v ++ cps n i
  | .List es _ => es.flatMap (cps n)
  | .Tuple es _ _ => es.flatMap (cps n)
  | _ => []
noncomputable abbrev LRow := Nat × PySem.Expr × List Stmt
noncomputable def cpsS : Nat -> Stmt -> List CRow × List LRow
 | 0, _ => ([], [])
 | n + 1, s => match s with
  | .Expr v _ => (cps n v, [])
  | .Return (some v) _ => (cps n v, [])
  | .Assign _ v _ => (cps n v, [])
  | .If t b o _ => (cps n t ++ b.flatMap (fun s => (cpsS n s).1) ++ o.flatMap (fun s => (cpsS n s).1), b.flatMap (fun s => (cpsS n s).2) ++ o.flatMap (fun s => (cpsS n s).2))
  | .While t b _ _ => (cps n t ++ b.flatMap (fun s => (cpsS n s).1), (n, t, b) :: b.flatMap (fun s => (cpsS n s).2))
  | .For t it b _ _ => (cps n it ++ b.flatMap (fun s => (cpsS n s).1), (n, t, b) :: b.flatMap (fun s => (cpsS n s).2))
  | _ => ([], [])
noncomputable def compAt (a : Addr) (i : Nat) : Option CRow := match cfg.fns a with
 | some r => (r.body.flatMap fun s => (cpsS 40 s).1)[i]?
 | none => none
noncomputable def Z7v (a : Addr) (i : Nat) : Option (LRow × Scope) := match cfg.fns a with
 | some r => match (r.body.flatMap fun s => (cpsS 40 s).2)[i]? with
  | some x => some (x, r.scope)
  | none => none
 | none => none
noncomputable def CF (n : Nat) (a : Addr) (i j : Nat) (x : MV) (acc : List MV × Vars) : Mm (Option MV × (List MV × Vars)) := match compAt a i with
 | some (k, elt, gens, sc) => match gens.drop j with
  | ⟨t, _, ifs, _⟩ :: rest => Z5s (ixc n k) t ifs sc (comp (ixc n k) elt sc rest) x acc
  | [] => bad
 | none => bad
noncomputable def RCF (n : Nat) (a : Addr) (i j : Nat) (x : MV) (acc : List MV × Vars) : Rp (Option MV × (List MV × Vars)) := match compAt a i with
 | some (k, elt, gens, sc) => match gens.drop j with
  | ⟨t, _, ifs, _⟩ :: rest => rcturn (rxc n k) t ifs sc (rcomp (ixc n k) (rxc n k) elt sc rest) x acc
  | [] => rbad
 | none => rbad
noncomputable def LF (n : Nat) (a : Addr) (i : Nat) (x : MV) (ρ : Vars) : Mm (Option MV × Vars) := match Z7v a i with
 | some ((k, t, b), sc) => mturn (ixc n k) t b sc x ρ
 | none => bad
noncomputable def RLF (n : Nat) (a : Addr) (i : Nat) (x : MV) (ρ : Vars) : Rp (Option MV × Vars) := match Z7v a i with
 | some ((k, t, b), sc) => rturn (rxc n k) t b sc x ρ
 | none => rbad
noncomputable def WT (n : Nat) (a : Addr) (i : Nat) (ρ : Vars) : Mm Bool := match Z7v a i with
 | some ((k, t, b), sc) => (ixc n k).t t sc ρ
 | none => bad
noncomputable def RWT (n : Nat) (a : Addr) (i : Nat) (ρ : Vars) : Rp Bool := match Z7v a i with
 | some ((k, t, b), sc) => (rxc n k).t t sc ρ
 | none => rbad
noncomputable def WB (n : Nat) (a : Addr) (i : Nat) (ρ : Vars) : Mm (Option MV × Vars) := match Z7v a i with
 | some ((k, t, b), sc) => exs (ixc n k) sc b ρ
 | none => bad
noncomputable def RWB (n : Nat) (a : Addr) (i : Nat) (ρ : Vars) : Rp (Option MV × Vars) := match Z7v a i with
 | some ((k, t, b), sc) => rexs (rxc n k) sc b ρ
 | none => rbad
section
variable {n : Nat} {a : Addr} {i j : Nat} {x : MV} {acc : List MV × Vars} {ρ : Vars} {O : Z0c} {σ : Hp}
noncomputable def KM {α : Type} (m : Mm α) (O : Z0c) (σ : Hp) (t : α) (σ' : Hp) (_ : Tk) : Prop := m O σ = some (t, σ')
theorem Rok.at {α : Type} {r : Rp α} {m : Mm α} (h : Rok r m) (A : Tk) : r A (KM m O σ) O σ := h A _ O σ fun _ _ _ e => e
theorem Z2g {r} (A : Tk) (F : RCF n a i j x acc A (KM (CF n a i j x acc) O σ) O σ -> CF n a i j x acc O σ = r) : CF n a i j x acc O σ = r := F (by
 refine Rok.at ?_ A
 unfold RCF CF
 cases compAt a i with
 | none => exact Z0b
 | some p =>
  obtain ⟨k, elt, gens, sc⟩ := p
  dsimp only
  cases gens.drop j with
  | nil => exact Z0b
  | cons g rest =>
   obtain ⟨t, it, ifs, k2⟩ := g
   exact Y0v (Z6q n k) (rok_comp (Z6q n k) elt sc rest) x acc)
theorem Z5g {r} (A : Tk) (F : RLF n a i x ρ A (KM (LF n a i x ρ) O σ) O σ -> LF n a i x ρ O σ = r) : LF n a i x ρ O σ = r := F (by
 refine Rok.at ?_ A
 unfold RLF LF
 cases Z7v a i with
 | none => exact Z0b
 | some p => exact rok_turn (Z6q n p.1.1) p.1.2.1 p.1.2.2 p.2 x ρ)
theorem Z8m {r} (A : Tk) (F : RWT n a i ρ A (KM (WT n a i ρ) O σ) O σ -> WT n a i ρ O σ = r) : WT n a i ρ O σ = r := F (by
 refine Rok.at ?_ A
 unfold RWT WT
 cases Z7v a i with
 | none => exact Z0b
 | some p => exact (Z6q n p.1.1).t p.1.2.1 p.2 ρ)
theorem turn_b {r} (A : Tk) (F : RWB n a i ρ A (KM (WB n a i ρ) O σ) O σ -> WB n a i ρ O σ = r) : WB n a i ρ O σ = r := F (by
 refine Rok.at ?_ A
 unfold RWB WB
 cases Z7v a i with
 | none => exact Z0b
 | some p => exact Z4a (Z6q n p.1.1) p.2 p.1.2.2 ρ)
end
noncomputable abbrev nmS (s : Str) : PV := .tup [sv "name", .str s, .tup []]
noncomputable abbrev nmT (s : String) : PV := nmS (S s)
noncomputable abbrev vr (x : String) : PV := .tup [sv "var", sv x]
noncomputable abbrev botV : PV := .tup [sv "bottom"]
noncomputable abbrev anyV : PV := nmT "Any"
noncomputable abbrev R0 := String × Bool × Bool × List PV × Option (String × List PV) × List PV
noncomputable def supO : Option (String × List PV) -> PV
 | none => .none
 | some (n, l) => .tup [sv "name", sv n, .tup l]
noncomputable def r0 (r : R0) : Str × PV := (S r.1, .obj 441 [(S "name", sv r.1), (S "params", .lst r.2.2.2.1), (S "super", supO r.2.2.2.2.1), (S "is_abstract", .bool r.2.1), (S "is_mutable", .bool r.2.2.1), (S "fields", .lst r.2.2.2.2.2)])
noncomputable def da (n sup : String) : R0 := (n, true, false, [], some (sup, []), [])
noncomputable def dc (n sup : String) (fields : List String) : R0 := (n, false, false, [], some (sup, []), fields.map fun f => .tup [sv f, anyV])
noncomputable def dk (n : String) (ab mu : Bool) (params : List PV) (sup : String) (l : List PV) (fields : List PV) : R0 := (n, ab, mu, params, some (sup, l), fields)
noncomputable def dpar (x : String) : PV := .tup [sv x, botV, anyV]
noncomputable def dfl (l : List String) : List PV := l.map fun f => .tup [sv f, vr "T.0"]
noncomputable abbrev n1V : PV := .tup [sv "n", .int 1]
noncomputable def T0 : List R0 := [("Any", true, false, [], none, []), da "Type" "Any", da "Function" "Any", da "Number" "Any", da "AbstractChar" "Any", da "AbstractString" "Any", da "Exception" "Any", da "Real" "Number", da "Integer" "Real", da "Signed" "Integer", da "Unsigned" "Integer",
 dc "Int8" "Signed" [], dc "Int16" "Signed" [], dc "Int32" "Signed" [], dc "Int64" "Signed" [], dc "BigInt" "Signed" [], dc "UInt8" "Unsigned" [], dc "UInt16" "Unsigned" [], dc "UInt32" "Unsigned" [], dc "UInt64" "Unsigned" [], dc "Bool" "Integer" [], dc "Char" "AbstractChar" [], dc "String" "AbstractString" [], dc "Symbol" "Any" [], dc "Nothing" "Any" [],
 dk "Expr" false true [] "Any" [] [.tup [sv "head", nmT "Symbol"], .tup [sv "args", anyV]],
 dc "DivideError" "Exception" [], dc "InexactError" "Exception" [], dc "TypeError" "Exception" [], dc "StackOverflowError" "Exception" [], dc "ArgumentError" "Exception" ["msg"], dc "OverflowError" "Exception" ["msg"], dc "DimensionMismatch" "Exception" ["msg"], dc "ErrorException" "Exception" ["msg"], dc "MethodError" "Exception" ["f", "args"], dc "AmbiguousError" "Exception" ["f", "args"], dc "UndefVarError" "Exception" ["var"], dc "BoundsError" "Exception" ["a", "i"],
 dk "AbstractArray" true false [dpar "T.0", dpar "N.0"] "Any" [] [], dk "Array" false true [dpar "T.0", dpar "N.0"] "AbstractArray" [vr "T.0", vr "N.0"] [], dk "SubArray" false true [dpar "T.0", dpar "N.0"] "AbstractArray" [vr "T.0", vr "N.0"] [], dk "AbstractRange" true false [dpar "T.0"] "AbstractArray" [vr "T.0", n1V] [],
 dk "UnitRange" false false [dpar "T.0"] "AbstractRange" [vr "T.0"] (dfl ["start", "stop"]), dk "StepRange" false false [dpar "T.0"] "AbstractRange" [vr "T.0"] (dfl ["start", "step", "stop"]), dk "Ref" false true [dpar "T.0"] "Any" [] (dfl ["x"]), dk "Rational" false false [.tup [sv "T.0", botV, nmT "Integer"]] "Real" [] (dfl ["num", "den"])]
noncomputable def D0 : List (Str × PV) := T0.map r0
noncomputable abbrev kO : MO := .obj 528 [(S "decls", .ref 2)]
theorem start_kinds (v : MO) (n : Nat) (O : Z0c) : Z0d cfg (n+20) (.fn 547) [] O [v] = some (.ref 1, [v, kO, .dct (pvs2 D0)]) := by kernel_rfl
noncomputable abbrev kv (ds : List (Str × PV)) : PV := .obj 528 [(S "decls", .dct ds)]
noncomputable abbrev ltr (k : Nat) : Str := ⟨#[k + 75]⟩
structure Rb where
 k : Nat
 many : Nat
 bd : Bool
 ab : Bool
inductive Way | i | a | b
noncomputable def Way.z : Way -> Int
 | .i => -1
 | .a => 0
 | .b => 1
noncomputable def Way.ok : Way -> Nat -> Bool
 | .i, _ => true
 | .a, m => Nat.blt 0 m
 | .b, m => Nat.blt 1 m
noncomputable abbrev Cn := List (Rb × List Way)
noncomputable def rowV : Cn -> PV
 | [] => .none
 | (b, w) :: t => .dct [(S "name", .str (ltr b.k)), (S "many", .int b.many), (S "bounded", .bool b.bd), (S "abstract", .bool b.ab), (S "above", rowV t), (S "ways", .lst (w.map fun x => .int x.z))]
inductive At | i | b | s
noncomputable def At.n : At -> Str
 | .i => S "Int64"
 | .b => S "Bool"
 | .s => S "String"
noncomputable abbrev At.v (a : At) : PV := nmS a.n
noncomputable abbrev avs (ps : List At) : List PV := ps.map At.v
noncomputable def vS (i k : Nat) : Str := ⟨#[80, i + 48, 46, k + 75]⟩
noncomputable abbrev vrS (x : Str) : PV := .tup [sv "var", .str x]
noncomputable abbrev nmL (s : Str) (l : List PV) : PV := .tup [sv "name", .str s, .tup l]
noncomputable abbrev i64 : PV := nmT "Int64"
noncomputable def wv (k : Nat) : Way -> PV
 | .i => i64
 | .a => vrS (vS 0 k)
 | .b => vrS (vS 1 k)
noncomputable def pick (ps : List At) : Way -> At
 | .i => .i
 | .a => ps.headD .i
 | .b => ps.tail.headD .i
noncomputable def bndV : Bool -> PV
 | true => nmT "Integer"
 | false => anyV
noncomputable def parV (i k : Nat) (bd : Bool) : PV := .tup [.str (vS i k), botV, bndV bd]
noncomputable def parsV (b : Rb) : List PV := match b.many with
 | 0 => []
 | 1 => [parV 0 b.k b.bd]
 | _ => [parV 0 b.k b.bd, parV 1 b.k b.bd]
noncomputable def supV (k : Nat) (w : List Way) : Cn -> PV
 | [] => anyV
 | x :: _ => nmL (ltr x.1.k) (w.map (wv k))
noncomputable def lastV (many : Nat) (v : PV) : List PV := match many with
 | 0 => []
 | _ => [.tup [sv "last", v]]
noncomputable def fldV (b : Rb) : List PV := match b.ab with
 | true => []
 | false => .tup [sv "first", i64] :: lastV b.many (vrS (vS 0 b.k))
noncomputable def Z0v (b : Rb) (w : List Way) (t : Cn) : PV := .obj 441 [(S "name", .str (ltr b.k)), (S "params", .lst (parsV b)), (S "super", supV b.k w t), (S "is_abstract", .bool b.ab), (S "is_mutable", .bool false), (S "fields", .lst (fldV b))]
noncomputable def ent : Cn -> Str × PV
 | [] => (S "", .none)
 | (b, w) :: t => (ltr b.k, Z0v b w t)
noncomputable abbrev rds (rs : List Cn) : List (Str × PV) := D0 ++ rs.map ent
noncomputable def Wf (rs : List Cn) : Cn -> Prop
 | [] => True
 | (b, w) :: t => rs[b.k]? = some ((b, w) :: t) /\ b.k < 7 /\ b.many <= 2 /\ (∀ x ∈ w, x.ok b.many = true) /\ (match t with
  | [] => w = []
  | x :: _ => w.length = x.1.many /\ x.1.ab = true /\ x.1.k < b.k) /\ Wf rs t
noncomputable def tab (k : Nat) : List At -> List (Str × PV)
 | [] => []
 | [a] => [(vS 0 k, a.v)]
 | a :: b :: _ => [(vS 0 k, a.v), (vS 1 k, b.v)]
theorem Z3y (l : List PV) : Z0z (pvs l) = some l := by
 induction l with
 | nil => rfl
 | cons x l ih =>
  show (match Z0z (pvs l) with | some ps => some (x :: ps) | none => none) = _
  rw [ih]
theorem ofo {α : Type} {x : Option α} {a : α} (h : x = some a) (O : Z0c) (σ : Hp) : ofO x O σ = some (a, σ) := by unfold ofO; rw [h]
theorem Z1y {α : Type} {P : Prop} {a b c : α} {l : List α} {m : Nat} (h : (a :: b :: c :: l).length = m) (hm : m <= 2) : P := by
 exact absurd (Nat.le_trans (Nat.le_of_eq h) hm) (Nat.not_le_of_lt (Nat.le_add_left 3 _))
theorem Z3j {α : Type} (x : Str) (v : α) (r : List (Str × α)) : look ((x, v) :: r) x = some v := by
 show (match Z0g x x with | true => some v | false => look r x) = _
 rw [Z1f]
theorem Z5v {α : Type} {x y : Str} (h : Z0g y x = false) (v : α) (r : List (Str × α)) : look ((y, v) :: r) x = look r x := by
 show (match Z0g y x with | true => some v | false => look r x) = _
 rw [h]
theorem dget {k : Str} {es : List (Str × MV)} {w d : MV} (h : look es k = some w) (O : Z0c) (σ : Hp) : dgetM k d (.dct es) O σ = some (w, σ) := by
 show some ((match look es k with | some v => v | none => d), σ) = _
 rw [h]
section
variable {O : Z0c} {σ : Hp}
theorem Z1r (w : List Way) (t : Cn) (n : Nat) : ∀ (b : Rb) (ps : List At), ps.length = b.many -> b.many <= 2 -> Z0d cfg (n+4) (.fn 428) [.pv (Z0v b w t), .pv (.tup (avs ps))] O σ = some (.pv (.dct (tab b.k ps)), σ)
 | ⟨k, _, bd, ab⟩, [], h, _ => by cases h; kernel_rfl
 | ⟨k, _, bd, ab⟩, [a], h, _ => by cases h; kernel_rfl
 | ⟨k, _, bd, ab⟩, [a, b], h, _ => by cases h; kernel_rfl
 | _, _ :: _ :: _ :: _, h, hm => Z1y h hm
end
section
variable {O : Z0c} {σ : Hp}
theorem var_ok {x : Str} {es : List (Str × PV)} {v : PV} (h : look (pvs2 es) x = some (.pv v)) (n : Nat) : Z0d cfg (n+3) (.fn 93) [.pv (vrS x), .pv (.dct es)] O σ = some (.pv v, σ) := by
 exact (Z0x rfl (by kernel_rfl)) [22] fun H => H _ _ (dget h _ _) _ rfl
theorem pick_ok (k : Nat) (n : Nat) : ∀ (x : Way) (ps : List At), x.ok ps.length = true -> Z0d cfg (n+6) (.fn 93) [.pv (wv k x), .pv (.dct (tab k ps))] O σ = some (.pv (pick ps x).v, σ)
 | .i, ps, _ => by kernel_rfl
 | .a, [], h => nomatch h
 | .a, [p], _ => var_ok (x := vS 0 k) (es := tab k [p]) (v := p.v) (Z3j _ _ _) _
 | .a, p :: q :: r, _ => var_ok (x := vS 0 k) (es := tab k (p :: q :: r)) (v := p.v) (Z3j _ _ _) _
 | .b, [], h => nomatch h
 | .b, [p], h => nomatch h
 | .b, p :: q :: r, _ => var_ok (x := vS 1 k) (es := tab k (p :: q :: r)) (v := q.v) ((Z5v (by rfl) _ _).trans (Z3j _ _ _)) _
theorem parts_nm (s : Str) (l : List PV) (h : small (pvs l) = true) (n : Nat) : Z0d cfg (n+3) (.fn 81) [.pv (nmL s l)] O σ = some (.pv (.lst l), σ) := by
 exact (Z0x rfl (by kernel_rfl)) [16, 0] fun H => H (h) _ _ (ofo (Z3y l) _ _) _ rfl
noncomputable def topL (ps : List At) : Cn -> List PV
 | [] => [sv "name", sv "Any", .tup []]
 | x :: _ => [sv "name", .str (ltr x.1.k), .tup (avs ps)]
noncomputable abbrev topV (ps : List At) (c : Cn) : PV := .tup (topL ps c)
theorem rebuilt1 (s : Str) (l : List PV) (x : PV) (n : Nat) : Z0d cfg (n+3) (.fn 88) [.pv (nmL s l), .pv (.lst [x])] O σ = some (.pv (nmL s [x]), σ) := by kernel_rfl
theorem rebuilt2 (s : Str) (l : List PV) (x y : PV) (n : Nat) : Z0d cfg (n+3) (.fn 88) [.pv (nmL s l), .pv (.lst [x, y])] O σ = some (.pv (nmL s [x, y]), σ) := by kernel_rfl
theorem subst_sup (k : Nat) (n : Nat) : ∀ (t : Cn) (w : List Way) (ps : List At), (∀ x ∈ w, x.ok ps.length = true) -> w.length <= 2 -> (t = [] -> w = []) -> Z0d cfg (n+7) (.fn 93) [.pv (supV k w t), .pv (.dct (tab k ps))] O σ = some (.pv (topV (w.map (pick ps)) t), σ)
 | [], w, ps, _, _, h => by kernel_rfl
 | _ :: _, [], ps, _, _, _ => by kernel_rfl
 | _ :: _, [x], ps, h, _, _ => by
  exact (Z0x rfl (by kernel_rfl)) [35] fun H => H _ _ (parts_nm _ [wv k x] rfl _) _ _ (pick_ok k _ x ps (h x (.head _))) _ _ (rebuilt1 _ _ _ _) _ rfl
 | _ :: _, [x, y], ps, h, _, _ => by
  exact (Z0x rfl (by kernel_rfl)) [35] fun H => H _ _ (parts_nm _ [wv k x, wv k y] rfl _) _ _ (pick_ok k _ x ps (h x (.head _))) _ _ (pick_ok k _ y ps (h y (.tail _ (.head _)))) _ _ (rebuilt2 _ _ _ _ _) _ rfl
 | _ :: _, _ :: _ :: _ :: _, _, _, hl, _ => Z1y rfl hl
end
structure Rows (rs : List Cn) : Prop where
 len : rs.length <= 7
 row : ∀ i c, rs[i]? = some c -> ∃ b w t, c = (b, w) :: t /\ b.k = i /\ Wf rs c
theorem look_app {α : Type} {x : Str} {r : List (Str × α)} : ∀ {l : List (Str × α)}, (∀ e ∈ l, Z0g e.1 x = false) -> look (l ++ r) x = look r x
 | [], _ => rfl
 | e :: l, h => (Z5v (h e (.head _)) e.2 (l ++ r)).trans (look_app fun e m => h e (.tail _ m))
theorem Z7n (a b : List (Str × PV)) : pvs2 (a ++ b) = pvs2 a ++ pvs2 b := List.map_append
theorem Y0y {es : List (Str × PV)} {P : Str -> Prop} (h : ∀ e ∈ es, P e.1) : ∀ e ∈ pvs2 es, P e.1 := by
 intro e m
 obtain ⟨a, ha, rfl⟩ := List.mem_map.mp m
 exact h a ha
theorem long_ne {s : Str} (h : Nat.blt 1 s.cps.toList.length = true) (c : Nat) : Z0g s ⟨#[c]⟩ = false := by
 show natsEq s.cps.toList [c] = false
 revert h
 cases s.cps.toList with
 | nil => intro h; exact nomatch h
 | cons a l => cases l with
  | nil => intro h; exact nomatch h
  | cons b l =>
   intro _
   show (match Nat.beq a c with | true => natsEq (b :: l) [] | false => false) = false
   cases Nat.beq a c <;> rfl
theorem D0_long : D0.all (fun e => Nat.blt 1 e.1.cps.toList.length) = true := by kernel_rfl
theorem look_D0 (k : Nat) (R : List (Str × PV)) : look (pvs2 (D0 ++ R)) (ltr k) = look (pvs2 R) (ltr k) := by
 rw [Z7n]
 exact look_app (Y0y (P := fun s => Z0g s (ltr k) = false) fun e m => long_ne (List.all_eq_true.mp D0_long e m) _)
theorem ltr_ne {a b : Nat} (h : a ≠ b) : Z0g (ltr a) (ltr b) = false := Z9h fun e => by
 have e : [a + 75] = [b + 75] := congrArg (fun s : Str => s.cps.toList) e
 injection e with e; omega
theorem look_idx : ∀ (k j : Nat) (rs : List Cn) (c : Cn), (∀ i c, rs[i]? = some c -> (ent c).1 = ltr (j + i)) -> rs[k]? = some c -> look (pvs2 (rs.map ent)) (ltr (j + k)) = some (.pv (ent c).2)
 | _, _, [], _, _, h => by cases h
 | 0, j, d :: rs, c, hk, h => by
  cases h
  show look (((ent d).1, MV.pv (ent d).2) :: pvs2 (rs.map ent)) (ltr j) = _
  rw [show (ent d).1 = ltr j from hk 0 d rfl]
  exact Z3j _ _ _
 | k + 1, j, d :: rs, c, hk, h => by
  show look (((ent d).1, MV.pv (ent d).2) :: pvs2 (rs.map ent)) (ltr (j + (k + 1))) = _
  rw [show (ent d).1 = ltr j from hk 0 d rfl, Z5v (ltr_ne (by omega)), show j + (k + 1) = (j + 1) + k by omega]
  exact look_idx k (j + 1) rs c (fun i c e => (hk (i + 1) c e).trans (congrArg ltr (by omega))) h
section
variable {rs : List Cn} (R : Rows rs)
include R
theorem Rows.key (i : Nat) (c : Cn) (h : rs[i]? = some c) : (ent c).1 = ltr i := by
 obtain ⟨b, w, t, rfl, rfl, _⟩ := R.row i c h
 rfl
theorem Rows.look {b : Rb} {w : List Way} {t : Cn} (h : Wf rs ((b, w) :: t)) : Mine.Internal.look (pvs2 (rds rs)) (ltr b.k) = some (.pv (Z0v b w t)) := by
 rw [look_D0]
 have := look_idx b.k 0 rs _ (fun i c e => (R.key i c e).trans (congrArg ltr (Nat.zero_add i).symm)) h.1
 rw [Nat.zero_add] at this
 exact this
end
theorem Z5w {es : List (Str × PV)} {x : Str} {v : PV} (h : look (pvs2 es) x = some (.pv v)) : inL (.str x) (.dct (pvs2 es)) = some true := by
 show some (look (pvs2 es) x).isSome = _
 rw [h]; rfl
theorem Z1j {es : List (Str × PV)} {x : Str} {v : MV} (h : look (pvs2 es) x = some v) : getKey (.dct (pvs2 es)) x = some v := h
theorem Y1t {x y : PV} {b : Bool} (hx : Z0p 60 x = true) (hy : Z0p 60 y = true) (h : pvEq x y = b) : eqPV x y = some b := by
 show (match Z0p 60 x && Z0p 60 y with | true => some (pvEq x y) | false => none) = _
 rw [hx, hy, <- h]; rfl
theorem dat_av (n : Nat) (a : At) : Z0p (n + 2) a.v = true := by cases a <;> rfl
theorem Z4z (n : Nat) : ∀ ps : List At, (avs ps).all (Z0p (n + 2)) = true
 | [] => rfl
 | a :: ps => by
  show (Z0p (n + 2) a.v && (avs ps).all (Z0p (n + 2))) = true
  rw [dat_av, Z4z n ps]; rfl
theorem Y1x {n : Nat} (s : Str) {l : List PV} (h : l.all (Z0p n) = true) : Z0p (n + 2) (nmL s l) = true := by
 show (true && (true && (l.all (Z0p n) && true))) = true
 rw [h]; rfl
theorem ne_any (k : Nat) (ps : List At) : eqPV (nmL (ltr k) (avs ps)) anyV = some false := Y1t (Y1x _ (Z4z 56 ps)) rfl (by kernel_rfl)
section
variable {O : Z0c} {σ : Hp}
theorem Z1p {es : List (Str × PV)} {x : Str} {v : PV} (h : look (pvs2 es) x = some (.pv v)) (n : Nat) : Z0d cfg (n+3) (.fn 478) [.pv (kv es), .pv (.str x)] O σ = some (.pv v, σ) := by
 exact (Z0x rfl (by kernel_rfl)) [6, 8] fun H => H _ _ (ofo (Z5w h) _ _) _ _ (ofo (Z1j h) _ _) _ rfl
theorem super_at {es : List (Str × PV)} {b : Rb} {w : List Way} {t : Cn} (h : look (pvs2 es) (ltr b.k) = some (.pv (Z0v b w t))) {ps : List At} (hl : ps.length = b.many) (hm : b.many <= 2) (hw : ∀ x ∈ w, x.ok b.many = true) (hw2 : w.length <= 2) (h0 : t = [] -> w = []) (n : Nat) :
  Z0d cfg (n+9) (.fn 485) [.pv (kv es), .pv (nmL (ltr b.k) (avs ps))] O σ = some (.pv (topV (w.map (pick ps)) t), σ) := by
 exact (Z0x rfl (by kernel_rfl)) [30] fun H => H _ _ (ofo (ne_any b.k ps) _ _) _ _ (Z1p h _) _ _ (Z1r w t _ b ps hl hm) _ _ (subst_sup b.k _ t w ps (hl ▸ hw) hw2 h0) _ rfl
end
noncomputable def Z1b : Cn -> List At -> List PV
 | [], ps => [anyV]
 | (b, w) :: t, ps => topV ps ((b, w) :: t) :: Z1b t (w.map (pick ps))
noncomputable abbrev Z3a : Cn -> Nat
 | [] => 0
 | x :: _ => x.1.many
theorem Z1q {α β : Type} {m : Mm α} {f : α -> Mm β} {O : Z0c} {σ σ' : Hp} {a : α} (h : m O σ = some (a, σ')) : bnd m f O σ = f a O σ' := by unfold bnd; rw [h]
theorem Z5p (l : List PV) : (pvs l).length = l.length := List.length_map MV.pv
theorem Z4p (l r : List PV) : pvs (l ++ r) = pvs l ++ pvs r := List.map_append
theorem sm_of {α : Type} {l : List α} (h : l.length <= 1000000) : small l = true := Nat.ble_eq_true_of_le h
theorem Z5m {l : List PV} (h : l.length <= 1000000) : small (pvs l) = true := sm_of ((Z5p l).symm ▸ h)
theorem snoc_len (L : List PV) (x : PV) : (pvs (L ++ [x])).length = L.length + 1 := (Z5p _).trans List.length_append
theorem Z9v (L : List PV) (x : PV) : idxOf (-1) (pvs (L ++ [x])).length = some L.length := by
 rw [snoc_len]
 show (match decide ((0 : Int) <= -1 + ((L.length + 1 : Nat) : Int)) with | true => some (-1 + ((L.length + 1 : Nat) : Int)).toNat | false => none) = _
 rw [show (-1 + ((L.length + 1 : Nat) : Int)) = ((L.length : Nat) : Int) by omega, decide_eq_true (Int.natCast_nonneg _), Int.toNat_natCast]
theorem Z9w (L : List PV) (x : PV) : (pvs (L ++ [x]))[L.length]? = some (.pv x) := by
 rw [Z4p, List.getElem?_append_right (Nat.le_of_eq (Z5p L)), Z5p, Nat.sub_self]; rfl
theorem Z5z {t : Vars -> Mm Bool} {b : Vars -> Mm (Option MV × Vars)} {n : Nat} {ρ : Vars} {O : Z0c} {σ σ' : Hp} (h : t ρ O σ = some (false, σ')) : Z3s t b (n + 1) ρ O σ = some ((none, ρ), σ') := Z1q h
theorem Z4k {t : Vars -> Mm Bool} {b : Vars -> Mm (Option MV × Vars)} {n : Nat} {ρ ρ' : Vars} {O : Z0c} {σ σ' σ2 : Hp} (h : t ρ O σ = some (true, σ')) (hb : b ρ O σ' = some ((none, ρ'), σ2)) : Z3s t b (n + 1) ρ O σ = Z3s t b n ρ' O σ2 := (Z1q h).trans (Z1q hb)
theorem ob_r {σ : Hp} {i : Nat} {o : MO} (h : σ[i]? = some o) (O : Z0c) : Z0n (.ref i) O σ = some (o, σ) := by
 show (match σ[i]? with | some o => some (o, σ) | none => none) = _
 rw [h]
theorem lstOf_ok {l : List MV} (h : small l = true) : Y1f (.lst l) = some l := by
 show (match small l with | true => some l | false => none) = _
 rw [h]
theorem x_pre {σ : Hp} {w : Nat} {W : List MV} (h : σ[w]? = some (.lst W)) (hs : small W = true) (O : Z0c) (name : Str) : preC cfg (.ref w) name .append O σ = some (.append, σ) /\ preC cfg (.ref w) name .pop O σ = some (.pop, σ) /\ preC cfg (.ref w) name .extend O σ = some (.extend, σ) :=
 have k (c : Callee) : bnd (Z0n (.ref w)) (fun x => bnd (ofO (Y1f x)) fun _ => ret c) O σ = some (c, σ) := (Z1q (ob_r h O)).trans (Z1q (ofo (lstOf_ok hs) O σ))
 ⟨k _, k _, k _⟩
theorem x_app {C : Z0j} {mu : Bool} {σ : Hp} {w : Nat} {W : List MV} (h : σ[w]? = some (.lst W)) (hs : small W = true) (v : MV) (O : Z0c) : runM C mu .append (.ref w) [v] O σ = some (.pv .none, σ.set w (.lst (W ++ [v]))) :=
 (Z1q (ob_r h O)).trans (Z1q (ofo (lstOf_ok hs) O σ))
theorem x_pop {C : Z0j} {mu : Bool} {σ : Hp} {w : Nat} {W : List MV} {x : MV} (h : σ[w]? = some (.lst (W ++ [x]))) (hs : small (W ++ [x]) = true) (O : Z0c) : runM C mu .pop (.ref w) [] O σ = some (x, σ.set w (.lst W)) := by
 refine (Z1q (ob_r h O)).trans ((Z1q (ofo (lstOf_ok hs) O σ)).trans ((Z1q (ofo List.getLast?_concat O σ)).trans ?_))
 rw [List.dropLast_concat]; rfl
theorem Z7t {α β : Type} {f : α -> Option β} {x : α} {l : List α} {y : β} {r : List β} (h : f x = some y) (k : mapO f l = some r) : mapO f (x :: l) = some (y :: r) := by
 have e : mapO f (x :: l) = (match f x with | some y => (match mapO f l with | some l => some (y :: l) | none => none) | none => none) := rfl
 rw [e, h, k]
theorem mapO_pvs {f : MV -> Option PV} (hf : ∀ x, f (.pv x) = some x) : ∀ l : List PV, mapO f (pvs l) = some l
 | [] => rfl
 | x :: l => Z7t (hf x) (mapO_pvs hf l)
theorem frz_lst (i : Nat) (σ : Hp) {l : List PV} (h : σ[i]? = some (.lst (pvs l))) : Z0f 30 σ (.ref i) = some (.lst l) := by
 unfold Z0f
 dsimp only
 rw [h]
 dsimp only
 rw [mapO_pvs fun _ => rfl]
noncomputable abbrev RS (es : List (Str × PV)) (k : PV) : Vars := [(S "self", some (.pv (kv es))), (S "kind", some (.pv k)), (S "found", some (.ref 0))]
section
variable {es : List (Str × PV)} {k : PV} {n : Nat} {O : Z0c}
theorem sm_snoc {L : List PV} {x : PV} (h : L.length < 1000) : small (pvs (L ++ [x])) = true := sm_of (by rw [snoc_len]; omega)
theorem sup_stop (L : List PV) (hL : L.length < 1000) : WT n 492 0 (RS es k) O [.lst (pvs (L ++ [anyV]))] = some (false, [.lst (pvs (L ++ [anyV]))]) := by
 exact (Z8m) [4, 0, 0] fun H => H _ _ (ofo (Z9v L anyV) _ _) (sm_snoc (x := anyV) hL) _ _ (ofo (Z9w L anyV) _ _)
theorem sup_go (L : List PV) (x : List PV) (hL : L.length < 1000) (he : eqPV (.tup x) anyV = some false) : WT n 492 0 (RS es k) O [.lst (pvs (L ++ [PV.tup x]))] = some (true, [.lst (pvs (L ++ [PV.tup x]))]) := by
 exact (Z8m) [4, 0, 0, 0] fun H => H _ _ (ofo (Z9v L (PV.tup x)) _ _) (sm_snoc (x := PV.tup x) hL) _ _ (ofo (Z9w L (PV.tup x)) _ _) _ _ (ofo he _ _)
theorem sup_body (L : List PV) (x : List PV) (y : PV) (hL : L.length < 1000) (hs : ∀ O σ, Z0d cfg n (.fn 485) [.pv (kv es), .pv (.tup x)] O σ = some (.pv y, σ)) : WB n 492 0 (RS es k) O [.lst (pvs (L ++ [PV.tup x]))] = some ((none, RS es k), [.lst (pvs ((L ++ [PV.tup x]) ++ [y]))]) := by
 have h1 : small (pvs (L ++ [PV.tup x])) = true := sm_snoc hL
 rw [Z4p (L ++ [PV.tup x]) [y]]
 exact (turn_b) [0, 8, 0, 0, 0] fun H => H _ _ ((x_pre (σ := [.lst (pvs (L ++ [PV.tup x]))]) (w := 0) rfl h1 _ (S "append")).1) _ _ (ofo (Z9v L (PV.tup x)) _ _) (h1) _ _ (ofo (Z9w L (PV.tup x)) _ _) _ _ (hs _ _) _ _ (x_app (σ := [.lst (pvs (L ++ [PV.tup x]))]) (w := 0) rfl h1 (.pv y) _)
end
section
variable {rs : List Cn} (R : Rows rs) {k : PV} {O : Z0c}
include R
theorem Z8r (n : Nat) : ∀ (c : Cn) (ps : List At) (L : List PV) (N : Nat), Wf rs c -> ps.length = Z3a c -> L.length + c.length < 1000 -> c.length < N -> Z3s (WT (n+9) 492 0) (WB (n+9) 492 0) N (RS (rds rs) k) O [.lst (pvs (L ++ [topV ps c]))] = some ((none, RS (rds rs) k), [.lst (pvs (L ++ Z1b c ps))])
 | [], ps, L, 0, _, _, _, hN => absurd hN (Nat.not_lt_zero _)
 | [], ps, L, N + 1, _, _, hL, _ => Z5z (sup_stop L hL)
 | _ :: _, ps, L, 0, _, _, _, hN => absurd hN (Nat.not_lt_zero _)
 | (b, w) :: t, ps, L, N + 1, hc, hp, hL, hN => by
  have hL2 : L.length + (t.length + 1) < 1000 := hL
  refine (Z4k (sup_go L _ (by omega) (ne_any b.k ps)) (sup_body L _ (topV (w.map (pick ps)) t) (by omega) fun O σ => super_at (R.look hc) hp hc.2.2.1 hc.2.2.2.1 ?_ ?_ n)).trans ?_
  ·cases t with
   | nil => rw [show w = [] from hc.2.2.2.2.1]; exact Nat.zero_le _
   | cons x t => rw [show w.length = x.1.many from hc.2.2.2.2.1.1]; obtain ⟨x, y⟩ := x; exact hc.2.2.2.2.2.2.2.1
  ·intro h; subst h; exact hc.2.2.2.2.1
  ·refine (Z8r n t (w.map (pick ps)) (L ++ [topV ps ((b, w) :: t)]) N hc.2.2.2.2.2 ?_ ?_ (Nat.lt_of_succ_lt_succ hN)).trans ?_
   ·rw [List.length_map]
    cases t with
    | nil => rw [show w = [] from hc.2.2.2.2.1]; rfl
    | cons x t => exact hc.2.2.2.2.1.1
   ·rw [List.length_append]; show L.length + 1 + t.length < 1000; omega
   ·rw [List.append_assoc]; rfl
theorem Y0k (n : Nat) (c : Cn) (ps : List At) (hc : Wf rs c) (hp : ps.length = Z3a c) (hl : c.length < 900) (σ : Hp) : Z0d cfg (n+10) (.fn 492) [.pv (kv (rds rs)), .pv (topV ps c)] O σ = some (.pv (.lst (Z1b c ps)), σ) := by
 exact (Z0x rfl (by kernel_rfl)) [2] fun H => H _ _ (Z8r R n c ps [] big hc hp (by rw [List.length_nil]; omega) (Nat.lt_trans hl (by decide))) _ (frz_lst 0 [.lst (pvs ([] ++ Z1b c ps))] rfl)
end
noncomputable abbrev same (a b : PV) : PV := .tup [sv "same", a, b]
noncomputable abbrev sub (a b : PV) : PV := .tup [sv "sub", a, b]
noncomputable def Z5d (Y : Str) : Cn -> List At -> Option (List At)
 | [], _ => match Z0g (S "Any") Y with
  | true => some []
  | false => none
 | (b, w) :: t, ps => match Z0g (ltr b.k) Y with
  | true => some ps
  | false => Z5d Y t (w.map (pick ps))
theorem le2 {P : List At -> Prop} (h0 : P []) (h1 : ∀ a, P [a]) (h2 : ∀ a b, P [a, b]) : ∀ l : List At, l.length <= 2 -> P l
 | [], _ => h0
 | [a], _ => h1 a
 | [a, b], _ => h2 a b
 | _ :: _ :: _ :: _, h => Z1y rfl h
noncomputable def sames (ps : List At) : List PV := ps.map fun p => same p.v p.v
noncomputable def Due (r qs : List At) (l : List PV) : Prop := r.length <= 2 /\ ((qs = [] /\ l = []) \/ (qs = r /\ l = sames r))
noncomputable abbrev RN (self : MV) (one other : PV) (y : Option MV) : Vars := [(S "self", some self), (S "one", some (.pv one)), (S "other", some (.pv other)), (S "above", y)]
theorem Z1k {α : Type} {F : MV -> α -> Mm (Option MV × α)} {x : MV} {r : List MV} {a a' : α} {O : Z0c} {σ σ' : Hp} (h : F x a O σ = some ((none, a'), σ')) : Z6j F (x :: r) a O σ = Z6j F r a' O σ' := Z1q h
theorem loopL_stop {α : Type} {F : MV -> α -> Mm (Option MV × α)} {x v : MV} {r : List MV} {a a' : α} {O : Z0c} {σ σ' : Hp} (h : F x a O σ = some ((some v, a'), σ')) : Z6j F (x :: r) a O σ = some ((some v, a'), σ') := Z1q h
section
variable {n : Nat} {O : Z0c} {σ : Hp} {self : MV} {one : PV} {Y : Str}
theorem nom_skip {qs : List PV} {s : Str} (l : List PV) (y : Option MV) (h : Z0g s Y = false) : LF n 349 0 (.pv (nmL s l)) (RN self one (nmL Y qs) y) O σ = some ((none, RN self one (nmL Y qs) (some (.pv (nmL s l)))), σ) := by
 have hq : pvEq (.str s) (.str Y) = false := h
 exact (Z5g) [15] fun H => H (hq)
theorem nom_hit {s : Str} (y : Option MV) (h : Z0g s Y = true) {r qs : List At} {l : List PV} (d : Due r qs l) : LF n 349 0 (.pv (nmL s (avs r))) (RN self one (nmL Y (avs qs)) y) O σ = some ((some (.pv (.lst [.lst l])), RN self one (nmL Y (avs qs)) (some (.pv (nmL s (avs r))))), σ) := by
 have hq : pvEq (.str s) (.str Y) = true := h
 obtain ⟨hr, d⟩ := d
 refine le2 (P := fun r => (qs = [] /\ l = []) \/ (qs = r /\ l = sames r) -> LF n 349 0 (.pv (nmL s (avs r))) (RN self one (nmL Y (avs qs)) y) O σ = some ((some (.pv (.lst [.lst l])), RN self one (nmL Y (avs qs)) (some (.pv (nmL s (avs r))))), σ)) ?_ ?_ ?_ r hr d
 ·intro d
  obtain ⟨rfl, rfl⟩ : qs = [] /\ l = [] := d.elim id fun d => d
  exact (Z5g) [14] fun H => H (hq)
 ·intro a d
  rcases d with ⟨rfl, rfl⟩ | ⟨rfl, rfl⟩
  ·exact (Z5g) [14] fun H => H (hq)
  ·exact (Z5g) [14] fun H => H (hq)
 ·intro a b d
  rcases d with ⟨rfl, rfl⟩ | ⟨rfl, rfl⟩
  ·exact (Z5g) [14] fun H => H (hq)
  ·exact (Z5g) [14] fun H => H (hq)
theorem nom_loop {qs r : List At} {l : List PV} (d : Due r qs l) : ∀ (c : Cn) (ps : List At) (y : Option MV), Z5d Y c ps = some r -> ∃ ρ, Z6j (LF n 349 0) (pvs (Z1b c ps)) (RN self one (nmL Y (avs qs)) y) O σ = some ((some (.pv (.lst [.lst l])), ρ), σ)
 | [], ps, y, h => by
  replace h : (match Z0g (S "Any") Y with | true => some [] | false => none) = some r := h
  cases q : Z0g (S "Any") Y with
  | false => rw [q] at h; exact nomatch h
  | true =>
   rw [q] at h; cases h
   have s := nom_hit (n := n) (O := O) (σ := σ) (self := self) (one := one) (r := []) y q d
   exact ⟨_, loopL_stop (r := []) s⟩
 | (b, w) :: t, ps, y, h => by
  replace h : (match Z0g (ltr b.k) Y with | true => some ps | false => Z5d Y t (w.map (pick ps))) = some r := h
  cases q : Z0g (ltr b.k) Y with
  | false =>
   rw [q] at h
   obtain ⟨ρ, e⟩ := nom_loop d t _ (some (.pv (nmL (ltr b.k) (avs ps)))) h
   have s := nom_skip (n := n) (O := O) (σ := σ) (self := self) (one := one) (qs := avs qs) (avs ps) y q
   exact ⟨ρ, (Z1k (r := pvs (Z1b t (w.map (pick ps)))) s).trans e⟩
  | true =>
   rw [q] at h; cases h
   have s := nom_hit (n := n) (O := O) (σ := σ) (self := self) (one := one) (r := r) y q d
   exact ⟨_, loopL_stop (r := pvs (Z1b t (w.map (pick r)))) s⟩
theorem nom_none {qs : List PV} : ∀ (c : Cn) (ps : List At) (y : Option MV), Z5d Y c ps = none -> ∃ ρ, Z6j (LF n 349 0) (pvs (Z1b c ps)) (RN self one (nmL Y qs) y) O σ = some ((none, ρ), σ)
 | [], ps, y, h => by
  replace h : (match Z0g (S "Any") Y with | true => some [] | false => none) = (none : Option (List At)) := h
  cases q : Z0g (S "Any") Y with
  | false =>
   have s := nom_skip (n := n) (O := O) (σ := σ) (self := self) (one := one) (qs := qs) [] y q
   exact ⟨_, Z1k (r := []) s⟩
  | true => rw [q] at h; exact nomatch h
 | (b, w) :: t, ps, y, h => by
  replace h : (match Z0g (ltr b.k) Y with | true => some ps | false => Z5d Y t (w.map (pick ps))) = none := h
  cases q : Z0g (ltr b.k) Y with
  | false =>
   rw [q] at h
   obtain ⟨ρ, e⟩ := nom_none t _ (some (.pv (nmL (ltr b.k) (avs ps)))) h
   have s := nom_skip (n := n) (O := O) (σ := σ) (self := self) (one := one) (qs := qs) (avs ps) y q
   exact ⟨ρ, (Z1k (r := pvs (Z1b t (w.map (pick ps)))) s).trans e⟩
  | true => rw [q] at h; exact nomatch h
end
noncomputable abbrev H3 (es : List (Str × PV)) (f : Int) (τ : Hp) : Hp := .obj 364 [(S "kinds", .pv (kv es)), (S "fuel", .pv (.int f))] :: .obj 226 [(S "rows", .ref 2), (S "many", .pv (.int 0))] :: .dct [] :: τ
section
variable {rs : List Cn} (R : Rows rs) {O : Z0c} {f : Int} {τ : Hp} {Y : Str} {c : Cn} {ps : List At} (hc : Wf rs c) (hp : ps.length = Z3a c) (hl : c.length < 900)
include R hc hp hl
theorem nominal_hit {qs r : List At} {l : List PV} (d : Due r qs l) (h : Z5d Y c ps = some r) (n : Nat) : Z0d cfg (n+11) (.fn 349) [.oref 0 0, .pv (topV ps c), .pv (nmL Y (avs qs))] (H3 (rds rs) f τ :: O) [] = some (.pv (.lst [.lst l]), []) := by
 obtain ⟨ρ, e⟩ := nom_loop (n := n+10) (O := [] :: H3 (rds rs) f τ :: O) (σ := []) (self := .oref 1 0) (one := topV ps c) d c ps none h
 exact (call_r rfl rfl (by kernel_rfl)) [10] fun H => H _ _ (Y0k R n c ps hc hp hl _) _ _ (show Z2k false (.items (pvs (Z1b c ps))) _ _ _ _ = _ from e) _ rfl
theorem nominal_miss {qs : List PV} (h : Z5d Y c ps = none) (n : Nat) : Z0d cfg (n+11) (.fn 349) [.oref 0 0, .pv (topV ps c), .pv (nmL Y qs)] (H3 (rds rs) f τ :: O) [] = some (.pv (.lst []), []) := by
 obtain ⟨ρ, e⟩ := nom_none (n := n+10) (O := [] :: H3 (rds rs) f τ :: O) (σ := []) (self := .oref 1 0) (one := topV ps c) (qs := qs) c ps none h
 exact (call_r rfl rfl (by kernel_rfl)) [10] fun H => H _ _ (Y0k R n c ps hc hp hl _) _ _ (show Z2k false (.items (pvs (Z1b c ps))) _ _ _ _ = _ from e) _ rfl
end
section
variable {es : List (Str × PV)} {O : Z0c} {f : Int} {τ : Hp} {s Y : Str} {l q : List PV} {z : PV} {n : Nat}
theorem plain_n (hn : Z0d cfg (n+11) (.fn 349) [.oref 0 0, .pv (nmL s l), .pv (nmL Y q)] (H3 es f τ :: O) [] = some (.pv z, [])) : Z0d cfg (n+12) (.fn 344) [.ref 0, .pv (nmL s l), .pv (nmL Y q)] O (H3 es f τ) = some (.pv z, H3 es f τ) := by
 exact (call_r rfl rfl (by kernel_rfl)) [] fun H => H _ _ (hn) _ rfl
theorem form_n (hn : Z0d cfg (n+11) (.fn 349) [.oref 0 0, .pv (nmL s l), .pv (nmL Y q)] (H3 es f τ :: O) [] = some (.pv z, [])) : Z0d cfg (n+13) (.fn 332) [.ref 0, .pv (nmL s l), .pv (nmL Y q), .ref 1] O (H3 es f τ) = some (.pv z, H3 es f τ) := by
 exact (Z2j (by kernel_rfl)) [] fun H => H _ _ (plain_n hn)
theorem asked_n (n : Nat) : Z0d cfg (n+5) (.fn 202) [.ref 1, .pv (nmL s l)] O (H3 es f τ) = some (.pv (.bool false), H3 es f τ) := by kernel_rfl
theorem ne_bot (h : l.all (Z0p 58) = true) : eqPV (nmL s l) botV = some false := Y1t (Y1x _ h) rfl (by kernel_rfl)
theorem empty_n (h : l.all (Z0p 58) = true) (n : Nat) (σ : Hp) : Z0d cfg (n+3) (.fn 264) [.pv (nmL s l)] O σ = some (.pv (.bool false), σ) := by
 exact (Z0x rfl (by kernel_rfl)) [20] fun H => H _ _ (ofo (ne_bot h) _ _) _ rfl
theorem step_n (hd : l.all (Z0p 58) = true) (eo : eqPV (nmL s l) (nmL Y q) = some false) (ea : eqPV (nmL Y q) anyV = some false) (hn : Z0d cfg (n+11) (.fn 349) [.oref 0 0, .pv (nmL s l), .pv (nmL Y q)] (H3 es f τ :: O) [] = some (.pv z, [])) : Z0d cfg (n+14) (.fn 310) [.ref 0, .pv (sub (nmL s l) (nmL Y q)), .ref 1] O (H3 es f τ) = some (.pv z, H3 es f τ) := by
 exact (Z2j (by kernel_rfl)) [2, 24] fun H => H _ _ (ofo eo _ _) _ _ (empty_n hd _ _) _ _ (ofo ea _ _) _ _ (asked_n _) _ _ (asked_n _) _ _ (form_n hn)
theorem step_any (hd : l.all (Z0p 58) = true) (eo : eqPV (nmL s l) (nmL Y q) = some false) (ea : eqPV (nmL Y q) anyV = some true) (n : Nat) : Z0d cfg (n+14) (.fn 310) [.ref 0, .pv (sub (nmL s l) (nmL Y q)), .ref 1] O (H3 es f τ) = some (.pv (.lst [.lst []]), H3 es f τ) := by
 exact (Z2j (by kernel_rfl)) [2, 24] fun H => H _ _ (ofo eo _ _) _ _ (empty_n hd _ _) _ _ (ofo ea _ _)
theorem Y0n {p : List PV} (eo : eqPV (.tup p) (.tup p) = some true) (n : Nat) : Z0d cfg (n+14) (.fn 310) [.ref 0, .pv (same (.tup p) (.tup p)), .ref 1] O (H3 es f τ) = some (.pv (.lst [.lst []]), H3 es f τ) := by
 exact (Z2j (by kernel_rfl)) [2] fun H => H _ _ (ofo eo _ _)
theorem conc_0 (n : Nat) : Z0d cfg (n+5) (.fn 356) [.ref 0, .ref 1] O (H3 es f τ) = some (.pv (.bool true), H3 es f τ) := by kernel_rfl
theorem eq_av (a : At) : eqPV a.v a.v = some true := by cases a <;> kernel_rfl
theorem settled_none {g : PV} (hs : ∀ f τ, Z0d cfg (n+14) (.fn 310) [.ref 0, .pv g, .ref 1] O (H3 es f τ) = some (.pv (.lst []), H3 es f τ)) : Z0d cfg (n+15) (.fn 303) [.ref 0, .ref 3, .ref 1, .ref 4] O (H3 es 4000 [.lst [.pv g], .lst []]) = some (.pv .none, H3 es 3999 [.lst [], .lst []]) := by
 exact (Z2j (by kernel_rfl)) [1] fun H => H _ _ (hs _ _)
theorem settled_0 {g : PV} (hs : ∀ f τ, Z0d cfg (n+14) (.fn 310) [.ref 0, .pv g, .ref 1] O (H3 es f τ) = some (.pv (.lst [.lst []]), H3 es f τ)) : Z0d cfg (n+15) (.fn 303) [.ref 0, .ref 3, .ref 1, .ref 4] O (H3 es 4000 [.lst [.pv g], .lst []]) = some (.ref 1, H3 es 3999 [.lst [], .lst []]) := by
 exact (Z2j (by kernel_rfl)) [1] fun H => H _ _ (hs _ _) _ _ (conc_0 _)
theorem settled_1 {g : PV} (a : At) (hs : ∀ f τ, Z0d cfg (n+14) (.fn 310) [.ref 0, .pv g, .ref 1] O (H3 es f τ) = some (.pv (.lst [.lst [same a.v a.v]]), H3 es f τ)) : Z0d cfg (n+15) (.fn 303) [.ref 0, .ref 3, .ref 1, .ref 4] O (H3 es 4000 [.lst [.pv g], .lst []]) = some (.ref 1, H3 es 3998 [.lst [], .lst []]) := by
 exact (Z2j (by kernel_rfl)) [1] fun H => H _ _ (hs _ _) _ _ (Y0n (eq_av a) _) _ _ (conc_0 _)
theorem settled_2 {g : PV} (a b : At) (hs : ∀ f τ, Z0d cfg (n+14) (.fn 310) [.ref 0, .pv g, .ref 1] O (H3 es f τ) = some (.pv (.lst [.lst [same a.v a.v, same b.v b.v]]), H3 es f τ)) : Z0d cfg (n+15) (.fn 303) [.ref 0, .ref 3, .ref 1, .ref 4] O (H3 es 4000 [.lst [.pv g], .lst []]) = some (.ref 1, H3 es 3997 [.lst [], .lst []]) := by
 exact (Z2j (by kernel_rfl)) [1] fun H => H _ _ (hs _ _) _ _ (Y0n (eq_av b) _) _ _ (Y0n (eq_av a) _) _ _ (conc_0 _)
end
section
variable {es : List (Str × PV)} {O : Z0c} {n : Nat}
theorem run_yes {g : PV} {f : Int} (hs : Z0d cfg (n+15) (.fn 303) [.ref 0, .ref 3, .ref 1, .ref 4] O (H3 es 4000 [.lst [.pv g], .lst []]) = some (.ref 1, H3 es f [.lst [], .lst []])) : Z0d cfg (n+16) (.fn 296) [.ref 0, .pv (.lst [g]), .ref 1] O (H3 es 4000 []) = some (.ref 1, H3 es f [.lst [], .lst []]) := by
 exact (Z2j (by kernel_rfl)) [7] fun H => H _ _ (hs)
theorem run_no {g : PV} {f : Int} (hs : Z0d cfg (n+15) (.fn 303) [.ref 0, .ref 3, .ref 1, .ref 4] O (H3 es 4000 [.lst [.pv g], .lst []]) = some (.pv .none, H3 es f [.lst [], .lst []])) : Z0d cfg (n+16) (.fn 296) [.ref 0, .pv (.lst [g]), .ref 1] O (H3 es 4000 []) = some (.pv .none, H3 es f [.lst [], .lst []]) := by
 exact (Z2j (by kernel_rfl)) [7] fun H => H _ _ (hs)
theorem left_n (s : Str) (l : List PV) (n : Nat) (σ : Hp) : Z0d cfg (n+4) (.fn 254) [.pv (nmL s l)] O σ = some (.pv (.lst [nmL s l]), σ) := by kernel_rfl
theorem search_at (n : Nat) : Z0d cfg (n+3) (.cls 364) [.pv (kv es), .pv (.int 4000)] O [] = some (.ref 0, [.obj 364 [(S "kinds", .pv (kv es)), (S "fuel", .pv (.int 4000))]]) := by kernel_rfl
theorem sides_at (o : MO) (n : Nat) : Z0d cfg (n+3) (.cls 226) [] O [o] = some (.ref 1, [o, .obj 226 [(S "rows", .ref 2), (S "many", .pv (.int 0))], .dct []]) := by kernel_rfl
variable {s Y : Str} {l q : List PV} {f : Int} {σ : Hp}
theorem sub_eq (eo : eqPV (nmL s l) (nmL Y q) = some true) (n : Nat) : Z0d cfg (n+17) (.fn 402) [.pv (kv es), .pv (nmL s l), .pv (nmL Y q)] O σ = some (.pv (.bool true), σ) := by
 exact (Z0x rfl (by kernel_rfl)) [0] fun H => H _ _ (ofo eo _ _) _ rfl
theorem sub_yes (eo : eqPV (nmL s l) (nmL Y q) = some false) (hs : Z0d cfg (n+15) (.fn 303) [.ref 0, .ref 3, .ref 1, .ref 4] [] (H3 es 4000 [.lst [.pv (sub (nmL s l) (nmL Y q))], .lst []]) = some (.ref 1, H3 es f [.lst [], .lst []])) : Z0d cfg (n+17) (.fn 402) [.pv (kv es), .pv (nmL s l), .pv (nmL Y q)] O σ = some (.pv (.bool true), σ) := by
 exact (Z0x rfl (by kernel_rfl)) [0, 5] fun H => H _ _ (ofo eo _ _) _ _ (left_n _ _ _ _) _ _ (search_at _) _ _ (sides_at _ _) _ _ (run_yes hs) _ rfl
theorem sub_no (eo : eqPV (nmL s l) (nmL Y q) = some false) (hs : Z0d cfg (n+15) (.fn 303) [.ref 0, .ref 3, .ref 1, .ref 4] [] (H3 es 4000 [.lst [.pv (sub (nmL s l) (nmL Y q))], .lst []]) = some (.pv .none, H3 es f [.lst [], .lst []])) : Z0d cfg (n+17) (.fn 402) [.pv (kv es), .pv (nmL s l), .pv (nmL Y q)] O σ = some (.pv (.bool false), σ) := by
 exact (Z0x rfl (by kernel_rfl)) [0, 5] fun H => H _ _ (ofo eo _ _) _ _ (left_n _ _ _ _) _ _ (search_at _) _ _ (sides_at _ _) _ _ (run_no hs) _ rfl
end
theorem eq_nm (s Y : Str) (ps qs : List At) : eqPV (nmL s (avs ps)) (nmL Y (avs qs)) = some (pvEq (nmL s (avs ps)) (nmL Y (avs qs))) := Y1t (Y1x _ (Z4z 56 ps)) (Y1x _ (Z4z 56 qs)) rfl
theorem neq_nm {s Y : Str} (h : Z0g s Y = false) (l q : List PV) : pvEq (nmL s l) (nmL Y q) = false := by
 show (match Z0g s Y with | true => pvsEq [.tup l] [.tup q] | false => false) = false
 rw [h]
section
variable {rs : List Cn} (R : Rows rs) {O : Z0c} {σ : Hp} {Y : Str} {b : Rb} {w : List Way} {t : Cn} {ps : List At} (hc : Wf rs ((b, w) :: t)) (hp : ps.length = b.many) (hl : t.length < 800)
include R hc hp hl
theorem subt_yes {qs r : List At} {l : List PV} (d : Due r qs l) (h : Z5d Y ((b, w) :: t) ps = some r) (n : Nat) : Z0d cfg (n+17) (.fn 402) [.pv (kv (rds rs)), .pv (nmL (ltr b.k) (avs ps)), .pv (nmL Y (avs qs))] O σ = some (.pv (.bool true), σ) := by
 have eo := eq_nm (ltr b.k) Y ps qs
 cases q : pvEq (nmL (ltr b.k) (avs ps)) (nmL Y (avs qs)) with
 | true => rw [q] at eo; exact sub_eq eo n
 | false =>
  rw [q] at eo
  have ea := eq_nm Y (S "Any") qs []
  have hd := Z4z 56 ps
  cases q2 : pvEq (nmL Y (avs qs)) (nmL (S "Any") (avs [])) with
  | true => rw [q2] at ea; exact sub_yes eo (settled_0 fun f τ => step_any hd eo ea n)
  | false =>
   rw [q2] at ea
   have hn (f : Int) (τ : Hp) : Z0d cfg (n+14) (.fn 310) [.ref 0, .pv (sub (nmL (ltr b.k) (avs ps)) (nmL Y (avs qs))), .ref 1] [] (H3 (rds rs) f τ) = some (.pv (.lst [.lst l]), H3 (rds rs) f τ) := step_n hd eo ea (nominal_hit R hc hp (Nat.lt_trans (Nat.succ_lt_succ hl) (by decide)) d h n)
   obtain ⟨hr, d⟩ := d
   have key : l = [] \/ (∃ a : At, l = [same a.v a.v]) \/ ∃ a b : At, l = [same a.v a.v, same b.v b.v] := by
    rcases d with ⟨_, e⟩ | ⟨_, e⟩
    ·exact .inl e
    ·exact le2 (P := fun r => l = sames r -> l = [] \/ (∃ a : At, l = [same a.v a.v]) \/ ∃ a b : At, l = [same a.v a.v, same b.v b.v]) .inl (fun a e => .inr (.inl ⟨a, e⟩)) (fun a b e => .inr (.inr ⟨a, b, e⟩)) r hr e
   rcases key with rfl | ⟨a, rfl⟩ | ⟨a, b, rfl⟩
   ·exact sub_yes eo (settled_0 hn)
   ·exact sub_yes eo (settled_1 a hn)
   ·exact sub_yes eo (settled_2 a b hn)
theorem subt_no {qs : List At} (h : Z5d Y ((b, w) :: t) ps = none) (hY : Z0g Y (S "Any") = false) (n : Nat) : Z0d cfg (n+17) (.fn 402) [.pv (kv (rds rs)), .pv (nmL (ltr b.k) (avs ps)), .pv (nmL Y (avs qs))] O σ = some (.pv (.bool false), σ) := by
 have hd := Z4z 56 ps
 have h0 : Z0g (ltr b.k) Y = false := by
  replace h : (match Z0g (ltr b.k) Y with | true => some ps | false => Z5d Y t (w.map (pick ps))) = none := h
  cases q : Z0g (ltr b.k) Y with
  | false => rfl
  | true => rw [q] at h; exact nomatch h
 have eo := (eq_nm (ltr b.k) Y ps qs).trans (congrArg some (neq_nm h0 _ _))
 have ea := (eq_nm Y (S "Any") qs []).trans (congrArg some (neq_nm hY _ _))
 exact sub_no eo (settled_none fun f τ => step_n hd eo ea (nominal_miss R hc hp (Nat.lt_trans (Nat.succ_lt_succ hl) (by decide)) h n))
end
section
set_option maxHeartbeats 1000000
noncomputable section
noncomputable def fit : Bool -> At -> Bool
 | true, .s => false
 | _, _ => true
theorem Z7q {l : List PV} (h : small (pvs l) = true) (O : Z0c) (σ : Hp) : Z4h (pvs l) O σ = some (.pv (.tup l), σ) := by
 have e : Y1e (pvs l) = .pv (.tup l) := by unfold Y1e; rw [Z3y]
 unfold Z4h gd
 rw [h, e]; rfl
section
variable {O : Z0c} {σ : Hp}
theorem Z3f (rs : List Cn) (n : Nat) : ∀ (bd : Bool) (a : At), Z0d cfg (n+30) (.fn 513) [.pv (kv (rds rs)), .pv a.v, .pv botV, .pv (bndV bd)] O σ = some (.pv (.bool (fit bd a)), σ)
 | true, .i => by kernel_rfl
 | true, .b => by kernel_rfl
 | true, .s => by kernel_rfl
 | false, .i => by kernel_rfl
 | false, .b => by kernel_rfl
 | false, .s => by kernel_rfl
theorem named_at (s : Str) {l : List PV} (h : small (pvs l) = true) (n : Nat) : Z0d cfg (n+3) (.fn 59) [.pv (.str s), .pv (.tup l)] O σ = some (.pv (nmL s l), σ) := by
 exact (Z0x rfl (by kernel_rfl)) [0] fun H => H _ _ (Z7q h _ _) _ rfl
theorem text_s (n : Nat) (σ : Hp) : Z0d cfg (n+6) (.fn 110) [.pv (At.v .s)] O σ = some (.pv (sv "String"), σ) := by kernel_rfl
theorem Z6x (T : PV) (n : Nat) : Z0d cfg (n+5) (.fn 93) [.pv botV, .pv T] O σ = some (.pv botV, σ) := by kernel_rfl
theorem Z6y (T : PV) (n : Nat) : ∀ bd, Z0d cfg (n+5) (.fn 93) [.pv (bndV bd), .pv T] O σ = some (.pv (bndV bd), σ)
 | true => by kernel_rfl
 | false => by kernel_rfl
end
section
variable {rs : List Cn} {O : Z0c} {σ : Hp} {k : Nat} {bd ab : Bool} {w : List Way} {t : Cn}
theorem appl_bad0 (n : Nat) {a : At} (l : List At) (h : look (pvs2 (rds rs)) (ltr k) = some (.pv (Z0v ⟨k, 0, bd, ab⟩ w t))) : mraw cfg (n+32) (.fn 506) [.pv (kv (rds rs)), .pv (.str (ltr k)), .pv (.tup (avs [a]))] O σ = some (.exc, σ) := by
 exact (Z3q (by kernel_rfl)) [] fun H => H _ _ (Z1p h _)
theorem appl_bad1 (n : Nat) {a b : At} (h : look (pvs2 (rds rs)) (ltr k) = some (.pv (Z0v ⟨k, 1, bd, ab⟩ w t))) : mraw cfg (n+32) (.fn 506) [.pv (kv (rds rs)), .pv (.str (ltr k)), .pv (.tup (avs [a, b]))] O σ = some (.exc, σ) := by
 exact (Z3q (by kernel_rfl)) [] fun H => H _ _ (Z1p h _)
theorem appl_bad2 (n : Nat) {a b c : At} (h : look (pvs2 (rds rs)) (ltr k) = some (.pv (Z0v ⟨k, 2, bd, ab⟩ w t))) : mraw cfg (n+32) (.fn 506) [.pv (kv (rds rs)), .pv (.str (ltr k)), .pv (.tup (avs [a, b, c]))] O σ = some (.exc, σ) := by
 exact (Z3q (by kernel_rfl)) [] fun H => H _ _ (Z1p h _)
theorem appl_0 (n : Nat) (h : look (pvs2 (rds rs)) (ltr k) = some (.pv (Z0v ⟨k, 0, bd, ab⟩ w t))) : mraw cfg (n+32) (.fn 506) [.pv (kv (rds rs)), .pv (.str (ltr k)), .pv (.tup (avs []))] O σ = some (.pv (nmL (ltr k) (avs [])), σ) := by
 exact (Z3q (by kernel_rfl)) [] fun H => H _ _ (Z1p h _) _ _ (Z1r w t _ ⟨k, 0, bd, ab⟩ [] rfl (Nat.zero_le _)) _ _ (named_at (l := avs []) _ rfl _)
theorem tab0 (k : Nat) (a : At) (r : List At) (hr : r.length <= 1) : getKey (.dct (pvs2 (tab k (a :: r)))) (vS 0 k) = some (.pv a.v) := by
 match r, hr with
 | [], _ => exact Z3j _ _ _
 | [b], _ => exact Z3j _ _ _
theorem tab1 (k : Nat) (a b : At) : getKey (.dct (pvs2 (tab k [a, b]))) (vS 1 k) = some (.pv b.v) := (Z5v (x := vS 1 k) (y := vS 0 k) (by rfl) (MV.pv a.v) [(vS 1 k, MV.pv b.v)]).trans (Z3j _ _ _)
theorem sat {a b : Str} (mu : Bool) (h : Nat.ble (a.cps.toList.length + b.cps.toList.length) lim = true) : addM mu (.pv (.str a)) (.pv (.str b)) O σ = some (.pv (.str (a ++ b)), σ) := by
 show gd (Nat.ble (a.cps.toList.length + b.cps.toList.length) lim) (ret (MV.pv (.str (a ++ b)))) O σ = _
 rw [h]; rfl
noncomputable abbrev bad1 (k : Nat) : Str := S "a parameter of " ++ ltr k
theorem sat1 (k : Nat) (mu : Bool) : addM mu (.pv (sv "a parameter of ")) (.pv (.str (ltr k))) O σ = some (.pv (.str (bad1 k)), σ) := sat mu (by kernel_rfl)
theorem sat2 (k : Nat) (mu : Bool) : addM mu (.pv (.str (bad1 k))) (.pv (sv " is beyond its bounds: ")) O σ = some (.pv (.str (bad1 k ++ S " is beyond its bounds: ")), σ) := sat mu (by kernel_rfl)
theorem sat3 (k : Nat) (mu : Bool) : addM mu (.pv (.str (bad1 k ++ S " is beyond its bounds: "))) (.pv (sv "String")) O σ = some (.pv (.str (bad1 k ++ S " is beyond its bounds: " ++ S "String")), σ) := sat mu (by kernel_rfl)
theorem appl_1 (n : Nat) (a : At) (hf : fit bd a = true) (h : look (pvs2 (rds rs)) (ltr k) = some (.pv (Z0v ⟨k, 1, bd, ab⟩ w t))) : mraw cfg (n+32) (.fn 506) [.pv (kv (rds rs)), .pv (.str (ltr k)), .pv (.tup (avs [a]))] O σ = some (.pv (nmL (ltr k) (avs [a])), σ) := by
 exact (Z3q (by kernel_rfl)) [31, 6, 0] fun H => H _ _ (Z1p h _) _ _ (Z1r w t _ ⟨k, 1, bd, ab⟩ [a] rfl (Nat.le_succ 1)) _ _ (ofo (tab0 k a [] (Nat.zero_le _)) _ _) _ _ (Z6x _ _) _ _ (Z6y _ _ _) _ _ (Z3f _ _ _ _) (hf) _ _ (named_at (l := avs [a]) _ rfl _)
theorem appl_1x (n : Nat) (h : look (pvs2 (rds rs)) (ltr k) = some (.pv (Z0v ⟨k, 1, true, ab⟩ w t))) : mraw cfg (n+32) (.fn 506) [.pv (kv (rds rs)), .pv (.str (ltr k)), .pv (.tup (avs [.s]))] O σ = some (.exc, σ) := by
 exact (Z3q (by kernel_rfl)) [31, 6, 2, 0, 2, 0] fun H => H _ _ (Z1p h _) _ _ (Z1r w t _ ⟨k, 1, true, ab⟩ [.s] rfl (Nat.le_succ 1)) _ _ (ofo (tab0 k .s [] (Nat.zero_le _)) _ _) _ _ (Z6x _ _) _ _ (Z6y _ _ _) _ _ (Z3f rs _ true .s) _ _ (sat1 k _) _ _ (sat2 k _) _ _ (ofo (tab0 k .s [] (Nat.zero_le _)) _ _) _ _ (text_s _ _) _ _ (sat3 k _)
theorem appl_2 (n : Nat) (a b : At) (hf : fit bd a = true) (hg : fit bd b = true) (h : look (pvs2 (rds rs)) (ltr k) = some (.pv (Z0v ⟨k, 2, bd, ab⟩ w t))) : mraw cfg (n+32) (.fn 506) [.pv (kv (rds rs)), .pv (.str (ltr k)), .pv (.tup (avs [a, b]))] O σ = some (.pv (nmL (ltr k) (avs [a, b])), σ) := by
 exact (Z3q (by kernel_rfl)) [31, 6, 0, 6, 0] fun H => H _ _ (Z1p h _) _ _ (Z1r w t _ ⟨k, 2, bd, ab⟩ [a, b] rfl (Nat.le_refl 2)) _ _ (ofo (tab0 k a [b] (Nat.le_refl 1)) _ _) _ _ (Z6x _ _) _ _ (Z6y _ _ _) _ _ (Z3f rs _ bd a) (hf) _ _ (ofo (tab1 k a b) _ _) _ _ (Z6x _ _) _ _ (Z6y _ _ _) _ _ (Z3f rs _ bd b) (hg) _ _ (named_at (l := avs [a, b]) _ rfl _)
theorem appl_2x (n : Nat) (b : At) (h : look (pvs2 (rds rs)) (ltr k) = some (.pv (Z0v ⟨k, 2, true, ab⟩ w t))) : mraw cfg (n+32) (.fn 506) [.pv (kv (rds rs)), .pv (.str (ltr k)), .pv (.tup (avs [.s, b]))] O σ = some (.exc, σ) := by
 exact (Z3q (by kernel_rfl)) [31, 6, 2, 0, 2, 0] fun H => H _ _ (Z1p h _) _ _ (Z1r w t _ ⟨k, 2, true, ab⟩ [.s, b] rfl (Nat.le_refl 2)) _ _ (ofo (tab0 k .s [b] (Nat.le_refl 1)) _ _) _ _ (Z6x _ _) _ _ (Z6y _ _ _) _ _ (Z3f rs _ true .s) _ _ (sat1 k _) _ _ (sat2 k _) _ _ (ofo (tab0 k .s [b] (Nat.le_refl 1)) _ _) _ _ (text_s _ _) _ _ (sat3 k _)
theorem appl_2y (n : Nat) (a : At) (hf : fit true a = true) (h : look (pvs2 (rds rs)) (ltr k) = some (.pv (Z0v ⟨k, 2, true, ab⟩ w t))) : mraw cfg (n+32) (.fn 506) [.pv (kv (rds rs)), .pv (.str (ltr k)), .pv (.tup (avs [a, .s]))] O σ = some (.exc, σ) := by
 exact (Z3q (by kernel_rfl)) [31, 6, 0, 6, 2, 0, 2, 0] fun H => H _ _ (Z1p h _) _ _ (Z1r w t _ ⟨k, 2, true, ab⟩ [a, .s] rfl (Nat.le_refl 2)) _ _ (ofo (tab0 k a [.s] (Nat.le_refl 1)) _ _) _ _ (Z6x _ _) _ _ (Z6y _ _ _) _ _ (Z3f rs _ true a) (hf) _ _ (ofo (tab1 k a .s) _ _) _ _ (Z6x _ _) _ _ (Z6y _ _ _) _ _ (Z3f rs _ true .s) _ _ (sat1 k _) _ _ (sat2 k _) _ _ (ofo (tab1 k a .s) _ _) _ _ (text_s _ _) _ _ (sat3 k _)
end
end
end
theorem bool_refl (b : Bool) : intEq (Z5y b) (Z5y b) = true := by cases b <;> rfl
theorem pvs_refl {f : PV -> Bool} (hf : ∀ x, f x = true -> pvEq x x = true) : ∀ l : List PV, l.all f = true -> pvsEq l l = true
 | [], _ => rfl
 | x :: l, h => by
  have h := Bool.and_eq_true_iff.mp h
  show (match pvEq x x with | true => pvsEq l l | false => false) = true
  rw [hf x h.1]
  exact pvs_refl hf l h.2
theorem pv_refl : ∀ (n : Nat) (x : PV), Z0p n x = true -> pvEq x x = true
 | _, .none, _ => rfl
 | _, .bool b, _ => bool_refl b
 | _, .int i, _ => decide_eq_true rfl
 | _, .str s, _ => Z1f s
 | n + 1, .tup l, h => pvs_refl (pv_refl n) l h
 | n + 1, .lst l, h => pvs_refl (pv_refl n) l h
 | 0, .tup _, h => nomatch h
 | 0, .lst _, h => nomatch h
 | 0, .dct _, h | 0, .obj _ _, h | 0, .fn _, h | 0, .cls _, h | 0, .bi _, h | 0, .rng _, h => nomatch h
 | _ + 1, .dct _, h | _ + 1, .obj _ _, h | _ + 1, .fn _, h | _ + 1, .cls _, h | _ + 1, .bi _, h | _ + 1, .rng _, h => nomatch h
theorem eq_refl {x : PV} (h : Z0p 60 x = true) : eqPV x x = some true := Y1t h h (pv_refl 60 x h)
theorem eqL_pvs {l r : List PV} (hn : l.length = r.length) : eqL (pvs l) (pvs r) = eqPV (.lst l) (.lst r) := by
 have e : Nat.beq (pvs l).length (pvs r).length = true := by rw [Z5p, Z5p, hn]; exact Nat.beq_refl _
 unfold eqL
 rw [e, Z3y, Z3y]
theorem eqo_refl {l : List PV} (h : l.all (Z0p 59) = true) (O : Z0c) (σ : Hp) : eqO (.lst (pvs l)) (.lst (pvs l)) O σ = some (true, σ) := by
 show ofO (eqL (pvs l) (pvs l)) O σ = _
 exact ofo ((eqL_pvs rfl).trans (eq_refl (x := .lst l) h)) O σ
section
variable {O : Z0c} {σ : Hp} {m : Nat} {es : List (Str × PV)} {k : Nat} {bd ab : Bool} {w : List Way} {t : Cn}
theorem lappl_ok {s : Str} {l v : List PV} (h : mraw cfg m (.fn 506) [.pv (kv es), .pv (.str s), .pv (.tup l)] [] [] = some (.pv (.tup v), [])) : Z0d cfg (m+1) (.fn 642) [.pv (kv es), .pv (.str s), .pv (.tup l)] O σ = some (.pv (.tup v), σ) := by
 exact (Z0x rfl (by kernel_rfl)) [] fun H => H _ _ (h) _ rfl
theorem Z6d {s : Str} {l : List PV} (h : mraw cfg m (.fn 506) [.pv (kv es), .pv (.str s), .pv (.tup l)] [] [] = some (.exc, [])) : Z0d cfg (m+1) (.fn 642) [.pv (kv es), .pv (.str s), .pv (.tup l)] O σ = some (.pv .none, σ) := by
 exact (Z0x rfl (by kernel_rfl)) [] fun H => H _ _ (h) _ rfl
theorem free_avs (s : Str) (n : Nat) : ∀ ps : List At, ps.length <= 2 -> Z0d cfg (n+6) (.fn 98) [.pv (nmL s (avs ps))] O σ = some (.pv (.lst []), σ)
 | [], _ => by kernel_rfl
 | [a], _ => by kernel_rfl
 | [a, b], _ => by kernel_rfl
 | _ :: _ :: _ :: _, h => Z1y rfl h
theorem Y1z {b : Rb} (hb : b.ab = true) (h : look (pvs2 es) (ltr b.k) = some (.pv (Z0v b w t))) (l : List PV) (n : Nat) : Z0d cfg (n+7) (.fn 525) [.pv (kv es), .pv (nmL (ltr b.k) l)] O σ = some (.pv (.bool false), σ) := by
 exact (Z0x rfl (by kernel_rfl)) [34] fun H => H _ _ (Z1p h _) (hb) _ rfl
theorem conc_ok {b : Rb} (hb : b.ab = false) (h : look (pvs2 es) (ltr b.k) = some (.pv (Z0v b w t))) (ps : List At) (hp : ps.length <= 2) (n : Nat) : Z0d cfg (n+7) (.fn 525) [.pv (kv es), .pv (nmL (ltr b.k) (avs ps))] O σ = some (.pv (.bool true), σ) := by
 exact (Z0x rfl (by kernel_rfl)) [35] fun H => H _ _ (Z1p h _) (hb) _ _ (free_avs _ _ ps hp) _ rfl
theorem whole_1 (n : Nat) : Z0d cfg (n+6) (.fn 433) [.pv (Z0v ⟨k, 1, bd, ab⟩ w t)] O σ = some (.pv (nmL (ltr k) [vrS (vS 0 k)]), σ) := by kernel_rfl
theorem whole_2 (n : Nat) : Z0d cfg (n+6) (.fn 433) [.pv (Z0v ⟨k, 2, bd, ab⟩ w t)] O σ = some (.pv (nmL (ltr k) [vrS (vS 0 k), vrS (vS 1 k)]), σ) := by kernel_rfl
theorem free_1 (n : Nat) : Z0d cfg (n+6) (.fn 98) [.pv (nmL (ltr k) [vrS (vS 0 k)])] O σ = some (.pv (.lst [.str (vS 0 k)]), σ) := by kernel_rfl
theorem free_2 (n : Nat) : Z0d cfg (n+6) (.fn 98) [.pv (nmL (ltr k) [vrS (vS 0 k), vrS (vS 1 k)])] O σ = some (.pv (.lst [.str (vS 0 k), .str (vS 1 k)]), σ) := by kernel_rfl
theorem conc_w {b : Rb} {l : List PV} {x : PV} {r : List PV} (hb : b.ab = false) (h : look (pvs2 es) (ltr b.k) = some (.pv (Z0v b w t))) (n : Nat) (hf : ∀ O σ, Z0d cfg (n+6) (.fn 98) [.pv (nmL (ltr b.k) l)] O σ = some (.pv (.lst (x :: r)), σ)) : Z0d cfg (n+7) (.fn 525) [.pv (kv es), .pv (nmL (ltr b.k) l)] O σ = some (.pv (.bool false), σ) := by
 exact (Z0x rfl (by kernel_rfl)) [35] fun H => H _ _ (Z1p h _) (hb) _ _ (hf _ _) _ rfl
theorem sub_i64 (T : PV) (n : Nat) : Z0d cfg (n+5) (.fn 93) [.pv i64, .pv T] O σ = some (.pv i64, σ) := by kernel_rfl
theorem field_ab (m' : Nat) (ps : List At) (hp : ps.length = m') (hm : m' <= 2) (n : Nat) : Z0d cfg (n+7) (.fn 438) [.pv (Z0v ⟨k, m', bd, true⟩ w t), .pv (.tup (avs ps))] O σ = some (.pv (.lst []), σ) := by
 exact (Z0x rfl (by kernel_rfl)) [] fun H => H _ _ (Z1r w t _ ⟨k, m', bd, true⟩ ps hp hm) _ rfl
theorem field_0 (n : Nat) : Z0d cfg (n+7) (.fn 438) [.pv (Z0v ⟨k, 0, bd, false⟩ w t), .pv (.tup (avs []))] O σ = some (.pv (.lst [.tup [sv "first", i64]]), σ) := by
 exact (Z0x rfl (by kernel_rfl)) [] fun H => H _ _ (Z1r w t _ ⟨k, 0, bd, false⟩ [] rfl (Nat.zero_le _)) _ rfl
theorem field_1 (a : At) (n : Nat) : Z0d cfg (n+7) (.fn 438) [.pv (Z0v ⟨k, 1, bd, false⟩ w t), .pv (.tup (avs [a]))] O σ = some (.pv (.lst [.tup [sv "first", i64], .tup [sv "last", a.v]]), σ) := by
 exact (Z0x rfl (by kernel_rfl)) [11] fun H => H _ _ (Z1r w t _ ⟨k, 1, bd, false⟩ [a] rfl (Nat.le_succ 1)) _ _ (sub_i64 _ _) _ _ (var_ok (es := tab k [a]) (tab0 k a [] (Nat.zero_le _)) _) _ rfl
theorem field_2 (a b : At) (n : Nat) : Z0d cfg (n+7) (.fn 438) [.pv (Z0v ⟨k, 2, bd, false⟩ w t), .pv (.tup (avs [a, b]))] O σ = some (.pv (.lst [.tup [sv "first", i64], .tup [sv "last", a.v]]), σ) := by
 exact (Z0x rfl (by kernel_rfl)) [11] fun H => H _ _ (Z1r w t _ ⟨k, 2, bd, false⟩ [a, b] rfl (Nat.le_refl 2)) _ _ (sub_i64 _ _) _ _ (var_ok (es := tab k [a, b]) (tab0 k a [b] (Nat.le_refl 1)) _) _ rfl
end
noncomputable def lastY {α Y : Type} (nx : α -> Y) (y : Y) (l : List α) : Y := l.foldl (fun _ u => nx u) y
theorem Z3h {α Y : Type} {F : MV -> (List MV × Vars) -> Mm (Option MV × (List MV × Vars))} {O : Z0c} {σ : Hp} {g : α -> PV} {f : α -> List PV} {nx : α -> Y} {R : Y -> Vars}
  (hf : ∀ u, (f u).length <= 1) : ∀ (U : List α) (acc : List PV) (y : Y), acc.length + U.length <= 1000 -> (∀ u ∈ U, ∀ (acc : List PV) y, small (pvs acc) = true -> F (.pv (g u)) (pvs acc, R y) O σ = some ((none, (pvs (acc ++ f u), R (nx u))), σ)) ->
   Z6j F (pvs (U.map g)) (pvs acc, R y) O σ = some ((none, (pvs (acc ++ U.flatMap f), R (lastY nx y U))), σ)
 | [], acc, y, _, _ => by rw [List.flatMap_nil, List.append_nil]; rfl
 | u :: U, acc, y, hl, h => by
  rw [List.length_cons] at hl
  refine (Z1k (h u (.head _) acc y (Z5m (by omega)))).trans ?_
  refine (Z3h hf U (acc ++ f u) _ ?_ fun v hv => h v (.tail _ hv)).trans ?_
  ·rw [List.length_append]; have := hf u; omega
  ·rw [List.append_assoc]; rfl
theorem flat_one {α : Type} (f : α -> PV) (l : List α) : (l.flatMap fun u => [f u]) = l.map f := by
 induction l with
 | nil => rfl
 | cons x l ih => rw [List.flatMap_cons, ih]; rfl
theorem loop_map {α : Type} {F : MV -> (List MV × Vars) -> Mm (Option MV × (List MV × Vars))} {O : Z0c} {σ : Hp} {g : α -> PV} {f : α -> PV} {R : Option MV -> Vars} {U : List α} {y : Option MV} {tup : Bool} (hl : U.length <= 1000)
  (h : ∀ u ∈ U, ∀ (acc : List PV) y, small (pvs acc) = true -> F (.pv (g u)) (pvs acc, R y) O σ = some ((none, (pvs (acc ++ [f u]), R (some (.pv (g u))))), σ)) :
   Z2k tup (.items (pvs (U.map g))) F ([], R y) O σ = some ((none, (pvs (U.map f), R (lastY (fun u => some (.pv (g u))) y U))), σ) := by
 refine (Z3h (f := fun u => [f u]) (nx := fun u => some (.pv (g u))) (fun u => Nat.le_refl _) U [] y (by rw [List.length_nil, Nat.zero_add]; exact hl) h).trans ?_
 rw [flat_one]; rfl
theorem app1 (l : List PV) (x : PV) : pvs l ++ [MV.pv x] = pvs (l ++ [x]) := (Z4p l [x]).symm
theorem Z5b {α : Type} {l : List α} (h : l.length <= 1000) (f : α -> PV) : small (pvs (l.map f)) = true := Z5m (by rw [List.length_map]; omega)
noncomputable def Z6w : Cn -> List At -> List PV
 | [], _ => []
 | (b, w) :: t, ps => topV ps ((b, w) :: t) :: Z6w t (w.map (pick ps))
theorem chain_r : ∀ (c : Cn) (ps : List At), Z6w c ps ++ [anyV] = Z1b c ps
 | [], _ => rfl
 | (b, w) :: t, ps => congrArg (topV ps ((b, w) :: t) :: ·) (chain_r t _)
section
variable {O : Z0c} {σ : Hp} {n : Nat}
theorem Z2d (n : Nat) : Z0d cfg (n+2) (.fn 589) [] O σ = some (.pv i64, σ) := by kernel_rfl
theorem Z7e (n : Nat) : Z0d cfg (n+2) (.fn 582) [] O σ = some (.pv anyV, σ) := by kernel_rfl
noncomputable abbrev RC (ps : List At) (y : Option MV) : Vars := [(S ".0", none), (S "way", y), (S "params", some (.pv (.tup (avs ps))))]
theorem way_turn (ps : List At) (x : Way) (hx : x.ok ps.length = true) (hp : ps.length <= 2) (acc : List PV) (y : Option MV) (hs : small (pvs acc) = true) : CF (n+8) 623 0 0 (.pv (.int x.z)) (pvs acc, RC ps y) O σ = some ((none, (pvs (acc ++ [(pick ps x).v]), RC ps (some (.pv (.int x.z))))), σ) := by
 rw [<- app1]
 match x, ps, hx, hp with
 | .i, ps, _, _ =>
  exact (Z2g) [4] fun H => H _ _ (Z2d _) (hs)
 | .a, [], h, _ => exact nomatch h
 | .a, [p], _, _ =>
  exact (Z2g) [10] fun H => H (hs)
 | .a, [p, q], _, _ =>
  exact (Z2g) [10] fun H => H (hs)
 | .b, [], h, _ => exact nomatch h
 | .b, [p], h, _ => exact nomatch h
 | .b, [p, q], _, _ =>
  exact (Z2g) [10] fun H => H (hs)
 | .a, _ :: _ :: _ :: _, _, h => exact Z1y rfl h
 | .b, _ :: _ :: _ :: _, _, h => exact Z1y rfl h
noncomputable def wayI (x : Way) : PV := .int x.z
noncomputable abbrev RK (row : PV) (l : List PV) : Vars := [(S "row", some (.pv row)), (S "params", some (.pv (.tup l))), (S "found", some (.ref 0))]
theorem avs_pick (ps : List At) (w : List Way) : (w.map fun x => (pick ps x).v) = avs (w.map (pick ps)) := (List.map_map (f := pick ps) (g := At.v) (l := w)).symm
theorem chain_stop (b : Rb) (w : List Way) (ps : List PV) (L : List PV) : WT n 623 0 (RK (rowV [(b, w)]) ps) O [.lst (pvs L)] = some (false, [.lst (pvs L)]) := by
 exact (Z8m) [] fun H => H
theorem chain_go (b d : Rb) (w v : List Way) (t : Cn) (ps : List PV) (L : List PV) : WT n 623 0 (RK (rowV ((b, w) :: (d, v) :: t)) ps) O [.lst (pvs L)] = some (true, [.lst (pvs L)]) := by
 exact (Z8m) [] fun H => H
theorem chain_body (b d : Rb) (w v : List Way) (t : Cn) (ps : List At) (L : List PV) (hw : ∀ x ∈ w, x.ok ps.length = true) (hp : ps.length <= 2) (hl : w.length <= 1000) (hL : small (pvs L) = true) :
  WB (n+8) 623 0 (RK (rowV ((b, w) :: (d, v) :: t)) (avs ps)) O [.lst (pvs L)] = some ((none, RK (rowV ((d, v) :: t)) (avs (w.map (pick ps)))), [.lst (pvs (L ++ [topV (w.map (pick ps)) ((d, v) :: t)]))]) := by
 show WB (n+8) 623 0 (RK (rowV ((b, w) :: (d, v) :: t)) (avs ps)) O [MO.lst (pvs L)] = some ((none, RK (rowV ((d, v) :: t)) (avs (w.map (pick ps)))), [MO.lst (pvs (L ++ [nmL (ltr d.k) (avs (w.map (pick ps)))]))])
 rw [Z4p L, <- avs_pick]
 have hm : Z2k false (.items (pvs (w.map fun x => .int x.z))) (CF (n+8) 623 0 0) ([], RC ps none) O [.lst (pvs L)] = _ := loop_map (g := fun x : Way => .int x.z) (f := fun x => (pick ps x).v) hl fun x m acc y hs => way_turn ps x (hw x m) hp acc y hs
 exact (turn_b) [6, 0, 0, 2, 4, 4] fun H => H _ _ (hm) (Z5b hl (fun x => (pick ps x).v)) _ _ (ofo (Z3y (w.map fun x => (pick ps x).v)) _ _) _ _ (Z7q (Z5b hl (fun x => (pick ps x).v)) _ _) _ _ ((x_pre (σ := [.lst (pvs L)]) (w := 0) rfl hL _ (S "append")).1) _ _ (x_app (σ := [.lst (pvs L)]) (w := 0) rfl hL (.pv (nmL (ltr d.k) (w.map fun x => (pick ps x).v))) _)
theorem wf_len {rs : List Cn} {b : Rb} {w : List Way} {t : Cn} (h : Wf rs ((b, w) :: t)) : w.length = Z3a t := by
 cases t with
 | nil => rw [show w = [] from h.2.2.2.2.1]; rfl
 | cons x t => exact h.2.2.2.2.1.1
theorem wf_many {rs : List Cn} : ∀ {c : Cn}, Wf rs c -> Z3a c <= 2
 | [], _ => Nat.zero_le _
 | (b, w) :: t, h => h.2.2.1
theorem Z9a {rs : List Cn} : ∀ (t : Cn) (b : Rb) (w : List Way) (ps : List At) (L : List PV) (N : Nat), Wf rs ((b, w) :: t) -> ps.length = b.many -> L.length + t.length < 1000 -> t.length < N ->
  ∃ ρ, look ρ (S "found") = some (some (.ref 0)) /\ (∃ a c, ρ = RK a c) /\ Z3s (WT (n+8) 623 0) (WB (n+8) 623 0) N (RK (rowV ((b, w) :: t)) (avs ps)) O [.lst (pvs L)] = some ((none, ρ), [.lst (pvs (L ++ Z6w t (w.map (pick ps))))])
 | _, _, _, _, _, 0, _, _, _, hN => absurd hN (Nat.not_lt_zero _)
 | [], b, w, ps, L, N + 1, _, _, _, _ => ⟨RK (rowV [(b, w)]) (avs ps), rfl, ⟨_, _, rfl⟩, by rw [show Z6w [] (w.map (pick ps)) = [] from rfl, List.append_nil]; exact Z5z (chain_stop b w (avs ps) L)⟩
 | (d, v) :: t, b, w, ps, L, N + 1, h, hp, hL, hN => by
  have hl := wf_len h
  have hm := wf_many h.2.2.2.2.2
  rw [List.length_cons] at hL hN
  obtain ⟨ρ, e1, e2, e⟩ := Z9a t d v (w.map (pick ps)) (L ++ [topV (w.map (pick ps)) ((d, v) :: t)]) N h.2.2.2.2.2 (by rw [List.length_map]; exact hl) (by rw [List.length_append, List.length_singleton]; omega) (Nat.lt_of_succ_lt_succ hN)
  refine ⟨ρ, e1, e2, (Z4k (chain_go b d w v t (avs ps) L) (chain_body b d w v t ps L (hp ▸ h.2.2.2.1) (hp ▸ h.2.2.1) (by omega) (Z5m (by omega)))).trans (e.trans ?_)⟩
  rw [List.append_assoc]; rfl
theorem lchain_ok {rs : List Cn} {b : Rb} {w : List Way} {t : Cn} {ps : List At} (h : Wf rs ((b, w) :: t)) (hp : ps.length = b.many) (ht : t.length < 800) : Z0d cfg (n+9) (.fn 623) [.pv (rowV ((b, w) :: t)), .pv (.tup (avs ps))] O σ = some (.pv (.lst (Z1b ((b, w) :: t) ps)), σ) := by
 obtain ⟨ρ, e1, ⟨a, c, rfl⟩, e⟩ := Z9a (n := n) (O := []) t b w ps [topV ps ((b, w) :: t)] big h hp (by rw [List.length_singleton]; omega) (Nat.lt_trans ht (by decide))
 rw [<- chain_r]
 have hr : ([topV ps ((b, w) :: t)] ++ Z6w t (w.map (pick ps))).length + 1 <= 1000000 := by
  have : ∀ (t : Cn) (ps : List At), (Z6w t ps).length = t.length := fun t => by
   induction t with
   | nil => exact fun _ => rfl
   | cons x t ih => exact fun ps => congrArg (· + 1) (ih _)
  rw [List.length_append, this, List.length_singleton]; omega
 have hs : small (pvs (Z6w ((b, w) :: t) ps ++ [anyV])) = true := Z5m (by rw [List.length_append]; exact hr)
 exact (Z0x rfl (by kernel_rfl)) [6, 10, 0] fun H => H _ _ (e) _ _ (Z7e _) (show small (pvs ([topV ps ((b, w) :: t)] ++ Z6w t (w.map (pick ps))) ++ pvs [anyV]) = true from Z4p _ _ ▸ hs) _ _ (ofo (show Z0z (pvs ([topV ps ((b, w) :: t)] ++ Z6w t (w.map (pick ps))) ++ pvs [anyV]) = some (Z6w ((b, w) :: t) ps ++ [anyV]) from Z4p _ _ ▸ Z3y _) _ _) _ rfl
noncomputable def below (Y : Str) : Cn -> Bool
 | [] => false
 | x :: t => match Z0g (ltr x.1.k) Y with
  | true => true
  | false => below Y t
noncomputable abbrev RB (row : PV) (Y : Str) : Vars := [(S "row", some (.pv row)), (S "name", some (.pv (.str Y)))]
theorem below_stop (b : Rb) (w : List Way) (Y : Str) : WT n 630 0 (RB (rowV [(b, w)]) Y) O σ = some (false, σ) := by
 exact (Z8m) [] fun H => H
theorem below_go (b d : Rb) (w v : List Way) (t : Cn) (Y : Str) : WT n 630 0 (RB (rowV ((b, w) :: (d, v) :: t)) Y) O σ = some (true, σ) := by
 exact (Z8m) [] fun H => H
theorem below_hit (b d : Rb) (w v : List Way) (t : Cn) {Y : Str} (h : Z0g (ltr d.k) Y = true) : WB n 630 0 (RB (rowV ((b, w) :: (d, v) :: t)) Y) O σ = some ((some (.pv (.bool true)), RB (rowV ((d, v) :: t)) Y), σ) := by
 exact (turn_b) [10] fun H => H (show pvEq (.str (ltr d.k)) (.str Y) = true from h)
theorem below_next (b d : Rb) (w v : List Way) (t : Cn) {Y : Str} (h : Z0g (ltr d.k) Y = false) : WB n 630 0 (RB (rowV ((b, w) :: (d, v) :: t)) Y) O σ = some ((none, RB (rowV ((d, v) :: t)) Y), σ) := by
 exact (turn_b) [11] fun H => H (show pvEq (.str (ltr d.k)) (.str Y) = false from h)
theorem whileF_stop {t : Vars -> Mm Bool} {b : Vars -> Mm (Option MV × Vars)} {n : Nat} {ρ ρ' : Vars} {v : MV} {O : Z0c} {σ σ' σ2 : Hp} (h : t ρ O σ = some (true, σ')) (hb : b ρ O σ' = some ((some v, ρ'), σ2)) : Z3s t b (n + 1) ρ O σ = some ((some v, ρ'), σ2) := (Z1q h).trans (Z1q hb)
theorem Y2a (Y : Str) : ∀ (t : Cn) (b : Rb) (w : List Way) (N : Nat), t.length < N -> ∃ ρ, Z3s (WT n 630 0) (WB n 630 0) N (RB (rowV ((b, w) :: t)) Y) O σ = some (((match below Y t with | true => some (.pv (.bool true)) | false => none), ρ), σ)
 | _, _, _, 0, h => absurd h (Nat.not_lt_zero _)
 | [], b, w, N + 1, _ => ⟨_, Z5z (below_stop b w Y)⟩
 | (d, v) :: t, b, w, N + 1, h => by
  show ∃ ρ, _ = some (((match (match Z0g (ltr d.k) Y with | true => true | false => below Y t) with | true => some (MV.pv (.bool true)) | false => none), ρ), σ)
  cases q : Z0g (ltr d.k) Y with
  | true => exact ⟨_, whileF_stop (below_go b d w v t Y) (below_hit b d w v t q)⟩
  | false =>
   obtain ⟨ρ, e⟩ := Y2a Y t d v N (Nat.lt_of_succ_lt_succ h)
   exact ⟨ρ, (Z4k (below_go b d w v t Y) (below_next b d w v t q)).trans e⟩
theorem below_ok (Y : Str) (b : Rb) (w : List Way) (t : Cn) (ht : t.length < 800) : Z0d cfg (n+9) (.fn 630) [.pv (rowV ((b, w) :: t)), .pv (.str Y)] O σ = some (.pv (.bool (below Y t)), σ) := by
 obtain ⟨ρ, e⟩ := Y2a (n := n+8) (O := []) (σ := []) Y t b w big (Nat.lt_trans ht (by decide))
 cases q : below Y t with
 | true =>
  rw [q] at e
  exact (Z0x rfl (by kernel_rfl)) [0] fun H => H _ _ (e) _ rfl
 | false =>
  rw [q] at e
  exact (Z0x rfl (by kernel_rfl)) [0] fun H => H _ _ (e) _ rfl
end
noncomputable def Z1c (j : Nat) : Cn -> Bool
 | [] => false
 | x :: t => Nat.beq x.1.k j || Z1c j t
noncomputable def Y1q (j : Nat) : Cn -> Bool
 | [] => false
 | x :: _ => Nat.beq x.1.k j
noncomputable def kOf : Cn -> Nat
 | [] => 0
 | x :: _ => x.1.k
theorem ltr_eq (a b : Nat) : Z0g (ltr a) (ltr b) = Nat.beq a b := by
 cases q : Nat.beq a b with
 | true => rw [Nat.eq_of_beq_eq_true q]; exact Z1f _
 | false => exact ltr_ne fun e => by subst e; rw [Nat.beq_refl] at q; exact nomatch q
theorem below_n (j : Nat) : ∀ t : Cn, below (ltr j) t = Z1c j t
 | [] => rfl
 | x :: t => by
  show (match Z0g (ltr x.1.k) (ltr j) with | true => true | false => below (ltr j) t) = (Nat.beq x.1.k j || Z1c j t)
  rw [ltr_eq, below_n j t]
  cases Nat.beq x.1.k j <;> rfl
noncomputable def desc (rs : List Cn) (j : Nat) : List Nat := (rs.filter fun c => Z1c j c.tail).map kOf
noncomputable def chd (rs : List Cn) (j : Nat) : List Nat := (rs.filter fun c => Y1q j c.tail).map kOf
noncomputable def cntO (p : Cn -> Bool) (o : Option Cn) : Nat := match o with
 | some c => (p c).toNat
 | none => 0
theorem cnt_at (p : Cn -> Bool) (x : Nat) : ∀ (rs : List Cn) (o : Nat), (∀ i c, rs[i]? = some c -> kOf c = o + i) -> (((rs.filter p).map kOf).count x) = (if o <= x then cntO p rs[x - o]? else 0)
 | [], o, _ => by
  show 0 = _
  split <;> rfl
 | d :: rs, o, h => by
  have ih := cnt_at p x rs (o + 1) fun i c e => (h (i + 1) c e).trans (by omega)
  have hd : kOf d = o := h 0 d rfl
  by_cases hx : o <= x
  ·rw [if_pos hx]
   by_cases he : o = x
   ·subst he
    rw [if_neg (by omega)] at ih
    rw [Nat.sub_self]
    show _ = (p d).toNat
    cases q : p d with
    | true => rw [List.filter_cons_of_pos q, List.map_cons, hd, List.count_cons_self, ih]; rfl
    | false => rw [List.filter_cons_of_neg (by rw [q]; exact Bool.false_ne_true), ih]; rfl
   ·rw [if_pos (by omega)] at ih
    rw [show x - o = (x - (o + 1)) + 1 by omega]
    show _ = cntO p rs[x - (o + 1)]?
    cases q : p d with
    | true => rw [List.filter_cons_of_pos q, List.map_cons, hd, List.count_cons_of_ne he, ih]
    | false => rw [List.filter_cons_of_neg (by rw [q]; exact Bool.false_ne_true), ih]
  ·rw [if_neg hx]
   rw [if_neg (by omega)] at ih
   cases q : p d with
   | true => rw [List.filter_cons_of_pos q, List.map_cons, hd, List.count_cons_of_ne (by omega), ih]
   | false => rw [List.filter_cons_of_neg (by rw [q]; exact Bool.false_ne_true), ih]
theorem wf_below {rs : List Cn} {c : Nat} : ∀ {t : Cn} {b : Rb} {w : List Way}, Wf rs ((b, w) :: t) -> Z1c c t = true -> c < b.k
 | [], _, _, _, h => nomatch h
 | (d, v) :: t, b, w, hw, h => by
  have h1 : d.k < b.k := hw.2.2.2.2.1.2.2
  cases q : Nat.beq d.k c with
  | true => rw [<- Nat.eq_of_beq_eq_true q]; exact h1
  | false =>
   replace h : (Nat.beq d.k c || Z1c c t) = true := h
   rw [q] at h
   exact Nat.lt_trans (wf_below hw.2.2.2.2.2 h) h1
theorem wf_self {rs : List Cn} {b : Rb} {w : List Way} {t : Cn} (h : Wf rs ((b, w) :: t)) : Z1c b.k t = false := by
 cases q : Z1c b.k t with
 | false => rfl
 | true => exact absurd (wf_below h q) (Nat.lt_irrefl _)
theorem countP_or {p q : Nat -> Bool} (h : ∀ x, p x = true -> q x = false) : ∀ l : List Nat, l.countP (fun x => p x || q x) = l.countP p + l.countP q
 | [] => rfl
 | x :: l => by
  have ih := countP_or h l
  rw [List.countP_cons, List.countP_cons, List.countP_cons, ih]
  cases hp : p x with
  | true => rw [h x hp]; simp only [Bool.or_false, if_true, Bool.false_eq_true, if_false]; omega
  | false => simp only [Bool.false_or, Bool.false_eq_true, if_false]; omega
theorem sum_nat (p : Nat -> Bool) : ∀ l : List Nat, (l.map fun x => (p x).toNat).sum = l.countP p
 | [] => rfl
 | x :: l => by
  rw [List.map_cons, List.sum_cons, sum_nat p l, List.countP_cons]
  cases p x
  ·show 0 + _ = _ + 0; omega
  ·show 1 + _ = _ + 1; omega
section
variable {rs : List Cn} (R : Rows rs)
include R
theorem Rows.kOf (i : Nat) (c : Cn) (h : rs[i]? = some c) : Mine.Internal.kOf c = 0 + i := by
 obtain ⟨b, w, t, rfl, rfl, _⟩ := R.row i c h
 exact (Nat.zero_add _).symm
theorem Rows.cnt (p : Cn -> Bool) (x : Nat) : ((rs.filter p).map Mine.Internal.kOf).count x = cntO p rs[x]? := by
 have h := cnt_at p x rs 0 R.kOf
 rw [if_pos (Nat.zero_le _)] at h
 exact h
theorem below_sum (j : Nat) : ∀ t : Cn, Wf rs t -> (Z1c j t).toNat = (Y1q j t).toNat + (chd rs j).countP fun c => Z1c c t
 | [], _ => by
  show 0 = 0 + (chd rs j).countP fun c => false
  rw [List.countP_eq_zero.mpr fun _ _ => Bool.false_ne_true]
 | (d, v) :: t, h => by
  have ih := below_sum j t h.2.2.2.2.2
  have h1 : (chd rs j).countP (fun c => Z1c c ((d, v) :: t)) = (chd rs j).count d.k + (chd rs j).countP fun c => Z1c c t := by
   refine (countP_or (p := fun c => Nat.beq d.k c) (fun x e => ?_) _).trans (congrArg (· + _) ?_)
   ·rw [<- Nat.eq_of_beq_eq_true e]; exact wf_self h
   ·rw [List.count_eq_countP]
    exact List.countP_congr fun x _ => by
     show Nat.beq d.k x = true ↔ (x == d.k) = true
     rw [beq_iff_eq]
     exact ⟨fun e => (Nat.eq_of_beq_eq_true e).symm, fun e => e ▸ Nat.beq_refl _⟩
  have h2 : (chd rs j).count d.k = (Y1q j t).toNat := by
   refine (R.cnt _ _).trans ?_
   rw [h.1]; rfl
  rw [h1, h2, <- ih]
  show (Nat.beq d.k j || Z1c j t).toNat = (Nat.beq d.k j).toNat + (Z1c j t).toNat
  cases q : Nat.beq d.k j with
  | false => exact (Nat.zero_add _).symm
  | true => rw [<- Nat.eq_of_beq_eq_true q, wf_self h]; rfl
theorem desc_step (j : Nat) : (chd rs j ++ (chd rs j).flatMap (desc rs)).Perm (desc rs j) := by
 refine List.perm_iff_count.mpr fun i => ?_
 rw [List.count_append, List.count_flatMap]
 have e1 : (chd rs j).count i = cntO (fun c => Y1q j c.tail) rs[i]? := R.cnt _ _
 have e2 (x : Nat) : (desc rs x).count i = cntO (fun c => Z1c x c.tail) rs[i]? := R.cnt _ _
 have e3 : (List.count i ∘ desc rs) = fun x => cntO (fun c => Z1c x c.tail) rs[i]? := funext e2
 rw [e1, e2, e3]
 cases q : rs[i]? with
 | none =>
  show 0 + ((chd rs j).map fun _ => 0).sum = 0
  have : ∀ l : List Nat, (l.map fun _ => 0).sum = 0 := fun l => by induction l with
   | nil => rfl
   | cons x l ih => rw [List.map_cons, List.sum_cons, ih]
  rw [this]
 | some c =>
  obtain ⟨b, w, t, rfl, rfl, hw⟩ := R.row i c q
  show (Y1q j t).toNat + ((chd rs j).map fun x => (Z1c x t).toNat).sum = (Z1c j t).toNat
  rw [sum_nat, below_sum R j t hw.2.2.2.2.2]
end
theorem sle_anti {a b : Str} (h : Sle a b) (k : Sle b a) : a = b := by
 cases a; cases b
 exact congrArg Str.mk (Array.toList_inj.mp (List.le_antisymm h k))
theorem sortS_eq {l r : List Str} (h : l.Perm r) : Z2t l = Z2t r := List.Perm.eq_of_pairwise (fun a b _ _ => sle_anti) (Z5j l) (Z5j r) (((Z2n l).trans h).trans (Z2n r).symm)
noncomputable abbrev dclV (a p s ab m f : PV) : PV := .obj 441 [(S "name", a), (S "params", p), (S "super", s), (S "is_abstract", ab), (S "is_mutable", m), (S "fields", f)]
noncomputable def Known (ds : List (Str × PV)) (here x : Str) (hit : Bool) : Prop := ∃ a p s ab m f, look (pvs2 ds) x = some (.pv (dclV a p s ab m f)) /\ ((s = .none /\ hit = false) \/ ∃ u X q, s = .tup [u, .str X, q] /\ Z0g X here = hit)
noncomputable abbrev stv (l : List Str) : List MV := pvs (l.map PV.str)
noncomputable abbrev RU (es : List (Str × PV)) (nm : Str) (here other above : Option MV) : Vars := [(S "self", some (.pv (kv es))), (S "name", some (.pv (.str nm))), (S "found", some (.ref 0)), (S "left", some (.ref 1)), (S "here", here), (S "other", other), (S "above", above)]
theorem stv_app (f : List Str) (x : Str) : stv (f ++ [x]) = stv f ++ [.pv (.str x)] := by
 show pvs ((f ++ [x]).map PV.str) = _
 rw [List.map_append, Z4p]; rfl
theorem sm_stv {l : List Str} (h : l.length <= 1000) : small (stv l) = true := Z5b h _
section
variable {es : List (Str × PV)} {nm here x : Str} {o u : Option MV} {n : Nat} {O : Z0c} {f L : List Str} {a p ab m fl : PV}
theorem und_none (h : look (pvs2 es) x = some (.pv (dclV a p .none ab m fl))) : LF n 499 1 (.pv (.str x)) (RU es nm (some (.pv (.str here))) o u) O [.lst (stv f), .lst (stv L)] = some ((none, RU es nm (some (.pv (.str here))) (some (.pv (.str x))) (some (.pv .none))), [.lst (stv f), .lst (stv L)]) := by
 exact (Z5g) [6] fun H => H _ _ (ofo (Z1j h) _ _)
theorem und_miss {X : Str} {q : PV} {w : PV} (h : look (pvs2 es) x = some (.pv (dclV a p (.tup [w, .str X, q]) ab m fl))) (he : Z0g X here = false) : LF n 499 1 (.pv (.str x)) (RU es nm (some (.pv (.str here))) o u) O [.lst (stv f), .lst (stv L)] = some ((none, RU es nm (some (.pv (.str here))) (some (.pv (.str x))) (some (.pv (.tup [w, .str X, q])))), [.lst (stv f), .lst (stv L)]) := by
 exact (Z5g) [6, 17] fun H => H _ _ (ofo (Z1j h) _ _) (show pvEq (.str X) (.str here) = false from he)
theorem und_hit {X : Str} {q : PV} {w : PV} (h : look (pvs2 es) x = some (.pv (dclV a p (.tup [w, .str X, q]) ab m fl))) (he : Z0g X here = true) (hf : small (stv f) = true) (hL : small (stv L) = true) : LF n 499 1 (.pv (.str x)) (RU es nm (some (.pv (.str here))) o u) O [.lst (stv f), .lst (stv L)] = some ((none, RU es nm (some (.pv (.str here))) (some (.pv (.str x))) (some (.pv (.tup [w, .str X, q])))), [.lst (stv (f ++ [x])), .lst (stv (L ++ [x]))]) := by
 rw [stv_app f, stv_app L]
 exact (Z5g) [6, 16, 0, 0, 0, 0] fun H => H _ _ (ofo (Z1j h) _ _) (show pvEq (.str X) (.str here) = true from he) _ _ ((x_pre (σ := [.lst (stv f), .lst (stv L)]) (w := 0) rfl hf _ (S "append")).1) _ _ (x_app (σ := [.lst (stv f), .lst (stv L)]) (w := 0) rfl hf (.pv (.str x)) _) _ _ ((x_pre (σ := [MO.lst (stv f ++ [MV.pv (PV.str x)]), MO.lst (stv L)]) (w := 1) rfl hL _ (S "append")).1) _ _ (x_app (σ := [MO.lst (stv f ++ [MV.pv (PV.str x)]), MO.lst (stv L)]) (w := 1) rfl hL (.pv (.str x)) _)
end
section
variable {es : List (Str × PV)} {nm here : Str} {n : Nat} {O : Z0c}
theorem Z9g (hit : Str -> Bool) : ∀ (K : List Str) (f L : List Str) (o u : Option MV), (∀ x ∈ K, Known es here x (hit x)) -> f.length + K.length <= 1000 -> L.length + K.length <= 1000 ->
  ∃ o' u', Z6j (LF n 499 1) (stv K) (RU es nm (some (.pv (.str here))) o u) O [.lst (stv f), .lst (stv L)] = some ((none, RU es nm (some (.pv (.str here))) o' u'), [.lst (stv (f ++ K.filter hit)), .lst (stv (L ++ K.filter hit))])
 | [], f, L, o, u, _, _, _ => ⟨o, u, by rw [List.filter_nil, List.append_nil, List.append_nil]; rfl⟩
 | x :: K, f, L, o, u, h, hf, hL => by
  rw [List.length_cons] at hf hL
  have h' : ∀ y ∈ K, Known es here y (hit y) := fun y m => h y (.tail _ m)
  obtain ⟨a, p, s, ab, m, fl, hl, hs⟩ := h x (.head _)
  rcases hs with ⟨rfl, hh⟩ | ⟨w, X, q, rfl, hh⟩
  ·obtain ⟨o', u', e⟩ := Z9g hit K f L (some (.pv (.str x))) (some (.pv .none)) h' (by omega) (by omega)
   rw [List.filter_cons_of_neg (by rw [hh]; exact Bool.false_ne_true)]
   exact ⟨o', u', (Z1k (r := stv K) (und_none hl)).trans e⟩
  ·cases hx : hit x with
   | false =>
    rw [hx] at hh
    obtain ⟨o', u', e⟩ := Z9g hit K f L (some (.pv (.str x))) (some (.pv (.tup [w, .str X, q]))) h' (by omega) (by omega)
    rw [List.filter_cons_of_neg (by rw [hx]; exact Bool.false_ne_true)]
    exact ⟨o', u', (Z1k (r := stv K) (und_miss hl hh)).trans e⟩
   | true =>
    rw [hx] at hh
    obtain ⟨o', u', e⟩ := Z9g hit K (f ++ [x]) (L ++ [x]) (some (.pv (.str x))) (some (.pv (.tup [w, .str X, q]))) h' (by rw [List.length_append, List.length_singleton]; omega) (by rw [List.length_append, List.length_singleton]; omega)
    rw [List.filter_cons_of_pos hx]
    refine ⟨o', u', (Z1k (r := stv K) (und_hit hl hh (sm_stv (by omega)) (sm_stv (by omega)))).trans (e.trans ?_)⟩
    rw [List.append_assoc, List.append_assoc]; rfl
end
noncomputable def dl (s : Str) : Nat := s.cps.toList.headD 0 - 75
theorem perm_lift {C : List Str} {l : List Nat} (h : C.Perm (l.map ltr)) : ∃ C' : List Nat, C = C'.map ltr /\ C'.Perm l := by
 refine ⟨C.map dl, ?_, ?_⟩
 ·rw [List.map_map]
  refine (List.map_id C).symm.trans (List.map_congr_left fun x m => ?_)
  obtain ⟨k, _, rfl⟩ := List.mem_map.mp (h.mem_iff.mp m)
  show ltr k = ltr (k + 75 - 75)
  rw [Nat.add_sub_cancel]
 ·have := h.map dl
  rw [List.map_map] at this
  refine this.trans (List.Perm.of_eq ((List.map_congr_left fun x _ => ?_).trans (List.map_id l)))
  exact Nat.add_sub_cancel x 75
noncomputable def supIs (j : Nat) (v : PV) : Bool := match v with
 | .obj _ fs => match look fs (S "super") with
  | some (.tup [_, .str X, _]) => Z0g X (ltr j)
  | _ => false
 | _ => false
noncomputable def hitO (j : Nat) (o : Option MV) : Bool := match o with
 | some (.pv v) => supIs j v
 | _ => false
noncomputable def kys (rs : List Cn) : List Str := (rds rs).map (·.1)
noncomputable def hitOf (rs : List Cn) (j : Nat) (x : Str) : Bool := hitO j (look (pvs2 (rds rs)) x)
theorem look_in {x : Str} : ∀ {l : List (Str × PV)}, x ∈ l.map (·.1) -> ∃ v, look (pvs2 l) x = some (.pv v) /\ (x, v) ∈ l
 | [], h => nomatch h
 | (y, v) :: l, h => by
  cases q : Z0g y x with
  | true =>
   obtain rfl := strEq_true.mp q
   exact ⟨v, Z3j _ _ _, .head _⟩
  | false =>
   rcases List.mem_cons.mp h with rfl | h
   ·rw [Z1f] at q; exact nomatch q
   ·obtain ⟨u, e, m⟩ := look_in h
    exact ⟨u, (Z5v q _ _).trans e, .tail _ m⟩
theorem Z7w {α : Type} {x : Str} {v : α} {r : List (Str × α)} : ∀ {l : List (Str × α)}, look l x = some v -> look (l ++ r) x = some v
 | [], h => nomatch h
 | (y, u) :: l, h => by
  cases q : Z0g y x with
  | true => rw [<- strEq_true.mp q] at h ⊢; rw [Z3j] at h; rw [<- h]; exact Z3j _ _ _
  | false => rw [Z5v q] at h; exact (Z5v q _ _).trans (Z7w h)
noncomputable def supLong : Option (String × List PV) -> Bool
 | none => true
 | some (n, _) => Nat.blt 1 (S n).cps.toList.length
theorem T0_long : T0.all (fun r => supLong r.2.2.2.2.1) = true := by kernel_rfl
theorem r0_hit {r : R0} (h : supLong r.2.2.2.2.1 = true) (j : Nat) : supIs j (r0 r).2 = false := by
 obtain ⟨a, b, c, d, s, f⟩ := r
 cases s with
 | none => rfl
 | some p => exact long_ne h _
theorem decl_hit (b : Rb) (w : List Way) (t : Cn) (j : Nat) : supIs j (Z0v b w t) = Y1q j t := by
 cases t with
 | nil => rfl
 | cons x t => exact ltr_eq x.1.k j
section
variable {rs : List Cn} (R : Rows rs) {j : Nat}
include R
theorem hit_D0 {x : Str} (h : x ∈ D0.map (·.1)) : hitOf rs j x = false := by
 obtain ⟨v, e, m⟩ := look_in h
 have e2 : look (pvs2 (rds rs)) x = some (.pv v) := by rw [Z7n]; exact Z7w e
 obtain ⟨r, hr, e3⟩ := List.mem_map.mp m
 show hitO j (look (pvs2 (rds rs)) x) = false
 rw [e2, <- show (r0 r).2 = v from congrArg (·.2) e3]
 exact r0_hit (List.all_eq_true.mp T0_long r hr) j
theorem hit_row {c : Cn} (h : c ∈ rs) : hitOf rs j (ltr (kOf c)) = Y1q j c.tail := by
 obtain ⟨i, hi⟩ := List.getElem?_of_mem h
 obtain ⟨b, w, t, rfl, rfl, hw⟩ := R.row i c hi
 show hitO j (look (pvs2 (rds rs)) (ltr b.k)) = _
 rw [R.look hw]
 exact decl_hit b w t j
theorem ent_key {c : Cn} (h : c ∈ rs) : (ent c).1 = ltr (kOf c) := by
 obtain ⟨i, hi⟩ := List.getElem?_of_mem h
 obtain ⟨b, w, t, rfl, rfl, hw⟩ := R.row i c hi
 rfl
theorem keys_hit : (kys rs).filter (hitOf rs j) = (chd rs j).map ltr := by
 unfold kys
 rw [List.map_append, List.filter_append, List.filter_eq_nil_iff.mpr fun x m => by rw [hit_D0 R m]; exact Bool.false_ne_true, List.nil_append, List.map_map, List.filter_map]
 unfold chd
 rw [List.map_map]
 refine (List.map_congr_left fun c m => ent_key R (List.mem_filter.mp m).1).trans ?_
 refine congrArg (List.map _) (List.filter_congr fun c m => ?_)
 show hitOf rs j (ent c).1 = _
 rw [ent_key R m]
 exact hit_row R m
theorem known_at {x : Str} (h : x ∈ kys rs) : Known (rds rs) (ltr j) x (hitOf rs j x) := by
 obtain ⟨v, e, m⟩ := look_in h
 have hh : hitOf rs j x = supIs j v := by
  show hitO j (look (pvs2 (rds rs)) x) = _
  rw [e]; rfl
 rw [hh]
 rcases List.mem_append.mp m with m | m
 ·obtain ⟨r, hr, e3⟩ := List.mem_map.mp m
  have e4 : (r0 r).2 = v := congrArg (·.2) e3
  rw [<- e4] at e ⊢
  obtain ⟨a, b, c, d, s, f⟩ := r
  refine ⟨_, _, _, _, _, _, e, ?_⟩
  cases s with
  | none => exact .inl ⟨rfl, rfl⟩
  | some p => exact .inr ⟨_, _, _, rfl, rfl⟩
 ·obtain ⟨c, hc, e3⟩ := List.mem_map.mp m
  have e4 : (ent c).2 = v := congrArg (·.2) e3
  obtain ⟨i, hi⟩ := List.getElem?_of_mem hc
  obtain ⟨b, w, t, rfl, rfl, hw⟩ := R.row i c hi
  rw [<- e4] at e ⊢
  refine ⟨_, _, _, _, _, _, e, ?_⟩
  cases t with
  | nil => exact .inr ⟨_, _, _, rfl, rfl⟩
  | cons x t => exact .inr ⟨_, _, _, rfl, rfl⟩
theorem known_sorted (x : Str) (h : x ∈ Z2t (kys rs)) : Known (rds rs) (ltr j) x (hitOf rs j x) := known_at R ((Z2n (kys rs)).mem_iff.mp h)
end
theorem strs_all (l : List Str) : Z4c (stv l) = some l := by
 induction l with
 | nil => rfl
 | cons x l ih =>
  show (match Z4c (stv l) with | some l => some (x :: l) | none => none) = _
  rw [ih]
theorem mklist_pvs {l : List PV} (h : small (pvs l) = true) (O : Z0c) (σ : Hp) : Z1w false (pvs l) O σ = some (.pv (.lst l), σ) := by
 show gd (small (pvs l)) (bnd (ofO (Z0z (pvs l))) fun ps => ret (MV.pv (.lst ps))) O σ = _
 rw [h, Z3y]; rfl
theorem sort_len (l : List Str) : (Z2t l).length = l.length := (Z2n l).length_eq
theorem Y0p {x : MO} {l : List Str} (h : Y0m x = some l) (hl : l.length < 64) (O : Z0c) (σ : Hp) : bnd (ofO (Y0m x)) (fun l => gd (Nat.blt l.length 64) (Z1w false ((Z2t l).map fun x => MV.pv (.str x)))) O σ = some (.pv (.lst ((Z2t l).map PV.str)), σ) := by
 refine (Z1q (ofo h O σ)).trans ?_
 have e : Nat.blt l.length 64 = true := Nat.ble_eq_true_of_le hl
 show gd (Nat.blt l.length 64) (Z1w false ((Z2t l).map fun x => MV.pv (.str x))) O σ = _
 rw [e, show ((Z2t l).map fun x => MV.pv (.str x)) = pvs ((Z2t l).map PV.str) from (List.map_map (f := PV.str) (g := MV.pv) (l := Z2t l)).symm]
 exact mklist_pvs (Z5b (by rw [sort_len]; omega) _) O σ
theorem keys_dct (es : List (Str × PV)) : Y0m (.dct (pvs2 es)) = some (es.map (·.1)) := by
 show some ((pvs2 es).map (·.1)) = _
 exact congrArg some (List.map_map (f := fun e : Str × PV => (e.1, MV.pv e.2)) (g := (·.1)) (l := es))
theorem eqL_ne {x : MV} {l : List MV} : eqL (l ++ [x]) [] = some false := by cases l <;> rfl
section
variable {es : List (Str × PV)} {nm : Str} {n : Nat} {O : Z0c} {a b c : Option MV}
theorem und_stop (F : List Str) : WT n 499 0 (RU es nm a b c) O [.lst (stv F), .lst []] = some (false, [.lst (stv F), .lst []]) := by
 exact (Z8m) [] fun H => H
theorem und_go (F L : List Str) (x : Str) : WT n 499 0 (RU es nm a b c) O [.lst (stv F), .lst (stv (L ++ [x]))] = some (true, [.lst (stv F), .lst (stv (L ++ [x]))]) := by
 rw [stv_app]
 exact (Z8m) [8] fun H => H _ _ (show eqO (MO.lst (stv L ++ [MV.pv (PV.str x)])) (MO.lst []) O [MO.lst (stv F), MO.lst (stv L ++ [MV.pv (PV.str x)])] = _ from ofo eqL_ne O _)
theorem und_body {F L C : List Str} {x : Str} {K : List Str} (hk : Y0m (.dct (pvs2 es)) = some K) (hs : K.length < 64) (hL : small (stv (L ++ [x])) = true) {o u : Option MV}
  (hl : Z6j (LF n 499 1) (stv (Z2t K)) (RU es nm (some (.pv (.str x))) b c) O [.lst (stv F), .lst (stv L)] = some ((none, RU es nm (some (.pv (.str x))) o u), [.lst (stv (F ++ C)), .lst (stv (L ++ C))])) :
  WB n 499 0 (RU es nm a b c) O [.lst (stv F), .lst (stv (L ++ [x]))] = some ((none, RU es nm (some (.pv (.str x))) o u), [.lst (stv (F ++ C)), .lst (stv (L ++ C))]) := by
 rw [stv_app] at hL ⊢
 exact (turn_b) [0, 0, 6, 2] fun H => H _ _ ((x_pre (σ := [MO.lst (stv F), MO.lst (stv L ++ [MV.pv (PV.str x)])]) (w := 1) rfl hL _ (S "pop")).2.1) _ _ (x_pop (σ := [MO.lst (stv F), MO.lst (stv L ++ [MV.pv (PV.str x)])]) (w := 1) rfl hL _) _ _ (Y0p hk hs _ _) _ _ (show Z2k false (.items (stv (Z2t K))) _ _ _ _ = _ from hl)
end
noncomputable abbrev lt (l : List Nat) : List Str := l.map ltr
theorem lt_app (l r : List Nat) : lt (l ++ r) = lt l ++ lt r := List.map_append
section
variable {rs : List Cn} (R : Rows rs) {n : Nat} {O : Z0c} {nm : Str}
include R
theorem rds_len : (kys rs).length < 64 := by
 unfold kys
 rw [List.length_map, List.length_append, List.length_map]
 have h0 : D0.length = 46 := by kernel_rfl
 have := R.len
 omega
theorem desc_len (j : Nat) : (desc rs j).length <= 7 := by
 unfold desc
 rw [List.length_map]
 exact Nat.le_trans (List.length_filter_le _ _) R.len
theorem und_while (D : List Nat) (hD : D.length <= 7) : ∀ (N : Nat) (F L : List Nat) (a b c : Option MV), L.length + (L.flatMap (desc rs)).length < N -> L.length + (L.flatMap (desc rs)).length <= 8 -> (F ++ L.flatMap (desc rs)).Perm D ->
  ∃ F' a' b' c', F'.Perm D /\ Z3s (WT n 499 0) (WB n 499 0) N (RU (rds rs) nm a b c) O [.lst (stv (lt F)), .lst (stv (lt L))] = some ((none, RU (rds rs) nm a' b' c'), [.lst (stv (lt F')), .lst []])
 | 0, _, _, _, _, _, h, _, _ => absurd h (Nat.not_lt_zero _)
 | N + 1, F, L, a, b, c, hN, h8, hp => by
  rcases List.eq_nil_or_concat L with rfl | ⟨L0, j, rfl⟩
  ·rw [List.flatMap_nil, List.append_nil] at hp
   exact ⟨F, a, b, c, hp, Z5z (und_stop (lt F))⟩
  ·rw [List.concat_eq_append] at *
   have hK : ((Z2t (kys rs)).filter (hitOf rs j)).Perm ((chd rs j).map ltr) := by
    rw [<- keys_hit R]
    exact (Z2n _).filter _
   obtain ⟨C, hC, hCp⟩ := perm_lift hK
   have hds := desc_step R j
   have hl1 : F.length + (L0.flatMap (desc rs)).length + (desc rs j).length = D.length := by
    have := hp.length_eq
    rw [List.flatMap_append, List.length_append, List.length_append] at this
    rw [<- this]
    show _ = F.length + ((L0.flatMap (desc rs)).length + ([j].flatMap (desc rs)).length)
    rw [show [j].flatMap (desc rs) = desc rs j from List.append_nil _]; omega
   have hl2 : (chd rs j).length + ((chd rs j).flatMap (desc rs)).length = (desc rs j).length := by
    have := hds.length_eq
    rw [List.length_append] at this; exact this
   have hfm : ((L0 ++ [j]).flatMap (desc rs)) = L0.flatMap (desc rs) ++ desc rs j := by
    rw [List.flatMap_append]; exact congrArg _ (List.append_nil _)
   rw [hfm, List.length_append, List.length_append, List.length_singleton] at hN h8
   have hCf : (C.flatMap (desc rs)).Perm ((chd rs j).flatMap (desc rs)) := hCp.flatMap_right _
   have hnew : ((L0 ++ C).flatMap (desc rs)) = L0.flatMap (desc rs) ++ C.flatMap (desc rs) := List.flatMap_append
   have hlC := hCp.length_eq
   have hlF := hCf.length_eq
   obtain ⟨o', u', e⟩ := Z9g (es := rds rs) (nm := nm) (here := ltr j) (n := n) (O := O) (hitOf rs j) (Z2t (kys rs)) (lt F) (lt L0) b c (known_sorted R) (by rw [sort_len, List.length_map (as := F)]; have := rds_len R; omega) (by rw [sort_len, List.length_map (as := L0)]; have := rds_len R; omega)
   rw [hC] at e
   obtain ⟨F', a', b', c', h1, h2⟩ := und_while D hD N (F ++ C) (L0 ++ C) (some (.pv (.str (ltr j)))) o' u' (by rw [hnew, List.length_append, List.length_append]; omega) (by rw [hnew, List.length_append, List.length_append]; omega) (by
    refine List.Perm.trans ?_ hp
    rw [hnew, hfm, List.append_assoc]
    refine List.Perm.append_left F ?_
    refine (List.perm_append_comm_assoc C _ _).trans ?_
    exact List.Perm.append_left _ ((hCp.append hCf).trans hds))
   have hs : small (stv (lt L0 ++ [ltr j])) = true := sm_stv (by rw [List.length_append, List.length_map, List.length_singleton]; omega)
   have s := und_body (a := a) (keys_dct (rds rs)) (rds_len R) hs e
   have h3 := (Z4k (n := N) (und_go (es := rds rs) (nm := nm) (n := n) (O := O) (a := a) (b := b) (c := c) (lt F) (lt L0) (ltr j)) s)
   rw [lt_app, lt_app] at h2
   rw [lt_app]
   exact ⟨F', a', b', c', h1, h3.trans h2⟩
noncomputable def undL (rs : List Cn) (j : Nat) : List Str := Z2t (lt (desc rs j))
theorem under_ok (j : Nat) (n : Nat) (σ : Hp) : Z0d cfg (n+1) (.fn 499) [.pv (kv (rds rs)), .pv (.str (ltr j))] O σ = some (.pv (.lst ((undL rs j).map PV.str)), σ) := by
 have hd := desc_len R j
 have hf : [j].flatMap (desc rs) = desc rs j := List.append_nil _
 obtain ⟨F, a, b, c, hp, e⟩ := und_while (n := n) (O := []) (nm := ltr j) R (desc rs j) hd big [] [j] none none none (by rw [hf, List.length_singleton]; exact Nat.lt_of_le_of_lt (Nat.add_le_add_left hd 1) (by decide)) (by rw [hf, List.length_singleton]; omega) (by rw [hf]; exact .refl _)
 have hF := hp.length_eq
 have e2 : undL rs j = Z2t (lt F) := (sortS_eq (hp.map ltr)).symm
 rw [e2]
 exact (Z0x rfl (by kernel_rfl)) [6, 2] fun H => H _ _ (e) _ _ (Y0p (x := .lst (stv (lt F))) (strs_all (lt F)) (by rw [List.length_map]; omega) _ _) _ rfl
end
noncomputable abbrev bw (a b : Int) : MO := .lst [.pv (.int a), .pv (.int b)]
structure BowlOk (a b : Int) : Prop where
 a0 : 0 <= a
 b0 : 0 <= b
 b1 : b < 2147483629
theorem mod_i (a : Int) {t : Int} (h : decide (0 < t) = true) (mu : Bool) (O : Z0c) (σ : Hp) : binM mu .Mod (.pv (.int a)) (.pv (.int t)) O σ = some (.pv (.int (Int.fmod a t)), σ) := by
 show gd (decide (0 < t)) (ret (MV.pv (.int (Int.fmod a t)))) O σ = _
 rw [h]; rfl
theorem div_i (a : Int) {t : Int} (h : decide (0 < t) = true) (h2 : decide (t < 1073741824) = true) (mu : Bool) (O : Z0c) (σ : Hp) : binM mu .FloorDiv (.pv (.int a)) (.pv (.int t)) O σ = some (.pv (.int (Int.fdiv a t)), σ) := by
 show gd (decide (0 < t) && decide (t < 1073741824)) (ret (MV.pv (.int (Int.fdiv a t)))) O σ = _
 rw [h, h2]; rfl
theorem mul_i {a b : Int} (h : (Z1d a && Z1d b) = true) (mu : Bool) (O : Z0c) (σ : Hp) : binM mu .Mult (.pv (.int a)) (.pv (.int b)) O σ = some (.pv (.int (a * b)), σ) := by
 show gd (Z1d a && Z1d b) (ret (MV.pv (.int (a * b)))) O σ = _
 rw [h]; rfl
theorem eq_nil (x : Int) (l : List Int) (O : Z0c) (σ : Hp) : eqO (.lst (pvs (.int x :: l.map .int))) (.lst []) O σ = some (false, σ) := rfl
theorem scoop {σ : Hp} {i : Nat} {a b : Int} (h : σ[i]? = some (bw a b)) (hb : BowlOk a b) (top : Int) (h1 : 1 <= top) (h2 : top <= 100) : ∃ k a' b', 0 <= k /\ k < top /\ BowlOk a' b' /\ ∀ n O, Z0d cfg (n+2) (.fn 575) [.ref i, .pv (.int top)] O σ = some (.pv (.int k), σ.set i (bw a' b')) := by
 have t1 : decide (0 < top) = true := decide_eq_true (by omega)
 have t2 : decide (top < 1073741824) = true := decide_eq_true (by omega)
 by_cases ha : 0 < a
 ·refine ⟨Int.fmod a top, Int.fdiv a top, b, Int.fmod_nonneg hb.a0 (by omega), Int.fmod_lt_of_pos a (by omega), ⟨Int.fdiv_nonneg hb.a0 (by omega), hb.b0, hb.b1⟩, fun n O => ?_⟩
  have t3 : decide (0 < a) = true := decide_eq_true ha
  exact (Z2j (by kernel_rfl)) [0, 8, 0, 6, 0, 6, 0] fun H => H _ _ (ob_r h _) (t3) _ _ (ob_r h _) _ _ (mod_i a t1 _ _ _) _ _ (ob_r h _) _ _ (div_i a t1 t2 _ _ _) _ _ (ob_r h _)
 ·have hb0 := hb.b0
  have hs : (Z1d b && Z1d 39373) = true := by
   have := hb.b1
   unfold Z1d
   rw [decide_eq_true (by omega)]; rfl
  have t3 : decide (0 < a) = false := decide_eq_false ha
  refine ⟨Int.fmod (Int.fdiv (Int.fmod (b * 39373 + 5009) 2147483629) 19) top, a, Int.fmod (b * 39373 + 5009) 2147483629, Int.fmod_nonneg (Int.fdiv_nonneg (Int.fmod_nonneg (by omega) (by decide)) (by decide)) (by omega), Int.fmod_lt_of_pos _ (by omega), ⟨hb.a0, Int.fmod_nonneg (by omega) (by decide), Int.fmod_lt_of_pos _ (by decide)⟩, fun n O => ?_⟩
  have h' : (σ.set i (bw a (Int.fmod (b * 39373 + 5009) 2147483629)))[i]? = _ := List.getElem?_set_self (List.getElem?_eq_some_iff.mp h).1
  exact (Z2j (by kernel_rfl)) [0, 9, 0, 6, 2, 0, 2, 6, 0] fun H => H _ _ (ob_r h _) (t3) _ _ (ob_r h _) _ _ (mul_i hs _ _ _) _ _ (mod_i (b * 39373 + 5009) (t := 2147483629) rfl _ _ _) _ _ (ob_r h _) _ _ (ob_r h' _) _ _ (div_i (Int.fmod (b * 39373 + 5009) 2147483629) (t := 19) rfl rfl _ _ _) _ _ (mod_i (Int.fdiv (Int.fmod (b * 39373 + 5009) 2147483629) 19) t1 _ _ _)
theorem bowl_go (x bulk c : Int) (l : List Int) (hl : l.length <= 100) (hb : (0 <= x /\ bulk = x) \/ (¬ 0 <= x /\ bulk = 3 - x)) (hc : c = match decide (1000000000000000000 <= bulk) with | true => bulk | false => 0) (n : Nat) (O : Z0c) (σ : Hp) : Z0d cfg (n+2) (.fn 568) [.pv (.lst (.int x :: l.map .int))] O σ = some (.ref σ.length, σ ++ [bw c (Int.fmod bulk 1000000009 + 7)]) := by
 have s1 : small (pvs (PV.int x :: l.map .int)) = true := Z5m (by rw [List.length_cons, List.length_map]; omega)
 have q := fun O σ => eq_nil x l O σ
 have s2 : Nat.ble (pvs (PV.int x :: l.map .int)).length lim = true := s1
 rcases hb with ⟨h0, rfl⟩ | ⟨h0, rfl⟩
 ·have t0 : decide (0 <= bulk) = true := decide_eq_true h0
  cases h1 : decide (1000000000000000000 <= bulk) with
  | true =>
   rw [hc, h1]
   exact (Z2j (by kernel_rfl)) [8, 6, 6, 4] fun H => H _ _ (q _ _) (s1) (t0) (h1)
  | false =>
   rw [hc, h1]
   exact (Z2j (by kernel_rfl)) [8, 6, 6, 5] fun H => H _ _ (q _ _) (s1) (t0) (h1)
 ·have t0 : decide (0 <= x) = false := decide_eq_false h0
  cases h1 : decide (1000000000000000000 <= 3 - x) with
  | true =>
   rw [hc, h1]
   exact (Z2j (by kernel_rfl)) [8, 6, 7, 6] fun H => H _ _ (q _ _) (s1) (t0) (h1)
  | false =>
   rw [hc, h1]
   exact (Z2j (by kernel_rfl)) [8, 6, 7, 7] fun H => H _ _ (q _ _) (s1) (t0) (h1)
theorem bowl_nil (n : Nat) (O : Z0c) (σ : Hp) : Z0d cfg (n+2) (.fn 568) [.pv (.lst [])] O σ = some (.ref σ.length, σ ++ [bw 0 12]) := by kernel_rfl
theorem bowl_ok (l : List Int) (hl : l.length <= 63) (n : Nat) (O : Z0c) (σ : Hp) : ∃ a b, BowlOk a b /\ Z0d cfg (n+2) (.fn 568) [.pv (.lst (l.map .int))] O σ = some (.ref σ.length, σ ++ [bw a b]) := by
 cases l with
 | nil => exact ⟨0, 12, ⟨by decide, by decide, by decide⟩, bowl_nil n O σ⟩
 | cons x l =>
  rw [List.length_cons] at hl
  have key (bulk : Int) (h : 0 <= bulk) (hb : (0 <= x /\ bulk = x) \/ (¬ 0 <= x /\ bulk = 3 - x)) : ∃ a b, BowlOk a b /\ Z0d cfg (n+2) (.fn 568) [.pv (.lst ((x :: l).map .int))] O σ = some (.ref σ.length, σ ++ [bw a b]) := by
   have h1 := Int.fmod_nonneg h (show (0:Int) <= 1000000009 by decide)
   have h2 := Int.fmod_lt_of_pos bulk (show (0:Int) < 1000000009 by decide)
   refine ⟨_, _, ⟨?_, by omega, by omega⟩, bowl_go x bulk _ l (by omega) hb rfl n O σ⟩
   cases decide (1000000000000000000 <= bulk)
   ·exact Int.le_refl 0
   ·exact h
  by_cases h0 : 0 <= x
  ·exact key x h0 (.inl ⟨h0, rfl⟩)
  ·exact key (3 - x) (by omega) (.inr ⟨h0, rfl⟩)
noncomputable def SX (n : Nat) (a : Addr) (i : Nat) (ρ : Vars) : Mm (Option MV × Vars) := match cfg.fns a with
 | some r => match r.body[i]? with
  | some s => (ixc n 40).x s r.scope ρ
  | none => bad
 | none => bad
noncomputable def RSX (n : Nat) (a : Addr) (i : Nat) (ρ : Vars) : Rp (Option MV × Vars) := match cfg.fns a with
 | some r => match r.body[i]? with
  | some s => (rxc n 40).x s r.scope ρ
  | none => rbad
 | none => rbad
noncomputable def XS (n : Nat) (a : Addr) (i : Nat) (ρ : Vars) : Mm (Option MV × Vars) := match cfg.fns a with
 | some r => exs (ixc n 40) r.scope (r.body.drop i) ρ
 | none => bad
section
variable {n : Nat} {a : Addr} {i : Nat} {ρ ρ' : Vars} {O : Z0c} {σ σ' : Hp} {v : MV}
theorem Z0s {r} (A : Tk) (F : RSX n a i ρ A (KM (SX n a i ρ) O σ) O σ -> SX n a i ρ O σ = r) : SX n a i ρ O σ = r := F (by
 refine Rok.at ?_ A
 unfold RSX SX
 cases cfg.fns a with
 | none => exact Z0b
 | some r =>
  dsimp only
  cases r.body[i]? with
  | none => exact Z0b
  | some s => exact (Z6q n 40).x s r.scope ρ)
theorem xs_at {t : Option MV × Vars} (h : SX n a i ρ O σ = some (t, σ')) : ∃ r s, cfg.fns a = some r /\ (ixc n 40).x s r.scope ρ O σ = some (t, σ') /\ r.body.drop i = s :: r.body.drop (i + 1) := by
 unfold SX at h
 cases e : cfg.fns a with
 | none => rw [e] at h; exact nomatch h
 | some r =>
  rw [e] at h
  dsimp only at h
  cases e2 : r.body[i]? with
  | none => rw [e2] at h; exact nomatch h
  | some s =>
   rw [e2] at h
   obtain ⟨hi, hs⟩ := List.getElem?_eq_some_iff.mp e2
   exact ⟨r, s, rfl, h, hs ▸ List.drop_eq_getElem_cons hi⟩
theorem Z0m (h : SX n a i ρ O σ = some ((none, ρ'), σ')) : XS n a i ρ O σ = XS n a (i + 1) ρ' O σ' := by
 obtain ⟨r, s, e, h, hd⟩ := xs_at h
 unfold XS
 rw [e]
 dsimp only
 rw [hd]
 exact Z1q h
theorem xs_ret (h : SX n a i ρ O σ = some ((some v, ρ'), σ')) : XS n a i ρ O σ = some ((some v, ρ'), σ') := by
 obtain ⟨r, s, e, h, hd⟩ := xs_at h
 unfold XS
 rw [e]
 dsimp only
 rw [hd]
 exact Z1q h
theorem binds_at {args : List MV} {k : Nat} (h : Z7g a args = some (k, ρ)) : ∃ r, cfg.fns a = some r /\ Z2z r = k /\ binds r args = some ρ := by
 unfold Z7g at h
 cases e : cfg.fns a with
 | none => rw [e] at h; exact nomatch h
 | some r =>
  rw [e] at h
  dsimp only at h
  cases e2 : binds r args with
  | none => rw [e2] at h; exact nomatch h
  | some ρ0 => rw [e2] at h; cases h; exact ⟨r, rfl, rfl, e2⟩
theorem xs_body {r : FnRow} (e : cfg.fns a = some r) {t : Option MV × Vars} (h : XS n a 0 ρ O σ = some (t, σ')) : exs (ixc n 40) r.scope r.body ρ O σ = some (t, σ') := by
 unfold XS at h
 rw [e] at h
 exact h
theorem call_ox {args : List MV} {t : Option MV × Vars} (hb : Z7g a args = some (0, ρ)) (h : XS n a 0 ρ O σ = some (t, σ')) : Z0d cfg (n + 1) (.fn a) args O σ = noExc (outV t) O σ' := by
 obtain ⟨r, e, hk, hr⟩ := binds_at hb
 exact Z7s (raw_o e hk hr (xs_body e h))
theorem call_lx {w : Bool} {i : Nat} {l rest rest' : List MV} {t : Option MV × Vars} {σl : Hp} {z : MV} (hh : Z6e σ i = some l) (hv : Z4n w (σ.set i .gone) rest = some rest') (hb : Z7g a (.ref 0 :: rest') = some (lentK w, ρ)) (h : XS n a 0 ρ (lentO w σ i O) [.lst l] = some (t, σl)) (he : Z3k w σ i (outV t) σl = some (z, σ')) : Z0d cfg (n + 1) (.fn a) (.ref i :: rest) O σ = some (z, σ') := by
 obtain ⟨r, e, hk, hr⟩ := binds_at hb
 refine (Z7s (z := z) (σ' := σ') ?_).trans (lentEnd_pv he)
 rw [Y1d e, fnM_l (kind2 hk).1 (kind2 hk).2]
 show (match Z6e σ i with | some l => (match Z4n w (σ.set i .gone) rest with | some rest' => Y1j cfg (mraw cfg n) r w i l rest' O σ | none => none) | none => none) = _
 rw [hh]
 show (match Z4n w (σ.set i .gone) rest with | some rest' => Y1j cfg (mraw cfg n) r w i l rest' O σ | none => none) = _
 rw [hv]
 show (match binds r (.ref 0 :: rest') with | some ρ => (match exs (ixc n 40) r.scope r.body ρ (lentO w σ i O) [.lst l] with | some (t, σl) => Z3k w σ i (outV t) σl | none => none) | none => none) = _
 rw [hr]
 show (match exs (ixc n 40) r.scope r.body ρ (lentO w σ i O) [.lst l] with | some (t, σl) => Z3k w σ i (outV t) σl | none => none) = _
 rw [xs_body e h]
 exact he
end
noncomputable abbrev kinds3 : List PV := [i64, nmT "Bool", nmT "String"]
theorem pick3 (d : Int) (h0 : 0 <= d) (h : d < 3) : ∃ (j : Nat) (a : At), idxOf d 3 = some j /\ (pvs kinds3)[j]? = some (.pv a.v) := by
 have : d = 0 \/ d = 1 \/ d = 2 := by omega
 rcases this with rfl | rfl | rfl
 ·exact ⟨0, .i, rfl, rfl⟩
 ·exact ⟨1, .b, rfl, rfl⟩
 ·exact ⟨2, .s, rfl, rfl⟩
noncomputable abbrev RQ (y : Option MV) : Vars := [(S ".0", none), (S "at", y), (S "vat", some (.ref 0))]
section
variable {O : Z0c} {a b : Int} {n : Nat}
theorem par_turn (hb : BowlOk a b) (n : Nat) (O : Z0c) : ∃ (x : At) (a' b' : Int), BowlOk a' b' /\ ∀ (acc : List PV) (y : Option MV) (u : Int), small (pvs acc) = true -> CF (n+8) 647 0 0 (.pv (.int u)) (pvs acc, RQ y) O [bw a b] = some ((none, (pvs (acc ++ [x.v]), RQ (some (.pv (.int u))))), [bw a' b']) := by
 obtain ⟨d, a', b', h0, h1, hb', e⟩ := scoop (σ := [bw a b]) (i := 0) rfl hb 3 (by decide) (by decide)
 obtain ⟨j, x, e1, e2⟩ := pick3 d h0 h1
 refine ⟨x, a', b', hb', fun acc y u hs => ?_⟩
 rw [<- app1]
 exact (Z2g) [6, 2, 0] fun H => H _ _ (Z2d _) _ _ (e _ O) _ _ (ofo (show idxOf d (pvs kinds3).length = some j from e1) _ _) _ _ (ofo e2 _ _) (hs)
theorem par_loop (n : Nat) (O : Z0c) : ∀ (m : Nat) (i a b : Int) (acc : List PV) (y : Option MV), BowlOk a b -> acc.length + m <= 1000 -> ∃ (ps : List At) (a' b' : Int) (y' : Option MV), ps.length = m /\ BowlOk a' b' /\ Z6j (CF (n+8) 647 0 0) (Z3m m i) (pvs acc, RQ y) O [bw a b] = some ((none, (pvs (acc ++ avs ps), RQ y')), [bw a' b'])
 | 0, i, a, b, acc, y, hb, _ => ⟨[], a, b, y, rfl, hb, by rw [show avs [] = ([] : List PV) from rfl, List.append_nil]; rfl⟩
 | m + 1, i, a, b, acc, y, hb, hl => by
  obtain ⟨x, a1, b1, hb1, e⟩ := par_turn hb n O
  obtain ⟨ps, a2, b2, y', hp, hb2, e2⟩ := par_loop n O m (i + 1) a1 b1 (acc ++ [x.v]) (some (.pv (.int i))) hb1 (by rw [List.length_append, List.length_singleton]; omega)
  refine ⟨x :: ps, a2, b2, y', congrArg (· + 1) hp, hb2, (Z1k (r := Z3m m (i + 1)) (e acc y i (Z5m (by omega)))).trans (e2.trans ?_)⟩
  rw [List.append_assoc]; rfl
theorem rng_at (m : Nat) (h : m <= 1000) (σ : Hp) : srcM (.pv (.rng (m : Nat))) O σ = some (.items (Z3m m 0), σ) := by
 show gd (decide (((m : Nat) : Int).natAbs < 1000000)) (ret (Src.items (Z3m ((m : Nat) : Int).toNat 0))) O σ = _
 rw [Int.natAbs_natCast, Int.toNat_natCast, decide_eq_true (by omega)]; rfl
theorem range_at (m : Nat) (h : m <= 1000) (mu : Bool) (σ : Hp) : bi1 mu .range (.pv (.int (m : Nat))) O σ = some (.pv (.rng (m : Nat)), σ) := by
 show gd (Z1d ((m : Nat) : Int)) (ret (MV.pv (.rng ((m : Nat) : Int)))) O σ = _
 have : Z1d ((m : Nat) : Int) = true := by unfold Z1d; rw [Int.natAbs_natCast]; exact decide_eq_true (by omega)
 rw [this]; rfl
end
noncomputable abbrev RW (ks rws row : PV) (p k ch f d o : Option MV) : Vars := [(S "vat", some (.ref 0)), (S "kinds", some (.pv ks)), (S "rows", some (.pv rws)), (S "row", some (.pv row)), (S "params", p), (S "kind", k), (S "chain", ch), (S "is_fit", f), (S "due", d), (S "others", o)]
section
variable {ks rws : PV} {O : Z0c} {b : Rb} {w : List Way} {t : Cn} {x y : Int} {p k ch f d o : Option MV}
theorem rr_0 (hm : b.many <= 2) (hb : BowlOk x y) (n : Nat) : ∃ (ps : List At) (x' y' : Int), ps.length = b.many /\ BowlOk x' y' /\ SX (n+8) 647 0 (RW ks rws (rowV ((b, w) :: t)) p k ch f d o) O [bw x y] = some ((none, RW ks rws (rowV ((b, w) :: t)) (some (.pv (.tup (avs ps)))) k ch f d o), [bw x' y']) := by
 obtain ⟨ps, x', y', z, hp, hb', e⟩ := par_loop n O b.many 0 x y [] none hb (by rw [List.length_nil]; omega)
 refine ⟨ps, x', y', hp, hb', ?_⟩
 have hl : Z2k false (.items (Z3m b.many 0)) (CF (n+8) 647 0 0) ([], RQ none) O [bw x y] = _ := e
 have hs : small (pvs (avs ps)) = true := Z5m (by rw [List.length_map, hp]; omega)
 exact (Z0s) [4, 0, 0, 0, 0, 2] fun H => H _ _ (range_at b.many (by omega) _ _) _ _ (rng_at b.many (by omega) _) _ _ (hl) (show small (pvs ([] ++ avs ps)) = true from hs) _ _ (ofo (Z3y ([] ++ avs ps)) _ _) _ _ (Z7q (l := [] ++ avs ps) hs _ _)
variable {ps : List At} {rs : List Cn}
theorem rr_1 {σ : Hp} (hc : Wf rs ((b, w) :: t)) (hp : ps.length = b.many) (ht : t.length < 800) (n : Nat) : SX (n+9) 647 1 (RW ks rws (rowV ((b, w) :: t)) (some (.pv (.tup (avs ps)))) k ch f d o) O σ = some ((none, RW ks rws (rowV ((b, w) :: t)) (some (.pv (.tup (avs ps)))) (some (.pv (nmL (ltr b.k) (avs ps)))) (some (.pv (.lst (Z1b ((b, w) :: t) ps)))) f d o), σ) := by
 exact (Z0s) [] fun H => H _ _ (lchain_ok hc hp ht)
end
theorem Z4x {α β : Type} (p : α -> Bool) (g : α -> β) : ∀ l : List α, (l.flatMap fun c => match p c with | true => [g c] | false => []) = (l.filter p).map g
 | [] => rfl
 | x :: l => by
  rw [List.flatMap_cons, Z4x p g l]
  cases q : p x with
  | true => rw [List.filter_cons_of_pos q]; rfl
  | false => rw [List.filter_cons_of_neg (by rw [q]; exact Bool.false_ne_true)]; rfl
theorem one_le {α : Type} (p : Bool) (x : α) : (match p with | true => [x] | false => []).length <= 1 := by
 cases p with
 | true => exact Nat.le_refl 1
 | false => exact Nat.zero_le 1
theorem Y1y : ∀ (c : Cn) (ps : List At), (Z1b c ps).all (Z0p 59) = true
 | [], _ => rfl
 | (b, w) :: t, ps => Bool.and_eq_true_iff.mpr ⟨Y1x (n := 57) _ (Z4z 55 ps), Y1y t _⟩
theorem dat_strs : ∀ l : List Str, (l.map PV.str).all (Z0p 59) = true
 | [] => rfl
 | x :: l => dat_strs l
theorem wf_short0 {rs : List Cn} : ∀ (t : Cn) (b : Rb) (w : List Way), Wf rs ((b, w) :: t) -> t.length <= b.k
 | [], _, _, _ => Nat.zero_le _
 | (e, z) :: t, b, w, h => Nat.lt_of_le_of_lt (wf_short0 t e z h.2.2.2.2.2) h.2.2.2.2.1.2.2
theorem Z4m {rs : List Cn} {t : Cn} {b : Rb} {w : List Way} (h : Wf rs ((b, w) :: t)) : t.length < 800 := by
 have := wf_short0 t b w h
 have := h.2.1
 omega
noncomputable abbrev RQ1 (row : PV) (y : Option MV) : Vars := [(S ".0", none), (S "one", y), (S "row", some (.pv row))]
section
variable {rs : List Cn} (R : Rows rs) {O : Z0c} {σ : Hp} {b : Rb} {w : List Way} {t : Cn} {ps : List At} {k ch f d o : Option MV}
include R
theorem bel_turn (n : Nat) (c : Cn) (h : c ∈ rs) (acc : List PV) (y : Option MV) (hs : small (pvs acc) = true) : CF (n+9) 647 1 0 (.pv (rowV c)) (pvs acc, RQ1 (rowV ((b, w) :: t)) y) O σ = some ((none, (pvs (acc ++ match Z1c b.k c.tail with | true => [PV.str (ltr (kOf c))] | false => []), RQ1 (rowV ((b, w) :: t)) (some (.pv (rowV c))))), σ) := by
 obtain ⟨i, hi⟩ := List.getElem?_of_mem h
 obtain ⟨d, v, u, rfl, rfl, hw⟩ := R.row i c hi
 have hu := Z4m hw
 have hb := below_ok (n := n) (O := O) (σ := σ) (ltr b.k) d v u hu
 rw [below_n] at hb
 show _ = some ((none, (pvs (acc ++ match Z1c b.k u with | true => [PV.str (ltr d.k)] | false => []), _)), σ)
 cases q : Z1c b.k u with
 | true =>
  rw [q] at hb
  show _ = some ((none, (pvs (acc ++ [PV.str (ltr d.k)]), _)), σ)
  rw [<- app1]
  exact (Z2g) [10] fun H => H _ _ (hb) (hs)
 | false =>
  rw [q] at hb
  show _ = some ((none, (pvs (acc ++ []), _)), σ)
  rw [List.append_nil]
  exact (Z2g) [] fun H => H _ _ (hb)
theorem rr_2 (hc : Wf rs ((b, w) :: t)) (hp : ps.length = b.many) (ht : t.length < 800) (n : Nat) :
  SX (n+10) 647 2 (RW (kv (rds rs)) (.lst (rs.map rowV)) (rowV ((b, w) :: t)) (some (.pv (.tup (avs ps)))) (some (.pv (nmL (ltr b.k) (avs ps)))) (some (.pv (.lst (Z1b ((b, w) :: t) ps)))) f d o) O σ = some ((none, RW (kv (rds rs)) (.lst (rs.map rowV)) (rowV ((b, w) :: t)) (some (.pv (.tup (avs ps)))) (some (.pv (nmL (ltr b.k) (avs ps)))) (some (.pv (.lst (Z1b ((b, w) :: t) ps)))) f d o), σ) := by
 have hl := R.len
 have e : Z2k false (.items (pvs (rs.map rowV))) (CF (n+10) 647 1 0) ([], RQ1 (rowV ((b, w) :: t)) none) O σ = _ := Z3h (fun c => one_le _ _) rs [] none (by rw [List.length_nil]; omega) fun c hc acc y hs => bel_turn R (n+1) c hc acc y hs
 have e2 : (rs.flatMap fun c => match Z1c b.k c.tail with | true => [PV.str (ltr (kOf c))] | false => []) = (lt (desc rs b.k)).map PV.str := by
  rw [Z4x]
  show _ = List.map _ (List.map _ (List.map _ _))
  rw [List.map_map, List.map_map]; rfl
 rw [e2, List.nil_append] at e
 have hd := desc_len R b.k
 have hs : small (pvs ((lt (desc rs b.k)).map PV.str)) = true := Z5m (by rw [List.length_map, List.length_map]; omega)
 exact (Z0s) [8, 12, 0, 0, 2, 4] fun H => H _ _ (Y0k R n ((b, w) :: t) ps hc hp (Nat.lt_trans (Nat.succ_lt_succ ht) (by decide)) _) _ _ (eqo_refl (Y1y ((b, w) :: t) ps) _ _) _ _ (under_ok R b.k _ _) _ _ (e) (hs) _ _ (ofo (Z3y ((lt (desc rs b.k)).map PV.str)) _ _) _ _ (Y0p (x := .lst (pvs ((lt (desc rs b.k)).map PV.str))) (strs_all (lt (desc rs b.k))) (by rw [List.length_map]; omega) _ _) _ _ (eqo_refl (dat_strs (undL rs b.k)) _ _)
end
noncomputable def isS : At -> Bool
 | .s => true
 | _ => false
noncomputable def isFit (bd : Bool) (ps : List At) : Bool := match bd with
 | false => true
 | true => !ps.any isS
theorem any_s : ∀ ps : List At, ((avs ps).any fun y => pvEq y (nmT "String")) = ps.any isS
 | [] => rfl
 | a :: ps => by
  show (pvEq a.v (nmT "String") || (avs ps).any fun y => pvEq y (nmT "String")) = (isS a || ps.any isS)
  rw [any_s ps]
  cases a <;> rfl
theorem mem_pv {x : PV} {l : List PV} {m : Bool} (hx : Z0p 60 x = true) (hl : l.all (Z0p 60) = true) (h : (l.any fun y => pvEq y x) = m) : Z5r x l = some m := by
 unfold Z5r
 rw [hx, hl, <- h]; rfl
section
variable {rs : List Cn} {O : Z0c} {σ : Hp} {b : Rb} {w : List Way} {t : Cn} {ps : List At} {k ch f d o : Option MV} {ks rws : PV}
theorem rr_3 (n : Nat) : SX n 647 3 (RW ks rws (rowV ((b, w) :: t)) (some (.pv (.tup (avs ps)))) k ch f d o) O σ = some ((none, RW ks rws (rowV ((b, w) :: t)) (some (.pv (.tup (avs ps)))) k ch (some (bv (isFit b.bd ps))) d o), σ) := by
 have hm : Z5r (nmT "String") (avs ps) = some (ps.any isS) := mem_pv rfl (Z4z 58 ps) (any_s ps)
 cases q : b.bd with
 | false =>
  exact (Z0s) [5] fun H => H (q)
 | true =>
  exact (Z0s) [4, 2] fun H => H (q) _ _ (ofo hm _ _)
noncomputable def applV (b : Rb) (ps : List At) : PV := match isFit b.bd ps with
 | true => nmL (ltr b.k) (avs ps)
 | false => .none
theorem lappl (n : Nat) : ∀ (b : Rb) (ps : List At), look (pvs2 (rds rs)) (ltr b.k) = some (.pv (Z0v b w t)) -> ps.length = b.many -> b.many <= 2 -> Z0d cfg (n+33) (.fn 642) [.pv (kv (rds rs)), .pv (.str (ltr b.k)), .pv (.tup (avs ps))] O σ = some (.pv (applV b ps), σ)
 | ⟨k, _, bd, ab⟩, [], h, hp, _ => by
  cases hp
  have e : applV ⟨k, 0, bd, ab⟩ [] = nmL (ltr k) (avs []) := by cases bd <;> rfl
  exact (lappl_ok (v := [sv "name", .str (ltr k), .tup (avs [])]) (appl_0 n h)).trans (congrArg (fun x => some (MV.pv x, σ)) e.symm)
 | ⟨k, _, bd, ab⟩, [a], h, hp, _ => by
  cases hp
  cases q : fit bd a with
  | true =>
   have e : applV ⟨k, 1, bd, ab⟩ [a] = nmL (ltr k) (avs [a]) := by cases bd <;> cases a <;> first | rfl | exact nomatch q
   exact (lappl_ok (v := [sv "name", .str (ltr k), .tup (avs [a])]) (appl_1 n a q h)).trans (congrArg (fun x => some (MV.pv x, σ)) e.symm)
  | false =>
   obtain ⟨rfl, rfl⟩ : bd = true /\ a = .s := by cases bd <;> cases a <;> first | exact ⟨rfl, rfl⟩ | exact nomatch q
   exact Z6d (appl_1x n h)
 | ⟨k, _, bd, ab⟩, [a, c], h, hp, _ => by
  cases hp
  cases q : fit bd a with
  | true =>
   cases q2 : fit bd c with
   | true =>
    have e : applV ⟨k, 2, bd, ab⟩ [a, c] = nmL (ltr k) (avs [a, c]) := by cases bd <;> cases a <;> cases c <;> first | rfl | (cases q; done) | (cases q2; done)
    exact (lappl_ok (v := [sv "name", .str (ltr k), .tup (avs [a, c])]) (appl_2 n a c q q2 h)).trans (congrArg (fun x => some (MV.pv x, σ)) e.symm)
   | false =>
    obtain ⟨rfl, rfl⟩ : bd = true /\ c = .s := by cases bd <;> cases c <;> first | exact ⟨rfl, rfl⟩ | exact nomatch q2
    have e : applV ⟨k, 2, true, ab⟩ [a, .s] = .none := by cases a <;> rfl
    exact (Z6d (appl_2y n a q h)).trans (congrArg (fun x => some (MV.pv x, σ)) e.symm)
  | false =>
   obtain ⟨rfl, rfl⟩ : bd = true /\ a = .s := by cases bd <;> cases a <;> first | exact ⟨rfl, rfl⟩ | exact nomatch q
   have e : applV ⟨k, 2, true, ab⟩ [.s, c] = .none := by cases c <;> rfl
   exact (Z6d (appl_2x n c h)).trans (congrArg (fun x => some (MV.pv x, σ)) e.symm)
 | _, _ :: _ :: _ :: _, _, hp, hm => Z1y hp hm
theorem lappl2 (n : Nat) : ∀ (b : Rb) (ps : List At), look (pvs2 (rds rs)) (ltr b.k) = some (.pv (Z0v b w t)) -> ps.length = b.many -> b.many <= 2 -> Z0d cfg (n+33) (.fn 642) [.pv (kv (rds rs)), .pv (.str (ltr b.k)), .pv (.tup (avs ps ++ [i64]))] O σ = some (.pv .none, σ)
 | ⟨k, _, bd, ab⟩, [], h, hp, _ => by
  cases hp
  exact Z6d (l := avs [.i]) (appl_bad0 n [] h)
 | ⟨k, _, bd, ab⟩, [a], h, hp, _ => by
  cases hp
  exact Z6d (l := avs [a, .i]) (appl_bad1 n h)
 | ⟨k, _, bd, ab⟩, [a, c], h, hp, _ => by
  cases hp
  exact Z6d (l := avs [a, c, .i]) (appl_bad2 n h)
 | _, _ :: _ :: _ :: _, _, hp, hm => Z1y hp hm
variable (R : Rows rs) (hc : Wf rs ((b, w) :: t)) (hp : ps.length = b.many)
include R hc hp
theorem rr_4 (n : Nat) : SX (n+33) 647 4 (RW (kv (rds rs)) rws (rowV ((b, w) :: t)) (some (.pv (.tup (avs ps)))) (some (.pv (nmL (ltr b.k) (avs ps)))) ch (some (bv (isFit b.bd ps))) d o) O σ = some ((none, RW (kv (rds rs)) rws (rowV ((b, w) :: t)) (some (.pv (.tup (avs ps)))) (some (.pv (nmL (ltr b.k) (avs ps)))) ch (some (bv (isFit b.bd ps))) d o), σ) := by
 have h1 := lappl (O := O) (σ := σ) n b ps (R.look hc) hp hc.2.2.1
 have h2 := lappl2 (O := O) (σ := σ) n b ps (R.look hc) hp hc.2.2.1
 have hs : Nat.ble ((avs ps).length + 1) lim = true := Nat.ble_eq_true_of_le (by rw [List.length_map, hp]; exact Nat.le_trans (Nat.add_le_add_right hc.2.2.1 1) (by decide))
 unfold applV at h1
 cases q : isFit b.bd ps with
 | true =>
  rw [q] at h1
  dsimp only at h1
  exact (Z0s) [6, 6] fun H => H _ _ (h1) _ _ (ofo (eq_refl (Y1x (n := 58) (ltr b.k) (Z4z 56 ps))) _ _) _ _ (Z2d _) (hs) _ _ (h2)
 | false =>
  rw [q] at h1
  dsimp only at h1
  exact (Z0s) [14] fun H => H _ _ (h1) _ _ (Z2d _) (hs) _ _ (h2)
end
noncomputable def dueV (ab : Bool) (ps : List At) : List PV := match ab with
 | true => []
 | false => .tup [sv "first", i64] :: match ps with
  | [] => []
  | a :: _ => [.tup [sv "last", a.v]]
section
variable {rs : List Cn} {O : Z0c} {σ : Hp} {w : List Way} {t : Cn} {k ch f d o : Option MV} {rws : PV}
noncomputable abbrev R5 (rs : List Cn) (rws : PV) (b : Rb) (w : List Way) (t : Cn) (ps : List At) (ch f d o : Option MV) : Vars := RW (kv (rds rs)) rws (rowV ((b, w) :: t)) (some (.pv (.tup (avs ps)))) (some (.pv (nmL (ltr b.k) (avs ps)))) ch f d o
theorem rr_5 (n : Nat) : ∀ (b : Rb) (ps : List At), look (pvs2 (rds rs)) (ltr b.k) = some (.pv (Z0v b w t)) -> ps.length = b.many -> b.many <= 2 -> SX (n+8) 647 5 (R5 rs rws b w t ps ch f d o) O σ = some ((none, R5 rs rws b w t ps ch f d o), σ)
 | ⟨k, _, bd, true⟩, [], h, hp, _ => by
  cases hp
  exact (Z0s) [] fun H => H _ _ (Y1z (b := ⟨k, 0, bd, true⟩) rfl h (avs []) _)
 | ⟨k, _, bd, false⟩, [], h, hp, _ => by
  cases hp
  exact (Z0s) [] fun H => H _ _ (conc_ok (b := ⟨k, 0, bd, false⟩) rfl h [] (Nat.zero_le _) _)
 | ⟨k, _, bd, true⟩, [a], h, hp, _ => by
  cases hp
  exact (Z0s) [] fun H => H _ _ (Y1z (b := ⟨k, 1, bd, true⟩) rfl h (avs [a]) _) _ _ (Z1p h _) _ _ (whole_1 _) _ _ (Y1z (b := ⟨k, 1, bd, true⟩) rfl h [vrS (vS 0 k)] _)
 | ⟨k, _, bd, false⟩, [a], h, hp, _ => by
  cases hp
  exact (Z0s) [] fun H => H _ _ (conc_ok (b := ⟨k, 1, bd, false⟩) rfl h [a] (Nat.le_succ 1) _) _ _ (Z1p h _) _ _ (whole_1 _) _ _ (conc_w (b := ⟨k, 1, bd, false⟩) (l := [vrS (vS 0 k)]) rfl h _ fun O σ => free_1 (n + 1))
 | ⟨k, _, bd, true⟩, [a, c], h, hp, _ => by
  cases hp
  exact (Z0s) [] fun H => H _ _ (Y1z (b := ⟨k, 2, bd, true⟩) rfl h (avs [a, c]) _) _ _ (Z1p h _) _ _ (whole_2 _) _ _ (Y1z (b := ⟨k, 2, bd, true⟩) rfl h [vrS (vS 0 k), vrS (vS 1 k)] _)
 | ⟨k, _, bd, false⟩, [a, c], h, hp, _ => by
  cases hp
  exact (Z0s) [] fun H => H _ _ (conc_ok (b := ⟨k, 2, bd, false⟩) rfl h [a, c] (Nat.le_refl 2) _) _ _ (Z1p h _) _ _ (whole_2 _) _ _ (conc_w (b := ⟨k, 2, bd, false⟩) (l := [vrS (vS 0 k), vrS (vS 1 k)]) rfl h _ fun O σ => free_2 (n + 1))
 | _, _ :: _ :: _ :: _, _, hp, hm => Z1y hp hm
theorem rr_6 (n : Nat) : ∀ (b : Rb) (ps : List At), ps.length <= 2 -> SX (n+8) 647 6 (R5 rs rws b w t ps ch f d o) O σ = some ((none, R5 rs rws b w t ps ch f (some (.pv (.lst (dueV b.ab ps)))) o), σ)
 | ⟨k, m, bd, true⟩, ps, _ => by
  exact (Z0s) [] fun H => H
 | ⟨k, m, bd, false⟩, [], _ => by
  exact (Z0s) [] fun H => H _ _ (Z2d _)
 | ⟨k, m, bd, false⟩, [a], _ => by
  exact (Z0s) [] fun H => H _ _ (Z2d _)
 | ⟨k, m, bd, false⟩, [a, c], _ => by
  exact (Z0s) [] fun H => H _ _ (Z2d _)
 | _, _ :: _ :: _ :: _, hp => Z1y rfl hp
theorem field_due (n : Nat) : ∀ (b : Rb) (ps : List At), ps.length = b.many -> b.many <= 2 -> Z0d cfg (n+7) (.fn 438) [.pv (Z0v b w t), .pv (.tup (avs ps))] O σ = some (.pv (.lst (dueV b.ab ps)), σ)
 | ⟨k, m, bd, true⟩, ps, hp, hm => field_ab m ps hp hm n
 | ⟨k, _, bd, false⟩, [], hp, _ => by cases hp; exact field_0 n
 | ⟨k, _, bd, false⟩, [a], hp, _ => by cases hp; exact field_1 a n
 | ⟨k, _, bd, false⟩, [a, c], hp, _ => by cases hp; exact field_2 a c n
 | _, _ :: _ :: _ :: _, hp, hm => Z1y hp hm
theorem dat_due : ∀ (ab : Bool) (ps : List At), (dueV ab ps).all (Z0p 59) = true
 | true, _ => rfl
 | false, [] => rfl
 | false, a :: _ => by cases a <;> rfl
theorem rr_7 {b : Rb} {ps : List At} (h : look (pvs2 (rds rs)) (ltr b.k) = some (.pv (Z0v b w t))) (hp : ps.length = b.many) (hm : b.many <= 2) (n : Nat) : SX (n+8) 647 7 (R5 rs rws b w t ps ch f (some (.pv (.lst (dueV b.ab ps)))) o) O σ = some ((none, R5 rs rws b w t ps ch f (some (.pv (.lst (dueV b.ab ps)))) o), σ) := by
 exact (Z0s) [16] fun H => H _ _ (Z1p h _) _ _ (field_due (n + 1) b ps hp hm) _ _ (eqo_refl (dat_due b.ab ps) _ _)
end
noncomputable abbrev En := Str × List At
noncomputable def enV (e : En) : PV := nmL e.1 (avs e.2)
noncomputable def Z5c : Cn -> List At -> List En
 | [], _ => [(S "Any", [])]
 | (b, w) :: t, ps => (ltr b.k, ps) :: Z5c t (w.map (pick ps))
theorem chain_e : ∀ (c : Cn) (ps : List At), Z1b c ps = (Z5c c ps).map enV
 | [], _ => rfl
 | (b, w) :: t, ps => congrArg (topV ps ((b, w) :: t) :: ·) (chain_e t _)
theorem any_ltr {k : Nat} {P : Prop} (h : S "Any" = ltr k) : P := by
 have e : Z0g (S "Any") (ltr k) = false := long_ne (by kernel_rfl) _
 rw [h, Z1f] at e
 exact nomatch e
theorem Z9y {rs : List Cn} : ∀ (c : Cn) (ps : List At), Wf rs c -> ps.length = Z3a c -> ∀ e ∈ Z5c c ps, (e.1 = S "Any" /\ e.2 = []) \/ ∃ b w t, e.1 = ltr b.k /\ e.2.length = b.many /\ Wf rs ((b, w) :: t) /\ (b.k = kOf c \/ Z1c b.k c.tail = true)
 | [], _, _, _, e, h => by
  obtain rfl := List.mem_singleton.mp h
  exact .inl ⟨rfl, rfl⟩
 | (b, w) :: t, ps, hc, hp, e, h => by
  rcases List.mem_cons.mp h with rfl | h
  ·exact .inr ⟨b, w, t, rfl, hp, hc, .inl rfl⟩
  ·rcases Z9y t _ hc.2.2.2.2.2 (by rw [List.length_map]; exact wf_len hc) e h with h | ⟨d, v, u, h1, h2, h3, h4⟩
   ·exact .inl h
   ·refine .inr ⟨d, v, u, h1, h2, h3, .inr ?_⟩
    cases t with
    | nil =>
     rcases List.mem_singleton.mp h with rfl
     have h1 : S "Any" = ltr d.k := h1
     exact any_ltr h1
    | cons x t =>
     show (Nat.beq x.1.k d.k || Z1c d.k t) = true
     rcases h4 with h4 | h4
     ·rw [h4, show kOf (x :: t) = x.1.k from rfl, Nat.beq_refl]; rfl
     ·rw [show Z1c d.k t = true from h4, Bool.or_true]
theorem find_e {rs : List Cn} : ∀ (c : Cn) (ps : List At), Wf rs c -> ps.length = Z3a c -> ∀ e ∈ Z5c c ps, Z5d e.1 c ps = some e.2
 | [], _, _, _, e, h => by
  obtain rfl := List.mem_singleton.mp h
  rfl
 | (b, w) :: t, ps, hc, hp, e, h => by
  show (match Z0g (ltr b.k) e.1 with | true => some ps | false => Z5d e.1 t (w.map (pick ps))) = some e.2
  rcases List.mem_cons.mp h with rfl | h
  ·rw [Z1f]
  ·have hp2 : (w.map (pick ps)).length = Z3a t := by rw [List.length_map]; exact wf_len hc
   have hne : Z0g (ltr b.k) e.1 = false := by
    rcases Z9y t _ hc.2.2.2.2.2 hp2 e h with ⟨h1, _⟩ | ⟨d, v, u, h1, _, _, h4⟩
    ·rw [h1]; rfl
    ·rw [h1]
     refine ltr_ne fun q => ?_
     have : Z1c d.k t = true := by
      cases t with
      | nil =>
       rcases List.mem_singleton.mp h with rfl
       have h1 : S "Any" = ltr d.k := h1
       exact any_ltr h1
      | cons x t =>
       show (Nat.beq x.1.k d.k || Z1c d.k t) = true
       rcases h4 with h4 | h4
       ·rw [h4, show kOf (x :: t) = x.1.k from rfl, Nat.beq_refl]; rfl
       ·rw [show Z1c d.k t = true from h4, Bool.or_true]
     exact absurd (wf_below hc this) (by omega)
   rw [hne]
   exact find_e t _ hc.2.2.2.2.2 hp2 e h
theorem eq_nil_nm (s : Str) (qs : List At) (j : Nat) : pvEq (nmL s (avs qs)) (nmL (ltr j) []) = match Z0g s (ltr j) with | true => qs.isEmpty | false => false := by
 cases q : Z0g s (ltr j) with
 | false => exact neq_nm q _ _
 | true =>
  show (match Z0g s (ltr j) with | true => pvsEq [.tup (avs qs)] [.tup []] | false => false) = qs.isEmpty
  rw [q]
  cases qs <;> rfl
theorem any_find (j : Nat) : ∀ (c : Cn) (ps : List At), (∀ e ∈ Z5c c ps, Z0g e.1 (ltr j) = true -> e.2 = []) -> ((Z1b c ps).any fun y => pvEq y (nmL (ltr j) [])) = (Z5d (ltr j) c ps).isSome
 | [], _, _ => rfl
 | (b, w) :: t, ps, h => by
  have ih := any_find j t (w.map (pick ps)) fun e m => h e (.tail _ m)
  show (pvEq (nmL (ltr b.k) (avs ps)) (nmL (ltr j) []) || (Z1b t (w.map (pick ps))).any fun y => pvEq y (nmL (ltr j) [])) = (match Z0g (ltr b.k) (ltr j) with | true => some ps | false => Z5d (ltr j) t (w.map (pick ps))).isSome
  rw [ih, eq_nil_nm]
  cases q : Z0g (ltr b.k) (ltr j) with
  | false => rfl
  | true => rw [show ps = [] from h (ltr b.k, ps) (.head _) q]; rfl
noncomputable abbrev RQ3 (ks kind : PV) (y : Option MV) : Vars := [(S ".0", none), (S "one", y), (S "kind", some (.pv kind)), (S "kinds", some (.pv ks))]
noncomputable abbrev RQ4 (y : Option MV) : Vars := [(S ".0", none), (S "one", y)]
noncomputable abbrev RQ5 (ks kind chain : PV) (y : Option MV) : Vars := [(S ".0", none), (S "one", y), (S "chain", some (.pv chain)), (S "kind", some (.pv kind)), (S "kinds", some (.pv ks))]
noncomputable def is0 (c : Cn) : Bool := Nat.beq (Z3a c) 0
noncomputable abbrev othL (rs : List Cn) : List Cn := rs.filter is0
noncomputable def othV (c : Cn) : PV := nmL (ltr (kOf c)) (avs [])
theorem Y1p (p : PV) (l : List PV) : inL p (.lst (pvs l)) = Z5r p l := by
 show (match Z0z (pvs l) with | some ps => Z5r p ps | none => none) = _
 rw [Z3y]
theorem flat_nil {α β : Type} (l : List α) : (l.flatMap fun _ => ([] : List β)) = [] := by
 induction l with
 | nil => rfl
 | cons x l ih => rw [List.flatMap_cons, ih]; rfl
theorem all_up {f g : PV -> Bool} (h : ∀ x, f x = true -> g x = true) (l : List PV) (a : l.all f = true) : l.all g = true := List.all_eq_true.mpr fun x m => h x (List.all_eq_true.mp a x m)
theorem dat_up1 : ∀ (n : Nat) (x : PV), Z0p n x = true -> Z0p (n + 1) x = true
 | _, .none, _ | _, .bool _, _ | _, .int _, _ | _, .str _, _ => rfl
 | n + 1, .tup l, h => all_up (dat_up1 n) l h
 | n + 1, .lst l, h => all_up (dat_up1 n) l h
 | 0, .tup _, h | 0, .lst _, h | 0, .dct _, h | 0, .obj _ _, h | 0, .fn _, h | 0, .cls _, h | 0, .bi _, h | 0, .rng _, h => nomatch h
 | _ + 1, .dct _, h | _ + 1, .obj _ _, h | _ + 1, .fn _, h | _ + 1, .cls _, h | _ + 1, .bi _, h | _ + 1, .rng _, h => nomatch h
theorem dat_up (x : PV) (h : Z0p 59 x = true) : Z0p 60 x = true := dat_up1 59 x h
section
variable {rs : List Cn} (R : Rows rs) {O : Z0c} {σ : Hp} {b : Rb} {w : List Way} {t : Cn} {ps : List At} {ch f d o : Option MV} {rws : PV} (hc : Wf rs ((b, w) :: t)) (hp : ps.length = b.many)
include R hc hp
theorem sub_e (n : Nat) (e : En) (h : e ∈ Z5c ((b, w) :: t) ps) : Z0d cfg (n+17) (.fn 402) [.pv (kv (rds rs)), .pv (nmL (ltr b.k) (avs ps)), .pv (enV e)] O σ = some (.pv (.bool true), σ) := by
 have hf := find_e ((b, w) :: t) ps hc hp e h
 have hl : e.2.length <= 2 := by
  rcases Z9y ((b, w) :: t) ps hc hp e h with ⟨_, h2⟩ | ⟨_, _, _, _, h2, h3, _⟩
  ·rw [h2]; exact Nat.zero_le _
  ·rw [h2]; exact h3.2.2.1
 exact subt_yes R hc hp (Z4m hc) ⟨hl, .inr ⟨rfl, rfl⟩⟩ hf n
theorem turn_3 (n : Nat) (e : En) (h : e ∈ Z5c ((b, w) :: t) ps) (acc : List PV) (y : Option MV) (hs : small (pvs acc) = true) : CF (n+17) 647 3 0 (.pv (enV e)) (pvs acc, RQ3 (kv (rds rs)) (nmL (ltr b.k) (avs ps)) y) O σ = some ((none, (pvs (acc ++ []), RQ3 (kv (rds rs)) (nmL (ltr b.k) (avs ps)) (some (.pv (enV e))))), σ) := by
 rw [List.append_nil]
 exact (Z2g) [] fun H => H _ _ (sub_e R hc hp n e h)
theorem rr_8 (n : Nat) : SX (n+17) 647 8 (R5 rs rws b w t ps (some (.pv (.lst (Z1b ((b, w) :: t) ps)))) f d o) O σ = some ((none, R5 rs rws b w t ps (some (.pv (.lst (Z1b ((b, w) :: t) ps)))) f d o), σ) := by
 have hn : (Z5c ((b, w) :: t) ps).length <= 1000 := by
  have : ∀ (t : Cn) (ps : List At), (Z5c t ps).length = t.length + 1 := fun t => by
   induction t with
   | nil => exact fun _ => rfl
   | cons x t ih => exact fun ps => congrArg (· + 1) (ih _)
  rw [this]
  have := Z4m hc
  show t.length + 1 + 1 <= 1000
  omega
 have e : Z2k false (.items (pvs ((Z5c ((b, w) :: t) ps).map enV))) (CF (n+17) 647 3 0) ([], RQ3 (kv (rds rs)) (nmL (ltr b.k) (avs ps)) none) O σ = _ := Z3h (f := fun _ => []) (fun c => Nat.zero_le 1) (Z5c ((b, w) :: t) ps) [] none (by rw [List.length_nil]; omega) fun c hm acc y hs => turn_3 R hc hp n c hm acc y hs
 rw [flat_nil] at e
 rw [chain_e]
 exact (Z0s) [2] fun H => H _ _ (e)
omit hc hp
theorem turn_4 (n : Nat) (c : Cn) (h : c ∈ rs) (acc : List PV) (y : Option MV) (hs : small (pvs acc) = true) : CF n 647 4 0 (.pv (rowV c)) (pvs acc, RQ4 y) O σ = some ((none, (pvs (acc ++ match is0 c with | true => [othV c] | false => []), RQ4 (some (.pv (rowV c))))), σ) := by
 obtain ⟨i, hi⟩ := List.getElem?_of_mem h
 obtain ⟨⟨k, m, bd, ab⟩, v, u, rfl, rfl, hw⟩ := R.row i c hi
 cases m with
 | zero =>
  show _ = some ((none, (pvs (acc ++ [othV ((⟨k, 0, bd, ab⟩, v) :: u)]), _)), σ)
  rw [<- app1]
  exact (Z2g) [12] fun H => H (hs)
 | succ m =>
  show _ = some ((none, (pvs (acc ++ []), _)), σ)
  rw [List.append_nil]
  exact (Z2g) [] fun H => H
theorem rr_9 (n : Nat) : SX n 647 9 (R5 rs (.lst (rs.map rowV)) b w t ps ch f d o) O σ = some ((none, R5 rs (.lst (rs.map rowV)) b w t ps ch f d (some (.pv (.lst ((othL rs).map othV))))), σ) := by
 have hl := R.len
 have e : Z2k false (.items (pvs (rs.map rowV))) (CF n 647 4 0) ([], RQ4 none) O σ = _ := Z3h (fun c => one_le _ _) rs [] none (by rw [List.length_nil]; omega) fun c hc acc y hs => turn_4 R n c hc acc y hs
 rw [Z4x, List.nil_append] at e
 have hs : small (pvs ((othL rs).map othV)) = true := Z5b (Nat.le_trans (List.length_filter_le _ _) (by omega)) _
 exact (Z0s) [2, 0, 0] fun H => H _ _ (e) (hs) _ _ (ofo (Z3y ((othL rs).map othV)) _ _)
include hc hp
theorem turn_5 (n : Nat) (c : Cn) (h : c ∈ othL rs) (acc : List PV) (y : Option MV) (hs : small (pvs acc) = true) : CF (n+17) 647 5 0 (.pv (othV c)) (pvs acc, RQ5 (kv (rds rs)) (nmL (ltr b.k) (avs ps)) (.lst (Z1b ((b, w) :: t) ps)) y) O σ = some ((none, (pvs (acc ++ []), RQ5 (kv (rds rs)) (nmL (ltr b.k) (avs ps)) (.lst (Z1b ((b, w) :: t) ps)) (some (.pv (othV c))))), σ) := by
 rw [List.append_nil]
 obtain ⟨hm, h0⟩ := List.mem_filter.mp h
 obtain ⟨i, hi⟩ := List.getElem?_of_mem hm
 obtain ⟨g, v, u, rfl, rfl, hw⟩ := R.row i c hi
 have h0 : g.many = 0 := Nat.eq_of_beq_eq_true h0
 have hnil : ∀ e ∈ Z5c ((b, w) :: t) ps, Z0g e.1 (ltr g.k) = true -> e.2 = [] := fun e he q => by
  rcases Z9y ((b, w) :: t) ps hc hp e he with ⟨_, h2⟩ | ⟨b', w', t', h1, h2, h3, _⟩
  ·exact h2
  ·have hk : b'.k = g.k := by
    rw [h1, ltr_eq] at q
    exact Nat.eq_of_beq_eq_true q
   have h4 := h3.1
   rw [hk, hi] at h4
   have h5 : g = b' := congrArg (fun o : Option Cn => match o with | some (x :: _) => x.1 | _ => g) h4
   exact List.length_eq_zero_iff.mp (h2.trans (h5 ▸ h0))
 have hmem : Z5r (nmL (ltr g.k) []) (Z1b ((b, w) :: t) ps) = some (Z5d (ltr g.k) ((b, w) :: t) ps).isSome := mem_pv rfl (by
  have := Y1y ((b, w) :: t) ps
  rw [List.all_eq_true] at this ⊢
  exact fun x m => dat_up x (this x m)) (any_find g.k _ ps hnil)
 have hin := (Y1p (nmL (ltr g.k) []) (Z1b ((b, w) :: t) ps)).trans hmem
 cases q : Z5d (ltr g.k) ((b, w) :: t) ps with
 | none =>
  rw [q] at hin
  have hf := subt_no (O := O) (σ := σ) R hc hp (Z4m hc) (qs := []) q rfl n
  exact (Z2g) [2] fun H => H _ _ (hf) _ _ (ofo hin _ _)
 | some r =>
  rw [q] at hin
  have hr : r.length <= 2 := by
   have : ∀ (c : Cn) (ps : List At) (r : List At), Z5d (ltr g.k) c ps = some r -> Wf rs c -> ps.length = Z3a c -> r.length <= 2 := fun c => by
    induction c with
    | nil => exact fun ps r h _ _ => by cases h
    | cons x c ih =>
     obtain ⟨e, z⟩ := x
     intro ps r h hw hl
     replace h : (match Z0g (ltr e.k) (ltr g.k) with | true => some ps | false => Z5d (ltr g.k) c (z.map (pick ps))) = some r := h
     cases q : Z0g (ltr e.k) (ltr g.k) with
     | true => rw [q] at h; cases h; rw [hl]; exact hw.2.2.1
     | false => rw [q] at h; exact ih _ r h hw.2.2.2.2.2 (by rw [List.length_map]; exact wf_len hw)
   exact this _ ps r q hc hp
  have hf := subt_yes (O := O) (σ := σ) R hc hp (Z4m hc) (qs := []) (l := []) ⟨hr, .inl ⟨rfl, rfl⟩⟩ q n
  exact (Z2g) [2] fun H => H _ _ (hf) _ _ (ofo hin _ _)
theorem rr_10 (n : Nat) : SX (n+17) 647 10 (R5 rs rws b w t ps (some (.pv (.lst (Z1b ((b, w) :: t) ps)))) f d (some (.pv (.lst ((othL rs).map othV))))) O σ = some ((some (.pv (.bool true)), R5 rs rws b w t ps (some (.pv (.lst (Z1b ((b, w) :: t) ps)))) f d (some (.pv (.lst ((othL rs).map othV))))), σ) := by
 have hl := R.len
 have hn : (othL rs).length <= 1000 := Nat.le_trans (List.length_filter_le _ _) (by omega)
 have e : Z2k false (.items (pvs ((othL rs).map othV))) (CF (n+17) 647 5 0) ([], RQ5 (kv (rds rs)) (nmL (ltr b.k) (avs ps)) (.lst (Z1b ((b, w) :: t) ps)) none) O σ = _ := Z3h (f := fun _ => []) (fun c => Nat.zero_le 1) (othL rs) [] none (by rw [List.length_nil]; omega) fun c hm acc y hs => turn_5 R hc hp n c hm acc y hs
 rw [flat_nil] at e
 exact (Z0s) [2] fun H => H _ _ (e)
end
theorem Z2f {α β : Type} {f : α -> Option β} {k : Str} {x : α} {l : List (Str × α)} {y : β} {r : List (Str × β)} (h : f x = some y) (j : mapO2 f l = some r) : mapO2 f ((k, x) :: l) = some ((k, y) :: r) := by
 have e : mapO2 f ((k, x) :: l) = (match f x with | some y => (match mapO2 f l with | some l => some ((k, y) :: l) | none => none) | none => none) := rfl
 rw [e, h, j]
theorem mapO2_pvs {f : MV -> Option PV} (hf : ∀ x, f (.pv x) = some x) : ∀ l : List (Str × PV), mapO2 f (pvs2 l) = some l
 | [] => rfl
 | (k, x) :: l => Z2f (hf x) (mapO2_pvs hf l)
theorem frz_dct (i : Nat) (σ : Hp) {es : List (Str × PV)} (h : σ[i]? = some (.dct (pvs2 es))) : Z0f 29 σ (.ref i) = some (.dct es) := by
 unfold Z0f
 dsimp only
 rw [h]
 dsimp only
 rw [mapO2_pvs fun _ => rfl]
theorem frz_obj (i : Nat) (σ : Hp) {c : Addr} {fs : List (Str × MV)} {ps : List (Str × PV)} (h : σ[i]? = some (.obj c fs)) (hm : mapO2 (Z0f 29 σ) fs = some ps) : Z0f 30 σ (.ref i) = some (.obj c ps) := by
 unfold Z0f
 dsimp only
 rw [h]
 dsimp only
 rw [hm]
noncomputable abbrev HL (x y : Int) (ds : List (Str × PV)) (l : List PV) (τ : Hp) : Hp := bw x y :: kO :: .dct (pvs2 ds) :: .lst (pvs l) :: τ
theorem view_law (ds : List (Str × PV)) (l : List PV) (row : PV) (τ : Hp) : Z4n true (.gone :: kO :: .dct (pvs2 ds) :: .lst (pvs l) :: τ) [.ref 1, .ref 3, .pv row] = some (pvs [kv ds, .lst l, row]) := by
 have h1 : Z0f 30 (.gone :: kO :: .dct (pvs2 ds) :: .lst (pvs l) :: τ) (.ref 1) = some (kv ds) := frz_obj 1 _ rfl (Z2f (frz_dct 2 _ rfl) rfl)
 have h2 : Z0f 30 (.gone :: kO :: .dct (pvs2 ds) :: .lst (pvs l) :: τ) (.ref 3) = some (.lst l) := frz_lst 3 _ rfl
 have h3 : mapO (Z0f 30 (.gone :: kO :: .dct (pvs2 ds) :: .lst (pvs l) :: τ)) [.ref 1, .ref 3, .pv row] = some [kv ds, .lst l, row] := Z7t h1 (Z7t h2 (Z7t rfl rfl))
 show (match mapO (Z0f 30 (.gone :: kO :: .dct (pvs2 ds) :: .lst (pvs l) :: τ)) [.ref 1, .ref 3, .pv row] with | some ps => some (pvs ps) | none => none) = _
 rw [h3]
section
variable {rs : List Cn} (R : Rows rs)
include R
theorem row_right {c : Cn} (hc : c ∈ rs) {x y : Int} (hb : BowlOk x y) (n : Nat) (O : Z0c) (τ : Hp) : ∃ x' y', BowlOk x' y' /\ Z0d cfg (n+34) (.fn 647) [.ref 0, .ref 1, .ref 3, .pv (rowV c)] O (HL x y (rds rs) (rs.map rowV) τ) = some (.pv (.bool true), HL x' y' (rds rs) (rs.map rowV) τ) := by
 obtain ⟨i, hi⟩ := List.getElem?_of_mem hc
 obtain ⟨b, w, t, rfl, rfl, hw⟩ := R.row i c hi
 obtain ⟨ps, x', y', hp, hb', e0⟩ := rr_0 (ks := kv (rds rs)) (rws := .lst (rs.map rowV)) (O := []) (b := b) (w := w) (t := t) (p := none) (k := none) (ch := none) (f := none) (d := none) (o := none) hw.2.2.1 hb (n+25)
 refine ⟨x', y', hb', ?_⟩
 have e1 := (Z0m e0).trans (Z0m (rr_1 hw hp (Z4m hw) (n+24)))
 have e2 := e1.trans (Z0m (rr_2 R hw hp (Z4m hw) (n+23)))
 have e3 := e2.trans (Z0m (rr_3 (n+33)))
 have e4 := e3.trans (Z0m (rr_4 R hw hp n))
 have e5 := e4.trans (Z0m (rr_5 (n+25) b ps (R.look hw) hp hw.2.2.1))
 have e6 := e5.trans (Z0m (rr_6 (n+25) b ps (hp ▸ hw.2.2.1)))
 have e7 := e6.trans (Z0m (rr_7 (R.look hw) hp hw.2.2.1 (n+25)))
 have e8 := e7.trans (Z0m (rr_8 R hw hp (n+16)))
 have e9 := e8.trans (Z0m (rr_9 R (n+33)))
 have e10 := e9.trans (xs_ret (rr_10 R hw hp (n+16)))
 exact call_lx (w := true) (i := 0) (l := [.pv (.int x), .pv (.int y)]) (rest := [.ref 1, .ref 3, .pv (rowV ((b, w) :: t))]) rfl (view_law (rds rs) (rs.map rowV) (rowV ((b, w) :: t)) τ) (by kernel_rfl) e10 rfl
end
section
variable {α : Type} {f : MV -> α -> Mm (Option MV × α)} {v : MV} {N k : Nat} {a a' : α} {l : List MV} {x : MV} {O : Z0c} {σ σ' : Hp}
theorem loopV_end (ho : Z0n v O σ = some (.lst l, σ)) (hx : l[k]? = none) : Z7c f v (N + 1) k a O σ = some ((none, a), σ) := by
 refine (Z1q ho).trans ((Z1q (show lstM (.lst l) O σ = some (l, σ) from rfl)).trans ?_)
 show (match l[k]? with | none => ret (none, a) | some x => bnd (f x a) fun t => match t with | (none, a') => Z7c f v N (k + 1) a' | (some r, a') => ret (some r, a')) O σ = _
 rw [hx]; rfl
theorem loopV_go (ho : Z0n v O σ = some (.lst l, σ)) (hx : l[k]? = some x) (h : f x a O σ = some ((none, a'), σ')) : Z7c f v (N + 1) k a O σ = Z7c f v N (k + 1) a' O σ' := by
 refine (Z1q ho).trans ((Z1q (show lstM (.lst l) O σ = some (l, σ) from rfl)).trans ?_)
 show (match l[k]? with | none => ret (none, a) | some x => bnd (f x a) fun t => match t with | (none, a') => Z7c f v N (k + 1) a' | (some r, a') => ret (some r, a')) O σ = _
 rw [hx]; exact Z1q h
end
theorem Y0x (l : List PV) (i : Nat) : (pvs l)[i]? = l[i]?.map MV.pv := List.getElem?_map
noncomputable abbrev RQL (y : Option MV) : Vars := [(S ".0", none), (S "row", y), (S "kinds", some (.ref 1)), (S "rows", some (.ref 3)), (S "vat", some (.ref 0))]
noncomputable abbrev RL (scr : PV) (vat kinds rows num : Option MV) : Vars := [(S "script", some (.pv scr)), (S "vat", vat), (S "kinds", kinds), (S "rows", rows), (S "number", num)]
theorem Z9p : ∀ k : Nat, (List.replicate k (PV.bool true)).any (fun y => pvEq y (.bool false)) = false /\ (List.replicate k (PV.bool true)).all (Z0p 60) = true
 | 0 => ⟨rfl, rfl⟩
 | k + 1 => ⟨(Z9p k).1, (Z9p k).2⟩
section
variable {rs : List Cn} (R : Rows rs) {O : Z0c} {τ : Hp}
include R
theorem right_turn {c : Cn} (hc : c ∈ rs) {x y : Int} (hb : BowlOk x y) (n : Nat) : ∃ x' y', BowlOk x' y' /\ ∀ (acc : List PV) (z : Option MV), small (pvs acc) = true -> CF (n+34) 652 0 0 (.pv (rowV c)) (pvs acc, RQL z) O (HL x y (rds rs) (rs.map rowV) τ) = some ((none, (pvs (acc ++ [.bool true]), RQL (some (.pv (rowV c))))), HL x' y' (rds rs) (rs.map rowV) τ) := by
 obtain ⟨x', y', hb', e⟩ := row_right R hc hb n O τ
 refine ⟨x', y', hb', fun acc z hs => ?_⟩
 rw [<- app1]
 exact (Z2g) [0] fun H => H _ _ (e) (hs)
theorem right_loop (n : Nat) : ∀ (k i : Nat) (acc : List PV) (z : Option MV) (x y : Int) (N : Nat), i + k = rs.length -> acc.length + k <= 1000 -> k < N -> BowlOk x y -> ∃ x' y' z', BowlOk x' y' /\ Z7c (CF (n+34) 652 0 0) (.ref 3) N i (pvs acc, RQL z) O (HL x y (rds rs) (rs.map rowV) τ) = some ((none, (pvs (acc ++ List.replicate k (.bool true)), RQL z')), HL x' y' (rds rs) (rs.map rowV) τ)
 | _, _, _, _, _, _, 0, _, _, h, _ => absurd h (Nat.not_lt_zero _)
 | 0, i, acc, z, x, y, N + 1, hi, hl, hN, hb => by
  refine ⟨x, y, z, hb, (loopV_end (l := pvs (rs.map rowV)) rfl ?_).trans ?_⟩
  ·rw [Y0x, List.getElem?_map, List.getElem?_eq_none (by omega)]; rfl
  ·rw [show List.replicate 0 (PV.bool true) = [] from rfl, List.append_nil]
 | k + 1, i, acc, z, x, y, N + 1, hi, hl, hN, hb => by
  have hlt : i < rs.length := by omega
  have hg := List.getElem?_eq_getElem hlt
  obtain ⟨x1, y1, hb1, e⟩ := right_turn (O := O) (τ := τ) R (List.getElem_mem hlt) hb n
  obtain ⟨x2, y2, z2, hb2, e2⟩ := right_loop n k (i + 1) (acc ++ [.bool true]) (some (.pv (rowV rs[i]))) x1 y1 N (by omega) (by rw [List.length_append, List.length_singleton]; omega) (by omega) hb1
  refine ⟨x2, y2, z2, hb2, (loopV_go (l := pvs (rs.map rowV)) rfl ?_ (e acc z (Z5m (by omega)))).trans (e2.trans ?_)⟩
  ·rw [Y0x, List.getElem?_map, hg]; rfl
  ·rw [List.append_assoc]; rfl
theorem law_3 {scr : PV} {num : Option MV} {x y : Int} (hb : BowlOk x y) (n : Nat) : ∃ σ' ρ, SX (n+34) 652 3 (RL scr (some (.ref 0)) (some (.ref 1)) (some (.ref 3)) num) O (HL x y (rds rs) (rs.map rowV) τ) = some ((some (.pv (.bool true)), ρ), σ') := by
 have hl := R.len
 obtain ⟨x', y', z, hb', e⟩ := right_loop (O := O) (τ := τ) R n rs.length 0 [] none x y 1000 (Nat.zero_add _) (by rw [List.length_nil]; omega) (by omega) hb
 have hs : small (pvs ([] ++ List.replicate rs.length (PV.bool true))) = true := Z5m (by rw [List.nil_append, List.length_replicate]; omega)
 have hm : Z5r (.bool false) ([] ++ List.replicate rs.length (PV.bool true)) = some false := mem_pv rfl (Z9p _).2 (Z9p _).1
 refine ⟨HL x' y' (rds rs) (rs.map rowV) τ, RL scr (some (.ref 0)) (some (.ref 1)) (some (.ref 3)) num, ?_⟩
 exact (Z0s) [2, 0, 0, 2] fun H => H _ _ (show Z2k false (.live (.ref 3)) _ _ _ _ = _ from e) (hs) _ _ (ofo (Z3y ([] ++ List.replicate rs.length (PV.bool true))) _ _) _ _ (ofo ((Y1p _ _).trans hm) _ _)
end
theorem live_flat {α Y : Type} {F : MV -> (List MV × Vars) -> Mm (Option MV × (List MV × Vars))} {O : Z0c} {σ : Hp} {v : MV} {g : α -> PV} {f : α -> List PV} {nx : α -> Y} {R : Y -> Vars} {U : List α} (ho : Z0n v O σ = some (.lst (pvs (U.map g)), σ))
  (hf : ∀ u, (f u).length <= 1) (h : ∀ u ∈ U, ∀ (acc : List PV) y, small (pvs acc) = true -> F (.pv (g u)) (pvs acc, R y) O σ = some ((none, (pvs (acc ++ f u), R (nx u))), σ)) : ∀ (k i : Nat) (acc : List PV) (y : Y) (N : Nat), i + k = U.length -> acc.length + k <= 1000 -> k < N ->
   Z7c F v N i (pvs acc, R y) O σ = some ((none, (pvs (acc ++ (U.drop i).flatMap f), R (lastY nx y (U.drop i)))), σ)
 | _, _, _, _, 0, _, _, h => absurd h (Nat.not_lt_zero _)
 | 0, i, acc, y, N + 1, hi, hl, hN => by
  refine (loopV_end ho ?_).trans ?_
  ·rw [Y0x, List.getElem?_map, List.getElem?_eq_none (by omega)]; rfl
  ·rw [List.drop_eq_nil_of_le (by omega), List.flatMap_nil, List.append_nil]; rfl
 | k + 1, i, acc, y, N + 1, hi, hl, hN => by
  have hlt : i < U.length := by omega
  have hg := List.getElem?_eq_getElem hlt
  rw [List.drop_eq_getElem_cons hlt]
  have hu := hf U[i]
  refine (loopV_go ho ?_ (h U[i] (List.getElem_mem hlt) acc y (Z5m (by omega)))).trans ((live_flat ho hf h k (i + 1) (acc ++ f U[i]) (nx U[i]) N (by omega) ?_ (by omega)).trans ?_)
  ·rw [Y0x, List.getElem?_map, hg]; rfl
  ·rw [List.length_append]; omega
  ·rw [List.flatMap_cons, List.append_assoc]; rfl
theorem lift_pvs (l : List PV) : Z4s 0 (.lst (pvs l)) = some (.lst (pvs l)) := by
 have h1 : (pvs l).all Z0k = true := by
  induction l with
  | nil => rfl
  | cons x l ih => exact ih
 have h2 : (pvs l).map (lift 0) = pvs l := by
  show (l.map MV.pv).map (lift 0) = _
  rw [List.map_map]; rfl
 show (match (pvs l).all Z0k with | true => some (MO.lst ((pvs l).map (lift 0))) | false => none) = _
 rw [h1, h2]
noncomputable def abOf : Cn -> Bool
 | [] => false
 | x :: _ => x.1.ab
noncomputable abbrev HG (ds : List (Str × PV)) (l : List PV) (τ : Hp) : Hp := .gone :: kO :: .dct (pvs2 ds) :: .lst (pvs l) :: τ
theorem ob_rows (ds : List (Str × PV)) (l : List PV) (τ : Hp) (O : Z0c) (σ : Hp) : Z0n (.oref 0 3) (HG ds l τ :: O) σ = some (.lst (pvs l), σ) := by
 show (match Z4s 0 (.lst (pvs l)) with | some o' => some (o', σ) | none => none) = _
 rw [lift_pvs]
noncomputable abbrev RD (nm : Str) (row lower above at_ : Option MV) : Vars := [(S "vat", some (.ref 0)), (S "rows", some (.oref 0 3)), (S "name", some (.pv (.str nm))), (S "row", row), (S "lower", lower), (S "above", above), (S "at", at_)]
section
variable {rs : List Cn} (R : Rows rs) {O : Z0c} {ds : List (Str × PV)} {τ : Hp} {nm : Str} {rw_ lo up at_ : Option MV}
include R
theorem ab_turn (n : Nat) (O : Z0c) (σ : Hp) (c : Cn) (h : c ∈ rs) (acc : List PV) (y : Option MV) (hs : small (pvs acc) = true) : CF n 606 0 0 (.pv (rowV c)) (pvs acc, [(S ".0", none), (S "row", y)]) O σ = some ((none, (pvs (acc ++ match abOf c with | true => [rowV c] | false => []), [(S ".0", none), (S "row", some (.pv (rowV c)))])), σ) := by
 obtain ⟨i, hi⟩ := List.getElem?_of_mem h
 obtain ⟨⟨k, m, bd, ab⟩, v, u, rfl, rfl, hw⟩ := R.row i c hi
 cases ab with
 | true =>
  show _ = some ((none, (pvs (acc ++ [rowV ((⟨k, m, bd, true⟩, v) :: u)]), _)), σ)
  rw [<- app1]
  exact (Z2g) [6] fun H => H (hs)
 | false =>
  show _ = some ((none, (pvs (acc ++ []), _)), σ)
  rw [List.append_nil]
  exact (Z2g) [] fun H => H
theorem dr_0 (n : Nat) (σ : Hp) : SX n 606 0 (RD nm rw_ lo up at_) (HG ds (rs.map rowV) τ :: O) σ = some ((none, RD nm rw_ (some (.pv (.lst ((rs.filter abOf).map rowV)))) up at_), σ) := by
 have hl := R.len
 have e : Z7c (CF n 606 0 0) (.oref 0 3) 1000 0 (pvs [], [(S ".0", none), (S "row", (none : Option MV))]) (HG ds (rs.map rowV) τ :: O) σ = _ := live_flat (R := fun y => [(S ".0", none), (S "row", y)]) (ob_rows ds (rs.map rowV) τ O σ) (fun c => one_le _ _) (fun c hc acc y hs => ab_turn R n _ σ c hc acc y hs) rs.length 0 [] none 1000 (Nat.zero_add _) (by rw [List.length_nil]; omega) (by omega)
 rw [List.drop_zero, Z4x, List.nil_append] at e
 have hs : small (pvs ((rs.filter abOf).map rowV)) = true := Z5b (Nat.le_trans (List.length_filter_le _ _) (by omega)) _
 have hsrc : srcM (.oref 0 3) (HG ds (rs.map rowV) τ :: O) σ = some (.live (.oref 0 3), σ) := (Z1q (ob_rows ds (rs.map rowV) τ O σ)).trans rfl
 exact (Z0s) [0, 0, 0, 0] fun H => H _ _ (hsrc) _ _ (show Z2k false (.live (.oref 0 3)) _ _ _ _ = _ from e) (hs) _ _ (ofo (Z3y ((rs.filter abOf).map rowV)) _ _)
omit R
theorem len_o (l : List PV) : lenO (.lst (pvs l)) = some l.length := congrArg some (Z5p l)
theorem dr_1 {L : List Cn} (hL : L.length <= 7) {x y : Int} (hb : BowlOk x y) (n : Nat) (O : Z0c) : ∃ (t : Cn) (x' y' : Int), BowlOk x' y' /\ (t = [] \/ t ∈ L) /\ SX (n+8) 606 1 (RD nm rw_ (some (.pv (.lst (L.map rowV)))) up at_) O [bw x y] = some ((none, RD nm rw_ (some (.pv (.lst (L.map rowV)))) (some (.pv (rowV t))) at_), [bw x' y']) := by
 cases L with
 | nil =>
  refine ⟨[], x, y, hb, .inl rfl, ?_⟩
  exact (Z0s) [] fun H => H
 | cons c L =>
  obtain ⟨d, x1, y1, h0, h1, hb1, e⟩ := scoop (σ := [bw x y]) (i := 0) rfl hb 4 (by decide) (by decide)
  cases q : decide (d = 0) with
  | true =>
   refine ⟨[], x1, y1, hb1, .inl rfl, ?_⟩
   exact (Z0s) [14] fun H => H _ _ (e _ _) (show pvEq (.int d) (.int 0) = true from q)
  | false =>
   have hn : (((c :: L).length : Nat) : Int) <= 100 := by omega
   obtain ⟨d2, x2, y2, g0, g1, hb2, e2⟩ := scoop (σ := [bw x1 y1]) (i := 0) rfl hb1 (((c :: L).length : Nat) : Int) (by rw [List.length_cons]; omega) hn
   have hlt : d2.toNat < (c :: L).length := by omega
   refine ⟨(c :: L)[d2.toNat], x2, y2, hb2, .inr (List.getElem_mem hlt), ?_⟩
   have hidx : idxOf d2 (pvs ((c :: L).map rowV)).length = some d2.toNat := by
    unfold idxOf
    rw [decide_eq_true g0]
   have hget : (pvs ((c :: L).map rowV))[d2.toNat]? = some (.pv (rowV (c :: L)[d2.toNat])) := by
    rw [Y0x, List.getElem?_map, List.getElem?_eq_getElem hlt]; rfl
   have hs : small (pvs ((c :: L).map rowV)) = true := Z5b (by omega) _
   have e3 : Z0d cfg (n+8) (.fn 575) [.ref 0, .pv (.int ((((c :: L).map rowV).length : Nat) : Int))] O [bw x1 y1] = some (.pv (.int d2), [bw x2 y2]) := by
    rw [List.length_map]; exact e2 (n+6) O
   have hble : Nat.ble ((c :: L).map rowV).length lim = true := Nat.ble_eq_true_of_le (by rw [List.length_map]; exact Nat.le_trans hL (by decide))
   exact (Z0s) [15, 2, 0, 2, 0, 0] fun H => H _ _ (e _ _) (show pvEq (.int d) (.int 0) = false from q) _ _ (ofo (len_o ((c :: L).map rowV)) _ _) (hble) _ _ (e3) _ _ (ofo hidx _ _) (hs) _ _ (ofo hget _ _)
end
noncomputable abbrev d4 (nm : Str) (m : Nat) (bd ab : Bool) : List (Str × MV) := [(S "name", .pv (.str nm)), (S "many", .pv (.int (m : Nat))), (S "bounded", .pv (.bool bd)), (S "abstract", .pv (.bool ab))]
noncomputable abbrev d6 (nm : Str) (m : Nat) (bd ab : Bool) (t : Cn) : List (Str × MV) := d4 nm m bd ab ++ [(S "above", .pv (rowV t)), (S "ways", .ref 2)]
noncomputable abbrev wayL (w : List Way) : List MV := pvs (w.map wayI)
theorem way_of (d : Int) (m : Nat) (hm : m <= 2) (h0 : 0 <= d) (h1 : d < (m : Int) + 1) : ∃ x : Way, x.ok m = true /\ x.z = d - 1 := by
 have : d = 0 \/ d = 1 \/ d = 2 := by omega
 rcases this with rfl | rfl | rfl
 ·exact ⟨.i, rfl, rfl⟩
 ·exact ⟨.a, Nat.ble_eq_true_of_le (show 0 + 1 <= m by omega), rfl⟩
 ·exact ⟨.b, Nat.ble_eq_true_of_le (show 1 + 1 <= m by omega), rfl⟩
section
variable {nm : Str} {rw_ lo up at_ : Option MV} {O : Z0c} {x y : Int}
theorem dr_2 (hb : BowlOk x y) (n : Nat) (O : Z0c) : ∃ (m : Nat) (bd ab : Bool) (x' y' : Int), m <= 2 /\ BowlOk x' y' /\ SX (n+8) 606 2 (RD nm rw_ lo up at_) O [bw x y] = some ((none, RD nm (some (.ref 1)) lo up at_), [bw x' y', .dct (d4 nm m bd ab)]) := by
 obtain ⟨d1, x1, y1, a0, a1, hb1, e1⟩ := scoop (σ := [bw x y]) (i := 0) rfl hb 3 (by decide) (by decide)
 obtain ⟨d2, x2, y2, b0, b1, hb2, e2⟩ := scoop (σ := [bw x1 y1]) (i := 0) rfl hb1 3 (by decide) (by decide)
 obtain ⟨d3, x3, y3, c0, c1, hb3, e3⟩ := scoop (σ := [bw x2 y2]) (i := 0) rfl hb2 4 (by decide) (by decide)
 obtain ⟨m, rfl⟩ := Int.eq_ofNat_of_zero_le a0
 refine ⟨m, decide (d2 = 0), decide (0 < d3), x3, y3, by omega, hb3, ?_⟩
 exact (Z0s) [] fun H => H _ _ (e1 _ _) _ _ (e2 _ _) _ _ (e3 _ _)
theorem dr_3 (m : Nat) (bd ab : Bool) (t : Cn) (n : Nat) : SX n 606 3 (RD nm (some (.ref 1)) lo (some (.pv (rowV t))) at_) O [bw x y, .dct (d4 nm m bd ab)] = some ((none, RD nm (some (.ref 1)) lo (some (.pv (rowV t))) at_), [bw x y, .dct (d6 nm m bd ab t), .lst []]) := by
 exact (Z0s) [] fun H => H
theorem dr_turn {m : Nat} (hm : m <= 2) (bd ab : Bool) (t : Cn) (W : List Way) (hW : W.length <= 1000) (hb : BowlOk x y) (n : Nat) (O : Z0c) : ∃ (w : Way) (x' y' : Int), w.ok m = true /\ BowlOk x' y' /\ ∀ (u : Int) (z : Option MV), LF (n+8) 606 0 (.pv (.int u)) (RD nm (some (.ref 1)) lo up z) O [bw x y, .dct (d6 nm m bd ab t), .lst (wayL W)] = some ((none, RD nm (some (.ref 1)) lo up (some (.pv (.int u)))), [bw x' y', .dct (d6 nm m bd ab t), .lst (wayL (W ++ [w]))]) := by
 obtain ⟨d, x1, y1, a0, a1, hb1, e⟩ := scoop (σ := [bw x y, .dct (d6 nm m bd ab t), .lst (wayL W)]) (i := 0) rfl hb ((m : Int) + 1) (by omega) (by omega)
 obtain ⟨w, hw, hz⟩ := way_of d m hm a0 a1
 refine ⟨w, x1, y1, hw, hb1, fun u z => ?_⟩
 have hs : small (wayL W) = true := Z5b hW _
 have ew : wayL (W ++ [w]) = wayL W ++ [.pv (.int (d - 1))] := by
  show pvs ((W ++ [w]).map wayI) = _
  rw [List.map_append, Z4p, show [w].map wayI = [PV.int (d - 1)] from congrArg (fun z => [PV.int z]) hz]; rfl
 rw [ew]
 exact (Z5g) [4, 8] fun H => H _ _ ((x_pre (σ := [bw x y, MO.dct (d6 nm m bd ab t), MO.lst (wayL W)]) (w := 2) rfl hs _ (S "append")).1) _ _ (e _ _) _ _ (x_app (σ := [bw x1 y1, MO.dct (d6 nm m bd ab t), MO.lst (wayL W)]) (w := 2) rfl hs (.pv (.int (d - 1))) _)
theorem dr_loop {m : Nat} (hm : m <= 2) (bd ab : Bool) (t : Cn) (n : Nat) (O : Z0c) : ∀ (k : Nat) (i : Int) (W : List Way) (z : Option MV) (x y : Int), W.length + k <= 1000 -> (∀ w ∈ W, w.ok m = true) -> BowlOk x y -> ∃ (W' : List Way) (z' : Option MV) (x' y' : Int), W'.length = W.length + k /\ (∀ w ∈ W', w.ok m = true) /\ BowlOk x' y' /\ Z6j (LF (n+8) 606 0) (Z3m k i) (RD nm (some (.ref 1)) lo up z) O [bw x y, .dct (d6 nm m bd ab t), .lst (wayL W)] = some ((none, RD nm (some (.ref 1)) lo up z'), [bw x' y', .dct (d6 nm m bd ab t), .lst (wayL W')])
 | 0, i, W, z, x, y, hl, hW, hb => ⟨W, z, x, y, rfl, hW, hb, rfl⟩
 | k + 1, i, W, z, x, y, hl, hW, hb => by
  obtain ⟨w, x1, y1, hw, hb1, e⟩ := dr_turn (nm := nm) (lo := lo) (up := up) hm bd ab t W (by omega) hb n O
  obtain ⟨W', z', x', y', h1, h2, h3, h4⟩ := dr_loop hm bd ab t n O k (i + 1) (W ++ [w]) (some (.pv (.int i))) x1 y1 (by rw [List.length_append, List.length_singleton]; omega) (fun v hv => (List.mem_append.mp hv).elim (hW v) fun hv => List.mem_singleton.mp hv ▸ hw) hb1
  refine ⟨W', z', x', y', ?_, h2, h3, (Z1k (r := Z3m k (i + 1)) (e i z)).trans h4⟩
  rw [h1, List.length_append, List.length_singleton]; omega
theorem dr_4 {m : Nat} (hm : m <= 2) (bd ab : Bool) (t : Cn) (ht : Z3a t <= 2) (hb : BowlOk x y) (n : Nat) (O : Z0c) : ∃ (W : List Way) (z : Option MV) (x' y' : Int), W.length = Z3a t /\ (∀ w ∈ W, w.ok m = true) /\ BowlOk x' y' /\ SX (n+8) 606 4 (RD nm (some (.ref 1)) lo (some (.pv (rowV t))) at_) O [bw x y, .dct (d6 nm m bd ab t), .lst []] = some ((none, RD nm (some (.ref 1)) lo (some (.pv (rowV t))) z), [bw x' y', .dct (d6 nm m bd ab t), .lst (wayL W)]) := by
 obtain ⟨W, z, x', y', h1, h2, h3, h4⟩ := dr_loop (nm := nm) (lo := lo) (up := some (.pv (rowV t))) hm bd ab t n O (Z3a t) 0 [] at_ x y (by rw [List.length_nil]; omega) (fun _ h => nomatch h) hb
 refine ⟨W, z, x', y', by rw [h1, List.length_nil, Nat.zero_add], h2, h3, ?_⟩
 cases t with
 | nil =>
  exact (Z0s) [8] fun H => H _ _ (show Z2k false (.items []) (LF (n + 8) 606 0) _ _ _ = _ from h4)
 | cons c t =>
  obtain ⟨b, v⟩ := c
  exact (Z0s) [8, 0, 0] fun H => H _ _ (range_at b.many (Nat.le_trans ht (by decide)) _ _) _ _ (rng_at b.many (Nat.le_trans ht (by decide)) _) _ _ (show Z2k false (.items (Z3m b.many 0)) (LF (n + 8) 606 0) _ _ _ = _ from h4)
theorem dr_5 (σ : Hp) (n : Nat) : SX n 606 5 (RD nm (some (.ref 1)) lo up at_) O σ = some ((some (.ref 1), RD nm (some (.ref 1)) lo up at_), σ) := by
 exact (Z0s) [] fun H => H
end
theorem frz_dct2 (i : Nat) (σ : Hp) {es : List (Str × MV)} {ps : List (Str × PV)} (h : σ[i]? = some (.dct es)) (hm : mapO2 (Z0f 29 σ) es = some ps) : Z0f 30 σ (.ref i) = some (.dct ps) := by
 unfold Z0f
 dsimp only
 rw [h]
 dsimp only
 rw [hm]
theorem frz_lst2 (i : Nat) (σ : Hp) {l : List PV} (h : σ[i]? = some (.lst (pvs l))) : Z0f 29 σ (.ref i) = some (.lst l) := by
 unfold Z0f
 dsimp only
 rw [h]
 dsimp only
 rw [mapO_pvs fun _ => rfl]
theorem drawn_end (x y : Int) (nm : Str) (m : Nat) (bd ab : Bool) (t : Cn) (W : List Way) (σ : Hp) : Z3k false σ 0 (.ref 1) [bw x y, .dct (d6 nm m bd ab t), .lst (wayL W)] = some (.pv (.dct [(S "name", .str nm), (S "many", .int m), (S "bounded", .bool bd), (S "abstract", .bool ab), (S "above", rowV t), (S "ways", .lst (W.map wayI))]), σ.set 0 (bw x y)) := by
 have h : Z0f 30 [.gone, .dct (d6 nm m bd ab t), .lst (wayL W)] (.ref 1) = some (.dct [(S "name", .str nm), (S "many", .int m), (S "bounded", .bool bd), (S "abstract", .bool ab), (S "above", rowV t), (S "ways", .lst (W.map wayI))]) :=
  frz_dct2 1 _ rfl (Z2f rfl (Z2f rfl (Z2f rfl (Z2f rfl (Z2f rfl (Z2f (frz_lst2 2 _ rfl) rfl))))))
 show (match Z0f 30 [.gone, .dct (d6 nm m bd ab t), .lst (wayL W)] (.ref 1) with | some p => (match !false || atomP p with | true => some (MV.pv p, σ.set 0 (bw x y)) | false => none) | none => none) = _
 rw [h]; rfl
theorem drawn_ok {rs : List Cn} (R : Rows rs) (k : Nat) {x y : Int} (hb : BowlOk x y) (n : Nat) (O : Z0c) (ds : List (Str × PV)) (τ : Hp) : ∃ (b : Rb) (W : List Way) (t : Cn) (x' y' : Int), b.k = k /\ b.many <= 2 /\ (t = [] \/ (t ∈ rs /\ abOf t = true)) /\ W.length = Z3a t /\ (∀ w ∈ W, w.ok b.many = true) /\ BowlOk x' y' /\
  Z0d cfg (n+9) (.fn 606) [.ref 0, .ref 3, .pv (.str (ltr k))] O (HL x y ds (rs.map rowV) τ) = some (.pv (rowV ((b, W) :: t)), HL x' y' ds (rs.map rowV) τ) := by
 have hl := R.len
 have e0 := Z0m (dr_0 (O := O) (ds := ds) (τ := τ) (nm := ltr k) (rw_ := none) (lo := none) (up := none) (at_ := none) R (n+8) [bw x y])
 obtain ⟨t, x1, y1, hb1, ht, e1⟩ := dr_1 (nm := ltr k) (rw_ := none) (up := none) (at_ := none) (L := rs.filter abOf) (Nat.le_trans (List.length_filter_le _ _) hl) hb n (HG ds (rs.map rowV) τ :: O)
 obtain ⟨m, bd, ab, x2, y2, hm, hb2, e2⟩ := dr_2 (nm := ltr k) (rw_ := none) (lo := some (.pv (.lst ((rs.filter abOf).map rowV)))) (up := some (.pv (rowV t))) (at_ := none) hb1 n (HG ds (rs.map rowV) τ :: O)
 have htm : Z3a t <= 2 := by
  rcases ht with rfl | ht
  ·exact Nat.zero_le _
  ·obtain ⟨i, hi⟩ := List.getElem?_of_mem (List.mem_filter.mp ht).1
   obtain ⟨d, v, u, rfl, rfl, hw⟩ := R.row i t hi
   exact hw.2.2.1
 obtain ⟨W, z, x3, y3, hW, hok, hb3, e4⟩ := dr_4 (nm := ltr k) (lo := some (.pv (.lst ((rs.filter abOf).map rowV)))) (at_ := none) hm bd ab t htm hb2 n (HG ds (rs.map rowV) τ :: O)
 refine ⟨⟨k, m, bd, ab⟩, W, t, x3, y3, rfl, hm, ht.imp id fun h => List.mem_filter.mp h, hW, hok, hb3, ?_⟩
 have h1 := e0.trans ((Z0m e1).trans ((Z0m e2).trans (Z0m (dr_3 m bd ab t (n+8)))))
 have h2 := h1.trans ((Z0m e4).trans (xs_ret (dr_5 _ (n+8))))
 exact call_lx (w := false) (i := 0) (l := [.pv (.int x), .pv (.int y)]) (rest := [.ref 3, .pv (.str (ltr k))]) rfl rfl (by kernel_rfl) h2 (drawn_end x3 y3 (ltr k) m bd ab t W _)
section
variable {O : Z0c} {σ : Hp} {k : Nat} {ab : Bool} {w : List Way} {t : Cn}
theorem Z8h (n : Nat) : ∀ (b : Rb), b.many <= 2 -> Z0d cfg (n+6) (.fn 601) [.pv (rowV ((b, w) :: t))] O σ = some (.pv (.lst (parsV b)), σ)
 | ⟨k, 0, true, ab⟩, _ => by kernel_rfl
 | ⟨k, 1, true, ab⟩, _ => by kernel_rfl
 | ⟨k, 2, true, ab⟩, _ => by kernel_rfl
 | ⟨k, 0, false, ab⟩, _ => by kernel_rfl
 | ⟨k, 1, false, ab⟩, _ => by kernel_rfl
 | ⟨k, 2, false, ab⟩, _ => by kernel_rfl
 | ⟨k, m + 3, bd, ab⟩, h => absurd h (Nat.not_le_of_lt (Nat.le_add_left 3 m))
noncomputable abbrev RQ6 (row : PV) (y : Option MV) : Vars := [(S ".0", none), (S "way", y), (S "row", some (.pv row))]
theorem sup_turn (b : Rb) (n : Nat) (acc : List PV) (y : Option MV) (hs : small (pvs acc) = true) : ∀ (x : Way), CF (n+4) 611 0 0 (.pv (wayI x)) (pvs acc, RQ6 (rowV ((b, w) :: t)) y) O σ = some ((none, (pvs (acc ++ [wv b.k x]), RQ6 (rowV ((b, w) :: t)) (some (.pv (wayI x))))), σ)
 | .i => by
  rw [<- app1]
  exact (Z2g) [4] fun H => H _ _ (Z2d _) (hs)
 | .a => by
  rw [<- app1]
  exact (Z2g) [16] fun H => H (hs)
 | .b => by
  rw [<- app1]
  exact (Z2g) [16] fun H => H (hs)
theorem sup_at (b : Rb) (hw : w.length <= 1000) (h0 : t = [] -> w = []) (n : Nat) : Z0d cfg (n+5) (.fn 611) [.pv (rowV ((b, w) :: t))] O σ = some (.pv (supV b.k w t), σ) := by
 cases t with
 | nil =>
  exact (Z0x rfl (by kernel_rfl)) [] fun H => H _ _ (Z7e _) _ rfl
 | cons c t =>
  obtain ⟨d, v⟩ := c
  have e : Z2k false (.items (pvs (w.map wayI))) (CF (n+4) 611 0 0) ([], RQ6 (rowV ((b, w) :: (d, v) :: t)) none) [] [] = _ := loop_map (f := wv b.k) hw fun x _ acc y hs => sup_turn (t := (d, v) :: t) b n acc y hs x
  have hs : small (pvs (w.map (wv b.k))) = true := Z5b hw _
  exact (Z0x rfl (by kernel_rfl)) [14, 0, 0, 10] fun H => H _ _ (show Z2k false (.items (pvs (w.map fun x => PV.int x.z))) _ _ _ _ = _ from e) (hs) _ _ (ofo (Z3y (w.map (wv b.k))) _ _) _ _ (Z7q hs _ _) _ rfl
end
section
variable {O : Z0c} {σ : Hp} {k : Nat} {bd : Bool} {w : List Way} {t : Cn}
theorem mk_00 (a s ab mu : PV) (n : Nat) : Z0d cfg (n+3) (.cls 441) [.pv a, .pv (.lst []), .pv s, .pv ab, .pv mu, .pv (.lst [])] O σ = some (.pv (dclV a (.lst []) s ab mu (.lst [])), σ) := by kernel_rfl
theorem mk_10 (a s ab mu p : PV) (n : Nat) : Z0d cfg (n+3) (.cls 441) [.pv a, .pv (.lst [p]), .pv s, .pv ab, .pv mu, .pv (.lst [])] O σ = some (.pv (dclV a (.lst [p]) s ab mu (.lst [])), σ) := by kernel_rfl
theorem mk_20 (a s ab mu p q : PV) (n : Nat) : Z0d cfg (n+3) (.cls 441) [.pv a, .pv (.lst [p, q]), .pv s, .pv ab, .pv mu, .pv (.lst [])] O σ = some (.pv (dclV a (.lst [p, q]) s ab mu (.lst [])), σ) := by kernel_rfl
theorem mk_01 (a s ab mu f : PV) (n : Nat) : Z0d cfg (n+3) (.cls 441) [.pv a, .pv (.lst []), .pv s, .pv ab, .pv mu, .pv (.lst [f])] O σ = some (.pv (dclV a (.lst []) s ab mu (.lst [f])), σ) := by kernel_rfl
theorem mk_12 (a s ab mu p f g : PV) (n : Nat) : Z0d cfg (n+3) (.cls 441) [.pv a, .pv (.lst [p]), .pv s, .pv ab, .pv mu, .pv (.lst [f, g])] O σ = some (.pv (dclV a (.lst [p]) s ab mu (.lst [f, g])), σ) := by kernel_rfl
theorem mk_22 (a s ab mu p q f g : PV) (n : Nat) : Z0d cfg (n+3) (.cls 441) [.pv a, .pv (.lst [p, q]), .pv s, .pv ab, .pv mu, .pv (.lst [f, g])] O σ = some (.pv (dclV a (.lst [p, q]) s ab mu (.lst [f, g])), σ) := by kernel_rfl
theorem decl_mk (n : Nat) : ∀ (b : Rb), b.many <= 2 -> w.length <= 1000 -> (t = [] -> w = []) -> Z0d cfg (n+7) (.fn 618) [.pv (rowV ((b, w) :: t))] O σ = some (.pv (Z0v b w t), σ)
 | ⟨k, 0, bd, true⟩, hm, hw, h0 => by
  exact (Z0x rfl (by kernel_rfl)) [] fun H => H _ _ (Z2d _) _ _ (Z8h _ ⟨k, 0, bd, true⟩ hm) _ _ (sup_at ⟨k, 0, bd, true⟩ hw h0 _) _ _ (mk_00 _ _ _ _ _) _ rfl
 | ⟨k, 0, bd, false⟩, hm, hw, h0 => by
  exact (Z0x rfl (by kernel_rfl)) [] fun H => H _ _ (Z2d _) _ _ (Z8h _ ⟨k, 0, bd, false⟩ hm) _ _ (sup_at ⟨k, 0, bd, false⟩ hw h0 _) _ _ (mk_01 _ _ _ _ _ _) _ rfl
 | ⟨k, 1, bd, true⟩, hm, hw, h0 => by
  exact (Z0x rfl (by kernel_rfl)) [] fun H => H _ _ (Z2d _) _ _ (Z8h _ ⟨k, 1, bd, true⟩ hm) _ _ (sup_at ⟨k, 1, bd, true⟩ hw h0 _) _ _ (mk_10 _ _ _ _ _ _) _ rfl
 | ⟨k, 1, bd, false⟩, hm, hw, h0 => by
  exact (Z0x rfl (by kernel_rfl)) [] fun H => H _ _ (Z2d _) _ _ (Z8h _ ⟨k, 1, bd, false⟩ hm) _ _ (sup_at ⟨k, 1, bd, false⟩ hw h0 _) _ _ (mk_12 _ _ _ _ _ _ _ _) _ rfl
 | ⟨k, 2, bd, true⟩, hm, hw, h0 => by
  exact (Z0x rfl (by kernel_rfl)) [] fun H => H _ _ (Z2d _) _ _ (Z8h _ ⟨k, 2, bd, true⟩ hm) _ _ (sup_at ⟨k, 2, bd, true⟩ hw h0 _) _ _ (mk_20 _ _ _ _ _ _ _) _ rfl
 | ⟨k, 2, bd, false⟩, hm, hw, h0 => by
  exact (Z0x rfl (by kernel_rfl)) [] fun H => H _ _ (Z2d _) _ _ (Z8h _ ⟨k, 2, bd, false⟩ hm) _ _ (sup_at ⟨k, 2, bd, false⟩ hw h0 _) _ _ (mk_22 _ _ _ _ _ _ _ _ _) _ rfl
 | ⟨k, m + 3, bd, ab⟩, h, _, _ => absurd h (Nat.not_le_of_lt (Nat.le_add_left 3 m))
end
noncomputable abbrev vsl (k : Nat) (l : List Nat) : List PV := l.map fun i => PV.str (vS i k)
noncomputable def ownL (m : Nat) : List Nat := match m with
 | 0 => []
 | 1 => [0]
 | _ => [0, 1]
section
variable {O : Z0c} {σ : Hp}
theorem mem_same (k i : Nat) : Z5r (.str (vS i k)) [.str (vS i k)] = some true := mem_pv rfl rfl (by
 show (Z0g (vS i k) (vS i k) || false) = true
 rw [Z1f]; rfl)
theorem free_two (Y : Str) (k i : Nat) (n : Nat) : Z0d cfg (n+6) (.fn 98) [.pv (nmL Y [vrS (vS i k), vrS (vS i k)])] O σ = some (.pv (.lst [.str (vS i k)]), σ) := by
 exact (Z0x rfl (by kernel_rfl)) [7, 168] fun H => H _ _ (parts_nm Y [vrS (vS i k), vrS (vS i k)] rfl _) _ _ (ofo (mem_same k i) _ _) _ rfl
theorem free_sup (Y : Str) (k : Nat) (n : Nat) : ∀ w : List Way, w.length <= 2 -> ∃ l : List Nat, Z0d cfg (n+6) (.fn 98) [.pv (nmL Y (w.map (wv k)))] O σ = some (.pv (.lst (vsl k l)), σ) /\ l.length <= 2 /\ ∀ i ∈ l, ∃ x ∈ w, x.z = (i : Nat)
 | [], _ => ⟨[], by kernel_rfl, Nat.zero_le _, fun _ h => nomatch h⟩
 | [.i], _ => ⟨[], by kernel_rfl, Nat.zero_le _, fun _ h => nomatch h⟩
 | [.a], _ => ⟨[0], by kernel_rfl, Nat.le_succ 1, fun i h => by obtain rfl := List.mem_singleton.mp h; exact ⟨.a, .head _, rfl⟩⟩
 | [.b], _ => ⟨[1], by kernel_rfl, Nat.le_succ 1, fun i h => by obtain rfl := List.mem_singleton.mp h; exact ⟨.b, .head _, rfl⟩⟩
 | [.i, .i], _ => ⟨[], by kernel_rfl, Nat.zero_le _, fun _ h => nomatch h⟩
 | [.i, .a], _ => ⟨[0], by kernel_rfl, Nat.le_succ 1, fun i h => by obtain rfl := List.mem_singleton.mp h; exact ⟨.a, .tail _ (.head _), rfl⟩⟩
 | [.i, .b], _ => ⟨[1], by kernel_rfl, Nat.le_succ 1, fun i h => by obtain rfl := List.mem_singleton.mp h; exact ⟨.b, .tail _ (.head _), rfl⟩⟩
 | [.a, .i], _ => ⟨[0], by kernel_rfl, Nat.le_succ 1, fun i h => by obtain rfl := List.mem_singleton.mp h; exact ⟨.a, .head _, rfl⟩⟩
 | [.b, .i], _ => ⟨[1], by kernel_rfl, Nat.le_succ 1, fun i h => by obtain rfl := List.mem_singleton.mp h; exact ⟨.b, .head _, rfl⟩⟩
 | [.a, .b], _ => ⟨[0, 1], by kernel_rfl, Nat.le_refl 2, fun i h => by
  rcases List.mem_cons.mp h with rfl | h
  ·exact ⟨.a, .head _, rfl⟩
  ·obtain rfl := List.mem_singleton.mp h; exact ⟨.b, .tail _ (.head _), rfl⟩⟩
 | [.b, .a], _ => ⟨[1, 0], by kernel_rfl, Nat.le_refl 2, fun i h => by
  rcases List.mem_cons.mp h with rfl | h
  ·exact ⟨.b, .head _, rfl⟩
  ·obtain rfl := List.mem_singleton.mp h; exact ⟨.a, .tail _ (.head _), rfl⟩⟩
 | [.a, .a], _ => ⟨[0], free_two Y k 0 n, Nat.le_succ 1, fun i h => by obtain rfl := List.mem_singleton.mp h; exact ⟨.a, .head _, rfl⟩⟩
 | [.b, .b], _ => ⟨[1], free_two Y k 1 n, Nat.le_succ 1, fun i h => by obtain rfl := List.mem_singleton.mp h; exact ⟨.b, .head _, rfl⟩⟩
 | _ :: _ :: _ :: _, h => Z1y rfl h
end
noncomputable abbrev HK (v : MO) (ds : List (Str × PV)) (τ : Hp) : Hp := v :: kO :: .dct (pvs2 ds) :: τ
noncomputable abbrev RX (D : PV) (ab own nm wild kd : Option MV) : Vars := [(S "self", some (.ref 1)), (S "decl", some (.pv D)), (S "above", ab), (S "own", own), (S "name", nm), (S "wild", wild), (S "kind", kd)]
theorem Z9b {es : List (Str × PV)} {x : Str} (h : look (pvs2 es) x = none) : inL (.str x) (.dct (pvs2 es)) = some false := by
 show some (look (pvs2 es) x).isSome = _
 rw [h]; rfl
theorem ltr_long {s : Str} (h : Nat.blt 1 s.cps.toList.length = true) (k : Nat) : Z0g (ltr k) s = false := by
 cases q : Z0g (ltr k) s with
 | false => rfl
 | true =>
  have e := long_ne h (k + 75)
  rw [<- strEq_true.mp q, Z1f] at e
  exact nomatch e
theorem mem_own (k : Nat) : ∀ (m i : Nat), m <= 2 -> i < m -> Z5r (.str (vS i k)) (vsl k (ownL m)) = some true
 | 0, _, _, h => absurd h (Nat.not_lt_zero _)
 | 1, 0, _, _ => mem_same k 0
 | 1, i + 1, _, h => absurd h (by omega)
 | 2, 0, _, _ => mem_pv rfl rfl (by
  show (Z0g (vS 0 k) (vS 0 k) || (Z0g (vS 1 k) (vS 0 k) || false)) = true
  rw [Z1f]; rfl)
 | 2, 1, _, _ => mem_pv rfl rfl (by
  show (Z0g (vS 0 k) (vS 1 k) || (Z0g (vS 1 k) (vS 1 k) || false)) = true
  rw [Z1f, Bool.true_or, Bool.or_true])
 | 2, i + 2, _, h => absurd h (by omega)
 | m + 3, _, h, _ => absurd h (by omega)
theorem way_lt {x : Way} {i m : Nat} (h : x.z = (i : Nat)) (ho : x.ok m = true) : i < m := by
 cases x with
 | i => exact absurd h (by show (-1 : Int) ≠ _; omega)
 | a =>
  have h : (0 : Int) = i := h
  have ho : Nat.ble 1 m = true := ho
  have := Nat.le_of_ble_eq_true ho
  omega
 | b =>
  have h : (1 : Int) = i := h
  have ho : Nat.ble 2 m = true := ho
  have := Nat.le_of_ble_eq_true ho
  omega
section
variable {O : Z0c} {v0 : MO} {τ : Hp} {ds : List (Str × PV)} {b : Rb} {w : List Way} {t : Cn} {ab own nm wild kd : Option MV}
theorem sd_0 (h : look (pvs2 ds) (ltr b.k) = none) (n : Nat) : SX n 464 0 (RX (Z0v b w t) ab own nm wild kd) O (HK v0 ds τ) = some ((none, RX (Z0v b w t) ab own nm wild kd), HK v0 ds τ) := by
 exact (Z0s) [10] fun H => H _ _ (ofo (Z9b h) _ _)
theorem sd_1 (n : Nat) (σ : Hp) : SX n 464 1 (RX (Z0v b w t) ab own nm wild kd) O (HK v0 ds τ) = some ((none, RX (Z0v b w t) (some (.pv (supV b.k w t))) own nm wild kd), HK v0 ds τ) := by
 exact (Z0s) [] fun H => H
noncomputable abbrev anyD : PV := (r0 ("Any", true, false, [], none, [])).2
theorem sd_2a {D : PV} (h : look (pvs2 ds) (S "Any") = some (.pv anyD)) (n : Nat) : SX n 464 2 (RX D (some (.pv anyV)) own nm wild kd) O (HK v0 ds τ) = some ((none, RX D (some (.pv anyV)) own nm wild kd), HK v0 ds τ) := by
 exact (Z0s) [22, 14] fun H => H _ _ (ofo (Z5w h) _ _) _ _ (ofo (Z1j h) _ _)
theorem sd_3a {D : PV} (h : look (pvs2 ds) (S "Any") = some (.pv anyD)) (n : Nat) : SX n 464 3 (RX D (some (.pv anyV)) own nm wild kd) O (HK v0 ds τ) = some ((none, RX D (some (.pv anyV)) own nm wild kd), HK v0 ds τ) := by
 exact (Z0s) [24] fun H => H _ _ (ofo (Z1j h) _ _)
theorem sd_2b {D : PV} {d : Rb} {v : List Way} {u : Cn} {l : List PV} (h : look (pvs2 ds) (ltr d.k) = some (.pv (Z0v d v u))) (ha : d.ab = true) (n : Nat) : SX n 464 2 (RX D (some (.pv (nmL (ltr d.k) l))) own nm wild kd) O (HK v0 ds τ) = some ((none, RX D (some (.pv (nmL (ltr d.k) l))) own nm wild kd), HK v0 ds τ) := by
 exact (Z0s) [22, 14, 4] fun H => H _ _ (ofo (Z5w h) _ _) _ _ (ofo (Z1j h) _ _) (ha)
theorem pars_len (b : Rb) (hm : b.many <= 2) : (parsV b).length = b.many := by
 obtain ⟨k, m, bd, ab⟩ := b
 match m, hm with
 | 0, _ => rfl
 | 1, _ => rfl
 | 2, _ => rfl
theorem dat_wv (k : Nat) : ∀ w : List Way, (w.map (wv k)).all (Z0p 58) = true
 | [] => rfl
 | x :: w => Bool.and_eq_true_iff.mpr ⟨by cases x <;> rfl, dat_wv k w⟩
theorem sd_3b {D : PV} {d : Rb} {v : List Way} {u : Cn} {k : Nat} (h : look (pvs2 ds) (ltr d.k) = some (.pv (Z0v d v u))) (hw : w.length = d.many) (hm : d.many <= 2) (n : Nat) : SX n 464 3 (RX D (some (.pv (nmL (ltr d.k) (w.map (wv k))))) own nm wild kd) O (HK v0 ds τ) = some ((none, RX D (some (.pv (nmL (ltr d.k) (w.map (wv k))))) own nm wild kd), HK v0 ds τ) := by
 have h1 : small (pvs (w.map (wv k))) = true := Z5b (by omega) _
 have h2 : Nat.ble (parsV d).length lim = true := Nat.ble_eq_true_of_le (by rw [pars_len d hm]; exact Nat.le_trans hm (by decide))
 have h3 : eqPV (nmL (ltr d.k) (w.map (wv k))) (nmT "Type") = some false := Y1t (Y1x _ (dat_wv k w)) rfl (neq_nm (ltr_long (by kernel_rfl) _) _ _)
 have h4 : eqPV (.int ((pvs (w.map (wv k))).length : Nat)) (.int ((parsV d).length : Nat)) = some true := by
  rw [Z5p, List.length_map, hw, pars_len d hm]
  exact eq_refl rfl
 exact (Z0s) [0, 8, 12, 6, 0, 0] fun H => H _ _ (ofo h3 _ _) (h1) _ _ (ofo (Z1j h) _ _) _ _ (ofo (len_o (parsV d)) _ _) (h2) _ _ (ofo h4 _ _)
end
section
variable {O : Z0c} {v0 : MO} {τ : Hp} {ds : List (Str × PV)} {w : List Way} {t : Cn} {ab own nm wild kd : Option MV}
theorem sd_4 (n : Nat) (σ : Hp) : ∀ b : Rb, b.many <= 2 -> SX n 464 4 (RX (Z0v b w t) ab own nm wild kd) O σ = some ((none, RX (Z0v b w t) ab (some (.pv (.lst (vsl b.k (ownL b.many))))) nm wild kd), σ)
 | ⟨k, 0, bd, ab⟩, _ => by
  exact (Z0s) [] fun H => H
 | ⟨k, 1, bd, ab⟩, _ => by
  exact (Z0s) [] fun H => H
 | ⟨k, 2, bd, ab⟩, _ => by
  exact (Z0s) [] fun H => H
 | ⟨k, m + 3, bd, ab⟩, h => absurd h (Nat.not_le_of_lt (Nat.le_add_left 3 m))
noncomputable abbrev RQ7 (o : PV) (y : Option MV) : Vars := [(S ".0", none), (S "name", y), (S "own", some (.pv o))]
theorem own_turn {k m i : Nat} (hm : m <= 2) (hi : i < m) (n : Nat) (σ : Hp) (acc : List PV) (y : Option MV) : CF n 464 1 0 (.pv (.str (vS i k))) (pvs acc, RQ7 (.lst (vsl k (ownL m))) y) O σ = some ((none, (pvs (acc ++ []), RQ7 (.lst (vsl k (ownL m))) (some (.pv (.str (vS i k)))))), σ) := by
 rw [List.append_nil]
 exact (Z2g) [2] fun H => H _ _ (ofo ((Y1p _ _).trans (mem_own k m i hm hi)) _ _)
theorem sd_5 {D a : PV} {k m : Nat} {l : List Nat} (hm : m <= 2) (hl : l.length <= 2) (hi : ∀ i ∈ l, i < m) (n : Nat) (σ : Hp) (hf : Z0d cfg n (.fn 98) [.pv a] O σ = some (.pv (.lst (vsl k l)), σ)) : SX n 464 5 (RX D (some (.pv a)) (some (.pv (.lst (vsl k (ownL m))))) nm wild kd) O σ = some ((none, RX D (some (.pv a)) (some (.pv (.lst (vsl k (ownL m))))) nm (some (.pv (.lst []))) kd), σ) := by
 have e : Z2k false (.items (pvs (vsl k l))) (CF n 464 1 0) ([], RQ7 (.lst (vsl k (ownL m))) none) O σ = _ := Z3h (f := fun _ => []) (fun c => Nat.zero_le 1) l [] none (by rw [List.length_nil]; omega) fun i h acc y hs => own_turn hm (hi i h) n σ acc y
 rw [flat_nil] at e
 exact (Z0s) [2] fun H => H _ _ (hf) _ _ (e)
theorem free_i64 (n : Nat) (σ : Hp) : Z0d cfg (n+6) (.fn 98) [.pv i64] O σ = some (.pv (.lst []), σ) := by kernel_rfl
theorem free_v (x : Str) (n : Nat) (σ : Hp) : Z0d cfg (n+6) (.fn 98) [.pv (vrS x)] O σ = some (.pv (.lst [.str x]), σ) := by kernel_rfl
theorem sd_6 (n : Nat) (σ : Hp) : ∀ b : Rb, b.many <= 2 -> ∃ nm' kd', SX (n+6) 464 6 (RX (Z0v b w t) ab (some (.pv (.lst (vsl b.k (ownL b.many))))) nm (some (.pv (.lst []))) kd) O σ = some ((none, RX (Z0v b w t) ab (some (.pv (.lst (vsl b.k (ownL b.many))))) nm' (some (.pv (.lst []))) kd'), σ)
 | ⟨k, m, bd, true⟩, _ => ⟨nm, kd, by
  exact (Z0s) [] fun H => H
  ⟩
 | ⟨k, 0, bd, false⟩, _ => ⟨some (.pv (sv "first")), some (.pv i64), by
  exact (Z0s) [] fun H => H
  ⟩
 | ⟨k, 1, bd, false⟩, _ => ⟨some (.pv (sv "last")), some (.pv (vrS (vS 0 k))), by
  exact (Z0s) [7, 15, 2] fun H => H _ _ (free_i64 _ _) _ _ (free_v _ _ _) _ _ (ofo ((Y1p _ _).trans (mem_own k 1 0 (by decide) (by decide))) _ _)
  ⟩
 | ⟨k, 2, bd, false⟩, _ => ⟨some (.pv (sv "last")), some (.pv (vrS (vS 0 k))), by
  exact (Z0s) [7, 15, 2] fun H => H _ _ (free_i64 _ _) _ _ (free_v _ _ _) _ _ (ofo ((Y1p _ _).trans (mem_own k 2 0 (by decide) (by decide))) _ _)
  ⟩
 | ⟨k, m + 3, bd, false⟩, h => absurd h (Nat.not_le_of_lt (Nat.le_add_left 3 m))
theorem sd_7 (n : Nat) (σ : Hp) : ∀ b : Rb, SX n 464 7 (RX (Z0v b w t) ab own nm (some (.pv (.lst []))) kd) O σ = some ((none, RX (Z0v b w t) ab own nm (some (.pv (.lst []))) kd), σ)
 | ⟨k, m, bd, true⟩ => by
  exact (Z0s) [] fun H => H
 | ⟨k, 0, bd, false⟩ => by
  exact (Z0s) [] fun H => H
 | ⟨k, m + 1, bd, false⟩ => by
  exact (Z0s) [] fun H => H
theorem put_new {x : Str} {v : PV} : ∀ {es : List (Str × PV)}, look (pvs2 es) x = none -> put (pvs2 es) x (.pv v) = pvs2 (es ++ [(x, v)])
 | [], _ => rfl
 | (y, u) :: es, h => by
  cases q : Z0g y x with
  | true => rw [<- strEq_true.mp q] at h; rw [show pvs2 ((y, u) :: es) = (y, MV.pv u) :: pvs2 es from rfl, Z3j] at h; exact nomatch h
  | false =>
   rw [show pvs2 ((y, u) :: es) = (y, MV.pv u) :: pvs2 es from rfl, Z5v q] at h
   show (match Z0g y x with | true => (y, MV.pv v) :: pvs2 es | false => (y, MV.pv u) :: put (pvs2 es) x (.pv v)) = _
   rw [q, put_new h]; rfl
theorem sd_8 {b : Rb} (h : look (pvs2 ds) (ltr b.k) = none) (hs : small (pvs2 ds) = true) (n : Nat) : SX n 464 8 (RX (Z0v b w t) ab own nm wild kd) O (HK v0 ds τ) = some ((none, RX (Z0v b w t) ab own nm wild kd), HK v0 (ds ++ [(ltr b.k, Z0v b w t)]) τ) := by
 have hp : Z8g (.dct (pvs2 ds)) (.pv (.str (ltr b.k))) (.pv (Z0v b w t)) = some (.dct (pvs2 (ds ++ [(ltr b.k, Z0v b w t)]))) := by
  show (match small (pvs2 ds) with | true => some (MO.dct (put (pvs2 ds) (ltr b.k) (.pv (Z0v b w t)))) | false => none) = _
  rw [hs, put_new h]
 have hset : bnd (ofO (Z8g (.dct (pvs2 ds)) (.pv (.str (ltr b.k))) (.pv (Z0v b w t)))) (fun x' => setAt 2 x') O (HK v0 ds τ) = some ((), HK v0 (ds ++ [(ltr b.k, Z0v b w t)]) τ) := (Z1q (ofo hp O _)).trans rfl
 exact (Z0s) [10] fun H => H _ _ (hset)
end
theorem raw_ox {n : Nat} {a : Addr} {ρ : Vars} {O : Z0c} {σ σ' : Hp} {args : List MV} {t : Option MV × Vars} (hb : Z7g a args = some (0, ρ)) (h : XS n a 0 ρ O σ = some (t, σ')) : mraw cfg (n + 1) (.fn a) args O σ = some (outV t, σ') := by
 obtain ⟨r, e, hk, hr⟩ := binds_at hb
 exact raw_o e hk hr (xs_body e h)
theorem look_none {α : Type} {x : Str} {l : List (Str × α)} (h : ∀ e ∈ l, Z0g e.1 x = false) : look l x = none := by
 have e := look_app (r := []) h
 rw [List.append_nil] at e
 exact e
theorem wf_mono {rs l : List Cn} : ∀ {c : Cn}, Wf rs c -> Wf (rs ++ l) c
 | [], _ => trivial
 | (b, w) :: t, h => ⟨by rw [List.getElem?_append_left (List.getElem?_eq_some_iff.mp h.1).1]; exact h.1, h.2.1, h.2.2.1, h.2.2.2.1, h.2.2.2.2.1, wf_mono h.2.2.2.2.2⟩
theorem ends (D : PV) (a o nm w k : Option MV) (n : Nat) (O : Z0c) (σ : Hp) : XS n 464 9 (RX D a o nm w k) O σ = some ((none, RX D a o nm w k), σ) := by kernel_rfl
theorem free_any (n : Nat) (O : Z0c) (σ : Hp) : Z0d cfg (n+6) (.fn 98) [.pv anyV] O σ = some (.pv (.lst (vsl 0 [])), σ) := by kernel_rfl
theorem look_any (R : List (Str × PV)) : look (pvs2 (D0 ++ R)) (S "Any") = some (.pv anyD) := by
 rw [Z7n]
 exact Z7w (by kernel_rfl)
structure New (rs : List Cn) (b : Rb) (w : List Way) (t : Cn) : Prop where
 hk : b.k = rs.length
 hlt : rs.length < 7
 hm : b.many <= 2
 ht : t = [] \/ (t ∈ rs /\ abOf t = true)
 hw : w.length = Z3a t
 hok : ∀ x ∈ w, x.ok b.many = true
section
variable {rs : List Cn} (R : Rows rs) {b : Rb} {w : List Way} {t : Cn} (N : New rs b w t)
include R N
theorem New.head : t = [] \/ ∃ d v u, t = (d, v) :: u /\ Wf rs ((d, v) :: u) /\ d.ab = true /\ d.k < b.k := by
 rcases N.ht with h | ⟨h, ha⟩
 ·exact .inl h
 ·obtain ⟨i, hi⟩ := List.getElem?_of_mem h
  obtain ⟨d, v, u, rfl, rfl, hw⟩ := R.row i t hi
  exact .inr ⟨d, v, u, rfl, hw, ha, N.hk ▸ (List.getElem?_eq_some_iff.mp hi).1⟩
theorem New.wf : Wf (rs ++ [(b, w) :: t]) ((b, w) :: t) := by
 refine ⟨?_, N.hk ▸ N.hlt, N.hm, N.hok, ?_, ?_⟩
 ·rw [N.hk, List.getElem?_append_right (Nat.le_refl _), Nat.sub_self]; rfl
 ·have hw := N.hw
  rcases New.head R N with rfl | ⟨d, v, u, rfl, h1, h2, h3⟩
  ·exact List.length_eq_zero_iff.mp hw
  ·exact ⟨hw, h2, h3⟩
 ·rcases New.head R N with rfl | ⟨d, v, u, rfl, h1, h2, h3⟩
  ·trivial
  ·exact wf_mono h1
theorem New.rows : Rows (rs ++ [(b, w) :: t]) := by
 refine ⟨?_, fun i c h => ?_⟩
 ·rw [List.length_append, List.length_singleton]
  exact N.hlt
 ·by_cases hi : i < rs.length
  ·rw [List.getElem?_append_left hi] at h
   obtain ⟨d, v, u, e1, e2, e3⟩ := R.row i c h
   exact ⟨d, v, u, e1, e2, wf_mono e3⟩
  ·rw [List.getElem?_append_right (Nat.le_of_not_lt hi)] at h
   have hz : i - rs.length = 0 := by
    have := (List.getElem?_eq_some_iff.mp h).1
    rw [List.length_singleton] at this
    omega
   rw [hz] at h
   cases h
   exact ⟨b, w, t, rfl, by rw [N.hk]; omega, New.wf R N⟩
theorem New.fresh : look (pvs2 (rds rs)) (ltr b.k) = none := by
 rw [look_D0]
 refine look_none (Y0y (P := fun s => Z0g s (ltr b.k) = false) fun e m => ?_)
 obtain ⟨c, hc, rfl⟩ := List.mem_map.mp m
 obtain ⟨i, hi⟩ := List.getElem?_of_mem hc
 rw [R.key i c hi]
 exact ltr_ne (by have := (List.getElem?_eq_some_iff.mp hi).1; have := N.hk; omega)
theorem New.small : small (pvs2 (rds rs)) = true := by
 have hl := R.len
 refine sm_of ?_
 rw [Z7n, List.length_append]
 have h0 : (pvs2 D0).length <= 100 := Nat.le_of_ble_eq_true (by kernel_rfl)
 have h1 : (pvs2 (rs.map ent)).length = rs.length := (List.length_map _).trans (List.length_map _)
 omega
theorem New.ds : rds rs ++ [(ltr b.k, Z0v b w t)] = rds (rs ++ [(b, w) :: t]) := by
 show (D0 ++ rs.map ent) ++ _ = D0 ++ (rs ++ [(b, w) :: t]).map ent
 rw [List.map_append, List.append_assoc]; rfl
theorem New.free (n : Nat) (O : Z0c) (σ : Hp) : ∃ l : List Nat, Z0d cfg (n+6) (.fn 98) [.pv (supV b.k w t)] O σ = some (.pv (.lst (vsl b.k l)), σ) /\ l.length <= 2 /\ ∀ i ∈ l, i < b.many := by
 have hw := N.hw
 rcases New.head R N with rfl | ⟨d, v, u, rfl, h1, h2, h3⟩
 ·exact ⟨[], free_any n O σ, Nat.zero_le _, fun _ h => nomatch h⟩
 ·obtain ⟨l, e, h4, h5⟩ := free_sup (O := O) (σ := σ) (ltr d.k) b.k n w (hw ▸ h1.2.2.1)
  refine ⟨l, e, h4, fun i hi => ?_⟩
  obtain ⟨x, hx, hz⟩ := h5 i hi
  exact way_lt hz (N.hok x hx)
theorem New.declare (n : Nat) (O : Z0c) (v0 : MO) (τ : Hp) : mraw cfg (n+7) (.fn 464) [.ref 1, .pv (Z0v b w t)] O (HK v0 (rds rs) τ) = some (.pv .none, HK v0 (rds (rs ++ [(b, w) :: t])) τ) := by
 obtain ⟨l, e, h4, h5⟩ := New.free R N n O (HK v0 (rds rs) τ)
 obtain ⟨nm, kd, e6⟩ := sd_6 (O := O) (w := w) (t := t) (ab := some (.pv (supV b.k w t))) (nm := none) (kd := none) n (HK v0 (rds rs) τ) b N.hm
 have e1 := (Z0m (sd_0 (O := O) (v0 := v0) (τ := τ) (w := w) (t := t) (ab := none) (own := none) (nm := none) (wild := none) (kd := none) (New.fresh R N) (n+6))).trans (Z0m (sd_1 (n+6) []))
 have e4 := (Z0m (sd_4 (own := none) (wild := none) (n+6) _ b N.hm)).trans ((Z0m (sd_5 (wild := none) N.hm h4 h5 (n+6) _ e)).trans ((Z0m e6).trans ((Z0m (sd_7 (n+6) _ b)).trans ((Z0m (sd_8 (New.fresh R N) (New.small R N) (n+6))).trans (ends ..)))))
 rw [New.ds R N] at e4
 refine raw_ox (a := 464) (t := (none, _)) (by kernel_rfl) (e1.trans (Eq.trans ?_ e4))
 have hw := N.hw
 rcases New.head R N with rfl | ⟨d, v, u, rfl, h1, h2, h3⟩
 ·exact (Z0m (sd_2a (look_any _) (n+6))).trans (Z0m (sd_3a (look_any _) (n+6)))
 ·exact (Z0m (sd_2b (R.look h1) h2 (n+6))).trans (Z0m (sd_3b (R.look h1) hw h1.2.2.1 (n+6)))
end
section
variable {n : Nat} {O : Z0c} {v0 : MO} {ds : List (Str × PV)} {τ σ' : Hp} {D : PV}
theorem refused_no (h : mraw cfg n (.fn 464) [.ref 1, .pv D] O (HK v0 ds τ) = some (.pv .none, σ')) : Z0d cfg (n+1) (.fn 596) [.ref 1, .pv D] O (HK v0 ds τ) = some (.pv (.bool false), σ') := by
 exact (Z2j (by kernel_rfl)) [] fun H => H _ _ (h)
theorem Z2q (h : mraw cfg n (.fn 464) [.ref 1, .pv D] O (HK v0 ds τ) = some (.exc, σ')) : Z0d cfg (n+1) (.fn 596) [.ref 1, .pv D] O (HK v0 ds τ) = some (.pv (.bool true), σ') := by
 exact (Z2j (by kernel_rfl)) [] fun H => H _ _ (h)
theorem look_D {s : Str} {v : PV} (h : look (pvs2 D0) s = some (.pv v)) (R : List (Str × PV)) : look (pvs2 (D0 ++ R)) s = some (.pv v) := by
 rw [Z7n]
 exact Z7w h
theorem look_no {rs : List Cn} (R : Rows rs) {s : Str} (hl : Nat.blt 1 s.cps.toList.length = true) (h : D0.all (fun e => !Z0g e.1 s) = true) : look (pvs2 (rds rs)) s = none := by
 have f (b : Bool) (hb : (!b) = true) : b = false := by cases b <;> first | rfl | exact nomatch hb
 refine look_none (Y0y (P := fun x => Z0g x s = false) fun e m => ?_)
 rcases List.mem_append.mp m with m | m
 ·exact f _ (List.all_eq_true.mp h e m)
 ·obtain ⟨c, hc, rfl⟩ := List.mem_map.mp m
  obtain ⟨i, hi⟩ := List.getElem?_of_mem hc
  rw [R.key i c hi]
  exact ltr_long hl i
theorem told (k : Nat) (mu : Bool) (σ : Hp) : addM mu (.pv (sv "a kind is told twice: ")) (.pv (.str (ltr k))) O σ = some (.pv (.str (S "a kind is told twice: " ++ ltr k)), σ) := sat mu (by kernel_rfl)
noncomputable abbrev NW (p : List PV) (s : PV) (ab : Bool) (f : List PV) : PV := dclV (sv "New") (.lst p) s (.bool ab) (.bool false) (.lst f)
theorem bad_1 {k : Nat} {v : PV} (h : look (pvs2 ds) (ltr k) = some (.pv v)) (n : Nat) : mraw cfg (n+7) (.fn 464) [.ref 1, .pv (dclV (.str (ltr k)) (.lst []) anyV (.bool true) (.bool false) (.lst []))] O (HK v0 ds τ) = some (.exc, HK v0 ds τ) := by
 exact (Z3q (by kernel_rfl)) [10, 6] fun H => H _ _ (ofo (Z5w h) _ _) _ _ (told _ _ _)
noncomputable abbrev i64D : PV := (r0 (dc "Int64" "Signed" [])).2
noncomputable abbrev realD : PV := (r0 (da "Real" "Number")).2
theorem text_i (n : Nat) (σ : Hp) : Z0d cfg (n+6) (.fn 110) [.pv i64] O σ = some (.pv (sv "Int64"), σ) := by kernel_rfl
theorem text_g (n : Nat) (σ : Hp) : Z0d cfg (n+6) (.fn 110) [.pv (nmT "Gone")] O σ = some (.pv (sv "Gone"), σ) := by kernel_rfl
theorem text_r (n : Nat) (σ : Hp) : Z0d cfg (n+6) (.fn 110) [.pv (nmL (S "Real") [i64])] O σ = some (.pv (sv "Real{Int64}"), σ) := by kernel_rfl
variable (hN : look (pvs2 ds) (S "New") = none)
include hN
theorem bad_2 (h : look (pvs2 ds) (S "Int64") = some (.pv i64D)) (n : Nat) : mraw cfg (n+7) (.fn 464) [.ref 1, .pv (NW [] i64 false [])] O (HK v0 ds τ) = some (.exc, HK v0 ds τ) := by
 exact (Z3q (by kernel_rfl)) [10, 28, 14] fun H => H _ _ (ofo (Z9b hN) _ _) _ _ (ofo (Z5w h) _ _) _ _ (ofo (Z1j h) _ _) _ _ (text_i _ _)
theorem bad_3 (h : look (pvs2 ds) (S "Gone") = none) (n : Nat) : mraw cfg (n+7) (.fn 464) [.ref 1, .pv (NW [] (nmT "Gone") true [])] O (HK v0 ds τ) = some (.exc, HK v0 ds τ) := by
 exact (Z3q (by kernel_rfl)) [10, 28] fun H => H _ _ (ofo (Z9b hN) _ _) _ _ (ofo (Z9b h) _ _) _ _ (text_g _ _)
theorem bad_4 (h : look (pvs2 ds) (S "Real") = some (.pv realD)) (n : Nat) : mraw cfg (n+7) (.fn 464) [.ref 1, .pv (NW [] (nmL (S "Real") [i64]) true [])] O (HK v0 ds τ) = some (.exc, HK v0 ds τ) := by
 exact (Z3q (by kernel_rfl)) [10, 28, 14, 30] fun H => H _ _ (ofo (Z9b hN) _ _) _ _ (ofo (Z5w h) _ _) _ _ (ofo (Z1j h) _ _) _ _ (ofo (Z1j h) _ _) _ _ (text_r _ _)
theorem bad_5 (h : look (pvs2 ds) (S "Any") = some (.pv anyD)) (n : Nat) : mraw cfg (n+7) (.fn 464) [.ref 1, .pv (NW [] anyV false [.tup [sv "one", vr "Q.New"]])] O (HK v0 ds τ) = some (.exc, HK v0 ds τ) := by
 exact (Z3q (by kernel_rfl)) [10, 28, 14, 30] fun H => H _ _ (ofo (Z9b hN) _ _) _ _ (ofo (Z5w h) _ _) _ _ (ofo (Z1j h) _ _) _ _ (ofo (Z1j h) _ _) _ _ (free_any _ _ _)
theorem bad_6 (h : look (pvs2 ds) (S "Any") = some (.pv anyD)) (n : Nat) : mraw cfg (n+7) (.fn 464) [.ref 1, .pv (NW [.tup [sv "P.New", botV, anyV]] anyV false [.tup [sv "one", vr "P.New"], .tup [sv "one", anyV]])] O (HK v0 ds τ) = some (.exc, HK v0 ds τ) := by
 exact (Z3q (by kernel_rfl)) [10, 28, 14, 30] fun H => H _ _ (ofo (Z9b hN) _ _) _ _ (ofo (Z5w h) _ _) _ _ (ofo (Z1j h) _ _) _ _ (ofo (Z1j h) _ _) _ _ (free_any _ _ _)
omit hN
theorem ob_ds (σ : Hp) : Z0n (.oref 0 2) (HK v0 ds τ :: O) σ = some (.dct (pvs2 ds), σ) := by
 have h1 : ∀ l : List (Str × PV), (pvs2 l).all (fun e => Z0k e.2) = true := fun l => by
  induction l with
  | nil => rfl
  | cons x l ih => exact ih
 have h2 : (pvs2 ds).map (fun e => (e.1, lift 0 e.2)) = pvs2 ds := by
  show (ds.map fun e => (e.1, MV.pv e.2)).map (fun e => (e.1, lift 0 e.2)) = _
  rw [List.map_map]; rfl
 show (match (match (pvs2 ds).all (fun e => Z0k e.2) with | true => some (MO.dct ((pvs2 ds).map fun e : Str × MV => (e.1, lift 0 e.2))) | false => none) with | some o' => some (o', σ) | none => none) = _
 rw [h1, h2]
include hN
theorem not_told (n : Nat) : Z0d cfg (n+3) (.fn 471) [.ref 1, .pv (sv "New")] O (HK v0 ds τ) = some (.pv (.bool false), HK v0 ds τ) := by
 exact (call_r rfl rfl (by kernel_rfl)) [4, 0] fun H => H _ _ (ob_ds _) _ _ (ofo (Z9b hN) _ _) _ rfl
end
section
variable {n : Nat} {O : Z0c} {σ : Hp}
theorem mk_d (a s : PV) (ab : Bool) (n : Nat) (σ : Hp) : Z0d cfg (n+3) (.cls 441) [.pv a, .pv (.lst []), .pv s, .pv (.bool ab)] O σ = some (.pv (dclV a (.lst []) s (.bool ab) (.bool false) (.lst [])), σ) := by kernel_rfl
theorem mk_e (a s : PV) (ab : Bool) (f : PV) (n : Nat) (σ : Hp) : Z0d cfg (n+3) (.cls 441) [.pv a, .pv (.lst []), .pv s, .pv (.bool ab), .pv (.bool false), .pv (.lst [f])] O σ = some (.pv (dclV a (.lst []) s (.bool ab) (.bool false) (.lst [f])), σ) := by kernel_rfl
theorem mk_f (a s p : PV) (ab : Bool) (f g : PV) (n : Nat) (σ : Hp) : Z0d cfg (n+3) (.cls 441) [.pv a, .pv (.lst [p]), .pv s, .pv (.bool ab), .pv (.bool false), .pv (.lst [f, g])] O σ = some (.pv (dclV a (.lst [p]) s (.bool ab) (.bool false) (.lst [f, g])), σ) := by kernel_rfl
noncomputable abbrev bad1V (k : Nat) : PV := dclV (.str (ltr k)) (.lst []) anyV (.bool true) (.bool false) (.lst [])
noncomputable abbrev badL (k : Nat) : List MV := pvs [bad1V k, NW [] i64 false [], NW [] (nmT "Gone") true [], NW [] (nmL (S "Real") [i64]) true [], NW [] anyV false [.tup [sv "one", vr "Q.New"]], NW [.tup [sv "P.New", botV, anyV]] anyV false [.tup [sv "one", vr "P.New"], .tup [sv "one", anyV]]]
theorem bads {rs : List Cn} (R : Rows rs) {b : Rb} {w : List Way} {t : Cn} (h : rs[0]? = some ((b, w) :: t)) {l : List PV} (hs : small (pvs (rowV ((b, w) :: t) :: l)) = true) (x y : Int) (n : Nat) : Z0d cfg (n+11) (.fn 635) [.ref 1, .ref 3] O (HL x y (rds rs) (rowV ((b, w) :: t) :: l) []) = some (.pv (.bool true), HL x y (rds rs) (rowV ((b, w) :: t) :: l) [.lst (badL b.k)]) := by
 have hN : look (pvs2 (rds rs)) (S "New") = none := look_no R rfl (by kernel_rfl)
 have hG : look (pvs2 (rds rs)) (S "Gone") = none := look_no R rfl (by kernel_rfl)
 have hA : look (pvs2 (rds rs)) (S "Any") = some (.pv anyD) := look_any _
 have hI : look (pvs2 (rds rs)) (S "Int64") = some (.pv i64D) := look_D (by kernel_rfl) _
 have hR : look (pvs2 (rds rs)) (S "Real") = some (.pv realD) := look_D (by kernel_rfl) _
 have hK : look (pvs2 (rds rs)) (ltr b.k) = some (.pv (Z0v b w t)) := R.look (by
  obtain ⟨b', w', t', e, _, hw⟩ := R.row 0 _ h
  exact hw)
 exact (Z2j (by kernel_rfl)) [4, 55] fun H => H (hs) _ _ (Z7e _) _ _ (mk_d _ _ _ _ _) _ _ (mk_d _ _ _ _ _) _ _ (mk_d _ _ _ _ _) _ _ (Z2d _) _ _ (mk_d _ _ _ _ _) _ _ (Z7e _) _ _ (mk_e _ _ _ _ _ _) _ _ (Z7e _) _ _ (Z7e _) _ _ (Z7e _) _ _ (mk_f _ _ _ _ _ _ _ _) _ _ (Z2q (bad_1 hK (n + 2))) _ _ (Z2q (bad_2 hN hI (n + 2))) _ _ (Z2q (bad_3 hN hG (n + 2))) _ _ (Z2q (bad_4 hN hR (n + 2))) _ _ (Z2q (bad_5 hN hA (n + 2))) _ _ (Z2q (bad_6 hN hA (n + 2))) _ _ (not_told hN _)
end
theorem char_at : ∀ i : Nat, i < 7 -> charM (S "KLMNOPQ") (i : Nat) = some (.pv (.str (ltr i)))
 | 0, _ => by kernel_rfl
 | 1, _ => by kernel_rfl
 | 2, _ => by kernel_rfl
 | 3, _ => by kernel_rfl
 | 4, _ => by kernel_rfl
 | 5, _ => by kernel_rfl
 | 6, _ => by kernel_rfl
 | i + 7, h => absurd h (by omega)
section
variable {O : Z0c} {x y : Int} {ds : List (Str × PV)} {τ : Hp}
theorem app_row {C : Z0j} {mu : Bool} {L : List PV} (hs : small (pvs L) = true) (v : PV) : runM C mu .append (.ref 3) [.pv v] O (HL x y ds L τ) = some (.pv .none, HL x y ds (L ++ [v]) τ) := by
 show _ = some (MV.pv .none, bw x y :: kO :: .dct (pvs2 ds) :: .lst (pvs (L ++ [v])) :: τ)
 rw [Z4p]
 exact x_app (σ := HL x y ds L τ) (w := 3) rfl hs (.pv v) O
noncomputable abbrev RL3 (scr : PV) (num : Option MV) : Vars := RL scr (some (.ref 0)) (some (.ref 1)) (some (.ref 3)) num
theorem law_turn {rs : List Cn} (R : Rows rs) (hl : rs.length < 7) {x y : Int} (hb : BowlOk x y) (scr : PV) (n : Nat) (O : Z0c) (τ : Hp) : ∃ (c : Cn) (x' y' : Int), Rows (rs ++ [c]) /\ BowlOk x' y' /\ ∀ num, LF (n+9) 652 0 (.pv (.int (rs.length : Nat))) (RL3 scr num) O (HL x y (rds rs) (rs.map rowV) τ) = some ((none, RL3 scr (some (.pv (.int (rs.length : Nat))))), HL x' y' (rds (rs ++ [c])) ((rs ++ [c]).map rowV) τ) := by
 obtain ⟨b, w, t, x', y', hk, hm, ht, hw, hok, hb', e⟩ := drawn_ok R rs.length hb n O (rds rs) τ
 have N : New rs b w t := ⟨hk, hl, hm, ht, hw, hok⟩
 refine ⟨(b, w) :: t, x', y', New.rows R N, hb', fun num => ?_⟩
 have hs : small (pvs (rs.map rowV)) = true := Z5b (by omega) _
 have hn : (rs.map rowV).length < 1000 := by rw [List.length_map]; omega
 have hw1 : w.length <= 1000 := by
  rw [hw]
  rcases New.head R N with rfl | ⟨d, v, u, rfl, h1, _, _⟩
  ·exact Nat.zero_le _
  ·exact Nat.le_trans h1.2.2.1 (by decide)
 have h0 : t = [] -> w = [] := fun h => by subst h; exact List.length_eq_zero_iff.mp hw
 have hd := New.declare R N (n+1) O (bw x' y') (.lst (pvs (rs.map rowV ++ [rowV ((b, w) :: t)])) :: τ)
 rw [List.map_append]
 show _ = some ((none, RL3 scr (some (.pv (.int (rs.length : Nat))))), HL x' y' (rds (rs ++ [(b, w) :: t])) (rs.map rowV ++ [rowV ((b, w) :: t)]) τ)
 exact (Z5g) [0, 0, 0, 4, 0, 0] fun H => H _ _ ((x_pre (σ := HL x y (rds rs) (rs.map rowV) τ) (w := 3) rfl hs _ (S "append")).1) _ _ (ofo (char_at rs.length hl) _ _) _ _ (e) _ _ (app_row hs _) _ _ (ofo (Z9v (rs.map rowV) (rowV ((b, w) :: t))) _ _) (sm_snoc (x := rowV ((b, w) :: t)) hn) _ _ (ofo (Z9w (rs.map rowV) (rowV ((b, w) :: t))) _ _) _ _ (decl_mk (n + 2) b hm hw1 h0) _ _ (refused_no hd)
end
section
variable {scr : PV} {O : Z0c} {τ : Hp}
theorem law_loop (n : Nat) : ∀ (m i : Nat) (rs : List Cn) (x y : Int) (num : Option MV), Rows rs -> rs.length = i -> i + m <= 7 -> BowlOk x y -> ∃ (rs' : List Cn) (x' y' : Int) (num' : Option MV), Rows rs' /\ rs'.length = i + m /\ BowlOk x' y' /\ Z6j (LF (n+9) 652 0) (Z3m m (i : Nat)) (RL3 scr num) O (HL x y (rds rs) (rs.map rowV) τ) = some ((none, RL3 scr num'), HL x' y' (rds rs') (rs'.map rowV) τ)
 | 0, i, rs, x, y, num, R, hi, _, hb => ⟨rs, x, y, num, R, hi, hb, rfl⟩
 | m + 1, i, rs, x, y, num, R, hi, hl, hb => by
  subst hi
  obtain ⟨c, x1, y1, R1, hb1, e⟩ := law_turn R (by omega) hb scr n O τ
  obtain ⟨rs', x2, y2, num', R2, hn, hb2, e2⟩ := law_loop n m (rs.length + 1) (rs ++ [c]) x1 y1 (some (.pv (.int (rs.length : Nat)))) R1 (by rw [List.length_append, List.length_singleton]) (by omega) hb1
  exact ⟨rs', x2, y2, num', R2, by omega, hb2, (Z1k (r := Z3m m ((rs.length : Nat) + 1)) (e num)).trans e2⟩
theorem rows_nil : Rows [] := ⟨Nat.zero_le _, fun i c h => nomatch h⟩
theorem law_0 (l : List Int) (hl : l.length <= 63) (n : Nat) : ∃ x y, BowlOk x y /\ SX (n+20) 652 0 (RL (.lst (l.map .int)) none none none none) O [] = some ((none, RL3 (.lst (l.map .int)) none), HL x y (rds []) ([].map rowV) []) := by
 obtain ⟨x, y, hb, e⟩ := bowl_ok l hl (n+18) O []
 refine ⟨x, y, hb, ?_⟩
 rw [show rds [] = D0 from List.append_nil _]
 exact (Z0s) [] fun H => H _ _ (e) _ _ (start_kinds _ _ _)
theorem law_1 {x y : Int} (hb : BowlOk x y) (n : Nat) : ∃ (rs : List Cn) (x' y' : Int) (num : Option MV), Rows rs /\ 2 <= rs.length /\ BowlOk x' y' /\ SX (n+9) 652 1 (RL3 scr none) O (HL x y (rds []) ([].map rowV) τ) = some ((none, RL3 scr num), HL x' y' (rds rs) (rs.map rowV) τ) := by
 obtain ⟨d, x1, y1, h0, h1, hb1, e⟩ := scoop (σ := HL x y (rds []) ([].map rowV) τ) (i := 0) rfl hb 6 (by decide) (by decide)
 obtain ⟨m, rfl⟩ := Int.eq_ofNat_of_zero_le h0
 obtain ⟨rs, x2, y2, num, R, hn, hb2, e2⟩ := law_loop (scr := scr) (O := O) (τ := τ) n (2 + m) 0 [] x1 y1 none rows_nil rfl (by omega) hb1
 refine ⟨rs, x2, y2, num, R, by omega, hb2, ?_⟩
 have hr (mu : Bool) (σ : Hp) : bi1 mu .range (.pv (.int (2 + (m : Int)))) O σ = some (.pv (.rng ((2 + m : Nat) : Int)), σ) := range_at (2 + m) (by omega) mu σ
 exact (Z0s) [2, 0, 0] fun H => H _ _ (e _ _) _ _ (hr _ _) _ _ (rng_at (2 + m) (by omega) _) _ _ (show Z2k false (.items (Z3m (2 + m) 0)) (LF (n + 9) 652 0) _ _ _ = _ from e2)
theorem law_2 {rs : List Cn} (R : Rows rs) (h2 : 2 <= rs.length) (x y : Int) (num : Option MV) (n : Nat) : ∃ τ, SX (n+11) 652 2 (RL3 scr num) O (HL x y (rds rs) (rs.map rowV) []) = some ((none, RL3 scr num), HL x y (rds rs) (rs.map rowV) τ) := by
 have hl := R.len
 cases rs with
 | nil => exact absurd h2 (by decide)
 | cons c l =>
  obtain ⟨b, w, t, rfl, hk, hw⟩ := R.row 0 c rfl
  have e := bads (O := O) R (b := b) (w := w) (t := t) rfl (l := l.map rowV) (Z5b (l := ((b, w) :: t) :: l) (by omega) rowV) x y n
  refine ⟨[.lst (badL b.k)], ?_⟩
  show SX (n+11) 652 2 (RL3 scr num) O (HL x y (rds (((b, w) :: t) :: l)) (rowV ((b, w) :: t) :: l.map rowV) []) = some ((none, RL3 scr num), HL x y (rds (((b, w) :: t) :: l)) (rowV ((b, w) :: t) :: l.map rowV) [.lst (badL b.k)])
  exact (Z0s) [] fun H => H _ _ (e)
theorem law_true (l : List Int) (hl : l.length <= 63) (n : Nat) (O : Z0c) : ∃ σ, Z0d cfg (n+35) (.fn 652) [.pv (.lst (l.map .int))] O [] = some (.pv (.bool true), σ) := by
 obtain ⟨x0, y0, hb0, e0⟩ := law_0 (O := O) l hl (n+14)
 obtain ⟨rs, x1, y1, num, R, h2, hb1, e1⟩ := law_1 (scr := .lst (l.map .int)) (O := O) (τ := []) hb0 (n+25)
 obtain ⟨τ, e2⟩ := law_2 (scr := .lst (l.map .int)) (O := O) R h2 x1 y1 num (n+23)
 obtain ⟨σ', ρ, e3⟩ := law_3 (O := O) (τ := τ) (scr := .lst (l.map .int)) (num := num) R hb1 n
 exact ⟨σ', call_ox (a := 652) (t := (some (.pv (.bool true)), ρ)) (by kernel_rfl) ((Z0m e0).trans ((Z0m e1).trans ((Z0m e2).trans (xs_ret e3))))⟩
end
theorem holds01 : PySem.Challenge.rw_pq0707_01.Holds := join fun l h => law_true l h 115 []
end Mine.Internal
end
set_option maxRecDepth 100000 in
theorem PySem.Challenge.cw_pq0707_01_holds : PySem.Challenge.rw_pq0707_01.Holds := by
  exact Mine.Internal.holds01
