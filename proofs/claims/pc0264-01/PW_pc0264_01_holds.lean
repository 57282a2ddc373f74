import PyProof.Rows.All
import Wide.All
import OpenK.AllK
import Wide.FinOn
import KE.KIsNot
import PySem.Challenge.RW_pc0264_01
open PySem PySem.W PySem.Calls PyProof.Rows PySem.Spec
set_option Elab.async false
set_option linter.unusedVariables false
set_option maxRecDepth 100000
set_option maxHeartbeats 0
set_option compiler.extract_closed false
noncomputable section
local macro_rules | `(tactic| omega) => `(tactic| first | (refine Nat.le_trans (m := 900) (by with_reducible assumption) ?_; exact Nat.le_of_ble_eq_true rfl) | lia)
/- H1 -/
namespace Mine.Internal
noncomputable abbrev thePw : Program := PySem.Challenge.pw_pc0264_01

noncomputable abbrev lw : OpenLaw := PySem.Challenge.rw_pc0264_01
theorem r1 : sreFenced thePw.main = true := by kernel_rfl
theorem r2 : ((moduleNames thePw.main.body).isEmpty || lookedIntoSs (moduleNames thePw.main.body) thePw.main.body) = true := by kernel_rfl
theorem r3 : namesResolve thePw = true := by kernel_rfl
theorem r4 : thePw.boundNames.all (fun n => !worldNames.contains n) = true := by kernel_rfl
theorem r5a : (["vars", "dir", "locals"] : List Str).filter (readsOut thePw thePw.main.body) = [] := by kernel_rfl
theorem r5b : (importedModules thePw.main.body).all cThrough.contains = true := by kernel_rfl
theorem r5 : noRoadLSs { strict := !(importedModules thePw.main.body).all cThrough.contains, foot := none, bare := (["vars", "dir", "locals"] : List Str).filter (readsOut thePw thePw.main.body) } thePw.main.body = true := by
  rw [r5a, r5b, PySem.W.Fast.te8326940854005059898]
  kernel_rfl
theorem r6 : (namesMeet thePw thePw.main.body fun _ n => attrL n) = true := by kernel_rfl
theorem r7 : thePw.boundNames.contains lw.name = true := by kernel_rfl
theorem r8 : (!startupNames.contains lw.name) = true := by kernel_rfl
theorem l2 : decide (lw.foot ≤ (behindTheImports lw.prog).length) = true := by kernel_rfl
theorem l3 : lw.footing.all footLine = true := by kernel_rfl
theorem l4 : noClassBlock lw.prog lw.footing = true := by kernel_rfl
theorem l7 : noRoadLSs { strict := true, foot := some lw.bound', writes := lw.writes, may := lw.may } lw.footing = true := by kernel_rfl
theorem l8 : defStands lw.about lw.above = true := by kernel_rfl
theorem l9 : lw.namesIt = true := by kernel_rfl
theorem l11 : lw.bound'.all (fun n => !builtinNamed n || lw.about == [n] || !lw.reads n) = true := by kernel_rfl
theorem l14 : (namesMeet lw.prog lw.footing (fun sc n => (!(["type", "isinstance", "issubclass", "getattr", "hasattr"] : List Str).contains n || sc.names.lookup n == some .globalImplicit) &&
    (lw.may != some n || sc.kind == .module || sc.names.lookup n == some .globalImplicit))) = true := by kernel_rfl
theorem l15 : lw.own.contains lw.name = true := by kernel_rfl
theorem l16 : (lw.own.eraseDups.length == lw.own.length) = true := by kernel_rfl
theorem l17 : lw.own.all (fun n => !builtinNamed n) = true := by kernel_rfl
theorem l18 : namesMeet lw.prog lw.above (fun _ n => !lw.own.contains n) = true := by kernel_rfl
theorem l19 : (namesMeet lw.prog lw.footing fun sc n => sc.kind == .module || sc.names.lookup n != some .globalExplicit) = true := by kernel_rfl
theorem prog_eq : lw.row.prog = thePw := rfl
theorem prog_eq' : lw.prog = thePw := rfl
theorem row_looks : looksOpen thePw = true := by
  unfold looksOpen
  exact look_both (look_both (look_both (look_both (look_both r1 r2) r3) r4) r5) r6
theorem row_part : lw.row.partSaid = true := by
  unfold OpenRow.partSaid
  rw [prog_eq]
  iterate 13 (refine look_both ?_ (by kernel_rfl))
  exact row_looks
theorem row_said : lw.row.wellSaid = true := by
  unfold OpenRow.wellSaid
  rw [prog_eq]
  exact look_both (look_both row_part r7) r8
theorem law_said : lw.wellSaid = true := by
  unfold OpenLaw.wellSaid
  refine look_both ?_ l19
  refine look_both ?_ l18
  refine look_both ?_ l17
  refine look_both ?_ l16
  refine look_both ?_ l15
  refine look_both ?_ l14
  refine look_both ?_ (by kernel_rfl)
  refine look_both ?_ (by kernel_rfl)
  refine look_both ?_ l11
  refine look_both ?_ (by kernel_rfl)
  refine look_both ?_ l9
  refine look_both ?_ l8
  refine look_both ?_ l7
  refine look_both ?_ (by kernel_rfl)
  refine look_both ?_ (by kernel_rfl)
  refine look_both ?_ l4
  refine look_both ?_ l3
  refine look_both ?_ l2
  exact row_said
theorem start (h : PySem.Challenge.rw_pc0264_01.row.wellSaid = true → PySem.Challenge.rw_pc0264_01.row.Holds) : PySem.Challenge.rw_pc0264_01.Holds := holds_law law_said h

/- ## The top's run over a tree of objects -/
noncomputable def runW (stp : SharedT → Thread → Option (SharedT × Thread)) (thr : Thread → Bool) (ok : Thread → Bool) : Nat → SharedT → Thread → Option SharedT
  | 0, _, _ => none
  | n + 1, s, t => match thr t with
    | true => some s
    | false => match ok t with
      | false => none
      | true => match stp s t with
        | some (s', t') => runW stp thr ok n s' t'
        | none => none
theorem runW_top {tb : String → Option Builtin} {p : Program} {w : World} {n₀ : Nat} {ann : Option Value} : ∀ {n : Nat} {s S : SharedT} {t : Thread},
    runW (stepT (denote tb) p w) through (stepOk n₀ ann) n s t = some S → topRun tb p w n₀ ann n s.abs t = some S.abs
  | 0, _, _, _, h => by cases h
  | n + 1, s, S, t, h => by
    unfold runW at h
    unfold topRun
    cases ht : through t with
    | true => rw [ht] at h; cases h; rfl
    | false =>
      rw [ht] at h
      cases hk : stepOk n₀ ann t with
      | false => rw [hk] at h; cases h
      | true =>
        rw [hk] at h
        cases hs : stepT (denote tb) p w s t with
        | none => rw [hs] at h; cases h
        | some r =>
          obtain ⟨s', t'⟩ := r
          rw [hs] at h
          rw [stepT_spec hs]
          exact runW_top h

theorem left_of {p q : Program} {loose : List Str} {Xt : Shared → Bool} {α : Type} {Yf : Shared → α} {Ya : World → α} {N : Nat} {H₀ : Params → Heap} {d₀ : Drawn} {k₀ m₀ : Nat} {ann : Option Value} {T₀ : World → OsState → SharedT}
    (open_ : ∀ w : World, (fencedOpening treeTable p w N).map (fun s => (s.heap, s.gens, s.drawn, s.toks)) = some (H₀ w.params, #[], d₀, k₀))
    (size : ∀ w : World, ((H₀ w.params).isNs mainGlobals && (#[] : Array GenState).size == 0, (H₀ w.params).objs.size, (H₀ w.params).nsMap mainGlobals "__annotations__") = (true, m₀, ann))
    (abs : ∀ w os, (T₀ w os).abs = ⟨H₀ w.params, #[], d₀, k₀, os⟩)
    (run : ∀ w : World, (fun os => (runW (stepT (denote treeTable) p w) through (stepOk m₀ ann) N (T₀ w os) (topStub p)).map fun S =>
      ((staticsOk (importedModules p.main.body) (H₀ w.params) S.abs.heap && namesBound p S.abs.heap && gensDone S.abs && laidKept (H₀ w.params) S.abs.heap),
       openSeen q loose (importedModules p.main.body) Xt true S.abs, Yf S.abs)) = fun _ => some (true, openGood q loose, Ya w)) : LeftO p q loose Xt Yf Ya N := by
  intro w
  obtain ⟨⟨h, gs, d, k, os⟩, e, e'⟩ := Option.map_eq_some_iff.mp (open_ w)
  obtain ⟨rfl, rfl, rfl, rfl⟩ : h = H₀ w.params ∧ gs = #[] ∧ d = d₀ ∧ k = k₀ := by simpa using e'
  obtain ⟨S, hr, hl⟩ := Option.map_eq_some_iff.mp (congrFun (run w) os)
  obtain ⟨l1, l2⟩ := Prod.mk.inj hl
  have r := runW_top hr
  rw [abs] at r
  obtain ⟨z1, z2, z3⟩ : _ ∧ _ ∧ _ := by simpa only [Prod.mk.injEq] using size w
  have t : topFrom treeTable p w N ⟨H₀ w.params, #[], d, k, os⟩ = some S.abs := by
    unfold topFrom
    dsimp only
    rw [z1, z2, z3, r]
    show (match staticsOk (importedModules p.main.body) (H₀ w.params) S.abs.heap && namesBound p S.abs.heap && gensDone S.abs && laidKept (H₀ w.params) S.abs.heap with | true => _ | false => _) = _
    rw [l1]
  unfold openEnds
  rw [e]
  show (topFrom treeTable p w N _).map _ = _
  rw [t]
  exact congrArg some l2

noncomputable def bootTree (P : Params) : BT := .node (boot_o_0 P) (.node (boot_o_1 P) (.node (boot_o_3 P) (.node (boot_o_7 P) .nil .nil) .nil) (.node (boot_o_5 P) (.node (boot_o_9 P) .nil .nil) .nil)) (.node (boot_o_2 P) (.node (boot_o_4 P) (.node (boot_o_8 P) .nil .nil) .nil) (.node (boot_o_6 P) (.node (boot_o_10 P) .nil .nil) .nil))
noncomputable def S0 (w : World) (os : OsState) : SharedT := ⟨bootTree w.params, 11, {}, #[], boot_drawn, boot_toks, os⟩
theorem S0_abs (w : World) (os : OsState) : (S0 w os).abs = ⟨boot_heap w.params, #[], boot_drawn, boot_toks, os⟩ := by kernel_rfl

/- the view: the law alone; every other name is loose -/
noncomputable abbrev qOf (p : Program) : Program := view p [100]
noncomputable def namesAt : List Stmt → List Str
  | [] => []
  | .FunctionDef n _ _ _ _ _ _ _ _ _ :: r => n :: namesAt r
  | .ClassDef n _ _ _ _ _ _ _ _ _ _ :: r => n :: namesAt r
  | _ :: r => namesAt r
noncomputable def looseOf (p : Program) : List Str := namesAt (p.main.body.take 100)

/- ## What the walk needs of the heap -/
noncomputable def stmtAt : List Stmt → Nat → Stmt
  | [], _ => .Pass default
  | s :: _, 0 => s
  | _ :: r, n + 1 => stmtAt r n
noncomputable def methAt (p : Program) (i j : Nat) : Stmt := match stmtAt p.main.body i with
  | .ClassDef _ _ _ b _ _ _ _ _ _ _ => stmtAt b j
  | s => s
noncomputable def methName : Stmt → Str
  | .FunctionDef n _ _ _ _ _ _ _ _ _ => n
  | _ => default
noncomputable def methArgs : Stmt → Arguments
  | .FunctionDef _ a _ _ _ _ _ _ _ _ => a
  | _ => ⟨[], [], none, [], [], none, []⟩
noncomputable def methBody : Stmt → List Stmt
  | .FunctionDef _ _ b _ _ _ _ _ _ _ => b
  | _ => []
noncomputable def methScope : Stmt → Scope
  | .FunctionDef _ _ _ _ _ _ s _ _ _ => s
  | _ => default
noncomputable def fnTab : List (Addr × Nat) := [(100, 7), (107, 8), (114, 9), (121, 11), (128, 12), (135, 13), (142, 14), (149, 15), (156, 16), (163, 17), (170, 18), (407, 39), (414, 40), (428, 43), (435, 45), (442, 46), (449, 47), (456, 48), (463, 49), (470, 50), (477, 51), (484, 52), (491, 53), (498, 54), (505, 55), (512, 56), (519, 57), (526, 58), (533, 59), (540, 60), (547, 61), (554, 62), (561, 63), (568, 64), (575, 65), (582, 66), (589, 67), (596, 68), (603, 69), (610, 70), (617, 71), (624, 72), (631, 73), (638, 74), (645, 75), (771, 81), (778, 82), (785, 83), (790, 84), (797, 85), (804, 86), (811, 87), (818, 88), (825, 89), (832, 90), (839, 91), (844, 92), (849, 93), (856, 94), (861, 95), (868, 96), (875, 97), (882, 98), (887, 99), (892, 100)]
noncomputable def nameTab : List (Str × Option Value) := [(Str.ofString "least", some (.ref 100)), (Str.ofString "greatest", some (.ref 107)), (Str.ofString "whole", some (.ref 114)), (Str.ofString "is_digit", some (.ref 121)), (Str.ofString "digits_behind", some (.ref 128)), (Str.ofString "digits_value", some (.ref 135)), (Str.ofString "signed", some (.ref 142)), (Str.ofString "exponent_behind", some (.ref 149)), (Str.ofString "blanks_behind", some (.ref 156)), (Str.ofString "numeric", some (.ref 163)), (Str.ofString "number_of", some (.ref 170)), (Str.ofString "kind", some (.ref 407)), (Str.ofString "given", some (.ref 414)), (Str.ofString "to_int", some (.ref 428)), (Str.ofString "digit_value", some (.ref 435)), (Str.ofString "is_blank", some (.ref 442)), (Str.ofString "has_mark", some (.ref 449)), (Str.ofString "base_at", some (.ref 456)), (Str.ofString "strtol", some (.ref 463)), (Str.ofString "without_mark", some (.ref 470)), (Str.ofString "int_in_base", some (.ref 477)), (Str.ofString "based_text", some (.ref 484)), (Str.ofString "number_in_base", some (.ref 491)), (Str.ofString "php_is_numeric", some (.ref 498)), (Str.ofString "php_intval", some (.ref 505)), (Str.ofString "php_dechex", some (.ref 512)), (Str.ofString "php_decbin", some (.ref 519)), (Str.ofString "php_decoct", some (.ref 526)), (Str.ofString "php_hexdec", some (.ref 533)), (Str.ofString "php_bindec", some (.ref 540)), (Str.ofString "php_octdec", some (.ref 547)), (Str.ofString "is_of_kind", some (.ref 554)), (Str.ofString "all_of_kind", some (.ref 561)), (Str.ofString "php_ctype_digit", some (.ref 568)), (Str.ofString "php_ctype_alpha", some (.ref 575)), (Str.ofString "php_ctype_alnum", some (.ref 582)), (Str.ofString "php_ctype_upper", some (.ref 589)), (Str.ofString "php_ctype_lower", some (.ref 596)), (Str.ofString "php_ctype_space", some (.ref 603)), (Str.ofString "php_ctype_punct", some (.ref 610)), (Str.ofString "php_ctype_xdigit", some (.ref 617)), (Str.ofString "php_chr", some (.ref 624)), (Str.ofString "php_ord", some (.ref 631)), (Str.ofString "php_bin2hex", some (.ref 638)), (Str.ofString "php_hex2bin", some (.ref 645)), (Str.ofString "_law_text", some (.ref 771)), (Str.ofString "_law_worth", some (.ref 778)), (Str.ofString "_law_row", some (.ref 785)), (Str.ofString "_law_sum", some (.ref 790)), (Str.ofString "_law_signed", some (.ref 797)), (Str.ofString "_law_nearest", some (.ref 804)), (Str.ofString "_law_by_base", some (.ref 811)), (Str.ofString "_law_parts", some (.ref 818)), (Str.ofString "_law_int", some (.ref 825)), (Str.ofString "_law_is_number", some (.ref 832)), (Str.ofString "_law_intval", some (.ref 839)), (Str.ofString "_law_decoded", some (.ref 844)), (Str.ofString "_law_bits", some (.ref 849)), (Str.ofString "_law_is_of", some (.ref 856)), (Str.ofString "_law_ctype", some (.ref 861)), (Str.ofString "_law_told", some (.ref 868)), (Str.ofString "_law_is_read", some (.ref 875)), (Str.ofString "_law_is_shown", some (.ref 882)), (Str.ofString "_law_is_hex", some (.ref 887)), (Str.ofString "law", some (.ref 892)), (Str.ofString "LeftOut", some (.ref 51)), (Str.ofString "Arr", some (.ref 316)), (Str.ofString "Obj", some (.ref 231)), (Str.ofString "Host", some (.ref 762)), (Str.ofString "Frame", some (.ref 663)), (Str.ofString "len", none), (Str.ofString "ord", none), (Str.ofString "chr", none), (Str.ofString "max", none), (Str.ofString "min", none), (Str.ofString "sum", none), (Str.ofString "all", none), (Str.ofString "range", none), (Str.ofString "enumerate", none), (Str.ofString "isinstance", none), (Str.ofString "bool", none), (Str.ofString "int", none), (Str.ofString "str", none), (Str.ofString "Exception", none)]
noncomputable def kObjs (p : Program) (P : Params) : Frag := [
  (38, { cls := .type "type", data := .cls { name := Str.ofString "PhpFault", bases := [.type "Exception"], mro := [.ref 38, .type "Exception", .type "BaseException", .type "object"], ns := 37, qualname := Str.ofString "PhpFault", subclasses := [.ref 51, .ref 63] }, slots := #[some (.ref 22), none, some (.str (Str.ofString "PhpFault") 196), some (.str (Str.ofString "PhpFault") 204), some (.builtin "Exception.__new__"), some (.bool true)] }),
  (37, { cls := .type "dict", data := .dict #[{ hash := PyData.keyHash P (Str.ofString "__module__"), key := .str (Str.ofString "__module__") 203, val := .str (Str.ofString "phpcore.faults") 194 }, { hash := PyData.keyHash P (Str.ofString "__firstlineno__"), key := .str (Str.ofString "__firstlineno__") 207, val := .int 5 206 }, { hash := PyData.keyHash P (Str.ofString "__init__"), key := .str (Str.ofString "__init__") 215, val := .ref 35 }, { hash := PyData.keyHash P (Str.ofString "__static_attributes__"), key := .str (Str.ofString "__static_attributes__") 217, val := .ref 36 }, { hash := PyData.keyHash P (Str.ofString "__weakref__"), key := .str (Str.ofString "__weakref__") 219, val := .ref 39 }, { hash := PyData.keyHash P (Str.ofString "__doc__"), key := .str (Str.ofString "__doc__") 220, val := .none }] 3 }),
  (51, { cls := .type "type", data := .cls { name := Str.ofString "LeftOut", bases := [.ref 38], mro := [.ref 51, .ref 38, .type "Exception", .type "BaseException", .type "object"], ns := 50, qualname := Str.ofString "LeftOut" }, slots := #[some (.ref 42), none, some (.str (Str.ofString "LeftOut") 225), some (.str (Str.ofString "LeftOut") 233), some (.builtin "Exception.__new__"), some (.bool true)] }),
  (50, { cls := .type "dict", data := .dict #[{ hash := PyData.keyHash P (Str.ofString "__module__"), key := .str (Str.ofString "__module__") 232, val := .str (Str.ofString "phpcore.faults") 194 }, { hash := PyData.keyHash P (Str.ofString "__firstlineno__"), key := .str (Str.ofString "__firstlineno__") 236, val := .int 10 235 }, { hash := PyData.keyHash P (Str.ofString "__static_attributes__"), key := .str (Str.ofString "__static_attributes__") 237, val := .ref 49 }, { hash := PyData.keyHash P (Str.ofString "__doc__"), key := .str (Str.ofString "__doc__") 238, val := .none }] 2 }),
  (316, { cls := .type "type", data := .cls { name := Str.ofString "Arr", bases := [.type "object"], mro := [.ref 316, .type "object"], ns := 315, qualname := Str.ofString "Arr" }, slots := #[none, none, some (.str (Str.ofString "Arr") 503), some (.str (Str.ofString "Arr") 511), some (.builtin "object.__new__"), some (.bool true)] }),
  (315, { cls := .type "dict", data := .dict #[{ hash := PyData.keyHash P (Str.ofString "__module__"), key := .str (Str.ofString "__module__") 510, val := .str (Str.ofString "phpcore.table") 501 }, { hash := PyData.keyHash P (Str.ofString "__firstlineno__"), key := .str (Str.ofString "__firstlineno__") 514, val := .int 117 513 }, { hash := PyData.keyHash P (Str.ofString "__init__"), key := .str (Str.ofString "__init__") 523, val := .ref 257 }, { hash := PyData.keyHash P (Str.ofString "find"), key := .str (Str.ofString "find") 532, val := .ref 264 }, { hash := PyData.keyHash P (Str.ofString "has"), key := .str (Str.ofString "has") 540, val := .ref 271 }, { hash := PyData.keyHash P (Str.ofString "slot"), key := .str (Str.ofString "slot") 549, val := .ref 278 }, { hash := PyData.keyHash P (Str.ofString "get"), key := .str (Str.ofString "get") 557, val := .ref 285 }, { hash := PyData.keyHash P (Str.ofString "put"), key := .str (Str.ofString "put") 566, val := .ref 292 }, { hash := PyData.keyHash P (Str.ofString "append"), key := .str (Str.ofString "append") 575, val := .ref 299 }, { hash := PyData.keyHash P (Str.ofString "drop"), key := .str (Str.ofString "drop") 583, val := .ref 306 }, { hash := PyData.keyHash P (Str.ofString "key_at"), key := .str (Str.ofString "key_at") 591, val := .ref 313 }, { hash := PyData.keyHash P (Str.ofString "__static_attributes__"), key := .str (Str.ofString "__static_attributes__") 603, val := .ref 314 }, { hash := PyData.keyHash P (Str.ofString "__dict__"), key := .str (Str.ofString "__dict__") 605, val := .ref 317 }, { hash := PyData.keyHash P (Str.ofString "__weakref__"), key := .str (Str.ofString "__weakref__") 607, val := .ref 318 }, { hash := PyData.keyHash P (Str.ofString "__doc__"), key := .str (Str.ofString "__doc__") 608, val := .none }] 4 }),
  (663, { cls := .type "type", data := .cls { name := Str.ofString "Frame", bases := [.type "object"], mro := [.ref 663, .type "object"], ns := 662, qualname := Str.ofString "Frame" }, slots := #[none, none, some (.str (Str.ofString "Frame") 1024), some (.str (Str.ofString "Frame") 1032), some (.builtin "object.__new__"), some (.bool true)] }),
  (662, { cls := .type "dict", data := .dict #[{ hash := PyData.keyHash P (Str.ofString "__module__"), key := .str (Str.ofString "__module__") 1031, val := .str (Str.ofString "phpcore.frames") 1022 }, { hash := PyData.keyHash P (Str.ofString "__firstlineno__"), key := .str (Str.ofString "__firstlineno__") 1035, val := .int 432 1034 }, { hash := PyData.keyHash P (Str.ofString "__init__"), key := .str (Str.ofString "__init__") 1046, val := .ref 660 }, { hash := PyData.keyHash P (Str.ofString "__static_attributes__"), key := .str (Str.ofString "__static_attributes__") 1053, val := .ref 661 }, { hash := PyData.keyHash P (Str.ofString "__dict__"), key := .str (Str.ofString "__dict__") 1055, val := .ref 664 }, { hash := PyData.keyHash P (Str.ofString "__weakref__"), key := .str (Str.ofString "__weakref__") 1057, val := .ref 665 }, { hash := PyData.keyHash P (Str.ofString "__doc__"), key := .str (Str.ofString "__doc__") 1058, val := .none }] 4 }),
  (762, { cls := .type "type", data := .cls { name := Str.ofString "Host", bases := [.type "object"], mro := [.ref 762, .type "object"], ns := 761, qualname := Str.ofString "Host" }, slots := #[none, none, some (.str (Str.ofString "Host") 1063), some (.str (Str.ofString "Host") 1071), some (.builtin "object.__new__"), some (.bool true)] }),
  (761, { cls := .type "dict", data := .dict #[{ hash := PyData.keyHash P (Str.ofString "__module__"), key := .str (Str.ofString "__module__") 1070, val := .str (Str.ofString "phpcore.host") 1061 }, { hash := PyData.keyHash P (Str.ofString "__firstlineno__"), key := .str (Str.ofString "__firstlineno__") 1074, val := .int 442 1073 }, { hash := PyData.keyHash P (Str.ofString "__init__"), key := .str (Str.ofString "__init__") 1084, val := .ref 682 }, { hash := PyData.keyHash P (Str.ofString "tool"), key := .str (Str.ofString "tool") 1092, val := .ref 689 }, { hash := PyData.keyHash P (Str.ofString "warn"), key := .str (Str.ofString "warn") 1101, val := .ref 696 }, { hash := PyData.keyHash P (Str.ofString "echo"), key := .str (Str.ofString "echo") 1109, val := .ref 703 }, { hash := PyData.keyHash P (Str.ofString "spend"), key := .str (Str.ofString "spend") 1116, val := .ref 710 }, { hash := PyData.keyHash P (Str.ofString "eval"), key := .str (Str.ofString "eval") 1124, val := .ref 717 }, { hash := PyData.keyHash P (Str.ofString "exec"), key := .str (Str.ofString "exec") 1132, val := .ref 724 }, { hash := PyData.keyHash P (Str.ofString "call"), key := .str (Str.ofString "call") 1141, val := .ref 731 }, { hash := PyData.keyHash P (Str.ofString "method"), key := .str (Str.ofString "method") 1151, val := .ref 738 }, { hash := PyData.keyHash P (Str.ofString "new_handle"), key := .str (Str.ofString "new_handle") 1158, val := .ref 745 }, { hash := PyData.keyHash P (Str.ofString "enter"), key := .str (Str.ofString "enter") 1165, val := .ref 752 }, { hash := PyData.keyHash P (Str.ofString "leave"), key := .str (Str.ofString "leave") 1172, val := .ref 759 }, { hash := PyData.keyHash P (Str.ofString "__static_attributes__"), key := .str (Str.ofString "__static_attributes__") 1193, val := .ref 760 }, { hash := PyData.keyHash P (Str.ofString "__dict__"), key := .str (Str.ofString "__dict__") 1195, val := .ref 763 }, { hash := PyData.keyHash P (Str.ofString "__weakref__"), key := .str (Str.ofString "__weakref__") 1197, val := .ref 764 }, { hash := PyData.keyHash P (Str.ofString "__doc__"), key := .str (Str.ofString "__doc__") 1198, val := .none }] 4 }),
  (34, { cls := .type "code", data := .fields #[.str (Str.ofString "__init__") 208, .str (Str.ofString "PhpFault.__init__") 209, .str (Str.ofString "/claim/cut.py") 210, .int 7 0, .int 2 0, .int 0 0, .int 0 0, .int 3 0, .ref 29, .bool true, .int 181 0, .ref 30, .none, .ref 31, .ref 32, .ref 33, .int 213 0, .int 7 0, .str (Str.ofString "/claim/cut.py") 214] }),
  (256, { cls := .type "code", data := .fields #[.str (Str.ofString "__init__") 516, .str (Str.ofString "Arr.__init__") 517, .str (Str.ofString "/claim/cut.py") 518, .int 119 0, .int 2 0, .int 0 0, .int 0 0, .int 3 0, .ref 251, .bool true, .int 181 0, .ref 252, .none, .ref 253, .ref 254, .ref 255, .int 521 0, .int 119 0, .str (Str.ofString "/claim/cut.py") 522] }),
  (659, { cls := .type "code", data := .fields #[.str (Str.ofString "__init__") 1036, .str (Str.ofString "Frame.__init__") 1037, .str (Str.ofString "/claim/cut.py") 1038, .int 434 0, .int 5 0, .int 0 0, .int 0 0, .int 3 0, .ref 654, .bool true, .int 181 0, .ref 655, .none, .ref 656, .ref 657, .ref 658, .int 1044 0, .int 434 0, .str (Str.ofString "/claim/cut.py") 1045] }),
  (681, { cls := .type "code", data := .fields #[.str (Str.ofString "__init__") 1076, .str (Str.ofString "Host.__init__") 1077, .str (Str.ofString "/claim/cut.py") 1078, .int 444 0, .int 3 0, .int 0 0, .int 0 0, .int 3 0, .ref 676, .bool true, .int 181 0, .ref 677, .none, .ref 678, .ref 679, .ref 680, .int 1082 0, .int 444 0, .str (Str.ofString "/claim/cut.py") 1083] }),
  (695, { cls := .type "code", data := .fields #[.str (Str.ofString "warn") 1093, .str (Str.ofString "Host.warn") 1094, .str (Str.ofString "/claim/cut.py") 1095, .int 471 0, .int 3 0, .int 0 0, .int 0 0, .int 3 0, .ref 690, .bool true, .int 181 0, .ref 691, .none, .ref 692, .ref 693, .ref 694, .int 1099 0, .int 471 0, .str (Str.ofString "/claim/cut.py") 1100] }),
  (250, { cls := .type "tuple", data := .seq #[.int 8 515] }),
  (653, { cls := .type "tuple", data := .seq #[.none, .none, .none, .none] }),
  (675, { cls := .type "tuple", data := .seq #[.int 12 1075, .none] }),
  (231, { cls := .type "type", data := .cls { name := Str.ofString "Obj", bases := [.type "object"], mro := [.ref 231, .type "object"], ns := 230, qualname := Str.ofString "Obj" }, slots := #[none, none, some (.str (Str.ofString "Obj") 458), some (.str (Str.ofString "Obj") 466), some (.builtin "object.__new__"), some (.bool true)] }),
  (230, { cls := .type "dict", data := .dict #[{ hash := PyData.keyHash P (Str.ofString "__module__"), key := .str (Str.ofString "__module__") 465, val := .str (Str.ofString "phpcore.slots") 396 }, { hash := PyData.keyHash P (Str.ofString "__firstlineno__"), key := .str (Str.ofString "__firstlineno__") 469, val := .int 100 468 }, { hash := PyData.keyHash P (Str.ofString "__init__"), key := .str (Str.ofString "__init__") 478, val := .ref 228 }, { hash := PyData.keyHash P (Str.ofString "__static_attributes__"), key := .str (Str.ofString "__static_attributes__") 486, val := .ref 229 }, { hash := PyData.keyHash P (Str.ofString "__dict__"), key := .str (Str.ofString "__dict__") 488, val := .ref 232 }, { hash := PyData.keyHash P (Str.ofString "__weakref__"), key := .str (Str.ofString "__weakref__") 490, val := .ref 233 }, { hash := PyData.keyHash P (Str.ofString "__doc__"), key := .str (Str.ofString "__doc__") 491, val := .none }] 4 }),
  (35, { cls := .type "function", data := .func { name := methName (methAt p 2 0), qualname := Str.ofString "PhpFault.__init__", params := methArgs (methAt p 2 0), body := .stmts (methBody (methAt p 2 0)), scope := methScope (methAt p 2 0), globals := mainGlobals, closure := [], defaults := .none, kwdefaults := .none, pyModule := .str (Str.ofString "phpcore.faults") 194, code := .ref 34, builtins := builtinsNs } }),
  (257, { cls := .type "function", data := .func { name := methName (methAt p 25 0), qualname := Str.ofString "Arr.__init__", params := methArgs (methAt p 25 0), body := .stmts (methBody (methAt p 25 0)), scope := methScope (methAt p 25 0), globals := mainGlobals, closure := [], defaults := .ref 250, kwdefaults := .none, pyModule := .str (Str.ofString "phpcore.table") 501, code := .ref 256, builtins := builtinsNs } }),
  (660, { cls := .type "function", data := .func { name := methName (methAt p 77 0), qualname := Str.ofString "Frame.__init__", params := methArgs (methAt p 77 0), body := .stmts (methBody (methAt p 77 0)), scope := methScope (methAt p 77 0), globals := mainGlobals, closure := [], defaults := .ref 653, kwdefaults := .none, pyModule := .str (Str.ofString "phpcore.frames") 1022, code := .ref 659, builtins := builtinsNs } }),
  (682, { cls := .type "function", data := .func { name := methName (methAt p 79 0), qualname := Str.ofString "Host.__init__", params := methArgs (methAt p 79 0), body := .stmts (methBody (methAt p 79 0)), scope := methScope (methAt p 79 0), globals := mainGlobals, closure := [], defaults := .ref 675, kwdefaults := .none, pyModule := .str (Str.ofString "phpcore.host") 1061, code := .ref 681, builtins := builtinsNs } }),
  (696, { cls := .type "function", data := .func { name := methName (methAt p 79 2), qualname := Str.ofString "Host.warn", params := methArgs (methAt p 79 2), body := .stmts (methBody (methAt p 79 2)), scope := methScope (methAt p 79 2), globals := mainGlobals, closure := [], defaults := .none, kwdefaults := .none, pyModule := .str (Str.ofString "phpcore.host") 1061, code := .ref 695, builtins := builtinsNs } })]
noncomputable def kAddrs : List Addr := [38, 37, 51, 50, 316, 315, 663, 662, 762, 761, 34, 256, 659, 681, 695, 250, 653, 675, 231, 230, 35, 257, 660, 682, 696]

structure FnV where
  qual : Str
  params : Arguments
  body : List Stmt
  scope : Scope
  globals : Addr
  closure : List (Str × Addr)
  defaults : Value
  builtins : Addr
  coded : Option Str
noncomputable def codeName (h : Heap) : Value → Option Str
  | .ref c => match h.get? c with
    | some ⟨_, _, .fields vs, _⟩ => match vs.toList with
      | _ :: .str n _ :: _ => some n
      | _ => none
    | _ => none
  | _ => none
noncomputable def fnView (h : Heap) (a : Addr) : Option FnV := match h.get? a with
  | some ⟨_, _, .func f, _⟩ => match f.body with
    | .stmts b => some ⟨f.qualname, f.params, b, f.scope, f.globals, f.closure, f.defaults, f.builtins, codeName h f.code⟩
    | _ => none
  | _ => none
noncomputable def fnWant : Stmt → Option FnV
  | .FunctionDef n a b _ _ _ s _ _ _ => some ⟨n, a, b, s, mainGlobals, [], .none, builtinsNs, some n⟩
  | _ => none

noncomputable def mapB {α β : Type} (f : α → β) : List α → List β
  | [] => []
  | a :: l => f a :: mapB f l
theorem mapB_eq {α β : Type} {f : α → β} : ∀ {l : List α}, mapB f l = l.map f
  | [] => rfl
  | _ :: _ => congrArg (f _ :: ·) mapB_eq
noncomputable abbrev Obs := List (Option FnV) × List (Option Value) × List (Option Obj) × Bool
noncomputable def obsF (s : Shared) : Obs := (fnTab.map fun x => fnView s.heap x.1, nameTab.map fun x => s.heap.nsMap mainGlobals x.1, kAddrs.map s.heap.get?, s.heap.isNs mainGlobals)
noncomputable def obsA (p : Program) (w : World) : Obs := (mapB (fun x => fnWant (stmtAt p.main.body x.2)) fnTab, mapB (·.2) nameTab, mapB (fun x => some x.2) (kObjs p w.params), true)

noncomputable def runs (w : World) (os : OsState) : Option SharedT := runW (stepT (denote treeTable) thePw w) through (stepOk 11 (some (.ref 6))) 6000 (S0 w os) (topStub thePw)
theorem ran1 (w : World) : (fun os => (runs w os).map fun S =>
      ((staticsOk (importedModules thePw.main.body) (boot_heap w.params) S.abs.heap && namesBound thePw S.abs.heap && gensDone S.abs && laidKept (boot_heap w.params) S.abs.heap),
       openSeen (qOf thePw) (looseOf thePw) (importedModules thePw.main.body) (fun _ => true) true S.abs)) = fun _ => some (true, openGood (qOf thePw) (looseOf thePw)) := by
  unfold runs
  rw [PySem.W.Fast.te10156331382660048174, PySem.W.Fast.te11892475500146522536, PySem.W.Fast.te14364793385576792824, PySem.W.Fast.te6613529449190102663, PySem.W.Fast.te5923862056798008813, PySem.W.Fast.te4187177175401517315]
  kernel_rfl
theorem ran2 (w : World) : (fun os => (runs w os).map fun S => fnTab.map fun x => fnView S.abs.heap x.1) = fun _ => some (mapB (fun x => fnWant (stmtAt thePw.main.body x.2)) fnTab) := by
  unfold runs
  rw [PySem.W.Fast.te10156331382660048174, PySem.W.Fast.te11892475500146522536, PySem.W.Fast.te14364793385576792824, PySem.W.Fast.te6613529449190102663]
  kernel_rfl
theorem ran3 (w : World) : (fun os => (runs w os).map fun S => (nameTab.map fun x => S.abs.heap.nsMap mainGlobals x.1, kAddrs.map S.abs.heap.get?, S.abs.heap.isNs mainGlobals)) = fun _ => some (mapB (·.2) nameTab, mapB (fun x => some x.2) (kObjs thePw w.params), true) := by
  unfold runs
  rw [PySem.W.Fast.te10156331382660048174, PySem.W.Fast.te11892475500146522536, PySem.W.Fast.te14364793385576792824, PySem.W.Fast.te6613529449190102663, PySem.W.Fast.te8920871248978507458]
  kernel_rfl
theorem map4 {α β γ δ ε ζ : Type} {R : ε → Option α} {f : α → β × γ} {g : α → δ} {h : α → ζ} {a : β × γ} {b : δ} {c : ζ} (x : (fun o => (R o).map f) = fun _ => some a) (y : (fun o => (R o).map g) = fun _ => some b) (z : (fun o => (R o).map h) = fun _ => some c) :
    (fun o => (R o).map fun s => ((f s).1, (f s).2, g s, h s)) = fun _ => some (a.1, a.2, b, c) := by
  funext o
  obtain ⟨s, e, e1⟩ := Option.map_eq_some_iff.mp (congrFun x o)
  have e2 := congrFun y o
  have e3 := congrFun z o
  rw [e] at e2 e3
  rw [← e1, ← Option.some.inj e2, ← Option.some.inj e3]
  exact congrArg (Option.map _) e
theorem ran (w : World) : (fun os => (runW (stepT (denote treeTable) thePw w) through (stepOk 11 (some (.ref 6))) 6000 (S0 w os) (topStub thePw)).map fun S =>
      ((staticsOk (importedModules thePw.main.body) (boot_heap w.params) S.abs.heap && namesBound thePw S.abs.heap && gensDone S.abs && laidKept (boot_heap w.params) S.abs.heap),
       openSeen (qOf thePw) (looseOf thePw) (importedModules thePw.main.body) (fun _ => true) true S.abs, obsF S.abs)) = fun _ => some (true, openGood (qOf thePw) (looseOf thePw), obsA thePw w) := map4 (ran1 w) (ran2 w) (ran3 w)

theorem size0 (w : World) : ((boot_heap w.params).isNs mainGlobals && (#[] : Array GenState).size == 0, (boot_heap w.params).objs.size, (boot_heap w.params).nsMap mainGlobals "__annotations__") = (true, 11, some (.ref 6)) := by
  rw [PySem.W.Fast.te8920871248978507458]
  kernel_rfl
theorem open0 (w : World) : (fencedOpening treeTable thePw w 6000).map (fun s => (s.heap, s.gens, s.drawn, s.toks)) = some (boot_heap w.params, #[], boot_drawn, boot_toks) := boot_open (p := thePw) (N := 6000) rfl rfl (fun _ => rfl) w
theorem left : LeftO thePw (qOf thePw) (looseOf thePw) (fun _ => true) obsF (obsA thePw) 6000 := left_of open0 size0 S0_abs ran

/- a def stands at an address -/
structure FnIs (h : Heap) (a : Addr) (f : FnV) : Prop where
  at_ : ∃ (o : Obj) (fd : FuncData), h.get? a = some o ∧ o.data = .func fd ∧ fd.qualname = f.qual ∧ fd.params = f.params ∧ fd.body = .stmts f.body ∧ fd.scope = f.scope ∧ fd.globals = f.globals ∧ fd.closure = f.closure ∧ fd.defaults = f.defaults ∧
    fd.builtins = f.builtins ∧ ∀ n, f.coded = some n → h.CodeRec fd.code n
theorem codeRec_of_name {h : Heap} {v : Value} {n : Str} (e : codeName h v = some n) : h.CodeRec v n := by
  unfold codeName at e
  split at e
  · split at e
    · rename_i vs _ ho
      split at e
      · rename_i a m t r hv
        cases e
        exact ⟨_, _, vs, t, rfl, ho, rfl, by rw [← Array.getElem?_toList, hv]; rfl⟩
      · cases e
    · cases e
  · cases e
theorem fnIs_of {h : Heap} {a : Addr} {f : FnV} (e : fnView h a = some f) : FnIs h a f := by
  unfold fnView at e
  split at e
  · rename_i c d fd sl ho
    split at e
    · rename_i b hb
      cases e
      exact ⟨_, fd, ho, rfl, rfl, rfl, hb, rfl, rfl, rfl, rfl, rfl, fun n hn => codeRec_of_name hn⟩
    · cases e
  · cases e
theorem FnIs.keeps {h h' : Heap} {a : Addr} {f : FnV} (x : FnIs h a f) (k : ∀ b o, h.get? b = some o → h'.get? b = some o) : FnIs h' a f := by
  obtain ⟨o, fd, h1, h2, h3, h4, h5, h6, h7, h8, h9, h10, h11⟩ := x.at_
  exact ⟨o, fd, k _ _ h1, h2, h3, h4, h5, h6, h7, h8, h9, h10, fun n hn => (h11 n hn).keeps k⟩

/- what the walk leans on -/
structure Facts (p : Program) (w : World) (h : Heap) : Prop where
  fn : ∀ x ∈ fnTab, ∀ f, fnWant (stmtAt p.main.body x.2) = some f → FnIs h x.1 f
  names : ∃ m, h.Ns mainGlobals m ∧ ∀ x ∈ nameTab, m x.1 = x.2
  objs : Frag.In (kObjs p w.params) h
theorem Facts.keeps {p : Program} {w : World} {h h' : Heap} (x : Facts p w h) (k : ∀ b o, h.get? b = some o → h'.get? b = some o) : Facts p w h' :=
  ⟨fun y hy f hf => (x.fn y hy f hf).keeps k, let ⟨m, h1, h2⟩ := x.names; ⟨m, h1.keeps k, h2⟩, x.objs.keeps k⟩
theorem map_mem {α β : Type} {f g : α → β} {l : List α} (e : l.map f = l.map g) : ∀ x ∈ l, f x = g x := List.map_inj_left.mp e
theorem zip_in {h : Heap} {as : List Addr} {K : Frag} (e : as = K.map (·.1)) (q : as.map h.get? = K.map (fun x => some x.2)) : ∀ x ∈ K, h.get? x.1 = some x.2 := by
  rw [e, List.map_map] at q
  exact List.map_inj_left.mp q
theorem facts_of (p : Program) (w : World) (s : Shared) (e : obsF s = obsA p w) : Facts p w s.heap := by
  have e1 : (fnTab.map fun x => fnView s.heap x.1) = fnTab.map fun x => fnWant (stmtAt p.main.body x.2) := (congrArg (fun x => x.1) e).trans mapB_eq
  have e2 : (nameTab.map fun x => s.heap.nsMap mainGlobals x.1) = nameTab.map (·.2) := (congrArg (fun x => x.2.1) e).trans mapB_eq
  have e3 : kAddrs.map s.heap.get? = (kObjs p w.params).map fun x => some x.2 := (congrArg (fun x => x.2.2.1) e).trans mapB_eq
  have e4 : s.heap.isNs mainGlobals = true := congrArg (fun x => x.2.2.2) e
  refine ⟨fun x hx f hf => fnIs_of ((map_mem e1 x hx).trans hf), ⟨_, .of_isNs e4, fun x hx => map_mem e2 x hx⟩, fun a o hl => ?_⟩
  have : ∀ x ∈ kObjs p w.params, s.heap.get? x.1 = some x.2 := zip_in (K := kObjs p w.params) rfl e3
  have mem : ∀ {K : Frag} {a : Addr} {o : Obj}, K.lookup a = some o → (a, o) ∈ K := by
    intro K
    induction K with
    | nil => intro a o h; cases h
    | cons q K ih =>
      intro a o h
      rw [List.lookup_cons] at h
      cases hq : a == q.1 with
      | true => rw [hq] at h; cases h; rw [eq_of_beq hq]; exact .head _
      | false => rw [hq] at h; exact .tail _ (ih h)
  exact this _ (mem hl)

theorem head (walk : ∀ (d : DefRec) (kwd : List (Str × Expr)), defOf (qOf thePw) PySem.Challenge.rw_pc0264_01.row.name = some (d, kwd) → WalkO (qOf thePw) (looseOf thePw) (fun _ _ => True) (Facts thePw) PySem.Challenge.rw_pc0264_01.row.toRowW d kwd fun f vs => PySem.call f vs) :
    PySem.Challenge.rw_pc0264_01.Holds := by
  refine start fun k1 => ?_
  have hdef : ∃ d kwd, defOf (qOf thePw) PySem.Challenge.rw_pc0264_01.row.name = some (d, kwd) ∧ thePw.theDef PySem.Challenge.rw_pc0264_01.row.name = some (d.params, d.body, d.scope) ∧ kwWritten? d.params.kwonlyargs d.params.kw_defaults = some kwd := ⟨_, _, by rfl, by rfl, by rfl⟩
  obtain ⟨d, kwd, h1, h2, h3⟩ := hdef
  exact holds_open (r := PySem.Challenge.rw_pc0264_01.row) (q := qOf thePw) (loose := looseOf thePw) (Xt := fun _ => true) (XP := fun _ _ => True) (Yf := obsF) (Ya := obsA thePw) (YP := Facts thePw) (N := 6000) left (facts_of thePw) (fun _ _ _ x k => x.keeps k)
    (fun _ _ => trivial) (fun _ _ _ _ _ => trivial) h1 h2 h3 (fun s _ => recFacts_nil rfl) rfl k1 (by decide +kernel) ⟨rfl, rfl, rfl, rfl, rfl, by decide +kernel⟩ (by w_witness2) (walk d kwd h1)
end Mine.Internal
/- G1 -/
namespace Mine.Internal

/- ## Plain values -/
inductive PV where
  | none
  | bool (b : Bool)
  | int (i : Int)
  | str (l : List Nat)
  | tup (l : List PV)
  | lst (l : List PV)
  | mref (i : Nat)
  | host (i : Nat)
  | inst (c : Addr)
  | slf (c : Addr) (j : Nat) (x : Addr)
  | nlst (x : Addr)
  | any
  | raw (v : Value)
inductive MO where
  | lst (l : List PV)
  | dct (ks : List (List Nat)) (vs : List PV)
  | dic (D : Obj → List (Str × Value) → Prop) (ks : List (List Nat)) (vs : List PV)
noncomputable abbrev Sto := List MO
noncomputable abbrev Rho := List (Option PV)
inductive R (α : Type) where
  | bad
  | val (a : α) (σ : Sto)
  | exc (σ : Sto)
noncomputable abbrev toStr (l : List Nat) : Str := ⟨l.toArray⟩

noncomputable def LstD (h : Heap) (a : Addr) (its : Array Value) : Prop := ∃ o, h.get? a = some o ∧ o.cls = .type "list" ∧ ∃ n, o.data = .seq its n ∧ o.dict = none
theorem LstD.isList {h : Heap} {a : Addr} {its : Array Value} (x : LstD h a its) : h.IsList a its := let ⟨o, e, c, n, d, _⟩ := x; ⟨o, e, c, n, d⟩
mutual
inductive Rep (h : Heap) (ad av : List Addr) : Value → PV → Prop
  | none : Rep h ad av .none .none
  | bool (b : Bool) : Rep h ad av (.bool b) (.bool b)
  | int (i : Int) (t : Tok) : Rep h ad av (.int i t) (.int i)
  | str (l : List Nat) (t : Tok) : Rep h ad av (.str (toStr l) t) (.str l)
  | tup {a : Addr} {vs : List Value} {xs : List PV} : h.IsTuple a vs.toArray → a ∉ av → Reps h ad av vs xs → Rep h ad av (.ref a) (.tup xs)
  | lst {a : Addr} {vs : List Value} {xs : List PV} : h.IsList a vs.toArray → a ∉ av → Reps h ad av vs xs → Rep h ad av (.ref a) (.lst xs)
  | mref {i : Nat} {a : Addr} : ad[i]? = some a → Rep h ad av (.ref a) (.mref i)
  | host {i : Nat} {a nl d : Addr} {es : List DictEntry} {n : Nat} {t : Tok} : ad[i]? = some nl → h.get? a = some (instObj 762 d) → a ∉ av → h.get? d = some (dictOf es n) → d ∉ av →
      getL "notes" es = some (some (.ref nl)) → getL "silent" es = some (some (.int 0 t)) → getL "warn" es = some none → Rep h ad av (.ref a) (.host i)
  | inst {a c d : Addr} {o od : Obj} {es : Array DictEntry} {n : Nat} : h.get? a = some o → o.data = .plain → o.cls = .ref c → o.dict = some d → a ∉ av → h.get? d = some od → od.data = .dict es n → d ∉ av → Rep h ad av (.ref a) (.inst c)
  | slf {c d a : Addr} {j : Nat} : ad[j]? = some d → h.get? a = some (instObj c d) → a ∉ av → Rep h ad av (.ref a) (.slf c j a)
  | nlst {a x : Addr} : LstD h a #[] → x < a → a ∉ av → Rep h ad av (.ref a) (.nlst x)
  | any (v : Value) : Rep h ad av v .any
  | raw (v : Value) : Rep h ad av v (.raw v)
inductive Reps (h : Heap) (ad av : List Addr) : List Value → List PV → Prop
  | nil : Reps h ad av [] []
  | cons {v : Value} {x : PV} {vs : List Value} {xs : List PV} : Rep h ad av v x → Reps h ad av vs xs → Reps h ad av (v :: vs) (x :: xs)
end

/- something stands there, and no record -/
noncomputable def Live (h : Heap) (b : Addr) : Prop := ∃ o, h.get? b = some o ∧ ∀ vs, o.data ≠ .fields vs
theorem Live.keeps {h h' : Heap} {b : Addr} (x : Live h b) (k : ∀ o, h.get? b = some o → h'.get? b = some o) : Live h' b := let ⟨o, e, n⟩ := x; ⟨o, k o e, n⟩
theorem Live.ne {h : Heap} {b : Addr} (x : Live h b) (e : h.get? b = Option.none) : False := by obtain ⟨o, q, _⟩ := x; rw [e] at q; cases q
theorem live_ns {h : Heap} {a : Addr} {m : Str → Option Value} (x : h.Ns a m) : Live h a := by
  obtain ⟨o, es, ep, e, d, _⟩ := x; exact ⟨o, e, fun vs q => by rw [d] at q; cases q⟩
theorem live_cell {h : Heap} {a : Addr} {v : Option Value} (x : h.IsCell a v) : Live h a := by
  obtain ⟨o, e, d⟩ := x; exact ⟨o, e, fun vs q => by rw [d] at q; cases q⟩
theorem live_pl {h : Heap} {a : Addr} {its : Array Value} (x : h.PlainList a its) : Live h a := by
  obtain ⟨n, e⟩ := x; exact ⟨_, e, fun vs q => by cases q⟩
/- what a step keeps: all that never turns; frames and cells by what they hold -/
structure Keep (ad av : List Addr) (h h' : Heap) : Prop where
  lv : ∀ b ∈ av, Live h b → Live h' b
  kp : ∀ b o, b ∉ av → h.get? b = some o → h'.get? b = some o
  ns : ∀ b, b ∈ av → b ∉ ad → ∀ m, h.Ns b m → h'.Ns b m
  cl : ∀ b, b ∈ av → b ∉ ad → ∀ v, h.IsCell b v → h'.IsCell b v
  li : ∀ b, b ∈ av → b ∉ ad → ∀ v, h.IsList b v → h'.IsList b v
theorem Keep.refl {ad av : List Addr} {h : Heap} : Keep ad av h h := ⟨fun _ _ e => e, fun _ _ _ e => e, fun _ _ _ _ e => e, fun _ _ _ _ e => e, fun _ _ _ _ e => e⟩
theorem Keep.trans {ad av : List Addr} {h₁ h₂ h₃ : Heap} (x : Keep ad av h₁ h₂) (y : Keep ad av h₂ h₃) : Keep ad av h₁ h₃ :=
  ⟨fun b hb e => y.lv b hb (x.lv b hb e), fun b o hb e => y.kp b o hb (x.kp b o hb e), fun b h1 h2 m e => y.ns b h1 h2 m (x.ns b h1 h2 m e), fun b h1 h2 v e => y.cl b h1 h2 v (x.cl b h1 h2 v e), fun b h1 h2 v e => y.li b h1 h2 v (x.li b h1 h2 v e)⟩
theorem Keep.all {ad av : List Addr} {h h' : Heap} (k : ∀ b o, h.get? b = some o → h'.get? b = some o) : Keep ad av h h' :=
  ⟨fun b _ e => e.keeps (k b), fun b o _ e => k b o e, fun _ _ _ _ e => e.keeps k, fun _ _ _ _ e => e.keeps k, fun _ _ _ _ ⟨o, e, r⟩ => ⟨o, k _ o e, r⟩⟩
theorem Keep.push {ad av : List Addr} {h : Heap} (o : Obj) : Keep ad av h (h.push o) :=
  .all fun _ _ e => Heap.get?_push_of_some _ e
/- one list has turned -/
theorem Keep.turn {ad av : List Addr} {h h' : Heap} {a : Addr} (ha : a ∈ ad) (hv : a ∈ av) (hs : Heap.SameBut a h h') (hl : Live h' a) : Keep ad av h h' :=
  ⟨fun b _ e => if q : b = a then q ▸ hl else e.keeps fun o e => (hs.2 b q).trans e, fun b o hb e => (hs.2 b (fun q => hb (q ▸ hv))).trans e, fun b _ hb m e => e.sameBut hs (fun q => hb (q ▸ ha)), fun b _ hb m e => e.sameBut hs (fun q => hb (q ▸ ha)), fun b _ hb m ⟨o, e, r⟩ => ⟨o, (hs.2 b fun q => hb (q ▸ ha)).trans e, r⟩⟩

theorem Reps.imp {h h' : Heap} {ad ad' av av' : List Addr} (f : ∀ {v x}, Rep h ad av v x → Rep h' ad' av' v x) : ∀ {xs : List PV} {vs : List Value}, Reps h ad av vs xs → Reps h' ad' av' vs xs
  | [], _, r => by cases r; exact .nil
  | _ :: _, _, r => by cases r with | cons a b => exact .cons (f a) (Reps.imp f b)
theorem Rep.toNF {h h' : Heap} {ad ad' av av' : List Addr} (ka : ∀ (i : Nat) a, ad[i]? = some a → ad'[i]? = some a) (k : ∀ b o, b ∉ av → h.get? b = some o → (∀ vs, o.data ≠ .fields vs) → h'.get? b = some o ∧ b ∉ av') {v : Value} {x : PV} (r : Rep h ad av v x) : Rep h' ad' av' v x :=
  Rep.rec (motive_1 := fun v x _ => Rep h' ad' av' v x) (motive_2 := fun vs xs _ => Reps h' ad' av' vs xs) .none .bool .int .str
    (fun t n _ q => by obtain ⟨o, ho, c, m, d⟩ := t; have w := k _ o n ho (fun vs q => by rw [d] at q; cases q); exact .tup ⟨o, w.1, c, m, d⟩ w.2 q)
    (fun t n _ q => by obtain ⟨o, ho, c, m, d⟩ := t; have w := k _ o n ho (fun vs q => by rw [d] at q; cases q); exact .lst ⟨o, w.1, c, m, d⟩ w.2 q)
    (fun e => .mref (ka _ _ e))
    (fun e h1 n1 h2 n2 e1 e2 e3 => have w1 := k _ _ n1 h1 (fun vs q => by cases q); have w2 := k _ _ n2 h2 (fun vs q => by cases q); .host (ka _ _ e) w1.1 w1.2 w2.1 w2.2 e1 e2 e3)
    (fun h1 hp e ed n h2 hd n2 => have w := k _ _ n h1 (fun vs q => by rw [hp] at q; cases q); have w2 := k _ _ n2 h2 (fun vs q => by rw [hd] at q; cases q); .inst w.1 hp e ed w.2 w2.1 hd w2.2)
    (fun e h1 n1 => have w1 := k _ _ n1 h1 (fun vs q => by cases q); .slf (ka _ _ e) w1.1 w1.2)
    (fun t l n => by obtain ⟨o, ho, c, m, d⟩ := t; have w := k _ o n ho (fun vs q => by rw [d.1] at q; cases q); exact .nlst ⟨o, w.1, c, m, d⟩ l w.2)
    .any .raw .nil (fun _ _ a b => .cons a b) r
theorem Reps.toNF {h h' : Heap} {ad ad' av av' : List Addr} (ka : ∀ (i : Nat) a, ad[i]? = some a → ad'[i]? = some a) (k : ∀ b o, b ∉ av → h.get? b = some o → (∀ vs, o.data ≠ .fields vs) → h'.get? b = some o ∧ b ∉ av') {v : List Value} {x : List PV} (r : Reps h ad av v x) : Reps h' ad' av' v x :=
  r.imp (Rep.toNF ka k)
theorem Rep.to {h h' : Heap} {ad ad' av av' : List Addr} (ka : ∀ (i : Nat) a, ad[i]? = some a → ad'[i]? = some a) (k : ∀ b o, b ∉ av → h.get? b = some o → h'.get? b = some o ∧ b ∉ av') {v : Value} {x : PV} (r : Rep h ad av v x) : Rep h' ad' av' v x :=
  r.toNF ka fun b o n e _ => k b o n e
theorem Reps.to {h h' : Heap} {ad ad' av av' : List Addr} (ka : ∀ (i : Nat) a, ad[i]? = some a → ad'[i]? = some a) (k : ∀ b o, b ∉ av → h.get? b = some o → h'.get? b = some o ∧ b ∉ av') {v : List Value} {x : List PV} (r : Reps h ad av v x) : Reps h' ad' av' v x :=
  r.toNF ka fun b o n e _ => k b o n e
theorem Rep.slots {h h' : Heap} {av : List Addr} (k : h.UpToSlots h') {v : Value} {x : PV} (r : Rep h [] av v x) : Rep h' [] av v x :=
  Rep.rec (motive_1 := fun v x _ => Rep h' [] av v x) (motive_2 := fun vs xs _ => Reps h' [] av vs xs) .none .bool .int .str
    (fun t n _ q => by obtain ⟨o, ho, c, m, d⟩ := t; obtain ⟨sl, e⟩ := k _ o ho (fun vs q => by rw [d] at q; cases q); exact .tup ⟨_, e, c, m, d⟩ n q)
    (fun t n _ q => by obtain ⟨o, ho, c, m, d⟩ := t; obtain ⟨sl, e⟩ := k _ o ho (fun vs q => by rw [d] at q; cases q); exact .lst ⟨_, e, c, m, d⟩ n q)
    (fun e => by simp at e)
    (fun e _ _ _ _ _ _ _ => by simp at e)
    (fun h1 hp e ed n h2 hd n2 => by obtain ⟨sl, e'⟩ := k _ _ h1 (fun vs q => by rw [hp] at q; cases q); obtain ⟨sl2, e2'⟩ := k _ _ h2 (fun vs q => by rw [hd] at q; cases q); exact .inst e' hp e ed n e2' hd n2)
    (fun e _ _ => by simp at e)
    (fun t l n => by obtain ⟨o, ho, c, m, d⟩ := t; obtain ⟨sl, e⟩ := k _ o ho (fun vs q => by rw [d.1] at q; cases q); exact .nlst ⟨_, e, c, m, d⟩ l n)
    .any .raw .nil (fun _ _ a b => .cons a b) r
theorem Reps.slots {h h' : Heap} {av : List Addr} (k : h.UpToSlots h') {v : List Value} {x : List PV} (r : Reps h [] av v x) : Reps h' [] av v x := r.imp (Rep.slots k)
theorem Rep.keep {h h' : Heap} {ad ad0 av : List Addr} (k : Keep ad0 av h h') {v : Value} {x : PV} (r : Rep h ad av v x) : Rep h' ad av v x :=
  r.to (fun _ _ e => e) fun b o n e => ⟨k.kp b o n e, n⟩
theorem Reps.keep {h h' : Heap} {ad ad0 av : List Addr} (k : Keep ad0 av h h') {v : List Value} {x : List PV} (r : Reps h ad av v x) : Reps h' ad av v x :=
  r.to (fun _ _ e => e) fun b o n e => ⟨k.kp b o n e, n⟩
theorem prefix_get {ad ex : List Addr} {i : Nat} {a : Addr} (h : ad[i]? = some a) : (ad ++ ex)[i]? = some a := by
  rw [List.getElem?_append_left (List.getElem?_eq_some_iff.mp h).1]; exact h
/- new places that turn -/
theorem Rep.more {h : Heap} {ad av ex nw : List Addr} (hn : ∀ a ∈ nw, h.get? a = Option.none) {v : Value} {x : PV} (r : Rep h ad av v x) : Rep h (ad ++ ex) (nw ++ av) v x :=
  r.to (fun _ _ e => prefix_get e) fun b o n e => ⟨e, fun m => (List.mem_append.mp m).elim (fun m => by rw [hn _ m] at e; cases e) n⟩
/- fewer places that turn -/
theorem Reps.less {h : Heap} {ad av av' : List Addr} (hn : ∀ a ∈ av', a ∈ av) {v : List Value} {x : List PV} (r : Reps h ad av v x) : Reps h ad av' v x :=
  r.to (fun _ _ e => e) fun b o n e => ⟨e, fun m => n (hn _ m)⟩
theorem Reps.length {h : Heap} {ad av : List Addr} : ∀ {xs : List PV} {vs : List Value}, Reps h ad av vs xs → vs.length = xs.length
  | [], _, r => by cases r; rfl
  | _ :: _, _, r => by cases r with | cons a b => exact congrArg (· + 1) b.length
theorem Reps.append {h : Heap} {ad av : List Addr} : ∀ {xs ys : List PV} {vs ws : List Value}, Reps h ad av vs xs → Reps h ad av ws ys → Reps h ad av (vs ++ ws) (xs ++ ys)
  | [], _, _, _, r, q => by cases r; exact q
  | _ :: _, _, _, _, r, q => by cases r with | cons a b => exact .cons a (b.append q)
theorem Reps.get {h : Heap} {ad av : List Addr} : ∀ {xs : List PV} {vs : List Value} {i : Nat} {x : PV}, Reps h ad av vs xs → xs[i]? = some x → ∃ v, vs[i]? = some v ∧ Rep h ad av v x
  | [], _, _, _, _, e => by cases e
  | _ :: _, _, i, _, r, e => by
    cases r with
    | cons a b => cases i with
      | zero => cases e; exact ⟨_, rfl, a⟩
      | succ i => exact b.get (i := i) e
theorem Reps.get' {h : Heap} {ad av : List Addr} {vs : List Value} {xs : List PV} {i : Nat} {v : Value} (r : Reps h ad av vs xs) (e : vs[i]? = some v) : ∃ x, xs[i]? = some x ∧ Rep h ad av v x := by
  have hi : i < xs.length := by rw [← r.length]; exact (List.getElem?_eq_some_iff.mp e).1
  obtain ⟨w, hw, rw_⟩ := r.get (List.getElem?_eq_getElem hi)
  rw [e] at hw
  cases hw
  exact ⟨_, List.getElem?_eq_getElem hi, rw_⟩

/- ## The places that turn -/
noncomputable def KeysAre (es : List DictEntry) (ks : List (List Nat)) : Prop := es.length = ks.length ∧ ∀ (i : Nat) (e : DictEntry) k, es[i]? = some e → ks[i]? = some k → ∃ t, e.key = .str (toStr k) t
noncomputable def MOk (h : Heap) (av : List Addr) (a : Addr) : MO → Prop
  | .lst xs => ∃ vs, LstD h a vs.toArray ∧ Reps h [] av vs xs
  | .dct ks xs => ∃ es n, h.get? a = some (dictOf es n) ∧ KeysAre es ks ∧ Reps h [] av (es.map (·.val)) xs
  | .dic D ks xs => ∃ o kvs, h.get? a = some o ∧ (∀ vs, o.data ≠ .fields vs) ∧ D o kvs ∧ kvs.map (·.1) = ks.map toStr ∧ Reps h [] av (kvs.map (·.2)) xs
structure Sg (h : Heap) (ad av : List Addr) (σ : Sto) : Prop where
  len : ad.length = σ.length
  at_ : ∀ (i : Nat) a m, ad[i]? = some a → σ[i]? = some m → MOk h av a m
theorem MOk.to {h h' : Heap} {av av' : List Addr} {a : Addr} {m : MO} (x : MOk h av a m) (ha : ∀ o, h.get? a = some o → h'.get? a = some o)
    (k : ∀ b o, b ∉ av → h.get? b = some o → h'.get? b = some o ∧ b ∉ av') : MOk h' av' a m := by
  cases m with
  | lst xs => obtain ⟨vs, ⟨o, h1, c, n, d⟩, h2⟩ := x; exact ⟨vs, ⟨o, ha _ h1, c, n, d⟩, h2.to (fun _ _ e => e) k⟩
  | dct ks xs => obtain ⟨es, n, h1, h2, h3⟩ := x; exact ⟨es, n, ha _ h1, h2, h3.to (fun _ _ e => e) k⟩
  | dic D ks xs => obtain ⟨o, kvs, h1, nf, h2, h3, h4⟩ := x; exact ⟨o, kvs, ha _ h1, nf, h2, h3, h4.to (fun _ _ e => e) k⟩
theorem MOk.toNF {h h' : Heap} {av av' : List Addr} {a : Addr} {m : MO} (x : MOk h av a m) (ha : ∀ o, h.get? a = some o → (∀ vs, o.data ≠ .fields vs) → h'.get? a = some o)
    (k : ∀ b o, b ∉ av → h.get? b = some o → (∀ vs, o.data ≠ .fields vs) → h'.get? b = some o ∧ b ∉ av') : MOk h' av' a m := by
  cases m with
  | lst xs => obtain ⟨vs, ⟨o, h1, c, n, d⟩, h2⟩ := x; exact ⟨vs, ⟨o, ha _ h1 (fun vs q => by rw [d.1] at q; cases q), c, n, d⟩, h2.toNF (fun _ _ e => e) k⟩
  | dct ks xs => obtain ⟨es, n, h1, h2, h3⟩ := x; exact ⟨es, n, ha _ h1 (fun vs q => by cases q), h2, h3.toNF (fun _ _ e => e) k⟩
  | dic D ks xs => obtain ⟨o, kvs, h1, nf, h2, h3, h4⟩ := x; exact ⟨o, kvs, ha _ h1 nf, nf, h2, h3, h4.toNF (fun _ _ e => e) k⟩
theorem Sg.all {h h' : Heap} {ad av : List Addr} {σ : Sto} (x : Sg h ad av σ) (k : ∀ b o, h.get? b = some o → h'.get? b = some o) : Sg h' ad av σ :=
  ⟨x.len, fun i a m h1 h2 => (x.at_ i a m h1 h2).to (fun o e => k _ _ e) fun b o n e => ⟨k _ _ e, n⟩⟩
/- one list has turned, nothing else -/
theorem Sg.turn {h h' : Heap} {ad av : List Addr} {σ : Sto} {i : Nat} {a : Addr} {m : MO} (x : Sg h ad av σ) (hnd : ad.Nodup) (sub : ∀ a ∈ ad, a ∈ av) (ha : ad[i]? = some a) (hs : Heap.SameBut a h h') (hm : MOk h' av a m) : Sg h' ad av (σ.set i m) := by
  refine ⟨by rw [List.length_set]; exact x.len, fun j b m' h1 h2 => ?_⟩
  by_cases hij : j = i
  · subst hij
    rw [ha] at h1; cases h1
    have lt : j < σ.length := by rw [← x.len]; exact (List.getElem?_eq_some_iff.mp ha).1
    rw [List.getElem?_set_self lt] at h2; cases h2
    exact hm
  · rw [List.getElem?_set_ne (Ne.symm hij)] at h2
    have hab : b ≠ a := fun q => by
      subst q
      exact hij ((List.getElem?_inj (List.getElem?_eq_some_iff.mp h1).1 hnd).mp (h1.trans ha.symm))
    have hav : a ∈ av := sub _ (List.mem_of_getElem? ha)
    exact (x.at_ j b m' h1 h2).to (fun o e => (hs.2 b hab).trans e) fun c o n e => ⟨(hs.2 c (fun q => n (q ▸ hav))).trans e, n⟩

/- ## The world that stands still -/
structure Cx where
  prog : Program
  w : World
  base : Heap
  mg : Str → Option Value
  mb : Str → Option Value
  tab : List (Str × Option Value)
  g : base.Ns mainGlobals mg
  b : base.Ns builtinsNs mb
  nolimit : base.NoLimit
  builtins : ∀ x : Str, x ≠ "__name__" → mb x = bootBuiltins x
  names : ∀ x ∈ tab, mg x.1 = x.2
noncomputable abbrev Cx.M (C : Cx) : Model := model C.prog C.w

noncomputable def VarAt (nm : List (Str × NameKind)) (env : Env) (h : Heap) (m : Str → Option Value) (ad av : List Addr) (x : Str) (p : PV) : Prop :=
  (nm.lookup x = some .local ∧ ∃ v, m x = some v ∧ Rep h ad av v p) ∨
  (nm.lookup x = some .cell ∧ ∃ c v, env.cells.lookup x = some c ∧ h.IsCell c (some v) ∧ Rep h ad av v p)
/- the frames below -/
noncomputable def FrOk (A : Around) (h : Heap) (ad av : List Addr) : Prop := ∃ fl, A.frames = some fl ∧ ∀ e ∈ fl, e.scope.kind ≠ .module ∧ ∃ L m, e.frame = some L ∧ h.Ns L m ∧ L ∈ av ∧ L ∉ ad

structure Hyp (C : Cx) (k : Nat) (nm : List (Str × NameKind)) (vs : List Str) (ρ : Rho) (σ : Sto) (A : Around) (env : Env) (s : Shared) (ad av : List Addr) : Prop where
  stays : ∀ b o, C.base.get? b = some o → s.heap.get? b = some o
  above : ∀ a ∈ av, C.base.get? a = Option.none ∧ Live s.heap a
  adsub : ∀ a ∈ ad, a ∈ av
  adnd : ad.Nodup
  names : env.scope.names = nm
  kind : env.scope.kind = .function
  glob : env.globals = mainGlobals
  blt : env.builtins = builtinsNs
  loc : ∃ m, s.heap.Ns env.locals m ∧ ∀ (i : Nat) p, ρ[i]? = some (some p) → ∃ x, vs[i]? = some x ∧ VarAt nm env s.heap m ad av x p
  lav : env.locals ∈ av ∧ env.locals ∉ ad
  cel : ∀ x c, env.cells.lookup x = some c → c ∈ av ∧ c ∉ ad ∧ c ≠ env.locals ∧ ∃ v, s.heap.IsCell c v
  celn : ∀ x, nm.lookup x = some .cell → ∃ c, env.cells.lookup x = some c
  apart : env.cells.Pairwise fun x y => x.2 ≠ y.2
  fr : FrOk A s.heap ad av
  sg : Sg s.heap ad av σ
  hh : 0 < k → A.handled = none
  dep : A.depth + k < recursionLimit
  un : A.units + 8 * k + 8 < cLine

structure Nxt (ad av : List Addr) (s : Shared) (σ' : Sto) (s' : Shared) : Prop where
  sh : ∃ h tk, s' = { s with heap := h, toks := tk }
  kp : Keep ad av s.heap s'.heap
  sg : Sg s'.heap ad av σ'
theorem Nxt.trans {ad av : List Addr} {s s₁ s₂ : Shared} {σ₁ σ₂ : Sto} (x : Nxt ad av s σ₁ s₁) (y : Nxt ad av s₁ σ₂ s₂) : Nxt ad av s σ₂ s₂ := by
  obtain ⟨h, t, rfl⟩ := x.sh; obtain ⟨h', t', rfl⟩ := y.sh
  exact ⟨⟨h', t', rfl⟩, x.kp.trans y.kp, y.sg⟩
theorem FrOk.keep {A : Around} {h h' : Heap} {ad av : List Addr} (x : FrOk A h ad av) (k : Keep ad av h h') : FrOk A h' ad av := by
  obtain ⟨fl, e, q⟩ := x
  exact ⟨fl, e, fun f hf => by obtain ⟨h1, L, m, h2, h3, h4, h5⟩ := q f hf; exact ⟨h1, L, m, h2, k.ns _ h4 h5 _ h3, h4, h5⟩⟩
theorem Hyp.next {C : Cx} {k : Nat} {nm : List (Str × NameKind)} {vs : List Str} {ρ : Rho} {σ σ' : Sto} {A : Around} {env : Env} {s s' : Shared} {ad av : List Addr}
    (H : Hyp C k nm vs ρ σ A env s ad av) (N : Nxt ad av s σ' s') : Hyp C k nm vs ρ σ' A env s' ad av := by
  obtain ⟨m, hm, hv⟩ := H.loc
  refine ⟨fun b o e => ?_, fun a ha => ⟨(H.above a ha).1, N.kp.lv a ha (H.above a ha).2⟩, H.adsub, H.adnd, H.names, H.kind, H.glob, H.blt, ⟨m, N.kp.ns _ H.lav.1 H.lav.2 _ hm, fun i p e => ?_⟩, H.lav,
    fun x c e => ?_, H.celn, H.apart, H.fr.keep N.kp, N.sg, H.hh, H.dep, H.un⟩
  · exact N.kp.kp b o (fun hb => by rw [(H.above b hb).1] at e; cases e) (H.stays b o e)
  · obtain ⟨x, hx, q⟩ := hv i p e
    refine ⟨x, hx, ?_⟩
    rcases q with ⟨h1, v, h2, h3⟩ | ⟨h1, c, v, h2, h3, h4⟩
    · exact .inl ⟨h1, v, h2, h3.keep N.kp⟩
    · have := H.cel x c h2
      exact .inr ⟨h1, c, v, h2, N.kp.cl _ this.1 this.2.1 _ h3, h4.keep N.kp⟩
  · obtain ⟨h1, h2, h3, v, h4⟩ := H.cel x c e
    exact ⟨h1, h2, h3, v, N.kp.cl _ h1 h2 _ h4⟩
theorem Hyp.le {C : Cx} {k k' : Nat} {nm : List (Str × NameKind)} {vs : List Str} {ρ : Rho} {σ : Sto} {A : Around} {env : Env} {s : Shared} {ad av : List Addr}
    (H : Hyp C k nm vs ρ σ A env s ad av) (h : k' ≤ k) : Hyp C k' nm vs ρ σ A env s ad av :=
  ⟨H.stays, H.above, H.adsub, H.adnd, H.names, H.kind, H.glob, H.blt, H.loc, H.lav, H.cel, H.celn, H.apart, H.fr, H.sg, fun q => H.hh (by omega), by have := H.dep; omega, by have := H.un; omega⟩
section
variable {C : Cx} {k : Nat} {nm : List (Str × NameKind)} {vs : List Str} {ρ : Rho} {σ : Sto} {A : Around} {env : Env} {s : Shared} {ad av : List Addr}
theorem Nxt.refl (H : Hyp C k nm vs ρ σ A env s ad av) : Nxt ad av s σ s := ⟨⟨_, _, rfl⟩, .refl, H.sg⟩
theorem Nxt.all (H : Hyp C k nm vs ρ σ A env s ad av) {h' : Heap} {tk : Tok} (k : ∀ b o, s.heap.get? b = some o → h'.get? b = some o) : Nxt ad av s σ { s with heap := h', toks := tk } :=
  ⟨⟨_, _, rfl⟩, .all k, H.sg.all k⟩
theorem Nxt.toks (H : Hyp C k nm vs ρ σ A env s ad av) (tk : Tok) : Nxt ad av s σ { s with toks := tk } := ⟨⟨s.heap, tk, rfl⟩, .refl, H.sg⟩
theorem Nxt.push (H : Hyp C k nm vs ρ σ A env s ad av) (o : Obj) : Nxt ad av s σ { s with heap := s.heap.push o } :=
  ⟨⟨_, s.toks, rfl⟩, .push o, H.sg.all fun _ _ e => Heap.get?_push_of_some _ e⟩
theorem Hyp.fresh (H : Hyp C k nm vs ρ σ A env s ad av) {a : Addr} (h : s.heap.objs.size ≤ a) : a ∉ av := fun m => by
  obtain ⟨o, e, _⟩ := (H.above a m).2; exact absurd (Heap.lt_size e) (Nat.not_lt.mpr h)
theorem get?_none_of_size {h : Heap} {a : Addr} (e : h.objs.size ≤ a) : h.get? a = none := by
  cases q : h.get? a with
  | none => rfl
  | some o => exact absurd (Heap.lt_size q) (Nat.not_lt.mpr e)
end

theorem Reps.cons_inv {h : Heap} {ad av : List Addr} {vs : List Value} {x : PV} {xs : List PV} (r : Reps h ad av vs (x :: xs)) : ∃ v ws, Rep h ad av v x ∧ Reps h ad av ws xs ∧ vs = v :: ws := by
  cases r with | cons a b => exact ⟨_, _, a, b, rfl⟩
section
variable {h : Heap} {ad av : List Addr} {v : Value}
theorem Rep.int_inv {i : Int} (r : Rep h ad av v (.int i)) : ∃ t, v = .int i t := by cases r; exact ⟨_, rfl⟩
theorem Rep.str_inv {l : List Nat} (r : Rep h ad av v (.str l)) : ∃ t, v = .str (toStr l) t := by cases r; exact ⟨_, rfl⟩
theorem Rep.bool_inv {b : Bool} (r : Rep h ad av v (.bool b)) : v = .bool b := by cases r; rfl
theorem Rep.none_inv (r : Rep h ad av v .none) : v = .none := by cases r; rfl
theorem Rep.raw_inv {w : Value} (r : Rep h ad av v (.raw w)) : v = w := by cases r; rfl
theorem Rep.tup_inv {xs : List PV} (r : Rep h ad av v (.tup xs)) : ∃ a vs, v = .ref a ∧ h.IsTuple a vs.toArray ∧ a ∉ av ∧ Reps h ad av vs xs := by cases r with | tup a b c => exact ⟨_, _, rfl, a, b, c⟩
theorem Rep.lst_inv {xs : List PV} (r : Rep h ad av v (.lst xs)) : ∃ a vs, v = .ref a ∧ h.IsList a vs.toArray ∧ a ∉ av ∧ Reps h ad av vs xs := by cases r with | lst a b c => exact ⟨_, _, rfl, a, b, c⟩
theorem Rep.mref_inv {i : Nat} (r : Rep h ad av v (.mref i)) : ∃ a, v = .ref a ∧ ad[i]? = some a := by cases r with | mref e => exact ⟨_, rfl, e⟩
theorem Rep.host_inv {i : Nat} (r : Rep h ad av v (.host i)) : ∃ a nl d es n t, v = .ref a ∧ ad[i]? = some nl ∧ h.get? a = some (instObj 762 d) ∧ a ∉ av ∧ h.get? d = some (dictOf es n) ∧ d ∉ av ∧
    getL "notes" es = some (some (.ref nl)) ∧ getL "silent" es = some (some (.int 0 t)) ∧ getL "warn" es = some Option.none := by cases r with | host e1 e2 e3 e4 e5 e6 e7 e8 => exact ⟨_, _, _, _, _, _, rfl, e1, e2, e3, e4, e5, e6, e7, e8⟩
theorem Rep.inst_inv {c : Addr} (r : Rep h ad av v (.inst c)) : ∃ a, v = .ref a := by cases r; exact ⟨_, rfl⟩
theorem Rep.slf_inv {c x : Addr} {j : Nat} (r : Rep h ad av v (.slf c j x)) : v = .ref x ∧ ∃ d, ad[j]? = some d ∧ h.get? x = some (instObj c d) ∧ x ∉ av := by cases r with | slf a b c => exact ⟨rfl, _, a, b, c⟩
end

end Mine.Internal
/- G2 -/
namespace Mine.Internal

/- ## Outcomes, and how steps are strung together -/
noncomputable def R.bind {α β : Type} (r : R α) (g : α → Sto → R β) : R β := match r with
  | .bad => .bad
  | .val a σ => g a σ
  | .exc σ => .exc σ
noncomputable def R.of {α : Type} (o : Option α) (σ : Sto) : R α := match o with
  | none => .bad
  | some a => .val a σ
@[simp] theorem R.bind_val {α β : Type} (a : α) (σ : Sto) (g : α → Sto → R β) : (R.val a σ).bind g = g a σ := rfl
@[simp] theorem R.bind_exc {α β : Type} (σ : Sto) (g : α → Sto → R β) : (R.exc σ).bind g = .exc σ := rfl
@[simp] theorem R.bind_bad {α β : Type} (g : α → Sto → R β) : (R.bad : R α).bind g = .bad := rfl
@[simp] theorem R.of_some {α : Type} (a : α) (σ : Sto) : R.of (some a) σ = .val a σ := rfl
@[simp] theorem R.of_none {α : Type} (σ : Sto) : (R.of none σ : R α) = .bad := rfl

/- an exception of the program is on its way -/
structure Exc (A : Around) (ad av : List Addr) (s : Shared) (σ' : Sto) (x : Value) (s' : Shared) : Prop where
  nx : Nxt ad av s σ' s'
  fly : ∃ e B a0 fl, x = .ref e ∧ A.frames = some fl ∧ Heap.FlyingW B fl e (.ref 51) a0 s'.heap ∧ (∀ b o, b ∉ av → s.heap.get? b = some o → B.get? b = some o) ∧ (∀ b ∈ ad, ∀ o, s'.heap.get? b = some o → B.get? b = some o)
theorem Exc.before {A : Around} {ad av : List Addr} {s s₁ s' : Shared} {σ₁ σ' : Sto} {x : Value} (n : Nxt ad av s σ₁ s₁) (e : Exc A ad av s₁ σ' x s') : Exc A ad av s σ' x s' := by
  obtain ⟨e', B, a0, fl, h1, h2, h3, h4, h5⟩ := e.fly
  exact ⟨n.trans e.nx, e', B, a0, fl, h1, h2, h3, fun b o hb ho => h4 b o hb (n.kp.kp b o hb ho), h5⟩

structure Kon {α β : Type} (A : Around) (ad av : List Addr) (s : Shared) (r : R β) (P : Heap → α → β → Prop) (Q : α → Shared → Prop) (E : Value → Shared → Prop) : Prop where
  ok : ∀ a s' b σ', r = .val b σ' → P s'.heap a b → Nxt ad av s σ' s' → Q a s'
  ex : ∀ x s' σ', r = .exc σ' → Exc A ad av s σ' x s' → E x s'
noncomputable def Giv {α β : Type} (C : Cx) (A : Around) (ad av : List Addr) (s : Shared) (t : Sem α) (r : R β) (P : Heap → α → β → Prop) : Prop :=
  r ≠ .bad → ∀ (Q : α → Shared → Prop) (E : Value → Shared → Prop), Kon A ad av s r P Q E → wpAny C.M A t Q E s
theorem Giv.seq {α β γ δ : Type} {C : Cx} {A : Around} {ad av : List Addr} {s : Shared} {t : Sem α} {r : R β} {P : Heap → α → β → Prop} {g : β → Sto → R γ} {P' : Heap → δ → γ → Prop} {Q : α → Shared → Prop} {Q' : δ → Shared → Prop} {E : Value → Shared → Prop}
    (h : Giv C A ad av s t r P) (hb : r.bind g ≠ .bad) (K : Kon A ad av s (r.bind g) P' Q' E)
    (hk : ∀ a s₁ b σ₁, P s₁.heap a b → Nxt ad av s σ₁ s₁ → g b σ₁ ≠ .bad → Kon A ad av s₁ (g b σ₁) P' Q' E → Q a s₁) : wpAny C.M A t Q E s := by
  refine h (fun e => hb (by rw [e]; rfl)) Q E ⟨fun a s' b σ' e p n => ?_, fun x s' σ' e q => K.ex x s' σ' (by rw [e]; rfl) q⟩
  subst e
  exact hk a s' b σ' p n hb ⟨fun a' s'' b' σ'' e' p' n' => K.ok a' s'' b' σ'' e' p' (n.trans n'), fun x s'' σ'' e' q => K.ex x s'' σ'' e' (q.before n)⟩
/- a plain end -/
noncomputable abbrev RP (ad av : List Addr) : Heap → Value → PV → Prop := fun h v p => Rep h ad av v p
noncomputable abbrev BP : Heap → Bool → Bool → Prop := fun _ a b => a = b
structure SE (C : Cx) (k : Nat) (nm : List (Str × NameKind)) (vs : List Str) (e : Expr) (f : Rho → Sto → R PV) : Prop where
  run : ∀ ρ σ A env s ad av, Hyp C k nm vs ρ σ A env s ad av → Giv C A ad av s (eval e env) (f ρ σ) (RP ad av)
structure ST (C : Cx) (k : Nat) (nm : List (Str × NameKind)) (vs : List Str) (e : Expr) (f : Rho → Sto → R Bool) : Prop where
  run : ∀ ρ σ A env s ad av, Hyp C k nm vs ρ σ A env s ad av → Giv C A ad av s (isTrue e env (eval e env)) (f ρ σ) BP

/- ## Leaves -/
section
variable {C : Cx} {k : Nat} {nm : List (Str × NameKind)} {vs : List Str}

noncomputable def cVar (i : Nat) : Rho → Sto → R PV := fun ρ σ => match ρ[i]? with
  | some (some p) => .val p σ
  | _ => .bad
noncomputable def cVal (p : PV) : Rho → Sto → R PV := fun _ σ => .val p σ

theorem e_var {i : Nat} {x : Str} {pos : Pos} (hi : vs[i]? = some x) (hd : (x == ("__debug__" : Str)) = false := by decide) : SE C k nm vs (.Name x pos) (cVar i) := by
  refine ⟨?_⟩
  intro ρ σ A env s ad av H hb Q E K
  obtain ⟨m, hm, hv⟩ := H.loc
  unfold cVar at hb K
  split at hb
  · rename_i p hp
    rw [hp] at K
    obtain ⟨y, hy, q⟩ := hv i p hp
    rw [hi] at hy; cases hy
    refine wpAny_Name ?_ hd
    rcases q with ⟨h1, v, h2, h3⟩ | ⟨h1, c, v, h2, h3, h4⟩
    · exact wpAny_loadName_local H.kind (by unfold Env.kindOf; rw [H.names]; exact h1) hm h2 (K.ok _ _ _ _ rfl h3 (.refl H))
    · exact wpAny_loadName_cell H.kind (by unfold Env.kindOf; rw [H.names]; exact h1) h2 h3 (K.ok _ _ _ _ rfl h4 (.refl H))
  · exact absurd rfl hb
theorem e_int {i : Int} {n : Nat} {pos : Pos} : SE C k nm vs (.Constant (.int i) n pos) (cVal (.int i)) := ⟨fun ρ σ A env s ad av H hb Q E K =>
  wpAny_Constant_int (K.ok _ _ _ _ rfl (.int _ _) (.toks H _))⟩
theorem e_str {x : Str} {l : List Nat} {n : Nat} {pos : Pos} (hx : x = toStr l) : SE C k nm vs (.Constant (.str x) n pos) (cVal (.str l)) := ⟨fun ρ σ A env s ad av H hb Q E K => by
  subst hx
  exact wpAny_Constant_str (K.ok _ _ _ _ rfl (.str _ _) (.toks H _))⟩
theorem e_none {n : Nat} {pos : Pos} : SE C k nm vs (.Constant .none n pos) (cVal .none) := ⟨fun ρ σ A env s ad av H hb Q E K =>
  wpAny_Constant_none (K.ok _ _ _ _ rfl .none (.refl H))⟩
theorem e_bool {b : Bool} {n : Nat} {pos : Pos} : SE C k nm vs (.Constant (.bool b) n pos) (cVal (.bool b)) := ⟨fun ρ σ A env s ad av H hb Q E K =>
  wpAny_Constant_bool (K.ok _ _ _ _ rfl (.bool _) (.refl H))⟩
/- a global name -/
theorem name_glob {ρ : Rho} {σ : Sto} {A : Around} {env : Env} {s : Shared} {ad av : List Addr} {x : Str} {pos : Pos} {v : Value} {Q : Value → Shared → Prop} {E : Value → Shared → Prop}
    (H : Hyp C k nm vs ρ σ A env s ad av) (hk : nm.lookup x = some .globalImplicit) (hv : C.mg x = some v) (h : Q v s) (hd : (x == ("__debug__" : Str)) = false := by decide) : wpAny C.M A (eval (.Name x pos) env) Q E s := by
  refine Name_function_global H.kind (by unfold Env.kindOf; rw [H.names]; exact hk) ?_ hd
  exact loadGlobal_global (H.glob ▸ C.g.keeps H.stays) hv h
theorem name_blt {ρ : Rho} {σ : Sto} {A : Around} {env : Env} {s : Shared} {ad av : List Addr} {x : Str} {pos : Pos} {v : Value} {Q : Value → Shared → Prop} {E : Value → Shared → Prop}
    (H : Hyp C k nm vs ρ σ A env s ad av) (hk : nm.lookup x = some .globalImplicit) (hg : C.mg x = none) (hv : bootBuiltins x = some v) (hn : x ≠ "__name__") (h : Q v s) (hd : (x == ("__debug__" : Str)) = false := by decide) : wpAny C.M A (eval (.Name x pos) env) Q E s := by
  refine Name_function_global H.kind (by unfold Env.kindOf; rw [H.names]; exact hk) ?_ hd
  exact loadGlobal_builtin (H.glob ▸ C.g.keeps H.stays) hg (H.blt ▸ C.b.keeps H.stays) ((C.builtins x hn).trans hv) h
theorem e_glob {x : Str} {pos : Pos} {v : Value} (hk : nm.lookup x = some .globalImplicit) (hv : C.mg x = some v) (hd : (x == ("__debug__" : Str)) = false) : SE C k nm vs (.Name x pos) (cVal (.raw v)) := ⟨fun ρ σ A env s ad av H hb Q E K =>
  name_glob H hk hv (K.ok _ _ _ _ rfl (.raw _) (.refl H)) hd⟩
end

/- ## Plain operations -/
theorem of_bool {γ : Type} {f : Bool → R γ} {p : PV} (h : (match p with | .bool b => f b | _ => R.bad) ≠ .bad) : ∃ b, p = .bool b := by cases p <;> first | exact ⟨_, rfl⟩ | exact absurd rfl h
theorem of_int {γ : Type} {f : Int → R γ} {p : PV} (h : (match p with | .int i => f i | _ => R.bad) ≠ .bad) : ∃ i, p = .int i := by cases p <;> first | exact ⟨_, rfl⟩ | exact absurd rfl h
theorem of_mref {γ : Type} {f : Nat → R γ} {p : PV} (h : (match p with | .mref j => f j | _ => R.bad) ≠ .bad) : ∃ j, p = .mref j := by cases p <;> first | exact ⟨_, rfl⟩ | exact absurd rfl h
theorem of_host {γ : Type} {f : Nat → R γ} {p : PV} (h : (match p with | .host i => f i | _ => R.bad) ≠ .bad) : ∃ i, p = .host i := by cases p <;> first | exact ⟨_, rfl⟩ | exact absurd rfl h
theorem of_str {γ : Type} {f : List Nat → R γ} {p : PV} (h : (match p with | .str l => f l | _ => R.bad) ≠ .bad) : ∃ l, p = .str l := by cases p <;> first | exact ⟨_, rfl⟩ | exact absurd rfl h
theorem of_slf {γ : Type} {f : Addr → Nat → Addr → R γ} {p : PV} (h : (match p with | .slf c j x => f c j x | _ => R.bad) ≠ .bad) : ∃ c j x, p = .slf c j x := by cases p <;> first | exact ⟨_, _, _, rfl⟩ | exact absurd rfl h
noncomputable def pvI {α : Type} (a : PV) (f : Int → Option α) : Option α := match a with
  | .int x => f x
  | _ => Option.none
noncomputable def pvS {α : Type} (a : PV) (f : List Nat → Option α) : Option α := match a with
  | .str x => f x
  | _ => Option.none
noncomputable def pvL {α : Type} (a : PV) (f : List PV → Option α) : Option α := match a with
  | .lst x => f x
  | _ => Option.none
noncomputable def ii {α : Type} (a b : PV) (f : Int → Int → Option α) : Option α := pvI a fun x => pvI b fun y => f x y
noncomputable def ss {α : Type} (a b : PV) (f : List Nat → List Nat → Option α) : Option α := pvS a fun x => pvS b fun y => f x y
theorem nonE {α : Type} {p : α} {P : Prop} (h : (Option.none : Option α) = some p) : P := nomatch h
theorem pvI_inv {α : Type} {a : PV} {f : Int → Option α} {p : α} (h : pvI a f = some p) : ∃ x, a = .int x ∧ f x = some p := by cases a <;> first | exact ⟨_, rfl, h⟩ | exact nonE h
theorem pvS_inv {α : Type} {a : PV} {f : List Nat → Option α} {p : α} (h : pvS a f = some p) : ∃ x, a = .str x ∧ f x = some p := by cases a <;> first | exact ⟨_, rfl, h⟩ | exact nonE h
theorem pvL_inv {α : Type} {a : PV} {f : List PV → Option α} {p : α} (h : pvL a f = some p) : ∃ x, a = .lst x ∧ f x = some p := by cases a <;> first | exact ⟨_, rfl, h⟩ | exact nonE h
noncomputable def arg1 {α β : Type} (ps : List β) (f : β → Option α) : Option α := match ps with
  | [a] => f a
  | _ => Option.none
noncomputable def arg2 {α : Type} (ps : List PV) (f : PV → PV → Option α) : Option α := match ps with
  | [a, b] => f a b
  | _ => Option.none
theorem arg1_inv {α β : Type} {ps : List β} {f : β → Option α} {p : α} (h : arg1 ps f = some p) : ∃ a, ps = [a] ∧ f a = some p := by
  cases ps with
  | nil => exact nonE h
  | cons a r => cases r with
    | nil => exact ⟨a, rfl, h⟩
    | cons _ _ => exact nonE h
theorem arg2_inv {α : Type} {ps : List PV} {f : PV → PV → Option α} {p : α} (h : arg2 ps f = some p) : ∃ a b, ps = [a, b] ∧ f a b = some p := by
  cases ps with
  | nil => exact nonE h
  | cons a r => obtain ⟨b, rfl, h⟩ := arg1_inv (f := f a) (ps := r) (p := p) (by cases r with | nil => exact nonE h | cons b r => cases r with | nil => exact h | cons _ _ => exact nonE h); exact ⟨a, b, rfl, h⟩
theorem iff_inv {α : Type} {c : Prop} [Decidable c] {a p : α} (h : (if c then some a else Option.none) = some p) : c ∧ a = p := by
  split at h
  · exact ⟨by assumption, Option.some.inj h⟩
  · exact nonE h
theorem ii_inv {α : Type} {a b : PV} {f : Int → Int → Option α} {p : α} (h : ii a b f = some p) : ∃ x y, a = .int x ∧ b = .int y ∧ f x y = some p := by
  obtain ⟨x, rfl, h1⟩ := pvI_inv (f := fun x => pvI b (f x)) (a := a) h
  obtain ⟨y, rfl, h2⟩ := pvI_inv h1
  exact ⟨x, y, rfl, rfl, h2⟩
theorem ss_inv {α : Type} {a b : PV} {f : List Nat → List Nat → Option α} {p : α} (h : ss a b f = some p) : ∃ x y, a = .str x ∧ b = .str y ∧ f x y = some p := by
  obtain ⟨x, rfl, h1⟩ := pvS_inv (f := fun x => pvS b (f x)) (a := a) h
  obtain ⟨y, rfl, h2⟩ := pvS_inv h1
  exact ⟨x, y, rfl, rfl, h2⟩
noncomputable def scal (a b : PV) : Option Bool := match a with
  | .str _ => ss a b fun x y => some (x == y)
  | .bool x => (match b with | .bool y => some (x == y) | _ => Option.none)
  | .none => (match b with | .none => some true | _ => Option.none)
  | _ => ii a b fun x y => some (x == y)
theorem scal_inv {a b : PV} {c : Bool} (h : scal a b = some c) : (∃ x y, a = .int x ∧ b = .int y ∧ (x == y) = c) ∨ (∃ x y, a = .str x ∧ b = .str y ∧ (x == y) = c) ∨ (∃ x y, a = .bool x ∧ b = .bool y ∧ (x == y) = c) ∨ (a = .none ∧ b = .none ∧ true = c) := by
  unfold scal at h
  split at h
  · obtain ⟨x, y, e1, e2, e3⟩ := ss_inv h; exact .inr (.inl ⟨x, y, e1, e2, Option.some.inj e3⟩)
  · split at h
    · exact .inr (.inr (.inl ⟨_, _, rfl, rfl, Option.some.inj h⟩))
    · cases h
  · split at h
    · exact .inr (.inr (.inr ⟨rfl, rfl, Option.some.inj h⟩))
    · cases h
  · obtain ⟨x, y, e1, e2, e3⟩ := ii_inv h; exact .inl ⟨x, y, e1, e2, Option.some.inj e3⟩
noncomputable def sameN : Nat → PV → PV → Bool
  | 0, _, _ => false
  | n + 1, .tup xs, .tup ys => xs.length == ys.length && (xs.zip ys).all fun p => sameN n p.1 p.2
  | n + 1, .lst xs, .lst ys => xs.length == ys.length && (xs.zip ys).all fun p => sameN n p.1 p.2
  | _ + 1, a, b => scal a b == some true
noncomputable def closedN : Nat → PV → Bool
  | 0, _ => false
  | n + 1, .tup xs => xs.all (closedN n)
  | n + 1, .lst xs => xs.all (closedN n)
  | _ + 1, .none => true
  | _ + 1, .bool _ => true
  | _ + 1, .int _ => true
  | _ + 1, .str _ => true
  | _ + 1, _ => false
/- lists that turn, as they stand -/
noncomputable def frz (lo : Nat) (σ : Sto) : Nat → PV → Option PV
  | 0, _ => none
  | _ + 1, .mref i => if lo ≤ i then match σ[i]? with
      | some (.lst xs) => if xs.all (closedN 6) then some (.lst xs) else none
      | _ => none else none
  | n + 1, .tup xs => (xs.mapM (frz lo σ n)).map .tup
  | _ + 1, p => if closedN 6 p then some p else none
noncomputable def eqV (σ : Sto) (a b : PV) : Option Bool := match scal a b with
  | some c => some c
  | none => match frz 0 σ 4 a, frz 0 σ 4 b with
    | some a', some b' => if sameN 8 a' b' then some true else none
    | _, _ => none
noncomputable def memV (x : PV) : List PV → Option Bool
  | [] => some false
  | y :: ys => match scal y x, memV x ys with
    | some b, some c => some (b || c)
    | _, _ => none
noncomputable def isV (a b : PV) : Option Bool := match b with
  | .none => (match a with
    | .none => some true
    | .int _ => some false
    | .bool _ => some false
    | .str _ => some false
    | .tup _ => some false
    | .inst _ => some false
    | _ => none)
  | _ => none
noncomputable def inV (a b : PV) : Option Bool := match b with
  | .tup ys => memV a ys
  | _ => none
noncomputable def leV (a b : PV) : Option Bool := match a with
  | .str _ => ss a b fun x y => some (!decide (y < x))
  | _ => ii a b fun x y => some (decide (x ≤ y))
noncomputable def cmpV (op : CmpOp) (σ : Sto) (a b : PV) : Option Bool := match op with
  | .Eq => eqV σ a b
  | .NotEq => (eqV σ a b).map (!·)
  | .Lt => ii a b fun x y => some (decide (x < y))
  | .LtE => leV a b
  | .Gt => ii a b fun x y => some (decide (y < x))
  | .GtE => ii a b fun x y => some (decide (y ≤ x))
  | .In => inV a b
  | .NotIn => (inV a b).map (!·)
  | .Is => isV a b
  | _ => none
theorem leV_inv {a b : PV} {c : Bool} (h : leV a b = some c) : (∃ x y, a = .int x ∧ b = .int y ∧ decide (x ≤ y) = c) ∨ ∃ x y, a = .str x ∧ b = .str y ∧ (!decide (y < x)) = c := by
  unfold leV at h
  split at h
  · obtain ⟨x, y, e1, e2, e3⟩ := ss_inv h; exact .inr ⟨x, y, e1, e2, Option.some.inj e3⟩
  · obtain ⟨x, y, e1, e2, e3⟩ := ii_inv h; exact .inl ⟨x, y, e1, e2, Option.some.inj e3⟩
theorem inV_inv {a b : PV} {c : Bool} (h : inV a b = some c) : ∃ ys, b = .tup ys ∧ memV a ys = some c := by
  unfold inV at h
  split at h
  · exact ⟨_, rfl, h⟩
  · cases h
noncomputable def addV (a b : PV) : Option PV := match a with
  | .str _ => ss a b fun x y => if x.length + y.length ≤ 1000000 then some (.str (x ++ y)) else none
  | _ => ii a b fun x y => some (.int (x + y))
noncomputable def binV (op : Operator) (a b : PV) : Option PV := match op with
  | .Add => addV a b
  | .Sub => ii a b fun x y => some (.int (x - y))
  | .Mult => ii a b fun x y => if x.natAbs < 2 ^ 64 ∨ y.natAbs < 2 ^ 64 then some (.int (x * y)) else none
  | .FloorDiv => ii a b fun x y => if 0 < y ∧ y ≤ 2 ^ 64 then some (.int (x / y)) else none
  | .Mod => ii a b fun x y => if 0 < y ∧ y ≤ 2 ^ 64 then some (.int (x % y)) else none
  | .Pow => ii a b fun x y => if 0 ≤ y ∧ y ≤ 1000 ∧ x.natAbs < 2 ^ 64 then some (.int (x ^ y.toNat)) else none
  | _ => none

section
variable {C : Cx} {k : Nat} {nm : List (Str × NameKind)} {vs : List Str} {ρ : Rho} {σ : Sto} {A : Around} {env : Env} {s : Shared} {ad av : List Addr}
theorem zip_all {α : Type} {f : α × α → Bool} {xs ys : List α} (h : (xs.zip ys).all f = true) {i : Nat} {x y : α} (h1 : xs[i]? = some x) (h2 : ys[i]? = some y) : f (x, y) = true :=
  List.all_eq_true.mp h _ (List.mem_of_getElem? (List.getElem?_zip_eq_some.mpr ⟨h1, h2⟩))
theorem toStr_beq (a b : List Nat) : (toStr a == toStr b) = (a == b) := by
  rw [Bool.eq_iff_iff]; simp [toStr]
theorem scal_eq {a b : PV} {c : Bool} {v w : Value} {h : Heap} {ad av ad' av' : List Addr} (e : scal a b = some c) (ra : Rep h ad av v a) (rb : Rep h ad' av' w b) (A : Around) (s : Shared) : SeqAt.EqAt A s v w c := by
  rcases scal_inv e with ⟨_, _, rfl, rfl, rfl⟩ | ⟨_, _, rfl, rfl, rfl⟩ | ⟨_, _, rfl, rfl, rfl⟩ | ⟨rfl, rfl, rfl⟩
  · obtain ⟨_, rfl⟩ := ra.int_inv
    obtain ⟨_, rfl⟩ := rb.int_inv
    exact SeqAt.EqAt.int_int _ _ _ _
  · obtain ⟨_, rfl⟩ := ra.str_inv
    obtain ⟨_, rfl⟩ := rb.str_inv
    rw [← toStr_beq]
    exact SeqAt.EqAt.str_str _ _ _ _
  · obtain rfl := ra.bool_inv
    obtain rfl := rb.bool_inv
    exact SeqAt.EqAt.bool_bool _ _
  · obtain rfl := ra.none_inv
    obtain rfl := rb.none_inv
    exact .same _

theorem same_eq : ∀ (n : Nat) {p q : PV} {v w : Value} {ad av ad' av' : List Addr} {A : Around} {s : Shared}, sameN n p q = true → Rep s.heap ad av v p → Rep s.heap ad' av' w q → A.units + n < cLine → SeqAt.EqAt A s v w true
  | 0, _, _, _, _, _, _, _, _, _, _, h, _, _, _ => by cases h
  | n + 1, p, q, v, w, ad, av, ad', av', A, s, h, rp, rq, hu => by
    unfold sameN at h
    split at h
    · rename_i heq; cases heq
    · rename_i n' xs ys heq
      cases heq
      rw [Bool.and_eq_true, beq_iff_eq] at h
      obtain ⟨a, vs, rfl, t1, _, r1⟩ := rp.tup_inv
      obtain ⟨b, ws, rfl, t2, _, r2⟩ := rq.tup_inv
      by_cases hab : a = b
      · subst hab; exact .same _
      · have hl : vs.length = ws.length := r1.length.trans (h.1.trans r2.length.symm)
        have := SeqAt.EqAt.of_refs hab (SeqAt.RcAt.tuples (A := A) (e := fun _ => true) t1 t2 (by omega) fun j h1 h2 => by
          have h1' : j < vs.length := by simpa using h1
          have h2' : j < ws.length := by simpa using h2
          obtain ⟨x, hx, rx⟩ := r1.get' (i := j) (List.getElem?_eq_getElem h1')
          obtain ⟨y, hy, ry⟩ := r2.get' (i := j) (List.getElem?_eq_getElem h2')
          simpa using same_eq n (A := A.in1) (zip_all h.2 hx hy) rx ry (by show A.units + 1 + n < cLine; omega))
        have ht : ∀ l : List Nat, (l.all fun _ => true) = true := fun l => List.all_eq_true.mpr fun _ _ => rfl
        simpa [hl, ht] using this
    · rename_i n' xs ys heq
      cases heq
      rw [Bool.and_eq_true, beq_iff_eq] at h
      obtain ⟨a, vs, rfl, t1, _, r1⟩ := rp.lst_inv
      obtain ⟨b, ws, rfl, t2, _, r2⟩ := rq.lst_inv
      by_cases hab : a = b
      · subst hab; exact .same _
      · have hl : vs.length = ws.length := r1.length.trans (h.1.trans r2.length.symm)
        have := SeqAt.EqAt.of_refs hab (SeqAt.RcAt.lists (A := A) (e := fun _ => true) t1 t2 (by simp [hl]) (by omega) fun j h1 h2 => by
          have h1' : j < vs.length := by simpa using h1
          have h2' : j < ws.length := by simpa using h2
          obtain ⟨x, hx, rx⟩ := r1.get' (i := j) (List.getElem?_eq_getElem h1')
          obtain ⟨y, hy, ry⟩ := r2.get' (i := j) (List.getElem?_eq_getElem h2')
          simpa using same_eq n (A := A.in1) (zip_all h.2 hx hy) rx ry (by show A.units + 1 + n < cLine; omega))
        have ht : ∀ l : List Nat, (l.all fun _ => true) = true := fun l => List.all_eq_true.mpr fun _ _ => rfl
        simpa [hl, ht] using this
    · exact scal_eq (by simpa using h) rp rq A s
theorem ff_out {P : Prop} (h : false = true) : P := nomatch h
theorem closed_rep : ∀ (n : Nat) {p : PV} {v : Value} {h : Heap} {ad av ad' av' : List Addr}, closedN n p = true → Rep h ad av v p → (∀ a ∈ av', a ∈ av) → Rep h ad' av' v p
  | 0, _, _, _, _, _, _, _, h, _, _ => by cases h
  | n + 1, p, v, h, ad, av, ad', av', hc, r, hs => by
    have all : ∀ {xs : List PV} {vs : List Value}, (∀ x ∈ xs, closedN n x = true) → Reps h ad av vs xs → Reps h ad' av' vs xs := by
      intro xs
      induction xs with
      | nil => intro vs _ r; cases r; exact .nil
      | cons x xs ih => intro vs hx r; cases r with
        | cons r1 r2 => exact .cons (closed_rep n (hx x (.head _)) r1 hs) (ih (fun y hy => hx y (.tail _ hy)) r2)
    cases r with
    | none => exact .none
    | bool b => exact .bool b
    | int i t => exact .int i t
    | str l t => exact .str l t
    | tup t m r => exact .tup t (fun q => m (hs _ q)) (all (List.all_eq_true.mp hc) r)
    | lst t m r => exact .lst t (fun q => m (hs _ q)) (all (List.all_eq_true.mp hc) r)
    | mref e => exact ff_out hc
    | host e => exact ff_out hc
    | inst e => exact ff_out hc
    | slf e => exact ff_out hc
    | nlst e => exact ff_out hc
    | any v => exact ff_out hc
    | raw v => exact ff_out hc
theorem closed_reps {n : Nat} {h : Heap} {ad av ad' av' : List Addr} (hs : ∀ a ∈ av', a ∈ av) : ∀ {xs : List PV} {vs : List Value}, xs.all (closedN n) = true → Reps h ad av vs xs → Reps h ad' av' vs xs
  | [], _, _, r => by cases r; exact .nil
  | x :: xs, _, hx, r => by
    rw [List.all_cons, Bool.and_eq_true] at hx
    cases r with
    | cons r1 r2 => exact .cons (closed_rep n hx.1 r1 hs) (closed_reps hs hx.2 r2)
/- lists that turn, seen as they stand -/
theorem frz_rep : ∀ (n : Nat) {lo : Nat} {σ : Sto} {p p' : PV} {v : Value} {h : Heap} {ad av ad' av' : List Addr}, frz lo σ n p = some p' → Rep h ad av v p → Sg h ad av σ → (∀ a ∈ av', a ∈ av) →
    (∀ (i : Nat) a, lo ≤ i → ad[i]? = some a → a ∉ av') → Rep h ad' av' v p'
  | 0, _, _, _, _, _, _, _, _, _, _, h, _, _, _, _ => by cases h
  | n + 1, lo, σ, p, p', v, h, ad, av, ad', av', hf, r, sg, hs, ho => by
    unfold frz at hf
    split at hf
    · rename_i heq; cases heq
    · rename_i n' i heq
      cases heq
      split at hf
      · rename_i hlo
        split at hf
        · rename_i xs hx
          split at hf
          · rename_i hc
            cases hf
            obtain ⟨_, rfl, e⟩ := r.mref_inv
            obtain ⟨vs, pl, rs⟩ := sg.at_ _ _ _ e hx
            exact .lst pl.isList (ho _ _ hlo e) (closed_reps hs hc rs)
          · cases hf
        · cases hf
      · cases hf
    · rename_i n' xs heq
      cases heq
      obtain ⟨ys, hy, rfl⟩ := Option.map_eq_some_iff.mp hf
      obtain ⟨_, _, rfl, t, m, r⟩ := r.tup_inv
      refine .tup t (fun q => m (hs _ q)) ?_
      have all : ∀ {xs ys : List PV} {vs : List Value}, xs.mapM (frz lo σ n) = some ys → Reps h ad av vs xs → Reps h ad' av' vs ys := by
        intro xs
        induction xs with
        | nil => intro ys vs e r; cases r; simp at e; subst e; exact .nil
        | cons x xs ih =>
          intro ys vs e r
          rw [List.mapM_cons] at e
          cases hx : frz lo σ n x with
          | none => rw [hx] at e; cases e
          | some x' =>
            rw [hx] at e
            cases hxs : xs.mapM (frz lo σ n) with
            | none => rw [hxs] at e; cases e
            | some xs' =>
              rw [hxs] at e
              cases e
              cases r with
              | cons r1 r2 => exact .cons (frz_rep n hx r1 sg hs ho) (ih hxs r2)
      exact all hy r
    · split at hf
      · rename_i hc; cases hf; exact closed_rep 6 hc r hs
      · cases hf
end
end Mine.Internal
/- G3 -/
namespace Mine.Internal
theorem giv_of {α β : Type} {C : Cx} {A : Around} {ad av : List Addr} {s : Shared} {σ : Sto} {t : Sem α} {o : Option β} {P : Heap → α → β → Prop}
    (h : ∀ b, o = some b → ∀ (Q : α → Shared → Prop) E, (∀ a s', P s'.heap a b → Nxt ad av s σ s' → Q a s') → wpAny C.M A t Q E s) : Giv C A ad av s t (R.of o σ) P := by
  intro hb Q E K
  cases o with
  | none => exact absurd rfl hb
  | some b => exact h b rfl Q E fun a s' p n => K.ok a s' b σ rfl p n
theorem toStr_append (a b : List Nat) : toStr a ++ toStr b = toStr (a ++ b) := by
  show Str.append _ _ = _
  simp [Str.append, toStr]
theorem toStr_length (a : List Nat) : (toStr a).length = a.length := by simp [Str.length, toStr]
section
variable {C : Cx} {k : Nat} {nm : List (Str × NameKind)} {vs : List Str} {ρ : Rho} {σ : Sto} {A : Around} {env : Env} {s : Shared} {ad av : List Addr}

theorem fdiv_pos {a b : Int} (h : 0 < b) : a.fdiv b = a / b := Int.fdiv_eq_ediv_of_nonneg _ (by omega)
theorem fmod_pos {a b : Int} (h : 0 < b) : a.fmod b = a % b := Int.fmod_eq_emod_of_nonneg _ (by omega)

theorem noPy {a b : Int} (h : 0 < b ∧ b ≤ 2 ^ 64) : Builtin.divisionGoesByPylong a b = false :=
  PyProof.noPylong_of_log2 (Nat.lt_trans ((Nat.log2_lt (k := 65) (by omega)).mpr (by omega)) (by decide))
theorem if_inv {α : Type} {c : Prop} [Decidable c] {x p : α} (h : (if c then some x else none) = some p) : c ∧ x = p := by
  split at h
  · exact ⟨by assumption, Option.some.inj h⟩
  · cases h
theorem bin_ok {op : Operator} {a b : PV} {v w : Value} (H : Hyp C k nm vs ρ σ A env s ad av) (ra : Rep s.heap ad av v a) (rb : Rep s.heap ad av w b) :
    Giv C A ad av s (binaryOp op v w) (R.of (binV op a b) σ) (RP ad av) := by
  refine giv_of fun p e Q E K => ?_
  have KI : ∀ i, .int i = p → ∀ t s', Nxt ad av s σ s' → Q (.int i t) s' := fun i hp t s' n => by subst hp; exact K _ _ (.int _ _) n
  unfold binV at e
  split at e
  · unfold addV at e
    split at e
    · obtain ⟨x, y, hx, rfl, e⟩ := ss_inv e
      cases hx
      obtain ⟨hl, rfl⟩ := if_inv e
      obtain ⟨_, rfl⟩ := ra.str_inv
      obtain ⟨_, rfl⟩ := rb.str_inv
      refine PyProof.Rows.add_str (fun t' tk => ?_) ?_
      · rw [toStr_append]; exact K _ _ (.str _ _) (.toks H _)
      · rw [toStr_length, toStr_length]; exact Nat.le_trans hl (by decide)
    · obtain ⟨x, y, rfl, rfl, e⟩ := ii_inv e
      obtain ⟨_, rfl⟩ := ra.int_inv
      obtain ⟨_, rfl⟩ := rb.int_inv
      exact PyProof.Rows.add_int (KI _ (Option.some.inj e) _ _ (.toks H _))
  all_goals first | (cases e; done) | skip
  all_goals
    obtain ⟨x, y, rfl, rfl, e⟩ := ii_inv e
    obtain ⟨_, rfl⟩ := ra.int_inv
    obtain ⟨_, rfl⟩ := rb.int_inv
  · exact PyProof.Rows.sub_int (KI _ (Option.some.inj e) _ _ (.toks H _))
  · obtain ⟨hl, e⟩ := if_inv e
    refine PyProof.Rows.mul_int (KI _ e _ _ (.toks H _)) ?_
    rcases hl with hl | hl
    · exact .of_left (intBits_le_64 (by omega) (by omega))
    · exact .of_right (intBits_le_64 (by omega) (by omega))
  · obtain ⟨hl, e⟩ := if_inv e
    refine PyProof.Rows.floordiv_int (by omega) ?_ (.inl (noPy hl))
    rw [fdiv_pos hl.1]
    exact KI _ e _ _ (.toks H _)
  · obtain ⟨hl, e⟩ := if_inv e
    refine PyProof.Rows.mod_int' (by omega) ?_
    rw [fmod_pos hl.1]
    exact KI _ e _ _ (.toks H _)
  · obtain ⟨hl, e⟩ := if_inv e
    exact PyProof.Rows.pow_int_small hl.1 (by omega) hl.2.2 (KI _ e _ _ (.toks H _))
/- the same where a name turns: += and -= -/
noncomputable def inpV (op : Operator) (a b : PV) : Option PV := match op with
  | .Add => ii a b fun x y => some (.int (x + y))
  | .Sub => ii a b fun x y => some (.int (x - y))
  | _ => none
theorem inp_ok {op : Operator} {a b : PV} {v w : Value} (H : Hyp C k nm vs ρ σ A env s ad av) (ra : Rep s.heap ad av v a) (rb : Rep s.heap ad av w b) :
    Giv C A ad av s (inplaceOp op v w) (R.of (inpV op a b) σ) (RP ad av) := by
  refine giv_of fun p e Q E K => ?_
  have KI : ∀ i, .int i = p → ∀ t s', Nxt ad av s σ s' → Q (.int i t) s' := fun i hp t s' n => by subst hp; exact K _ _ (.int _ _) n
  unfold inpV at e
  split at e
  all_goals first | (cases e; done) | skip
  all_goals
    obtain ⟨x, y, rfl, rfl, e⟩ := ii_inv e
    obtain ⟨_, rfl⟩ := ra.int_inv
    obtain ⟨_, rfl⟩ := rb.int_inv
  · exact PyProof.Rows.iadd_int (KI _ (Option.some.inj e) _ _ (.toks H _))
  · exact PyProof.Rows.isub_int (KI _ (Option.some.inj e) _ _ (.toks H _))


noncomputable def pvOf : Value → PV
  | .int i _ => .int i
  | .str x _ => .str x.cps.toList
  | .bool b => .bool b
  | .none => .none
  | v => .raw v
theorem pvOf_rep {h : Heap} {ad av : List Addr} {v : Value} {p x : PV} {c : Bool} (r : Rep h ad av v p) (e : scal p x = some c) : pvOf v = p := by
  rcases scal_inv e with ⟨_, _, rfl, _⟩ | ⟨_, _, rfl, _⟩ | ⟨_, _, rfl, _⟩ | ⟨rfl, _⟩
  · obtain ⟨_, rfl⟩ := r.int_inv; rfl
  · obtain ⟨_, rfl⟩ := r.str_inv; rfl
  · obtain rfl := r.bool_inv; rfl
  · obtain rfl := r.none_inv; rfl
theorem mem_any {x : PV} {h : Heap} {ad av : List Addr} : ∀ {ys : List PV} {ws : List Value} {b : Bool}, memV x ys = some b → Reps h ad av ws ys →
    (ws.any fun v => (scal (pvOf v) x).getD false) = b ∧ ∀ y ∈ ws, ∃ p c, Rep h ad av y p ∧ scal p x = some c ∧ pvOf y = p
  | [], _, b, e, r => by cases e; cases r; exact ⟨rfl, fun _ h => nomatch h⟩
  | _ :: _, _, b, e, r => by
    cases r with
    | @cons y _ _ _ r rs =>
      unfold memV at e
      split at e
      · rename_i b1 c1 h1 h2
        cases e
        obtain ⟨q1, q2⟩ := mem_any h2 rs
        have hp := pvOf_rep r h1
        refine ⟨by rw [List.any_cons, q1, hp, h1]; rfl, fun z hz => ?_⟩
        rcases List.mem_cons.mp hz with rfl | hz
        · exact ⟨_, b1, r, h1, hp⟩
        · exact q2 z hz
      · cases e
theorem in_ok {x : PV} {ys : List PV} {v w : Value} {c : Bool} (rx : Rep s.heap ad av v x) (ry : Rep s.heap ad av w (.tup ys)) (e : memV x ys = some c)
    {Q : Value → Shared → Prop} {E : Value → Shared → Prop} (h : Q (.bool c) s) : wpAny C.M A (compareOp .In v w) Q E s := by
  obtain ⟨_, _, rfl, t, _, rs⟩ := ry.tup_inv
  obtain ⟨q1, q2⟩ := mem_any e rs
  refine SeqAt.in_tupleAt (fun v => (scal (pvOf v) x).getD false) t (fun y hy => ?_) (by rw [List.any_toArray, q1]; exact h)
  obtain ⟨p, c', r, hs, hp⟩ := q2 y (by simpa using hy)
  rw [hp, hs]
  exact scal_eq hs r rx _ _
theorem notIn_ok {x : PV} {ys : List PV} {v w : Value} {c : Bool} (rx : Rep s.heap ad av v x) (ry : Rep s.heap ad av w (.tup ys)) (e : memV x ys = some c)
    {Q : Value → Shared → Prop} {E : Value → Shared → Prop} (h : Q (.bool (!c)) s) : wpAny C.M A (compareOp .NotIn v w) Q E s := by
  obtain ⟨_, _, rfl, t, _, rs⟩ := ry.tup_inv
  obtain ⟨q1, q2⟩ := mem_any e rs
  refine SeqAt.notIn_tupleAt (fun v => (scal (pvOf v) x).getD false) t (fun y hy => ?_) (by rw [List.any_toArray, q1]; exact h)
  obtain ⟨p, c', r, hs, hp⟩ := q2 y (by simpa using hy)
  rw [hp, hs]
  exact scal_eq hs r rx _ _

theorem scal_rc {a b : PV} {v w : Value} {c : Bool} {h : Heap} {ad av ad' av' : List Addr} (hc : scal a b = some c) (ra : Rep h ad av v a) (rb : Rep h ad' av' w b) : SeqAt.RcAt A s v w c ∧ SeqAt.RcNeAt A s v w (!c) := by
  rcases scal_inv hc with ⟨_, _, rfl, rfl, rfl⟩ | ⟨_, _, rfl, rfl, rfl⟩ | ⟨_, _, rfl, rfl, rfl⟩ | ⟨rfl, rfl, rfl⟩
  · obtain ⟨_, rfl⟩ := ra.int_inv
    obtain ⟨_, rfl⟩ := rb.int_inv
    exact ⟨SeqAt.RcAt.int_int _ _ _ _, SeqAt.RcNeAt.int_int _ _ _ _⟩
  · obtain ⟨_, rfl⟩ := ra.str_inv
    obtain ⟨_, rfl⟩ := rb.str_inv
    rw [← toStr_beq]; exact ⟨SeqAt.RcAt.str_str _ _ _ _, SeqAt.RcNeAt.str_str _ _ _ _⟩
  · obtain rfl := ra.bool_inv
    obtain rfl := rb.bool_inv
    exact ⟨SeqAt.RcAt.bool_bool _ _, SeqAt.RcNeAt.bool_bool _ _⟩
  · obtain rfl := ra.none_inv
    obtain rfl := rb.none_inv
    exact ⟨SeqAt.RcAt.none_none, SeqAt.RcNeAt.none_none⟩
theorem same_rc {n : Nat} {p q : PV} {v w : Value} {ad av ad' av' : List Addr} (h : sameN (n + 1) p q = true) (rp : Rep s.heap ad av v p) (rq : Rep s.heap ad' av' w q) (hu : A.units + (n + 1) < cLine) :
    SeqAt.RcAt A s v w true ∧ SeqAt.RcNeAt A s v w false := by
  have ht : ∀ l : List Nat, (l.all fun _ => true) = true := fun l => List.all_eq_true.mpr fun _ _ => rfl
  unfold sameN at h
  split at h
  · rename_i heq; cases heq
  · rename_i n' xs ys heq
    cases heq
    rw [Bool.and_eq_true, beq_iff_eq] at h
    obtain ⟨a, vs, rfl, t1, _, r1⟩ := rp.tup_inv
    obtain ⟨b, ws, rfl, t2, _, r2⟩ := rq.tup_inv
    have hl : vs.length = ws.length := r1.length.trans (h.1.trans r2.length.symm)
    have he : ∀ j (h1 : j < vs.toArray.size) (h2 : j < ws.toArray.size), SeqAt.EqAt A.in1 s vs.toArray[j] ws.toArray[j] ((fun _ => true) j) := fun j h1 h2 => by
      have h1' : j < vs.length := by simpa using h1
      have h2' : j < ws.length := by simpa using h2
      obtain ⟨x, hx, rx⟩ := r1.get' (i := j) (List.getElem?_eq_getElem h1')
      obtain ⟨y, hy, ry⟩ := r2.get' (i := j) (List.getElem?_eq_getElem h2')
      simpa using same_eq n (A := A.in1) (zip_all h.2 hx hy) rx ry (by show A.units + 1 + n < cLine; omega)
    exact ⟨by simpa [hl, ht] using SeqAt.RcAt.tuples t1 t2 (by omega) he, by simpa [hl, ht] using SeqAt.RcNeAt.tuples t1 t2 (by omega) he⟩
  · rename_i n' xs ys heq
    cases heq
    rw [Bool.and_eq_true, beq_iff_eq] at h
    obtain ⟨a, vs, rfl, t1, _, r1⟩ := rp.lst_inv
    obtain ⟨b, ws, rfl, t2, _, r2⟩ := rq.lst_inv
    have hl : vs.length = ws.length := r1.length.trans (h.1.trans r2.length.symm)
    have he : ∀ j (h1 : j < vs.toArray.size) (h2 : j < ws.toArray.size), SeqAt.EqAt A.in1 s vs.toArray[j] ws.toArray[j] ((fun _ => true) j) := fun j h1 h2 => by
      have h1' : j < vs.length := by simpa using h1
      have h2' : j < ws.length := by simpa using h2
      obtain ⟨x, hx, rx⟩ := r1.get' (i := j) (List.getElem?_eq_getElem h1')
      obtain ⟨y, hy, ry⟩ := r2.get' (i := j) (List.getElem?_eq_getElem h2')
      simpa using same_eq n (A := A.in1) (zip_all h.2 hx hy) rx ry (by show A.units + 1 + n < cLine; omega)
    exact ⟨by simpa [hl, ht] using SeqAt.RcAt.lists t1 t2 (by simp [hl]) (by omega) he, by simpa [hl, ht] using SeqAt.RcNeAt.lists t1 t2 (by simp [hl]) (by omega) he⟩
  · exact scal_rc (by simpa using h) rp rq
theorem eq_rc {a b : PV} {v w : Value} {c : Bool} (H : Hyp C k nm vs ρ σ A env s ad av) (ra : Rep s.heap ad av v a) (rb : Rep s.heap ad av w b) (e : eqV σ a b = some c) :
    SeqAt.RcAt A s v w c ∧ SeqAt.RcNeAt A s v w (!c) := by
  unfold eqV at e
  split at e
  · rename_i c' hc
    cases e
    exact scal_rc hc ra rb
  · split at e
    · rename_i a' b' ha hb
      split at e <;> cases e
      rename_i hs
      have ra' := frz_rep 4 (ad' := []) (av' := []) ha ra H.sg (fun _ h => nomatch h) (fun _ _ _ _ h => nomatch h)
      have rb' := frz_rep 4 (ad' := []) (av' := []) hb rb H.sg (fun _ h => nomatch h) (fun _ _ _ _ h => nomatch h)
      exact same_rc hs ra' rb' (by have := H.un; omega)
    · cases e

noncomputable abbrev BV : Heap → Value → Bool → Prop := fun _ v b => v = .bool b
theorem isV_ok {a b : PV} {v w : Value} {p : Bool} {h : Heap} {Q : Value → Shared → Prop} {E : Value → Shared → Prop} (ra : Rep h ad av v a) (rb : Rep h ad av w b) (e : isV a b = some p) (K' : Q (.bool p) s) : wpAny C.M A (compareOp .Is v w) Q E s := by
  unfold isV at e
  split at e
  case h_2 => cases e
  obtain rfl := rb.none_inv
  split at e <;> cases e
  · obtain rfl := ra.none_inv
    exact is_none K'
  · obtain ⟨_, rfl⟩ := ra.int_inv
    exact is_none K'
  · obtain rfl := ra.bool_inv
    exact is_none K'
  · obtain ⟨_, rfl⟩ := ra.str_inv
    exact is_none K'
  · obtain ⟨_, _, rfl, _⟩ := ra.tup_inv
    exact is_none K'
  · obtain ⟨_, rfl⟩ := ra.inst_inv
    exact is_none K'
theorem cmp_ok {op : CmpOp} {a b : PV} {v w : Value} (H : Hyp C k nm vs ρ σ A env s ad av) (ra : Rep s.heap ad av v a) (rb : Rep s.heap ad av w b) :
    Giv C A ad av s (compareOp op v w) (R.of (cmpV op σ a b) σ) BV := by
  refine giv_of fun p e Q E K => ?_
  have K' := K (.bool p) s rfl (.refl H)
  clear K
  unfold cmpV at e
  split at e
  · exact (eq_rc H ra rb e).1 _ _ _ _ K'
  · obtain ⟨c, hc, rfl⟩ := Option.map_eq_some_iff.mp e
    exact (eq_rc H ra rb hc).2 _ _ _ _ K'
  · obtain ⟨x, y, rfl, rfl, e⟩ := ii_inv e
    obtain rfl := Option.some.inj e
    obtain ⟨_, rfl⟩ := ra.int_inv
    obtain ⟨_, rfl⟩ := rb.int_inv
    exact PyProof.Rows.lt_int K'
  · rcases leV_inv e with ⟨x, y, rfl, rfl, rfl⟩ | ⟨x, y, rfl, rfl, rfl⟩
    · obtain ⟨_, rfl⟩ := ra.int_inv
      obtain ⟨_, rfl⟩ := rb.int_inv
      exact PyProof.Rows.le_int K'
    · obtain ⟨_, rfl⟩ := ra.str_inv
      obtain ⟨_, rfl⟩ := rb.str_inv
      exact P.le_str K'
  · obtain ⟨x, y, rfl, rfl, e⟩ := ii_inv e
    obtain rfl := Option.some.inj e
    obtain ⟨_, rfl⟩ := ra.int_inv
    obtain ⟨_, rfl⟩ := rb.int_inv
    exact PyProof.Rows.gt_int K'
  · obtain ⟨x, y, rfl, rfl, e⟩ := ii_inv e
    obtain rfl := Option.some.inj e
    obtain ⟨_, rfl⟩ := ra.int_inv
    obtain ⟨_, rfl⟩ := rb.int_inv
    exact PyProof.Rows.ge_int K'
  · obtain ⟨ys, rfl, e⟩ := inV_inv e
    exact in_ok ra rb e K'
  · obtain ⟨c, hc, rfl⟩ := Option.map_eq_some_iff.mp e
    obtain ⟨ys, rfl, hc⟩ := inV_inv hc
    exact notIn_ok ra rb hc K'
  · exact isV_ok ra rb e K'
  · cases e
end
end Mine.Internal
/- G4 -/
namespace Mine.Internal
noncomputable def asB (f : Rho → Sto → R PV) : Rho → Sto → R Bool := fun ρ σ => (f ρ σ).bind fun p σ => match p with
  | .bool b => .val b σ
  | _ => .bad
noncomputable def toV (f : Rho → Sto → R Bool) : Rho → Sto → R PV := fun ρ σ => (f ρ σ).bind fun b σ => .val (.bool b) σ
noncomputable def cBin (op : Operator) (f g : Rho → Sto → R PV) : Rho → Sto → R PV := fun ρ σ => (f ρ σ).bind fun a σ => (g ρ σ).bind fun b σ => R.of (binV op a b) σ
noncomputable def tCmp (op : CmpOp) (f g : Rho → Sto → R PV) : Rho → Sto → R Bool := fun ρ σ => (f ρ σ).bind fun a σ => (g ρ σ).bind fun b σ => R.of (cmpV op σ a b) σ
noncomputable def tChain (op op' : CmpOp) (f g h : Rho → Sto → R PV) : Rho → Sto → R Bool := fun ρ σ => (f ρ σ).bind fun a σ => (g ρ σ).bind fun b σ => (R.of (cmpV op σ a b) σ).bind fun t σ =>
  if t then (h ρ σ).bind fun c σ => R.of (cmpV op' σ b c) σ else .val false σ
noncomputable def cNeg (f : Rho → Sto → R PV) : Rho → Sto → R PV := fun ρ σ => (f ρ σ).bind fun a σ => match a with
  | .int i => .val (.int (-i)) σ
  | _ => .bad
noncomputable def tNot (f : Rho → Sto → R Bool) : Rho → Sto → R Bool := fun ρ σ => (f ρ σ).bind fun b σ => .val (!b) σ
noncomputable def tBo (op : BoolOp) (f g : Rho → Sto → R Bool) : Rho → Sto → R Bool := fun ρ σ => (f ρ σ).bind fun b σ => match op, b with
  | .And, false => .val false σ
  | .Or, true => .val true σ
  | _, _ => g ρ σ
noncomputable def cIf (t : Rho → Sto → R Bool) (f g : Rho → Sto → R PV) : Rho → Sto → R PV := fun ρ σ => (t ρ σ).bind fun b σ => if b then f ρ σ else g ρ σ
noncomputable def cNil : Rho → Sto → R (List PV) := fun _ σ => .val [] σ
noncomputable def cCons (f : Rho → Sto → R PV) (g : Rho → Sto → R (List PV)) : Rho → Sto → R (List PV) := fun ρ σ => (f ρ σ).bind fun a σ => (g ρ σ).bind fun l σ => .val (a :: l) σ
noncomputable def cTup (g : Rho → Sto → R (List PV)) : Rho → Sto → R PV := fun ρ σ => (g ρ σ).bind fun l σ => if l.length ≤ 1000 then .val (.tup l) σ else .bad
noncomputable def cLst (g : Rho → Sto → R (List PV)) : Rho → Sto → R PV := fun ρ σ => (g ρ σ).bind fun l σ => if l.length ≤ 1000 then .val (.lst l) σ else .bad

section
variable {C : Cx} {k : Nat} {nm : List (Str × NameKind)} {vs : List Str}
theorem seq_bool {α γ : Type} {A : Around} {ad av : List Addr} {s : Shared} {t : Sem Value} {r : R PV} {g : Bool → Sto → R γ} {P' : Heap → α → γ → Prop} {Q : Value → Shared → Prop} {Q' : α → Shared → Prop} {E : Value → Shared → Prop}
    (h : Giv C A ad av s t r (RP ad av)) (hb : ((r.bind fun p σ => match p with | .bool b => R.val b σ | _ => .bad).bind g) ≠ .bad) (K : Kon A ad av s ((r.bind fun p σ => match p with | .bool b => R.val b σ | _ => .bad).bind g) P' Q' E)
    (hk : ∀ s₁ b σ₁, Nxt ad av s σ₁ s₁ → g b σ₁ ≠ .bad → Kon A ad av s₁ (g b σ₁) P' Q' E → Q (.bool b) s₁) : wpAny C.M A t Q E s := by
  have e : ((r.bind fun p σ => match p with | .bool b => R.val b σ | _ => .bad).bind g) = r.bind fun p σ => match p with | .bool b => g b σ | _ => .bad := by
    cases r with
    | bad => rfl
    | val p σ => cases p <;> rfl
    | exc σ => rfl
  rw [e] at hb K
  refine h.seq hb K fun a s₁ p σ₁ ra n hb K => ?_
  obtain ⟨b, rfl⟩ : ∃ b, p = PV.bool b := of_bool hb
  obtain rfl := ra.bool_inv
  exact hk _ _ _ n hb K
theorem e_bin {op : Operator} {l r : Expr} {pos : Pos} {f g : Rho → Sto → R PV} (hl : SE C k nm vs l f) (hr : SE C k nm vs r g) : SE C k nm vs (.BinOp l op r pos) (cBin op f g) := by
  refine ⟨?_⟩
  intro ρ σ A env s ad av H hb Q E K
  refine wpAny_BinOp ((hl.run ρ σ A env s ad av H).seq hb K fun a s₁ p σ₁ ra n₁ hb K => ?_)
  have H₁ := H.next n₁
  refine (hr.run ρ σ₁ A env s₁ ad av H₁).seq hb K fun b s₂ q σ₂ rb n₂ hb K => ?_
  exact bin_ok (H₁.next n₂) (ra.keep n₂.kp) rb hb Q E K
theorem t_cmp {op : CmpOp} {l r : Expr} {pos : Pos} {f g : Rho → Sto → R PV} (hl : SE C k nm vs l f) (hr : SE C k nm vs r g) (hm : behindInMarks op r = false := by with_unfolding_all rfl) : ST C k nm vs (.Compare l [op] [r] pos) (tCmp op f g) := by
  refine ⟨?_⟩
  intro ρ σ A env s ad av H hb Q E K
  refine wpAny_isTrue_Compare1 ((hl.run ρ σ A env s ad av H).seq hb K fun a s₁ p σ₁ ra n₁ hb K => ?_) hm
  have H₁ := H.next n₁
  refine (hr.run ρ σ₁ A env s₁ ad av H₁).seq hb K fun b s₂ q σ₂ rb n₂ hb K => ?_
  refine cmp_ok (H₁.next n₂) (ra.keep n₂.kp) rb hb _ E ⟨fun v s₃ c σ₃ e hv n₃ => ?_, K.ex⟩
  subst hv
  exact wpAny_truthy_bool (K.ok _ _ _ _ e rfl n₃)
theorem e_cmp {op : CmpOp} {l r : Expr} {pos : Pos} {f g : Rho → Sto → R PV} (hl : SE C k nm vs l f) (hr : SE C k nm vs r g) (hm : behindInMarks op r = false := by with_unfolding_all rfl) : SE C k nm vs (.Compare l [op] [r] pos) (toV (tCmp op f g)) := by
  refine ⟨?_⟩
  intro ρ σ A env s ad av H hb Q E K
  have e : toV (tCmp op f g) ρ σ = (f ρ σ).bind fun a σ => (g ρ σ).bind fun b σ => (R.of (cmpV op σ a b) σ).bind fun b σ => .val (.bool b) σ := by
    unfold toV tCmp
    cases f ρ σ with
    | bad => rfl
    | exc σ => rfl
    | val a σ => dsimp only [R.bind_val]; cases g ρ σ <;> rfl
  rw [e] at hb K
  refine wpAny_Compare1 ((hl.run ρ σ A env s ad av H).seq hb K fun a s₁ p σ₁ ra n₁ hb K => ?_) hm
  have H₁ := H.next n₁
  refine (hr.run ρ σ₁ A env s₁ ad av H₁).seq hb K fun b s₂ q σ₂ rb n₂ hb K => ?_
  refine (cmp_ok (H₁.next n₂) (ra.keep n₂.kp) rb).seq hb K fun v s₃ c σ₃ hv n₃ hb K => ?_
  subst hv
  exact K.ok _ _ _ _ rfl (.bool _) (.refl (H₁.next n₂ |>.next n₃))
theorem t_chain {op op' : CmpOp} {l m r : Expr} {pos : Pos} {f g h : Rho → Sto → R PV} (hl : SE C k nm vs l f) (hm : SE C k nm vs m g) (hr : SE C k nm vs r h) (hq : lastMarks [op, op'] [m, r] = false := by with_unfolding_all rfl) :
    ST C k nm vs (.Compare l [op, op'] [m, r] pos) (tChain op op' f g h) := by
  refine ⟨?_⟩
  intro ρ σ A env s ad av H hb Q E K
  refine isTrue_chain ((hl.run ρ σ A env s ad av H).seq hb K fun a s₁ p σ₁ ra n₁ hb K => test_link ?_) hq
  have H₁ := H.next n₁
  refine (hm.run ρ σ₁ A env s₁ ad av H₁).seq hb K fun b s₂ q σ₂ rb n₂ hb K => ?_
  have H₂ := H₁.next n₂
  refine (cmp_ok H₂ (ra.keep n₂.kp) rb).seq hb K fun v s₃ c σ₃ hv n₃ hb K => ?_
  subst hv
  have H₃ := H₂.next n₃
  refine wpAny_truthy_bool ?_
  cases c with
  | false => exact K.ok _ _ _ _ rfl rfl (.refl H₃)
  | true =>
    refine test_last ((hr.run ρ σ₃ A env s₃ ad av H₃).seq hb K fun b' s₄ q' σ₄ rb' n₄ hb K => ?_)
    refine cmp_ok (H₃.next n₄) ((rb.keep n₃.kp).keep n₄.kp) rb' hb _ E ⟨fun v s₅ c σ₅ e hv n₅ => ?_, K.ex⟩
    subst hv
    exact wpAny_truthy_bool (K.ok _ _ _ _ e rfl n₅)
theorem e_chain {op op' : CmpOp} {l m r : Expr} {pos : Pos} {f g h : Rho → Sto → R PV} (hl : SE C k nm vs l f) (hm : SE C k nm vs m g) (hr : SE C k nm vs r h) (hq : lastMarks [op, op'] [m, r] = false := by with_unfolding_all rfl) :
    SE C k nm vs (.Compare l [op, op'] [m, r] pos) (toV (tChain op op' f g h)) := by
  refine ⟨?_⟩
  intro ρ σ A env s ad av H hb Q E K
  have e : toV (tChain op op' f g h) ρ σ = (f ρ σ).bind fun a σ => (g ρ σ).bind fun b σ => (R.of (cmpV op σ a b) σ).bind fun t σ =>
      if t then (h ρ σ).bind fun c σ => (R.of (cmpV op' σ b c) σ).bind fun b σ => .val (.bool b) σ else .val (.bool false) σ := by
    unfold toV tChain
    cases f ρ σ with
    | bad => rfl
    | exc σ => rfl
    | val a σ =>
      dsimp only [R.bind_val]
      cases g ρ σ with
      | bad => rfl
      | exc σ => rfl
      | val b σ =>
        dsimp only [R.bind_val]
        cases R.of (cmpV op σ a b) σ with
        | bad => rfl
        | exc σ => rfl
        | val t σ =>
          dsimp only [R.bind_val]
          cases t with
          | false => rfl
          | true => simp only [if_true]; cases h ρ σ <;> rfl
  rw [e] at hb K
  refine Compare_chain ((hl.run ρ σ A env s ad av H).seq hb K fun a s₁ p σ₁ ra n₁ hb K => chain_link ?_) hq
  have H₁ := H.next n₁
  refine (hm.run ρ σ₁ A env s₁ ad av H₁).seq hb K fun b s₂ q σ₂ rb n₂ hb K => ?_
  have H₂ := H₁.next n₂
  refine (cmp_ok H₂ (ra.keep n₂.kp) rb).seq hb K fun v s₃ c σ₃ hv n₃ hb K => ?_
  subst hv
  have H₃ := H₂.next n₃
  refine wpAny_truthy_bool ?_
  cases c with
  | false => exact K.ok _ _ _ _ rfl (.bool _) (.refl H₃)
  | true =>
    refine chain_last ((hr.run ρ σ₃ A env s₃ ad av H₃).seq hb K fun b' s₄ q' σ₄ rb' n₄ hb K => ?_)
    refine (cmp_ok (H₃.next n₄) ((rb.keep n₃.kp).keep n₄.kp) rb').seq hb K fun v s₅ c σ₅ hv n₅ hb K => ?_
    subst hv
    exact K.ok _ _ _ _ rfl (.bool _) (.refl ((H₃.next n₄).next n₅))
theorem e_neg {x : Expr} {pos : Pos} {f : Rho → Sto → R PV} (hx : SE C k nm vs x f) : SE C k nm vs (.UnaryOp .USub x pos) (cNeg f) := by
  refine ⟨?_⟩
  intro ρ σ A env s ad av H hb Q E K
  refine wpAny_UnaryOp ((hx.run ρ σ A env s ad av H).seq hb K fun a s₁ p σ₁ ra n₁ hb K => ?_)
  obtain ⟨i, rfl⟩ : ∃ i, p = PV.int i := of_int hb
  obtain ⟨_, rfl⟩ := ra.int_inv
  exact PyProof.Rows.neg_int (K.ok _ _ _ _ rfl (.int _ _) (.toks (H.next n₁) _))
theorem t_val {e : Expr} {f : Rho → Sto → R PV} (h : SE C k nm vs e f) (he : ∀ env whole, isTrue e env whole = (do let v ← whole; standAt e.pos; holding [v] (truthy v)) := by intro _ _; rfl) : ST C k nm vs e (asB f) := by
  refine ⟨?_⟩
  intro ρ σ A env s ad av H hb Q E K
  refine wpAny_isTrue_value ((h.run ρ σ A env s ad av H).seq hb K fun a s₁ p σ₁ ra n₁ hb K => ?_) (he _ _)
  obtain ⟨b, rfl⟩ : ∃ b, p = PV.bool b := of_bool hb
  obtain rfl := ra.bool_inv
  exact wpAny_truthy_bool (K.ok _ _ _ _ rfl rfl (.refl (H.next n₁)))
theorem t_not {x : Expr} {pos : Pos} {f : Rho → Sto → R Bool} (hx : ST C k nm vs x f) : ST C k nm vs (.UnaryOp .Not x pos) (tNot f) := by
  refine ⟨?_⟩
  intro ρ σ A env s ad av H hb Q E K
  refine wpAny_isTrue_Not ((hx.run ρ σ A env s ad av H).seq hb K fun a s₁ p σ₁ ra n₁ hb K => ?_)
  subst ra
  exact K.ok _ _ _ _ rfl rfl (.refl (H.next n₁))
theorem e_not {x : Expr} {pos : Pos} {f : Rho → Sto → R PV} (hx : SE C k nm vs x f) : SE C k nm vs (.UnaryOp .Not x pos) (toV (tNot (asB f))) := by
  refine ⟨?_⟩
  intro ρ σ A env s ad av H hb Q E K
  have e : toV (tNot (asB f)) ρ σ = (asB f ρ σ).bind fun b σ => .val (.bool (!b)) σ := by
    unfold toV tNot
    cases asB f ρ σ <;> rfl
  rw [e] at hb K
  refine wpAny_UnaryOp (seq_bool (hx.run ρ σ A env s ad av H) hb K fun s₁ b σ₁ n₁ hb K => ?_)
  exact not_value (wpAny_truthy_bool (K.ok _ _ _ _ rfl (.bool _) (.refl (H.next n₁))))
/- and, or: as tests -/
structure STs (C : Cx) (k : Nat) (nm : List (Str × NameKind)) (vs : List Str) (op : BoolOp) (es : List Expr) (f : Rho → Sto → R Bool) : Prop where
  run : ∀ ρ σ A env s ad av, Hyp C k nm vs ρ σ A env s ad av → Giv C A ad av s (allTrue op es env) (f ρ σ) BP
theorem ts_one {op : BoolOp} {e : Expr} {f : Rho → Sto → R Bool} (h : ST C k nm vs e f) : STs C k nm vs op [e] f := by
  refine ⟨?_⟩
  intro ρ σ A env s ad av H hb Q E K
  cases op with
  | And =>
    refine wpAny_allTrue_And_cons (h.run ρ σ A env s ad av H hb _ E ⟨fun a s' b σ' e p n => ?_, K.ex⟩)
    subst p
    cases a with
    | false => exact K.ok _ _ _ _ e rfl n
    | true => exact wpAny_allTrue_And_nil (K.ok _ _ _ _ e rfl n)
  | Or =>
    refine wpAny_allTrue_Or_cons (h.run ρ σ A env s ad av H hb _ E ⟨fun a s' b σ' e p n => ?_, K.ex⟩)
    subst p
    cases a with
    | true => exact K.ok _ _ _ _ e rfl n
    | false => exact wpAny_allTrue_Or_nil (K.ok _ _ _ _ e rfl n)
theorem ts_cons {op : BoolOp} {e : Expr} {es : List Expr} {f g : Rho → Sto → R Bool} (h : ST C k nm vs e f) (hs : STs C k nm vs op es g) : STs C k nm vs op (e :: es) (tBo op f g) := by
  refine ⟨?_⟩
  intro ρ σ A env s ad av H hb Q E K
  cases op with
  | And =>
    refine wpAny_allTrue_And_cons ((h.run ρ σ A env s ad av H).seq hb K fun a s₁ b σ₁ p n hb K => ?_)
    subst p
    cases a with
    | false => exact K.ok _ _ _ _ rfl rfl (.refl (H.next n))
    | true => exact hs.run ρ σ₁ A env s₁ ad av (H.next n) hb Q E K
  | Or =>
    refine wpAny_allTrue_Or_cons ((h.run ρ σ A env s ad av H).seq hb K fun a s₁ b σ₁ p n hb K => ?_)
    subst p
    cases a with
    | true => exact K.ok _ _ _ _ rfl rfl (.refl (H.next n))
    | false => exact hs.run ρ σ₁ A env s₁ ad av (H.next n) hb Q E K
theorem t_bo {op : BoolOp} {es : List Expr} {pos : Pos} {f : Rho → Sto → R Bool} (h : STs C k nm vs op es f) : ST C k nm vs (.BoolOp op es pos) f := ⟨fun ρ σ A env s ad av H hb Q E K =>
  wpAny_isTrue_BoolOp (h.run ρ σ A env s ad av H hb Q E K)⟩
/- and, or: as values -/
structure SBs (C : Cx) (k : Nat) (nm : List (Str × NameKind)) (vs : List Str) (pos : Pos) (op : BoolOp) (es : List Expr) (f : Rho → Sto → R Bool) : Prop where
  run : ∀ ρ σ A env s ad av, Hyp C k nm vs ρ σ A env s ad av → Giv C A ad av s (boolOp pos op (evalEach es env)) (f ρ σ) BV
theorem bs_one {op : BoolOp} {e : Expr} {pos : Pos} {f : Rho → Sto → R PV} (h : SE C k nm vs e f) : SBs C k nm vs pos op [e] (asB f) := by
  refine ⟨?_⟩
  intro ρ σ A env s ad av H hb Q E K
  refine (h.run ρ σ A env s ad av H).seq hb K fun a s₁ p σ₁ ra n₁ hb K => ?_
  obtain ⟨b, rfl⟩ : ∃ b, p = PV.bool b := of_bool hb
  obtain rfl := ra.bool_inv
  exact K.ok _ _ _ _ rfl rfl (.refl (H.next n₁))
theorem bs_cons {op : BoolOp} {e e' : Expr} {es : List Expr} {pos : Pos} {f : Rho → Sto → R PV} {g : Rho → Sto → R Bool} (h : SE C k nm vs e f) (hs : SBs C k nm vs pos op (e' :: es) g) : SBs C k nm vs pos op (e :: e' :: es) (tBo op (asB f) g) := by
  refine ⟨?_⟩
  intro ρ σ A env s ad av H hb Q E K
  show wpAny C.M A (do
    let v ← eval e env
    standAt pos
    let t ← holding [v] (truthy v)
    match op, t with
    | .And, false | .Or, true => pure v
    | _, _ => boolOp pos op (evalEach (e' :: es) env)) Q E s
  refine wpAny_bind (seq_bool (h.run ρ σ A env s ad av H) hb K fun s₁ b σ₁ n₁ hb K => wpAny_bind (wpAny_standAt (wpAny_bind (wpAny_holding (wpAny_truthy_bool ?_)))))
  have H₁ := H.next n₁
  cases op <;> cases b
  · exact wpAny_pure (K.ok _ _ _ _ rfl rfl (.refl H₁))
  · exact hs.run ρ σ₁ A env s₁ ad av H₁ hb Q E K
  · exact hs.run ρ σ₁ A env s₁ ad av H₁ hb Q E K
  · exact wpAny_pure (K.ok _ _ _ _ rfl rfl (.refl H₁))
theorem e_bo {op : BoolOp} {es : List Expr} {pos : Pos} {f : Rho → Sto → R Bool} (h : SBs C k nm vs pos op es f) : SE C k nm vs (.BoolOp op es pos) (toV f) := by
  refine ⟨?_⟩
  intro ρ σ A env s ad av H hb Q E K
  rw [arm_eval_BoolOp]
  refine (h.run ρ σ A env s ad av H).seq hb K fun a s₁ b σ₁ p n hb K => ?_
  subst p
  exact K.ok _ _ _ _ rfl (.bool _) (.refl (H.next n))
theorem e_if {t a b : Expr} {pos : Pos} {ft : Rho → Sto → R Bool} {f g : Rho → Sto → R PV} (ht : ST C k nm vs t ft) (ha : SE C k nm vs a f) (hb : SE C k nm vs b g) : SE C k nm vs (.IfExp t a b pos) (cIf ft f g) := by
  refine ⟨?_⟩
  intro ρ σ A env s ad av H hbad Q E K
  refine wpAny_IfExp ((ht.run ρ σ A env s ad av H).seq hbad K fun x s₁ c σ₁ p n hbad K => ?_)
  subst p
  cases x with
  | true => exact ha.run ρ σ₁ A env s₁ ad av (H.next n) hbad Q E K
  | false => exact hb.run ρ σ₁ A env s₁ ad av (H.next n) hbad Q E K
/- rows of expressions -/
structure SEs (C : Cx) (k : Nat) (nm : List (Str × NameKind)) (vs : List Str) (es : List Expr) (f : Rho → Sto → R (List PV)) : Prop where
  run : ∀ ρ σ A env s ad av pos, Hyp C k nm vs ρ σ A env s ad av → Giv C A ad av s (spliced (backTo pos (starEach es env))) (f ρ σ) (fun h v p => Reps h ad av v p)
theorem es_nil : SEs C k nm vs [] cNil := ⟨fun ρ σ A env s ad av pos H hb Q E K => wpAny_items_nil (K.ok _ _ _ _ rfl .nil (.refl H))⟩
noncomputable def plainE (e : Expr) : Bool := match e with
  | .Starred _ _ => false
  | _ => true
theorem star_c {e : Expr} (h : plainE e = true) {es : List Expr} (env : Env) : starEach (e :: es) env = (false, eval e env) :: starEach es env := by cases e <;> first | rfl | (cases h; done)
theorem es_cons {e : Expr} {es : List Expr} {f : Rho → Sto → R PV} {g : Rho → Sto → R (List PV)} (h : SE C k nm vs e f) (hs : SEs C k nm vs es g)
    (he : plainE e = true := by rfl) : SEs C k nm vs (e :: es) (cCons f g) := by
  refine ⟨?_⟩
  intro ρ σ A env s ad av pos H hb Q E K
  refine wpAny_items_cons ((h.run ρ σ A env s ad av H).seq hb K fun a s₁ p σ₁ ra n₁ hb K => ?_) (star_c he env)
  have H₁ := H.next n₁
  refine (hs.run ρ σ₁ A env s₁ ad av pos H₁).seq hb K fun l s₂ ps σ₂ rl n₂ hb K => ?_
  exact K.ok _ _ _ _ rfl (.cons (ra.keep n₂.kp) rl) (.refl (H₁.next n₂))
theorem e_tup {es : List Expr} {x : Nat} {pos : Pos} {g : Rho → Sto → R (List PV)} (h : SEs C k nm vs es g) : SE C k nm vs (.Tuple es x pos) (cTup g) := by
  refine ⟨?_⟩
  intro ρ σ A env s ad av H hb Q E K
  refine wpAny_Tuple ((h.run ρ σ A env s ad av pos H).seq hb K fun l s₁ ps σ₁ rl n₁ hb K => ?_)
  have H₁ := H.next n₁
  have hl := rl.length
  split at hb
  · rename_i hle
    rw [if_pos hle] at K
    refine ⟨Nat.le_trans (by omega) (show 1000 ≤ sizeLine by decide), K.ok _ _ _ _ rfl (.tup ⟨_, Heap.get?_push_size _ rfl, rfl, _, rfl⟩ (H₁.fresh (Nat.le_refl _)) (rl.keep (ad0 := []) (.push _))) (.push H₁ _)⟩
  · exact absurd rfl hb
theorem e_lst {es : List Expr} {pos : Pos} {g : Rho → Sto → R (List PV)} (h : SEs C k nm vs es g) : SE C k nm vs (.List es pos) (cLst g) := by
  refine ⟨?_⟩
  intro ρ σ A env s ad av H hb Q E K
  refine wpAny_List ((h.run ρ σ A env s ad av pos H).seq hb K fun l s₁ ps σ₁ rl n₁ hb K => ?_)
  have H₁ := H.next n₁
  have hl := rl.length
  split at hb
  · rename_i hle
    rw [if_pos hle] at K
    refine ⟨Nat.le_trans (by omega) (show 1000 ≤ sizeLine by decide), K.ok _ _ _ _ rfl (.lst ⟨_, Heap.get?_push_size _ rfl, rfl, _, rfl⟩ (H₁.fresh (Nat.le_refl _)) (rl.keep (ad0 := []) (.push _))) (.push H₁ _)⟩
  · exact absurd rfl hb
end
end Mine.Internal
/- G5 -/
namespace Mine.Internal
inductive Ou where
  | nxt (ρ : Rho)
  | ret (p : PV)
  | thr

structure Aft (env : Env) (ad av : List Addr) (s s' : Shared) (ad' av' : List Addr) : Prop where
  sh : ∃ h tk, s' = { s with heap := h, toks := tk }
  ex : ∃ ex nw, ad' = ad ++ ex ∧ av' = nw ++ av ∧ (∀ a ∈ ex, s.heap.get? a = none) ∧ ∀ a ∈ nw, s.heap.get? a = none
  lv : ∀ b ∈ av, Live s.heap b → Live s'.heap b
  kp : ∀ b o, b ∉ av → s.heap.get? b = some o → s'.heap.get? b = some o
  ns : ∀ b, b ∈ av → b ∉ ad → b ≠ env.locals → b ∉ env.cells.map (·.2) → ∀ m, s.heap.Ns b m → s'.heap.Ns b m
  cl : ∀ b, b ∈ av → b ∉ ad → b ≠ env.locals → b ∉ env.cells.map (·.2) → ∀ v, s.heap.IsCell b v → s'.heap.IsCell b v
  li : ∀ b, b ∈ av → b ∉ ad → b ≠ env.locals → b ∉ env.cells.map (·.2) → ∀ v, s.heap.IsList b v → s'.heap.IsList b v
theorem Aft.of {env : Env} {ad av : List Addr} {s s' : Shared} {σ' : Sto} (n : Nxt ad av s σ' s') : Aft env ad av s s' ad av :=
  ⟨n.sh, ⟨[], [], by simp, by simp, by simp, by simp⟩, n.kp.lv, n.kp.kp, fun b h1 h2 _ _ => n.kp.ns b h1 h2, fun b h1 h2 _ _ => n.kp.cl b h1 h2, fun b h1 h2 _ _ => n.kp.li b h1 h2⟩
theorem Aft.trans {env : Env} {ad av ad₁ av₁ ad₂ av₂ : List Addr} {s s₁ s₂ : Shared} (hv : ∀ b ∈ av, Live s.heap b) (x : Aft env ad av s s₁ ad₁ av₁) (y : Aft env ad₁ av₁ s₁ s₂ ad₂ av₂) : Aft env ad av s s₂ ad₂ av₂ := by
  obtain ⟨e1, w1, rfl, rfl, f1, g1⟩ := x.ex
  obtain ⟨e2, w2, rfl, rfl, f2, g2⟩ := y.ex
  have up : ∀ b, b ∈ av → b ∈ w1 ++ av := fun b h => List.mem_append_right _ h
  have nad : ∀ b, b ∈ av → b ∉ ad → b ∉ ad ++ e1 := fun b h h' hm => by
    rcases List.mem_append.mp hm with hm | hm
    · exact h' hm
    · exact (hv b h).ne (f1 b hm)
  have back : ∀ a, s₁.heap.get? a = none → s.heap.get? a = none := fun a ha => by
    cases e : s.heap.get? a with
    | none => rfl
    | some o =>
      by_cases hm : a ∈ av
      · exact ((x.lv a hm (hv a hm)).ne ha).elim
      · have := x.kp a o hm e; rw [ha] at this; cases this
  refine ⟨?_, ⟨e1 ++ e2, w2 ++ w1, by simp, by simp, fun a ha => ?_, fun a ha => ?_⟩, fun b hb e => y.lv b (up b hb) (x.lv b hb e), fun b o hb e => ?_, fun b h1 h2 h3 h4 m e => y.ns b (up b h1) (nad b h1 h2) h3 h4 m (x.ns b h1 h2 h3 h4 m e),
    fun b h1 h2 h3 h4 m e => y.cl b (up b h1) (nad b h1 h2) h3 h4 m (x.cl b h1 h2 h3 h4 m e), fun b h1 h2 h3 h4 m e => y.li b (up b h1) (nad b h1 h2) h3 h4 m (x.li b h1 h2 h3 h4 m e)⟩
  · obtain ⟨h, t, rfl⟩ := x.sh; obtain ⟨h', t', rfl⟩ := y.sh; exact ⟨h', t', rfl⟩
  · exact (List.mem_append.mp ha).elim (f1 a) fun ha => back a (f2 a ha)
  · exact (List.mem_append.mp ha).elim (fun ha => back a (g2 a ha)) (g1 a)
  · refine y.kp b o (fun hm => ?_) (x.kp b o hb e)
    rcases List.mem_append.mp hm with hm | hm
    · rw [g1 b hm] at e; cases e
    · exact hb hm

noncomputable def FlyX (A : Around) (ad' av : List Addr) (s : Shared) (x : Value) (s' : Shared) : Prop :=
  ∃ e B a0 fl, x = .ref e ∧ A.frames = some fl ∧ Heap.FlyingW B fl e (.ref 51) a0 s'.heap ∧ (∀ b o, b ∉ av → s.heap.get? b = some o → B.get? b = some o) ∧ (∀ b ∈ ad', ∀ o, s'.heap.get? b = some o → B.get? b = some o)
theorem FlyX.before {A : Around} {env : Env} {ad av ad₁ av₁ ad' : List Addr} {s s₁ s' : Shared} {x : Value} (a : Aft env ad av s s₁ ad₁ av₁) (f : FlyX A ad' av₁ s₁ x s') : FlyX A ad' av s x s' := by
  obtain ⟨e, B, a0, fl, h1, h2, h3, h4, h5⟩ := f
  obtain ⟨ex, nw, _, rfl, _, g1⟩ := a.ex
  refine ⟨e, B, a0, fl, h1, h2, h3, fun b o hb ho => h4 b o (fun hm => ?_) (a.kp b o hb ho), h5⟩
  rcases List.mem_append.mp hm with hm | hm
  · rw [g1 b hm] at ho; cases ho
  · exact hb hm

noncomputable def TopOf (A : Around) (env : Env) : Prop := ∃ o, A.frames = some (env :: o) ∧ env.frame = some env.locals
/- raised in this very frame: no traceback yet -/
noncomputable def Thr (h : Heap) (e : Addr) (h' : Heap) : Prop := h.get? e = none ∧ ∃ oe vs a0, h'.get? e = some oe ∧ oe.cls = .ref 51 ∧ oe.data = .fields vs ∧ vs[1]? = some .none ∧ vs[0]? = some a0
theorem Aft.none_ {env : Env} {ad av ad₁ av₁ : List Addr} {s s₁ : Shared} (x : Aft env ad av s s₁ ad₁ av₁) (hv : ∀ b ∈ av, Live s.heap b) {a : Addr} (ha : s₁.heap.get? a = none) : s.heap.get? a = none := by
  cases e : s.heap.get? a with
  | none => rfl
  | some o =>
    by_cases hm : a ∈ av
    · exact ((x.lv a hm (hv a hm)).ne ha).elim
    · have := x.kp a o hm e; rw [ha] at this; cases this
structure KonX (C : Cx) (k : Nat) (nm : List (Str × NameKind)) (vs : List Str) (A : Around) (env : Env) (s : Shared) (ad av : List Addr) (r : R Ou) (Q : Flow → Shared → Prop) (E : Value → Shared → Prop) : Prop where
  nx : ∀ s' ρ' σ' ad' av', r = .val (.nxt ρ') σ' → Hyp C k nm vs ρ' σ' A env s' ad' av' → Aft env ad av s s' ad' av' → Q .next s'
  rt : ∀ v s' p σ' ad' av', r = .val (.ret p) σ' → Rep s'.heap ad' av' v p → Sg s'.heap ad' av' σ' → Aft env ad av s s' ad' av' → Q (.ret v) s'
  ex : ∀ x s' σ' ad' av', r = .exc σ' → Sg s'.heap ad' av' σ' → Aft env ad av s s' ad' av' → FlyX A ad' av s x s' → E x s'
  th : ∀ e s' σ' ad' av', r = .val .thr σ' → Sg s'.heap ad' av' σ' → Aft env ad av s s' ad' av' → Thr s.heap e s'.heap → E (.ref e) s'
  tp : TopOf A env
structure SX (C : Cx) (k : Nat) (nm : List (Str × NameKind)) (vs : List Str) (st : List Stmt) (g : Rho → Sto → R Ou) : Prop where
  run : ∀ ρ σ A env s ad av, Hyp C k nm vs ρ σ A env s ad av → g ρ σ ≠ .bad → ∀ Q E, KonX C k nm vs A env s ad av (g ρ σ) Q E → wpAny C.M A (execs st env) Q E s
structure SS (C : Cx) (k : Nat) (nm : List (Str × NameKind)) (vs : List Str) (st : Stmt) (g : Rho → Sto → R Ou) : Prop where
  run : ∀ ρ σ A env s ad av, Hyp C k nm vs ρ σ A env s ad av → g ρ σ ≠ .bad → ∀ Q E, KonX C k nm vs A env s ad av (g ρ σ) Q E → wpAny C.M A (exec st env) Q E s
section
variable {C : Cx} {k : Nat} {nm : List (Str × NameKind)} {vs : List Str}
theorem Hyp.lives {ρ : Rho} {σ : Sto} {A : Around} {env : Env} {s : Shared} {ad av : List Addr} (H : Hyp C k nm vs ρ σ A env s ad av) : ∀ b ∈ av, Live s.heap b := fun b h => (H.above b h).2
theorem KonX.after {A : Around} {env : Env} {s s₁ : Shared} {ad av ad₁ av₁ : List Addr} {r : R Ou} {Q : Flow → Shared → Prop} {E : Value → Shared → Prop} (K : KonX C k nm vs A env s ad av r Q E)
    (hv : ∀ b ∈ av, Live s.heap b) (a : Aft env ad av s s₁ ad₁ av₁) : KonX C k nm vs A env s₁ ad₁ av₁ r Q E :=
  ⟨fun s' ρ' σ' ad' av' e H a' => K.nx s' ρ' σ' ad' av' e H (a.trans hv a'), fun v s' p σ' ad' av' e rp sg a' => K.rt v s' p σ' ad' av' e rp sg (a.trans hv a'),
    fun x s' σ' ad' av' e sg a' f => K.ex x s' σ' ad' av' e sg (a.trans hv a') (f.before a), fun x s' σ' ad' av' e sg a' f => K.th x s' σ' ad' av' e sg (a.trans hv a') ⟨a.none_ hv f.1, f.2⟩, K.tp⟩
theorem Giv.seqX {α β : Type} {ρ : Rho} {σ : Sto} {A : Around} {env : Env} {s : Shared} {ad av : List Addr} {t : Sem α} {r : R β} {P : Heap → α → β → Prop} {g : β → Sto → R Ou} {Q : α → Shared → Prop} {Q' : Flow → Shared → Prop} {E : Value → Shared → Prop}
    (h : Giv C A ad av s t r P) (H : Hyp C k nm vs ρ σ A env s ad av) (hb : r.bind g ≠ .bad) (K : KonX C k nm vs A env s ad av (r.bind g) Q' E)
    (hk : ∀ a s₁ b σ₁, P s₁.heap a b → Nxt ad av s σ₁ s₁ → g b σ₁ ≠ .bad → KonX C k nm vs A env s₁ ad av (g b σ₁) Q' E → Q a s₁) : wpAny C.M A t Q E s := by
  refine h (fun e => hb (by rw [e]; rfl)) Q E ⟨fun a s' b σ' e p n => ?_, fun x s' σ' e q => ?_⟩
  · subst e
    exact hk a s' b σ' p n hb (K.after H.lives (.of n))
  · subst e
    exact K.ex x s' σ' ad av rfl q.nx.sg (.of q.nx) q.fly

noncomputable def xSkip : Rho → Sto → R Ou := fun ρ σ => .val (.nxt ρ) σ
noncomputable def xSeq (f g : Rho → Sto → R Ou) : Rho → Sto → R Ou := fun ρ σ => (f ρ σ).bind fun o σ => match o with
  | .nxt ρ => g ρ σ
  | .ret p => .val (.ret p) σ
  | .thr => .val .thr σ
noncomputable def xRet (f : Rho → Sto → R PV) : Rho → Sto → R Ou := fun ρ σ => (f ρ σ).bind fun p σ => .val (.ret p) σ
noncomputable def xIf (t : Rho → Sto → R Bool) (f g : Rho → Sto → R Ou) : Rho → Sto → R Ou := fun ρ σ => (t ρ σ).bind fun b σ => if b then f ρ σ else g ρ σ
noncomputable def xSet (i : Nat) (f : Rho → Sto → R PV) : Rho → Sto → R Ou := fun ρ σ => (f ρ σ).bind fun p σ => .val (.nxt (ρ.set i (some p))) σ
noncomputable def xAug (op : Operator) (i : Nat) (f : Rho → Sto → R PV) : Rho → Sto → R Ou := fun ρ σ => (cVar i ρ σ).bind fun a σ => (f ρ σ).bind fun b σ => (R.of (inpV op a b) σ).bind fun p σ => .val (.nxt (ρ.set i (some p))) σ

theorem x_nil : SX C k nm vs [] xSkip := ⟨fun ρ σ A env s ad av H hb Q E K => wpAny_execs_nil (K.nx _ _ _ _ _ rfl H (.of (.refl H)))⟩
theorem x_cons {st : Stmt} {rest : List Stmt} {f g : Rho → Sto → R Ou} (h : SS C k nm vs st f) (hr : SX C k nm vs rest g) : SX C k nm vs (st :: rest) (xSeq f g) := by
  refine ⟨?_⟩
  intro ρ σ A env s ad av H hb Q E K
  refine wpAny_execs_cons (h.run ρ σ A env s ad av H (fun e => hb (by unfold xSeq; rw [e]; rfl)) _ E ⟨fun s' ρ' σ' ad' av' e H' a => ?_, fun v s' p σ' ad' av' e rp sg a => ?_, fun x s' σ' ad' av' e sg a f => ?_, fun x s' σ' ad' av' e sg a f => ?_, K.tp⟩)
  · unfold xSeq at hb K
    rw [e] at hb K
    exact hr.run ρ' σ' A env s' ad' av' H' hb Q E (K.after H.lives a)
  · exact K.rt v s' p σ' ad' av' (by unfold xSeq; rw [e]; rfl) rp sg a
  · exact K.ex x s' σ' ad' av' (by unfold xSeq; rw [e]; rfl) sg a f
  · exact K.th x s' σ' ad' av' (by unfold xSeq; rw [e]; rfl) sg a f
/- a sole statement as a row: no needless step behind it -/
theorem x_one {st : Stmt} {f : Rho → Sto → R Ou} (h : SS C k nm vs st f) : SX C k nm vs [st] f := by
  refine ⟨?_⟩
  intro ρ σ A env s ad av H hb Q E K
  refine wpAny_execs_cons (h.run ρ σ A env s ad av H hb _ E ⟨fun s' ρ' σ' ad' av' e H' a => wpAny_execs_nil (K.nx s' ρ' σ' ad' av' e H' a), fun v s' p σ' ad' av' e rp sg a => K.rt v s' p σ' ad' av' e rp sg a, K.ex, K.th, K.tp⟩)
theorem s_ret {e : Expr} {pos : Pos} {f : Rho → Sto → R PV} (h : SE C k nm vs e f) : SS C k nm vs (.Return (some e) pos) (xRet f) := by
  refine ⟨?_⟩
  intro ρ σ A env s ad av H hb Q E K
  refine wpAny_Return_some ((h.run ρ σ A env s ad av H).seqX H hb K fun a s₁ p σ₁ ra n₁ hb K => ?_)
  have H₁ := H.next n₁
  exact K.rt _ _ _ _ _ _ rfl ra H₁.sg (.of (.refl H₁))
theorem s_if {t : Expr} {a b : List Stmt} {pos : Pos} {ft : Rho → Sto → R Bool} {f g : Rho → Sto → R Ou} (ht : ST C k nm vs t ft) (ha : SX C k nm vs a f) (hb : SX C k nm vs b g) : SS C k nm vs (.If t a b pos) (xIf ft f g) := by
  refine ⟨?_⟩
  intro ρ σ A env s ad av H hbad Q E K
  refine wpAny_If ((ht.run ρ σ A env s ad av H).seqX H hbad K fun x s₁ c σ₁ p n hbad K => ?_)
  subst p
  cases x with
  | true => exact ha.run ρ σ₁ A env s₁ ad av (H.next n) hbad Q E K
  | false => exact hb.run ρ σ₁ A env s₁ ad av (H.next n) hbad Q E K

theorem store_ok' {ρ : Rho} {σ : Sto} {A : Around} {env : Env} {s : Shared} {ad av : List Addr} {i : Nat} {x : Str} {v : Value} {p : PV} {Q : Unit → Shared → Prop} {E : Value → Shared → Prop}
    (H : Hyp C k nm vs ρ σ A env s ad av) (nd : vs.Nodup) (hi : vs[i]? = some x) (hk : nm.lookup x = some .local ∨ nm.lookup x = some .cell) (rv : Rep s.heap ad av v p)
    (h : ∀ s', Hyp C k nm vs (ρ.set i (some p)) σ A env s' ad av → Aft env ad av s s' ad av → (nm.lookup x = some .local → ∀ b, b ≠ env.locals → s'.heap.get? b = s.heap.get? b) → Q () s') : wpAny C.M A (storeName env x v) Q E s := by
  obtain ⟨m, hm, hv⟩ := H.loc
  have hset : ∀ (j : Nat) q, (ρ.set i (some p))[j]? = some (some q) → (j = i ∧ q = p) ∨ (j ≠ i ∧ ρ[j]? = some (some q)) := fun j q e => by
    by_cases hj : j = i
    · subst hj
      rw [List.getElem?_set] at e
      simp only [if_true] at e
      split at e
      · cases e; exact .inl ⟨rfl, rfl⟩
      · cases e
    · rw [List.getElem?_set_ne (Ne.symm hj)] at e; exact .inr ⟨hj, e⟩
  have hne : ∀ (j : Nat) y, vs[j]? = some y → j ≠ i → y ≠ x := fun j y hy hj q => hj (by
    subst q; exact (List.getElem?_inj (List.getElem?_eq_some_iff.mp hy).1 nd).mp (hy.trans hi.symm))
  have fin : ∀ (c : Addr) (s' : Shared) (m' : Str → Option Value), c ∈ av → c ∉ ad → (c = env.locals ∨ c ∈ env.cells.map (·.2)) → (∃ h tk, s' = { s with heap := h, toks := tk }) → Heap.SameBut c s.heap s'.heap → Live s'.heap c → s'.heap.Ns env.locals m' →
      (∀ b m, s.heap.Ns b m → ∃ m, s'.heap.Ns b m) → (∀ x c', env.cells.lookup x = some c' → ∃ v, s'.heap.IsCell c' v) → (∀ (j : Nat) q, (ρ.set i (some p))[j]? = some (some q) → ∃ x, vs[j]? = some x ∧ VarAt nm env s'.heap m' ad av x q) → (nm.lookup x = some .local → c = env.locals) → Q () s' := by
    intro c s' m' hca hcd hcw sh hs ho hm' hN hc hvs hcl
    have up : ∀ b o, b ∉ av → s.heap.get? b = some o → s'.heap.get? b = some o := fun b o hb e => (hs.2 b fun q => hb (q ▸ hca)).trans e
    refine h s' ⟨fun b o e => ?_, fun a ha => ⟨(H.above a ha).1, ?_⟩, H.adsub, H.adnd, H.names, H.kind, H.glob, H.blt, ⟨m', hm', hvs⟩, H.lav, fun y d e => ?_, H.celn, H.apart, ?_, ?_, H.hh, H.dep, H.un⟩
      ⟨sh, ⟨[], [], by simp, by simp, by simp, by simp⟩, fun b hb e => if q : b = c then q ▸ ho else e.keeps fun o e => (hs.2 b q).trans e, up, fun b h1 h2 h3 h4 m e => e.sameBut hs ?_, fun b h1 h2 h3 h4 v e => e.sameBut hs ?_, fun b h1 h2 h3 h4 v ⟨o, e, r⟩ => ⟨o, (hs.2 b ?_).trans e, r⟩⟩ (fun hl b hb => hs.2 b (hcl hl ▸ hb))
    · exact up b o (fun hb => by rw [(H.above b hb).1] at e; cases e) (H.stays b o e)
    · by_cases q : a = c
      · exact q ▸ ho
      · exact (H.above a ha).2.keeps fun o e => (hs.2 a q).trans e
    · obtain ⟨h1, h2, h3, _⟩ := H.cel y d e
      exact ⟨h1, h2, h3, hc y d e⟩
    · obtain ⟨fl, e, q⟩ := H.fr
      exact ⟨fl, e, fun f hf => by obtain ⟨h1, L, m, h2, h3, h4, h5⟩ := q f hf; obtain ⟨m', h3'⟩ := hN L m h3; exact ⟨h1, L, m', h2, h3', h4, h5⟩⟩
    · exact ⟨H.sg.len, fun j b mo h1 h2 => (H.sg.at_ j b mo h1 h2).to (fun o e => (hs.2 b fun q => hcd (q ▸ List.mem_of_getElem? h1)).trans e) fun b o n e => ⟨up b o n e, n⟩⟩
    · rintro rfl; exact hcw.elim h3 h4
    · rintro rfl; exact hcw.elim h3 h4
    · rintro rfl; exact hcw.elim h3 h4
  have keepR : ∀ {h' : Heap} {c : Addr} {v : Value} {q : PV}, c ∈ av → Heap.SameBut c s.heap h' → Rep s.heap ad av v q → Rep h' ad av v q := fun hca hs r =>
    r.to (fun _ _ e => e) fun b o n e => ⟨(hs.2 b fun q => n (q ▸ hca)).trans e, n⟩
  rcases hk with hk | hk
  · refine wpAny_storeName_local (by unfold Env.kindOf; rw [H.names]; exact hk) hm (fun h' hn' hs' => ?_) (by rw [H.kind]; rfl)
    refine fin env.locals { s with heap := h', toks := s.toks + 1 } _ H.lav.1 H.lav.2 (.inl rfl) ⟨_, _, rfl⟩ hs' ?_ hn' ?_ ?_ ?_ (fun _ => rfl)
    · exact live_ns hn'
    · intro b m hb
      by_cases q : b = env.locals
      · subst q; exact ⟨_, hn'⟩
      · exact ⟨m, hb.sameBut hs' q⟩
    · intro y c e
      obtain ⟨_, _, h3, v, h4⟩ := H.cel y c e
      exact ⟨v, h4.sameBut hs' h3⟩
    · intro j q e
      rcases hset j q e with ⟨rfl, rfl⟩ | ⟨hj, e⟩
      · exact ⟨x, hi, .inl ⟨hk, v, if_pos rfl, keepR H.lav.1 hs' rv⟩⟩
      · obtain ⟨y, hy, w⟩ := hv j q e
        refine ⟨y, hy, ?_⟩
        rcases w with ⟨h1, u, h2, h3⟩ | ⟨h1, c, u, h2, h3, h4⟩
        · exact .inl ⟨h1, u, by show (if y = x then some v else m y) = some u; rw [if_neg (hne j y hy hj)]; exact h2, keepR H.lav.1 hs' h3⟩
        · exact .inr ⟨h1, c, u, h2, h3.sameBut hs' (H.cel y c h2).2.2.1, keepR H.lav.1 hs' h4⟩
  · obtain ⟨c, hc⟩ := H.celn x hk
    obtain ⟨c1, c2, c3, v₀, c4⟩ := H.cel x c hc
    refine wpAny_storeName_cell H.kind (by unfold Env.kindOf; rw [H.names]; exact hk) hc c4 fun h' hc' hs' => ?_
    have hcm : c ∈ env.cells.map (·.2) := List.mem_map.mpr ⟨(x, c), mem_of_lookup hc, rfl⟩
    refine fin c { s with heap := h' } m c1 c2 (.inr hcm) ⟨h', s.toks, rfl⟩ hs' ?_ (hm.sameBut hs' (Ne.symm c3)) ?_ ?_ ?_ (fun hl => by rw [hk] at hl; cases hl)
    · exact live_cell hc'
    · intro b m hb
      refine ⟨m, hb.sameBut hs' ?_⟩
      rintro rfl
      obtain ⟨o, _, _, e1, e2, _⟩ := hb
      obtain ⟨o', e3, e4⟩ := c4
      rw [e1] at e3; cases e3; rw [e2] at e4; cases e4
    · intro y d e
      by_cases q : d = c
      · subst q; exact ⟨_, hc'⟩
      · obtain ⟨_, _, _, v, h4⟩ := H.cel y d e
        exact ⟨v, h4.sameBut hs' q⟩
    · intro j q e
      rcases hset j q e with ⟨rfl, rfl⟩ | ⟨hj, e⟩
      · exact ⟨x, hi, .inr ⟨hk, c, v, hc, hc', keepR c1 hs' rv⟩⟩
      · obtain ⟨y, hy, w⟩ := hv j q e
        refine ⟨y, hy, ?_⟩
        rcases w with ⟨h1, u, h2, h3⟩ | ⟨h1, d, u, h2, h3, h4⟩
        · exact .inl ⟨h1, u, h2, keepR c1 hs' h3⟩
        · refine .inr ⟨h1, d, u, h2, h3.sameBut hs' ?_, keepR c1 hs' h4⟩
          rintro rfl
          exact hne j y hy hj (name_of_addr H.apart (mem_of_lookup h2) (mem_of_lookup hc))
theorem store_ok {ρ : Rho} {σ : Sto} {A : Around} {env : Env} {s : Shared} {ad av : List Addr} {i : Nat} {x : Str} {v : Value} {p : PV} {Q : Unit → Shared → Prop} {E : Value → Shared → Prop}
    (H : Hyp C k nm vs ρ σ A env s ad av) (nd : vs.Nodup) (hi : vs[i]? = some x) (hk : nm.lookup x = some .local ∨ nm.lookup x = some .cell) (rv : Rep s.heap ad av v p)
    (h : ∀ s', Hyp C k nm vs (ρ.set i (some p)) σ A env s' ad av → Aft env ad av s s' ad av → Q () s') : wpAny C.M A (storeName env x v) Q E s :=
  store_ok' H nd hi hk rv fun s' H' a _ => h s' H' a
end
end Mine.Internal
/- G6 -/
namespace Mine.Internal

/- ## Calls of defs -/
structure FnAt (h : Heap) (a : Addr) (prm : Arguments) (body : List Stmt) (sc : Scope) (dv : Value := .none) : Prop where
  at_ : ∃ o fd, h.get? a = some o ∧ o.data = .func fd ∧ fd.params = prm ∧ fd.body = .stmts body ∧ fd.scope = sc ∧ fd.globals = mainGlobals ∧ fd.closure = [] ∧ fd.defaults = dv ∧ fd.builtins = builtinsNs ∧ h.CodeRec fd.code fd.qualname

/- what a call leans on: no frame of the caller's -/
structure HypB (C : Cx) (k : Nat) (σ : Sto) (A : Around) (s : Shared) (ad av : List Addr) : Prop where
  stays : ∀ b o, C.base.get? b = some o → s.heap.get? b = some o
  above : ∀ a ∈ av, C.base.get? a = none ∧ Live s.heap a
  adsub : ∀ a ∈ ad, a ∈ av
  adnd : ad.Nodup
  fr : FrOk A s.heap ad av
  sg : Sg s.heap ad av σ
  hh : 0 < k → A.handled = none
  dep : A.depth + k < recursionLimit
  un : A.units + 8 * k + 8 < cLine
theorem Hyp.b {C : Cx} {k : Nat} {nm : List (Str × NameKind)} {vs : List Str} {ρ : Rho} {σ : Sto} {A : Around} {env : Env} {s : Shared} {ad av : List Addr} (H : Hyp C k nm vs ρ σ A env s ad av) : HypB C k σ A s ad av :=
  ⟨H.stays, H.above, H.adsub, H.adnd, H.fr, H.sg, H.hh, H.dep, H.un⟩
/- what a call of a def gives -/
noncomputable def SF (C : Cx) (k : Nat) (a : Addr) (F : List PV → Sto → R PV) : Prop :=
  ∀ nm vs ρ σ A env s ad av vals ps, Hyp C k nm vs ρ σ A env s ad av → Reps s.heap ad av vals ps → Giv C A ad av s (call (.ref a) vals) (F ps σ) (RP ad av)
noncomputable def SFc (C : Cx) (k : Nat) (a : Addr) (F : List PV → Sto → R PV) : Prop :=
  ∀ σ A s ad av vals ps, HypB C k σ A s ad av → Reps s.heap ad av vals ps → F ps σ ≠ .bad → ∀ RR : Result → Shared → Prop, Kon A ad av s (F ps σ) (RP ad av) (fun v s' => RR (.ok (.ret v)) s') (fun e s' => RR (.error e) s') → codeAny C.M A (.call (.ref a) ⟨vals, []⟩) RR s
theorem SFc.sf {C : Cx} {k : Nat} {a : Addr} {F : List PV → Sto → R PV} (h : SFc C k a F) : SF C k a F := fun nm vs ρ σ A env s ad av vals ps H r hb Q E K =>
  wpAny_call (h σ A s ad av vals ps H.b r hb (fun r s' => match r with | .ok (.ret v) => Q v s' | .ok _ => False | .error e => E e s') ⟨K.ok, K.ex⟩)
noncomputable def callR (lo : Nat) : R Ou → R PV
  | .bad => .bad
  | .exc σ => .exc (σ.take lo)
  | .val (.nxt _) σ => .val .none (σ.take lo)
  | .val .thr σ => .exc (σ.take lo)
  | .val (.ret p) σ => match frz lo σ 4 p with
    | some p' => .val p' (σ.take lo)
    | none => .bad
noncomputable def fnR (n m : Nat) (g : Rho → Sto → R Ou) : List PV → Sto → R PV := fun ps σ => if ps.length = n then callR σ.length (g (ps.map some ++ List.replicate m none) σ) else .bad

theorem cellsFrom_some : ∀ (names : List (Str × NameKind)) (n : Nat) (acc : List (Str × Addr)) (x : Str), names.lookup x = some .cell ∨ (∃ c, acc.lookup x = some c) → ∃ c, (cellsFrom n names acc).lookup x = some c
  | [], n, acc, x, h => by
    rcases h with h | h
    · cases h
    · exact h
  | (y, kd) :: r, n, acc, x, h => by
    unfold cellsFrom
    have hc : ∀ m, ∃ c, ((y, m) :: acc).lookup x = some c ∨ acc.lookup x = none := fun m => by
      cases e : acc.lookup x with
      | none => exact ⟨0, .inr rfl⟩
      | some c => cases q : x == y with
        | true => exact ⟨m, .inl (by rw [List.lookup_cons, q])⟩
        | false => exact ⟨c, .inl (by rw [List.lookup_cons, q]; exact e)⟩
    rcases h with h | ⟨c, h⟩
    · rw [List.lookup_cons] at h
      cases q : x == y with
      | true =>
        rw [q] at h; cases h
        exact cellsFrom_some r _ _ x (.inr ⟨n, by rw [List.lookup_cons, q]⟩)
      | false =>
        rw [q] at h
        split
        · exact cellsFrom_some r _ _ x (.inl h)
        · exact cellsFrom_some r _ _ x (.inl h)
    · split
      · refine cellsFrom_some r _ _ x (.inr ?_)
        obtain ⟨c', hc'⟩ := hc n
        rcases hc' with hc' | hc'
        · exact ⟨_, hc'⟩
        · rw [h] at hc'; cases hc'
      · exact cellsFrom_some r _ _ x (.inr ⟨c, h⟩)

theorem bindL_miss {kindOf : Str → Option NameKind} : ∀ {binds : List (Str × Value)} {m : Str → Option Value} {x : Str}, x ∉ binds.map (·.1) → bindL kindOf binds m x = m x
  | [], _, _, _ => rfl
  | (n, v) :: r, m, x, h => by
    unfold bindL
    have h1 : x ≠ n := fun q => h (by simp [q])
    have h2 : x ∉ r.map (·.1) := fun q => h (List.mem_cons_of_mem _ q)
    rw [bindL_miss h2]
    split
    · exact if_neg h1
    · rfl
theorem bindC_miss {kindOf : Str → Option NameKind} : ∀ {binds : List (Str × Value)} {m : Str → Option Value} {x : Str}, x ∉ binds.map (·.1) → bindC kindOf binds m x = m x
  | [], _, _, _ => rfl
  | (n, v) :: r, m, x, h => by
    unfold bindC
    have h1 : x ≠ n := fun q => h (by simp [q])
    have h2 : x ∉ r.map (·.1) := fun q => h (List.mem_cons_of_mem _ q)
    rw [bindC_miss h2]
    split
    · rfl
    · exact if_neg h1
theorem bindL_hit {kindOf : Str → Option NameKind} : ∀ {binds : List (Str × Value)} {m : Str → Option Value} {x : Str} {v : Value} {i : Nat}, (binds.map (·.1)).Nodup → binds[i]? = some (x, v) → kindOf x = some .local → bindL kindOf binds m x = some v
  | [], _, _, _, i, _, h, _ => by cases h
  | (n, w) :: r, m, x, v, 0, nd, h, hk => by
    cases h
    unfold bindL
    rw [bindL_miss (List.nodup_cons.mp nd).1, if_pos hk]
    exact if_pos rfl
  | (n, w) :: r, m, x, v, i + 1, nd, h, hk => by
    unfold bindL
    exact bindL_hit (i := i) (List.nodup_cons.mp nd).2 h hk
theorem bindC_hit {kindOf : Str → Option NameKind} : ∀ {binds : List (Str × Value)} {m : Str → Option Value} {x : Str} {v : Value} {i : Nat}, (binds.map (·.1)).Nodup → binds[i]? = some (x, v) → kindOf x ≠ some .local → bindC kindOf binds m x = some v
  | [], _, _, _, i, _, h, _ => by cases h
  | (n, w) :: r, m, x, v, 0, nd, h, hk => by
    cases h
    unfold bindC
    rw [bindC_miss (List.nodup_cons.mp nd).1, if_neg hk]
    exact if_pos rfl
  | (n, w) :: r, m, x, v, i + 1, nd, h, hk => by
    unfold bindC
    exact bindC_hit (i := i) (List.nodup_cons.mp nd).2 h hk

theorem Sg.take {h : Heap} {ad ex av av' : List Addr} {σ : Sto} (x : Sg h (ad ++ ex) av σ) (sub : ∀ a ∈ av', a ∈ av) : Sg h ad av' (σ.take ad.length) := by
  have hl := x.len
  rw [List.length_append] at hl
  refine ⟨by rw [List.length_take]; omega, fun i a m h1 h2 => ?_⟩
  have hi : i < ad.length := (List.getElem?_eq_some_iff.mp h1).1
  rw [List.getElem?_take_of_lt hi] at h2
  exact (x.at_ i a m (prefix_get h1) h2).to (fun _ e => e) fun b o n e => ⟨e, fun q => n (sub _ q)⟩
theorem UpToSlots.cell {h h' : Heap} {c : Addr} {v : Option Value} (x : h.UpToSlots h') (y : h.IsCell c v) : h'.IsCell c v := by
  obtain ⟨o, e, d⟩ := y
  obtain ⟨sl, e'⟩ := x c o e fun vs q => by rw [d] at q; cases q
  exact ⟨_, e', d⟩
theorem UpToSlots.list {h h' : Heap} {c : Addr} {v : Array Value} (x : h.UpToSlots h') (y : h.IsList c v) : h'.IsList c v := by
  obtain ⟨o, e, c, n, d⟩ := y
  obtain ⟨sl, e'⟩ := x _ o e fun vs q => by rw [d] at q; cases q
  exact ⟨_, e', c, n, d⟩
theorem UpToSlots.live {h h' : Heap} {c : Addr} (x : h.UpToSlots h') (y : Live h c) : Live h' c := by
  obtain ⟨o, e, d⟩ := y
  obtain ⟨sl, e'⟩ := x c o e d
  exact ⟨_, e', d⟩

/- ## Entering a def -/
structure Back (A : Around) (env' : Env) (ad av nw : List Addr) (s s₁ : Shared) : Prop where
  nwf : ∀ b ∈ nw, s.heap.get? b = none
  keep : ∀ b o, s.heap.get? b = some o → s₁.heap.get? b = some o
  sh : ∃ h tk, s₁ = { s with heap := h, toks := tk }
  frame : env'.frame = some env'.locals
  kind : env'.scope.kind ≠ .module
  lnw : env'.locals ∈ nw
  kpA : ∀ b ∈ av, b ≠ env'.locals ∧ b ∉ env'.cells.map (·.2)
structure Post (ad av : List Addr) (s s' : Shared) (ad' av' : List Addr) : Prop where
  sh : ∃ h tk, s' = { s with heap := h, toks := tk }
  kp : Keep ad av s.heap s'.heap
  ex : ∃ ex nw, ad' = ad ++ ex ∧ av' = nw ++ av ∧ (∀ b ∈ ex, s.heap.get? b = none) ∧ ∀ b ∈ nw, s.heap.get? b = none
theorem Back.post {A : Around} {env' : Env} {ad av nw ad' av' : List Addr} {s s₁ s' : Shared} (B : Back A env' ad av nw s s₁) (aft : Aft env' ad (nw ++ av) s₁ s' ad' av') : Post ad av s s' ad' av' := by
  obtain ⟨ex, nw', hadx, havx, fx, fw⟩ := aft.ex
  have back : ∀ b, s₁.heap.get? b = none → s.heap.get? b = none := fun b hb => by
    cases e : s.heap.get? b with
    | none => rfl
    | some o => rw [B.keep b o e] at hb; cases hb
  have kp : ∀ b o, b ∉ av → s.heap.get? b = some o → s'.heap.get? b = some o := fun b o hbn e => aft.kp b o (fun hm => by
    rcases List.mem_append.mp hm with hm | hm
    · rw [B.nwf b hm] at e; cases e
    · exact hbn hm) (B.keep b o e)
  refine ⟨?_, ⟨fun b hbm hl => aft.lv b (List.mem_append_right _ hbm) (hl.keeps fun o e => B.keep b o e), kp, fun b i1 i2 m e => aft.ns b (List.mem_append_right _ i1) i2 (B.kpA b i1).1 (B.kpA b i1).2 m (e.keeps B.keep),
      fun b i1 i2 v e => aft.cl b (List.mem_append_right _ i1) i2 (B.kpA b i1).1 (B.kpA b i1).2 v (e.keeps B.keep), fun b i1 i2 v ⟨o, e, r⟩ => aft.li b (List.mem_append_right _ i1) i2 (B.kpA b i1).1 (B.kpA b i1).2 v ⟨o, B.keep _ o e, r⟩⟩, ⟨ex, nw' ++ nw, hadx, by rw [havx]; simp, fun b hb => back b (fx b hb), fun b hb => ?_⟩⟩
  · obtain ⟨h₁, t₁, hs₁⟩ := B.sh
    obtain ⟨h', t', rfl⟩ := aft.sh
    rw [hs₁]; exact ⟨h', t', rfl⟩
  · rcases List.mem_append.mp hb with hb | hb
    · exact back b (fw b hb)
    · exact B.nwf b hb
theorem Post.nxt {C : Cx} {k : Nat} {σ σ' : Sto} {A : Around} {s s' : Shared} {ad av ad' av' : List Addr} (P : Post ad av s s' ad' av') (H : HypB C k σ A s ad av) (sg : Sg s'.heap ad' av' σ') :
    Nxt ad av s (σ'.take σ.length) s' ∧ (∀ (i : Nat) b, σ.length ≤ i → ad'[i]? = some b → b ∉ av) ∧ (∀ b ∈ av, b ∈ av') := by
  obtain ⟨ex, nw, rfl, rfl, fx, fw⟩ := P.ex
  refine ⟨⟨P.sh, P.kp, by rw [← H.sg.len]; exact sg.take fun b hb => List.mem_append_right _ hb⟩, fun i b hi e => ?_, fun b hb => List.mem_append_right _ hb⟩
  rw [← H.sg.len] at hi
  rw [List.getElem?_append_right hi] at e
  intro hbv
  exact (H.above b hbv).2.ne (fx b (List.mem_of_getElem? e))

theorem fn_enter {C : Cx} {k : Nat} {a : Addr} {prm : Arguments} {body : List Stmt} {sc : Scope} {dv : Value} {pn ln : List Str} (F : FnAt C.base a prm body sc dv) (nd : (pn ++ ln).Nodup) (hk : ∀ x ∈ pn, sc.names.lookup x = some .local ∨ sc.names.lookup x = some .cell)
    {σ : Sto} {A : Around} {s : Shared} {ad av : List Addr} {vals₀ vals : List Value} {ps : List PV} (H : HypB C (k + 1) σ A s ad av) (rps : Reps s.heap ad av vals ps) (hn : ps.length = pn.length)
    (hbind : ∀ fd : FuncData, fd.params = prm → fd.defaults = dv → BindsTo s fd ⟨vals₀, []⟩ (pn.zip vals)) {RR : Result → Shared → Prop}
    (h : ∀ env' s₁ nw, Hyp C k sc.names (pn ++ ln) (ps.map some ++ List.replicate ln.length none) σ (A.deeper env') env' s₁ ad (nw ++ av) → Back A env' ad av nw s s₁ →
      wpAny C.M (A.deeper env') (execs body env') (fun f s' => RR (.ok (.ret (match f with | .ret v => v | _ => .none))) s') (fun e s' => wpAny C.M (A.deeper env') (leaving env' e) (fun _ s'' => RR (.error e) s'') (fun e' s'' => RR (.error e') s'') s') s₁)
    (hco : sc.isCoroutine = false := by rfl) (hgen : sc.isGenerator = false := by rfl) (hkind : sc.kind = .function := by rfl) : codeAny C.M A (.call (.ref a) ⟨vals₀, []⟩) RR s := by
  have hlen := rps.length
  obtain ⟨o, fd, ho, hd, h1, h2, h3, h4, h5, h6, h7, h8⟩ := F.at_
  subst h3
  have hfst : (pn.zip vals).map (·.1) = pn := List.map_fst_zip (by omega)
  have hlim : s.heap.NoLimit := C.nolimit.keeps H.stays
  have hroom : A.depth < recursionLimit := by have := H.dep; omega
  have hmem : ∀ x ∈ pn.zip vals, x.1 ∈ pn := fun x hx => by rw [← hfst]; exact List.mem_map.mpr ⟨x, hx, rfl⟩
  refine codeAny_call_function hroom (H.stays _ _ ho) hd hco hgen h2 (h8.keeps H.stays) ?_
  rw [h5]
  refine hbind fd h1 h6 _ _ _ _ (wpAny_newFunctionEnv_cells hkind (fun x hx => ?_) fun env' he s₁ x => ?_)
  · rcases hk _ (hmem x hx) with q | q
    · exact .inl q
    · obtain ⟨c, hc⟩ := cellsFrom_some fd.scope.names (s.heap.objs.size + 1) [] x.1 (.inl q)
      exact .inr ⟨q, by rw [hc]; rfl⟩
  refine ⟨hlim.keeps x.toInCall.keep, codeAny_func ?_⟩
  -- the def's own frame
  generalize hL : s.heap.objs.size = L at he
  have e1 : env'.scope = fd.scope := by subst he; rfl
  have e2 : env'.globals = mainGlobals := by subst he; exact h4
  have e3 : env'.builtins = builtinsNs := by subst he; exact h7
  have e4 : env'.locals = L := by subst he; rfl
  have e5 : env'.frame = some L := by subst he; rfl
  have e6 : env'.cells = cellsFrom (L + 1) fd.scope.names [] := by subst he; rfl
  have freshL : s.heap.get? L = none := get?_none_of_size (by omega)
  have fresh : ∀ c, c = L ∨ c ∈ env'.cells.map (·.2) → s.heap.get? c = none := fun c hc => by
    rcases hc with rfl | hc
    · exact freshL
    · obtain ⟨⟨n, c'⟩, hm, rfl⟩ := List.mem_map.mp hc
      have h := x.above n c' hm
      rw [e4] at h
      exact get?_none_of_size (by rw [hL]; exact Nat.le_of_lt h)
  have keep := x.toInCall.keep
  have kpA : ∀ b ∈ av, b ≠ L ∧ b ∉ env'.cells.map (·.2) := fun b hbm => ⟨fun q => (H.above b hbm).2.ne (fresh b (.inl q)), fun q => (H.above b hbm).2.ne (fresh b (.inr q))⟩
  obtain ⟨nw, hnw⟩ : ∃ nw : List Addr, nw = L :: (env'.cells.filter fun p => env'.cells.lookup p.1 == some p.2).map (·.2) := ⟨_, rfl⟩
  have nwL : L ∈ nw := by rw [hnw]; exact .head _
  have nwc : ∀ x c, env'.cells.lookup x = some c → c ∈ nw := fun x c hc => by
    rw [hnw]; exact .tail _ (List.mem_map.mpr ⟨(x, c), List.mem_filter.mpr ⟨mem_of_lookup hc, by simp [hc]⟩, rfl⟩)
  have nwi : ∀ b ∈ nw, b = L ∨ ∃ x, env'.cells.lookup x = some b := fun b hbm => by
    rw [hnw] at hbm
    rcases List.mem_cons.mp hbm with q | q
    · exact .inl q
    · obtain ⟨⟨n, c'⟩, hm, rfl⟩ := List.mem_map.mp q
      exact .inr ⟨n, by simpa using (List.mem_filter.mp hm).2⟩
  have nwf : ∀ b ∈ nw, s.heap.get? b = none := fun b hbm => fresh b ((nwi b hbm).imp id fun ⟨x, h⟩ => List.mem_map.mpr ⟨_, mem_of_lookup h, rfl⟩)
  have baseN : ∀ b, s.heap.get? b = none → C.base.get? b = none := fun b hbn => by
    cases e : C.base.get? b with
    | none => rfl
    | some o => rw [H.stays b o e] at hbn; cases hbn
  have adne : ∀ b, b ∈ nw → b ∉ ad := fun b hbm hba => (H.above b (H.adsub b hba)).2.ne (nwf b hbm)
  have up : ∀ {v p}, Rep s.heap ad av v p → Rep s₁.heap ad (nw ++ av) v p := fun r => by
    have := (r.more (ex := []) nwf)
    rw [List.append_nil] at this
    exact this.to (fun _ _ e => e) fun b o n e => ⟨keep b o e, n⟩
  have hsg : Sg s₁.heap ad (nw ++ av) σ := ⟨H.sg.len, fun i b m i1 i2 => (H.sg.at_ i b m i1 i2).to (fun o e => keep _ _ e) fun b o n e => ⟨keep _ _ e, fun hm => by
    rcases List.mem_append.mp hm with hm | hm
    · rw [nwf b hm] at e; cases e
    · exact n hm⟩⟩
  have live₁ : ∀ b ∈ nw ++ av, C.base.get? b = none ∧ Live s₁.heap b := fun b hbm => by
    rcases List.mem_append.mp hbm with hbm | hbm
    · refine ⟨baseN b (nwf b hbm), ?_⟩
      rcases nwi b hbm with q | ⟨n, q⟩
      · rw [q, ← e4]; exact live_ns x.toInCall.ns
      · exact live_cell (x.cell n b q)
    · exact ⟨(H.above b hbm).1, (H.above b hbm).2.keeps fun o e => keep _ _ e⟩
  have hns := x.toInCall.ns
  rw [e4] at hns
  have H₁ : Hyp C k fd.scope.names (pn ++ ln) (ps.map some ++ List.replicate ln.length none) σ (A.deeper env') env' s₁ ad (nw ++ av) := by
    refine ⟨fun b o e => keep b o (H.stays b o e), live₁, fun b hbm => List.mem_append_right _ (H.adsub b hbm), H.adnd, by rw [e1], by rw [e1]; exact hkind, e2, e3, ⟨_, by rw [e4]; exact hns, fun i p hp => ?_⟩, ⟨by rw [e4]; exact List.mem_append_left _ nwL, by rw [e4]; exact adne L nwL⟩,
      fun y c hc => ⟨List.mem_append_left _ (nwc y c hc), adne c (nwc y c hc), fun q => ?_, _, x.cell y c hc⟩, fun y hy => by rw [e6]; exact cellsFrom_some _ _ _ y (.inl hy), x.apart, ?_, hsg, fun _ => H.hh (by omega), ?_, ?_⟩
    · have hi : i < ps.length := by
        rcases Nat.lt_or_ge i ps.length with h | h
        · exact h
        · rw [List.getElem?_append_right (by simpa using h)] at hp
          have := List.mem_of_getElem? hp
          rw [List.mem_replicate] at this
          cases this.2
      rw [List.getElem?_append_left (by simpa using hi), List.getElem?_map] at hp
      obtain ⟨p', hp', hq⟩ := Option.map_eq_some_iff.mp hp
      cases hq
      obtain ⟨v, hv, rv⟩ := rps.get hp'
      have hpi : i < pn.length := by omega
      have hz : (pn.zip vals)[i]? = some (pn[i], v) := by rw [List.getElem?_zip_eq_some]; exact ⟨List.getElem?_eq_getElem hpi, hv⟩
      refine ⟨pn[i], by rw [List.getElem?_append_left hpi]; exact List.getElem?_eq_getElem hpi, ?_⟩
      have ndz : ((pn.zip vals).map (·.1)).Nodup := by rw [hfst]; exact (List.nodup_append.mp nd).1
      have ko : env'.kindOf pn[i] = fd.scope.names.lookup pn[i] := by unfold Env.kindOf; rw [e1]
      rcases hk _ (List.getElem_mem hpi) with q | q
      · exact .inl ⟨q, v, bindL_hit ndz hz (ko.trans q), up rv⟩
      · obtain ⟨c, hc⟩ := cellsFrom_some fd.scope.names (L + 1) [] pn[i] (.inl q)
        rw [← e6] at hc
        have hcc := x.cell _ _ hc
        rw [bindC_hit ndz hz (by rw [ko, q]; decide)] at hcc
        exact .inr ⟨q, c, v, hc, hcc, up rv⟩
    · have h := x.above y c (mem_of_lookup hc)
      rw [q] at h
      exact Nat.lt_irrefl _ h
    · obtain ⟨fl, hfl, hq⟩ := H.fr
      refine ⟨env' :: fl, Around.frames_deeper hfl, fun e he => ?_⟩
      rcases List.mem_cons.mp he with rfl | he
      · exact ⟨by rw [e1, hkind]; decide, L, _, e5, hns, List.mem_append_left _ nwL, adne L nwL⟩
      · obtain ⟨g1, L', m, g2, g3, g4, g5⟩ := hq e he
        exact ⟨g1, L', m, g2, g3.keeps keep, List.mem_append_right _ g4, g5⟩
    · show A.depth + 1 + k < _
      have := H.dep; omega
    · show A.units + 3 + 8 * k + 8 < _
      have := H.un; omega
  have hB : Back A env' ad av nw s s₁ := ⟨nwf, keep, x.toInCall.same, by rw [e4]; exact e5, by rw [e1, hkind]; decide, by rw [e4]; exact nwL, by rw [e4]; exact kpA⟩
  exact h env' s₁ nw H₁ hB

theorem MOk.slots {h h' : Heap} {av : List Addr} {a : Addr} {m : MO} (x : MOk h av a m) (ha : ∀ o, h.get? a = some o → h'.get? a = some o) (up : h.UpToSlots h') : MOk h' av a m := by
  cases m with
  | lst xs => obtain ⟨vs, ⟨o, q1, q3⟩, q2⟩ := x; exact ⟨vs, ⟨o, ha _ q1, q3⟩, q2.slots up⟩
  | dic D ks xs => obtain ⟨o, kvs, q1, nf, q2, q3, q4⟩ := x; exact ⟨o, kvs, ha _ q1, nf, q2, q3, q4.slots up⟩
  | dct ks xs => obtain ⟨es, n, q1, q2, q3⟩ := x; exact ⟨es, n, ha _ q1, q2, q3.slots up⟩
theorem MOk.has {h : Heap} {av : List Addr} {a : Addr} {m : MO} (x : MOk h av a m) : ∃ o, h.get? a = some o ∧ ∀ vs, o.data ≠ .fields vs := by
  cases m with
  | lst xs => obtain ⟨vs, ⟨o, q1, c, n, d, _⟩, q2⟩ := x; exact ⟨o, q1, fun vs e => by rw [d] at e; cases e⟩
  | dic D ks xs => obtain ⟨o, kvs, q1, nf, _⟩ := x; exact ⟨o, q1, nf⟩
  | dct ks xs => obtain ⟨es, n, q1, q2, q3⟩ := x; exact ⟨_, q1, fun vs e => by cases e⟩
theorem Nxt.land {ad av : List Addr} {s s' : Shared} {σ' : Sto} {h' : Heap} (nx : Nxt ad av s σ' s') (cov1 : ∀ b o, b ∉ av → s.heap.get? b = some o → h'.get? b = some o) (cov2 : ∀ b ∈ ad, ∀ o, s'.heap.get? b = some o → h'.get? b = some o) (up : s'.heap.UpToSlots h') : Nxt ad av s σ' { s' with heap := h' } := by
  refine ⟨by obtain ⟨h, t, rfl⟩ := nx.sh; exact ⟨h', t, rfl⟩, ⟨fun b hb l => UpToSlots.live up (nx.kp.lv b hb l), fun b o n e => cov1 b o n e, fun b h1 h2 m e => up.ns (nx.kp.ns b h1 h2 m e), fun b h1 h2 v e => UpToSlots.cell up (nx.kp.cl b h1 h2 v e), fun b h1 h2 v e => UpToSlots.list up (nx.kp.li b h1 h2 v e)⟩, nx.sg.len, fun i b m i1 i2 => ?_⟩
  exact (nx.sg.at_ i b m i1 i2).slots (cov2 b (List.mem_of_getElem? i1)) up
theorem fn_core {C : Cx} {k : Nat} {a : Addr} {prm : Arguments} {body : List Stmt} {sc : Scope} {dv : Value} {pn ln : List Str} {g : Rho → Sto → R Ou} {dvs : List Value} {dps : List PV} (F : FnAt C.base a prm body sc dv)
    (hbody : SX C k sc.names (pn ++ ln) body g) (hdps : ∀ h ad av, Reps h ad av dvs dps)
    (hbind : ∀ (s : Shared), (∀ b o, C.base.get? b = some o → s.heap.get? b = some o) → ∀ (fd : FuncData) vals, fd.params = prm → fd.defaults = dv → vals.length + dvs.length = pn.length → BindsTo s fd ⟨vals, []⟩ (pn.zip (vals ++ dvs)))
    (nd : (pn ++ ln).Nodup) (hk : ∀ x ∈ pn, sc.names.lookup x = some .local ∨ sc.names.lookup x = some .cell)
    (hco : sc.isCoroutine = false := by rfl) (hgen : sc.isGenerator = false := by rfl) (hkind : sc.kind = .function := by rfl) : SFc C (k + 1) a (fun ps => fnR pn.length ln.length g (ps ++ dps)) := by
  intro σ A s ad av vals ps H rps hb RR K
  unfold fnR at hb K
  dsimp only at hb K
  by_cases hn : (ps ++ dps).length = pn.length
  case neg => rw [if_neg hn] at hb; exact absurd rfl hb
  rw [if_pos hn] at hb K
  have hl2 := (hdps s.heap ad av).length
  have hl1 := rps.length
  refine fn_enter (vals := vals ++ dvs) (ln := ln) F nd hk H (rps.append (hdps _ _ _)) hn (fun fd e1 e2 => hbind s H.stays fd vals e1 e2 (by rw [List.length_append] at hn; omega)) (fun env' s₁ nw H₁ B => ?_) hco hgen hkind
  have bk : ∀ {s' : Shared} {ad' av' : List Addr} {σ' : Sto}, Aft env' ad (nw ++ av) s₁ s' ad' av' → Sg s'.heap ad' av' σ' → _ := fun aft sg => (B.post aft).nxt H sg
  -- an exception leaves
  have leave : ∀ (x' : Addr) (a0 : Value) (s' : Shared) (ad' av' : List Addr) (σ' : Sto) (Bh h' : Heap) (fl : List Env), Aft env' ad (nw ++ av) s₁ s' ad' av' → Sg s'.heap ad' av' σ' → A.frames = some fl → Heap.FlyingW Bh fl x' (.ref 51) a0 h' → s'.heap.UpToSlots h' →
      (∀ b o, b ∉ nw ++ av → s₁.heap.get? b = some o → b ≠ x' → Bh.get? b = some o) → (∀ b ∈ ad', ∀ o, s'.heap.get? b = some o → Bh.get? b = some o) → s.heap.get? x' = none → Exc A ad av s (σ'.take σ.length) (.ref x') { s' with heap := h' } := by
    intro x' a0 s' ad' av' σ' Bh h' fl aft sg hfl fly' up' f4 f5 hx'
    obtain ⟨b1, b2, b3⟩ := bk aft sg
    obtain ⟨ex, nw', hadx, havx, fx, fw⟩ := aft.ex
    have cov1 : ∀ b o, b ∉ av → s.heap.get? b = some o → Bh.get? b = some o := fun b o hbn e => f4 b o (fun hm => by
      rcases List.mem_append.mp hm with hm | hm
      · rw [B.nwf b hm] at e; cases e
      · exact hbn hm) (B.keep b o e) (fun q => by rw [q, hx'] at e; cases e)
    have inad : ∀ b ∈ ad, b ∈ ad' := fun b hbm => by rw [hadx]; exact List.mem_append_left _ hbm
    have stay : ∀ b o, Bh.get? b = some o → h'.get? b = some o := fly'.1
    have obj : ∀ b ∈ ad, ∀ o, s'.heap.get? b = some o → Bh.get? b = some o ∧ h'.get? b = some o := fun b hbm o e => ⟨f5 b (inad b hbm) o e, stay b o (f5 b (inad b hbm) o e)⟩
    refine ⟨b1.land (fun b o hbn e => stay b o (cov1 b o hbn e)) (fun b hbm o e => (obj b hbm o e).2) up',
      x', Bh, a0, fl, rfl, hfl, fly', cov1, fun b hbm o e => ?_⟩
    · obtain ⟨i, hi⟩ := List.getElem?_of_mem hbm
      have lt : i < (σ'.take σ.length).length := by rw [← b1.sg.len]; exact (List.getElem?_eq_some_iff.mp hi).1
      obtain ⟨o0, ho0, _⟩ := (b1.sg.at_ i b _ hi (List.getElem?_eq_getElem lt)).has
      obtain ⟨q1, q2⟩ := obj b hbm o0 ho0
      have e' : h'.get? b = some o := e
      rw [q2] at e'; cases e'
      exact q1
  obtain ⟨fl, hfl, hfq⟩ := H.fr
  refine hbody.run _ σ (A.deeper env') env' s₁ ad (nw ++ av) H₁ (fun e => hb (by rw [e]; rfl)) _ _ ⟨fun s' ρ' σ' ad' av' e H' aft => ?_, fun v s' p σ' ad' av' e rp sg aft => ?_, fun ev s' σ' ad' av' e sg aft fly => ?_, fun x' s' σ' ad' av' e sg aft thr => ?_, ⟨fl, Around.frames_deeper hfl, B.frame⟩⟩
  · rw [e] at K
    exact K.ok _ _ _ _ rfl .none (bk aft H'.sg).1
  · rw [e] at hb K
    unfold callR at hb K
    dsimp only at hb K
    obtain ⟨b1, b2, b3⟩ := bk aft sg
    cases hf : frz σ.length σ' 4 p with
    | none => rw [hf] at hb; exact absurd rfl hb
    | some p' =>
      rw [hf] at K
      exact K.ok _ _ _ _ rfl (frz_rep 4 hf rp sg b3 b2) b1
  · rw [e] at K
    obtain ⟨x', Bh, a0, fl', rfl, f2, f3, f4, f5⟩ := fly
    rw [Around.frames_deeper hfl] at f2
    cases f2
    refine wpAny_leaves_onW (Around.frames_deeper hfl) B.frame f3 fun h' fly' up' => K.ex _ _ _ rfl (leave x' a0 s' ad' av' σ' Bh h' fl aft sg hfl fly' up' (fun b o hb' e' _ => f4 b o hb' e') f5 ?_)
    cases q : s.heap.get? x' with
    | none => rfl
    | some o =>
      exfalso
      by_cases hm : x' ∈ av
      · obtain ⟨oe, vs, he, hc, hd, _⟩ := f3.first
        have := aft.lv x' (List.mem_append_right _ hm) (H₁.above x' (List.mem_append_right _ hm)).2
        obtain ⟨o', ho', hn'⟩ := this
        rw [he] at ho'; cases ho'; exact hn' _ hd
      · have := f4 x' o (fun hm' => (List.mem_append.mp hm').elim (fun h => by rw [B.nwf x' h] at q; cases q) hm) (B.keep _ _ q)
        rw [f3.2.1] at this; cases this
  · rw [e] at K
    obtain ⟨t1, oe, vsx, a0, t2, t3, t4, t5, t6⟩ := thr
    have hx0 : s.heap.get? x' = none := by
      cases q : s.heap.get? x' with
      | none => rfl
      | some o => rw [B.keep _ _ q] at t1; cases t1
    obtain ⟨fl', hfl', hfq'⟩ := H₁.fr
    rw [Around.frames_deeper hfl] at hfl'
    cases hfl'
    obtain ⟨ex, nw', hadx, havx, fx, fw⟩ := aft.ex
    -- what stands there, the frames and the exception hidden
    let hid : List Addr := x' :: (env' :: fl).filterMap (·.frame)
    have hidF : ∀ b ∈ (env' :: fl).filterMap (·.frame), b ∈ nw ++ av ∧ b ∉ ad ∧ Live s'.heap b := fun b hm => by
      obtain ⟨f, hf, hfb⟩ := List.mem_filterMap.mp hm
      obtain ⟨g1, L', m, g2, g3, g4, g5⟩ := hfq' f hf
      rw [g2] at hfb; cases hfb
      exact ⟨g4, g5, aft.lv _ g4 (H₁.above _ g4).2⟩
    have ff : s'.heap.FunFrames (hideAll s'.heap hid) (env' :: fl) := by
      have key : ∀ l : List Env, (∀ f ∈ l, f ∈ env' :: fl) → s'.heap.FunFrames (hideAll s'.heap hid) l := by
        intro l
        induction l with
        | nil => intro _; trivial
        | cons f r ih =>
          intro hs
          obtain ⟨g1, L', m, g2, g3, g4, g5⟩ := hfq' f (hs f (.head _))
          have hmem : L' ∈ (env' :: fl).filterMap (·.frame) := List.mem_filterMap.mpr ⟨f, hs f (.head _), g2⟩
          obtain ⟨o, ho, hn⟩ := (hidF L' hmem).2.2
          exact ⟨g1, ⟨L', o, g2, hideAll_none _ (.tail _ hmem), ho, hn⟩, ih fun f' hf' => hs f' (.tail _ hf')⟩
      exact key _ fun _ h => h
    refine wpAny_leaving_firstW (base := hideAll s'.heap hid) (Around.frames_deeper hfl) ff B.frame t2 (fun b o e => of_hideAll _ e) (hideAll_none _ (.head _)) t4 t5 t6 fun h' hL => ?_
    rw [t3] at hL
    obtain ⟨k1, ⟨_, _, k2⟩, k3, k4⟩ := hL
    refine K.ex _ _ _ rfl (leave x' a0 s' ad' av' σ' (hideAll s'.heap hid) h' fl aft sg hfl ⟨k1, hideAll_none _ (.head _), k2, k3⟩ k4 (fun b o hb' e' hne => ?_) (fun b hb' o e' => ?_) hx0)
    · refine hideAll_get _ (aft.kp b o hb' e') fun hm => ?_
      rcases List.mem_cons.mp hm with q | hm
      · exact hne q
      · exact hb' (hidF b hm).1
    · refine hideAll_get _ e' fun hm => ?_
      rcases List.mem_cons.mp hm with q | hm
      · rw [q, hadx] at hb'
        rcases List.mem_append.mp hb' with hb' | hb'
        · exact (H.above _ (H.adsub _ hb')).2.ne hx0
        · have hlt := (sg.at_)
          obtain ⟨i, hi⟩ := List.getElem?_of_mem (show x' ∈ ad' by rw [hadx]; exact List.mem_append_right _ hb')
          have lt : i < σ'.length := by rw [← sg.len]; exact (List.getElem?_eq_some_iff.mp hi).1
          obtain ⟨o, q1, nf⟩ := (sg.at_ i x' _ hi (List.getElem?_eq_getElem lt)).has
          rw [t2] at q1; cases q1; exact nf _ t4
      · obtain ⟨g1, g2, g3⟩ := hidF b hm
        rw [hadx] at hb'
        rcases List.mem_append.mp hb' with hb' | hb'
        · exact g2 hb'
        · obtain ⟨o', ho', _⟩ := (H₁.above b g1).2
          rw [fx b hb'] at ho'; cases ho'

theorem fn_okc {C : Cx} {k : Nat} {a : Addr} {prm : Arguments} {body : List Stmt} {sc : Scope} {pn ln : List Str} {g : Rho → Sto → R Ou} (F : FnAt C.base a prm body sc)
    (hbody : SX C k sc.names (pn ++ ln) body g)
    (hbind : ∀ (fd : FuncData) vals, fd.params = prm → fd.defaults = .none → vals.length = pn.length → bindArgs fd ⟨vals, []⟩ = pure (pn.zip vals))
    (nd : (pn ++ ln).Nodup) (hk : ∀ x ∈ pn, sc.names.lookup x = some .local ∨ sc.names.lookup x = some .cell)
    (hco : sc.isCoroutine = false) (hgen : sc.isGenerator = false) (hkind : sc.kind = .function) : SFc C (k + 1) a (fnR pn.length ln.length g) := by
  have h := fn_core (dvs := []) (dps := []) F hbody (fun _ _ _ => .nil) (fun s _ fd vals e1 e2 e3 => by rw [List.append_nil]; exact .of_eq (hbind fd vals e1 e2 (by simpa using e3))) nd hk hco hgen hkind
  simp only [List.append_nil] at h
  exact h
theorem fn_ok {C : Cx} {k : Nat} {a : Addr} {prm : Arguments} {body : List Stmt} {sc : Scope} {pn ln : List Str} {g : Rho → Sto → R Ou} (F : FnAt C.base a prm body sc)
    (hbody : SX C k sc.names (pn ++ ln) body g)
    (hbind : ∀ (fd : FuncData) vals, fd.params = prm → fd.defaults = .none → vals.length = pn.length → bindArgs fd ⟨vals, []⟩ = pure (pn.zip vals))
    (nd : (pn ++ ln).Nodup) (hk : ∀ x ∈ pn, sc.names.lookup x = some .local ∨ sc.names.lookup x = some .cell)
    (hco : sc.isCoroutine = false := by rfl) (hgen : sc.isGenerator = false := by rfl) (hkind : sc.kind = .function := by rfl) : SF C (k + 1) a (fnR pn.length ln.length g) :=
  (fn_okc F hbody hbind nd hk hco hgen hkind).sf
end Mine.Internal
/- G7 -/
namespace Mine.Internal
noncomputable def cCall (F : List PV → Sto → R PV) (g : Rho → Sto → R (List PV)) : Rho → Sto → R PV := fun ρ σ => (g ρ σ).bind fun ps σ => F ps σ
noncomputable def cCallV (T : Addr → Option (List PV → Sto → R PV)) (i : Nat) (g : Rho → Sto → R (List PV)) : Rho → Sto → R PV := fun ρ σ => (cVar i ρ σ).bind fun f σ => match f with
  | .raw (.ref a) => match T a with
    | some F => (g ρ σ).bind fun ps σ => F ps σ
    | none => .bad
  | _ => .bad
noncomputable def cBlt (B : Sto → List PV → Option PV) (g : Rho → Sto → R (List PV)) : Rho → Sto → R PV := fun ρ σ => (g ρ σ).bind fun ps σ => R.of (B σ ps) σ
noncomputable def BOk (C : Cx) (k : Nat) (id : String) (B : Sto → List PV → Option PV) : Prop :=
  ∀ nm vs ρ σ A env s ad av vals ps, Hyp C k nm vs ρ σ A env s ad av → Reps s.heap ad av vals ps → Giv C A ad av s (call (.builtin id) vals) (R.of (B σ ps) σ) (RP ad av)

/- ## Slices -/
noncomputable def loN : Option Int → Nat
  | some a => a.toNat
  | none => 0
noncomputable def hiN (n : Nat) : Option Int → Nat
  | some b => b.toNat
  | none => n
noncomputable def slL {α : Type} (l : List α) (lo hi : Option Int) : List α := (l.take (hiN l.length hi)).drop (loN lo)
theorem pick_range {α : Type} (l : List α) (a : Nat) : ∀ m, a + m ≤ l.length → ((List.range m).map fun k => a + k).filterMap (l[·]?) = (l.drop a).take m
  | 0, _ => by simp
  | m + 1, h => by
    rw [List.range_succ, List.map_append, List.filterMap_append, pick_range l a m (by omega), List.take_add_one]
    have h1 : l[a + m]? = some l[a + m] := List.getElem?_eq_getElem (by omega)
    have h2 : (l.drop a)[m]? = some l[a + m] := by rw [List.getElem?_drop, h1]
    simp [h1, h2]
noncomputable def posOpt : Option Int → Bool
  | some i => decide (0 ≤ i)
  | none => true
theorem clip_ok (n : Nat) {lo hi : Option Int} (h1 : posOpt lo = true) (h2 : posOpt hi = true) : Builtin.Str.strSliceIndices lo hi 1 n = sliceRange ((min (loN lo) n : Nat) : Int) ((min (hiN n hi) n : Nat) : Int) 1 := by
  have c : ∀ i : Int, 0 ≤ i → max (0 : Int) (min (if i < 0 then i + n else i) n) = ((min i.toNat n : Nat) : Int) := fun i hi => by
    obtain ⟨k, rfl⟩ := Int.eq_ofNat_of_zero_le hi
    rw [if_neg (by omega), Int.toNat_natCast]
    rcases Nat.le_total k n with h | h
    · rw [Nat.min_eq_left h, Int.min_eq_left (by omega), Int.max_eq_right (by omega)]
    · rw [Nat.min_eq_right h, Int.min_eq_right (by omega), Int.max_eq_right (by omega)]
  cases lo with
  | none => cases hi with
    | none =>
      show sliceRange 0 n 1 = _
      simp [loN, hiN]
    | some j =>
      show sliceRange 0 (max (0 : Int) (min (if j < 0 then j + n else j) n)) 1 = _
      rw [c j (by simpa [posOpt] using h2)]
      simp [loN, hiN]
  | some i => cases hi with
    | none =>
      show sliceRange (max (0 : Int) (min (if i < 0 then i + n else i) n)) n 1 = _
      rw [c i (by simpa [posOpt] using h1)]
      simp [loN, hiN]
    | some j =>
      show sliceRange (max (0 : Int) (min (if i < 0 then i + n else i) n)) (max (0 : Int) (min (if j < 0 then j + n else j) n)) 1 = _
      rw [c i (by simpa [posOpt] using h1), c j (by simpa [posOpt] using h2)]
      rfl
theorem range_ok (a b : Nat) : sliceRange (a : Int) (b : Int) 1 = (List.range (b - a)).map fun k => a + k := sliceRange_one a b
theorem slice_take {α : Type} (l : List α) (a b : Nat) : (l.drop (min a l.length)).take (min b l.length - min a l.length) = (l.take b).drop a := by
  rw [List.drop_take]
  rcases Nat.le_total a l.length with h | h
  · rw [Nat.min_eq_left h]
    rcases Nat.le_total b l.length with h' | h'
    · rw [Nat.min_eq_left h']
    · rw [Nat.min_eq_right h', List.take_of_length_le (by rw [List.length_drop]; exact Nat.le_refl _), List.take_of_length_le (by rw [List.length_drop]; exact Nat.sub_le_sub_right h' a)]
  · rw [Nat.min_eq_right h, List.drop_eq_nil_of_le h, List.drop_eq_nil_of_le (Nat.le_refl _), List.take_nil, List.take_nil]
theorem picked_ok {α : Type} (l : List α) {lo hi : Option Int} (h1 : posOpt lo = true) (h2 : posOpt hi = true) :
    (Builtin.Str.strSliceIndices lo hi 1 l.length).filterMap (l[·]?) = slL l lo hi ∧ ((Builtin.Str.strSliceIndices lo hi 1 l.length).length = l.length → slL l lo hi = l) := by
  rw [clip_ok _ h1 h2, range_ok]
  unfold slL
  generalize loN lo = a
  generalize hiN l.length hi = b
  have hb := Nat.min_le_right b l.length
  have ha := Nat.min_le_right a l.length
  rw [← slice_take]
  generalize min a l.length = x at ha ⊢
  generalize min b l.length = y at hb ⊢
  constructor
  · rw [pick_range l _ _ (by omega)]
  · intro h
    rw [List.length_map, List.length_range] at h
    have : x = 0 := by omega
    rw [h, this, List.drop_zero, List.take_length]
noncomputable def idxN (a : PV) (i : Nat) : Option PV := match a with
  | .str l => (l[i]?).map fun c => .str [c]
  | .tup l => l[i]?
  | .lst l => l[i]?
  | _ => none
noncomputable def idxV (a b : PV) : Option PV := pvI b fun i => if 0 ≤ i ∧ i < 1000000 then idxN a i.toNat else none
noncomputable def cIdx (f g : Rho → Sto → R PV) : Rho → Sto → R PV := fun ρ σ => (f ρ σ).bind fun a σ => (g ρ σ).bind fun b σ => R.of (idxV a b) σ
noncomputable def oInt (f : Rho → Sto → R PV) : Rho → Sto → R (Option Int) := fun ρ σ => (f ρ σ).bind fun a σ => match a with
  | .int i => if 0 ≤ i ∧ i < 1000000 then .val (some i) σ else .bad
  | _ => .bad
noncomputable def oNone : Rho → Sto → R (Option Int) := fun _ σ => .val none σ
noncomputable def slV (a : PV) (lo hi : Option Int) : Option PV := match a with
  | .str l => if l.length ≤ 1000000 then some (.str (slL l lo hi)) else none
  | .lst l => if l.length ≤ 1000000 then some (.lst (slL l lo hi)) else none
  | _ => none
theorem Reps.take {h : Heap} {ad av : List Addr} : ∀ {vs : List Value} {xs : List PV} (n : Nat), Reps h ad av vs xs → Reps h ad av (vs.take n) (xs.take n)
  | _, _, 0, _ => .nil
  | _, _, n + 1, .nil => .nil
  | _, _, n + 1, .cons a r => .cons a (r.take n)
theorem Reps.drop {h : Heap} {ad av : List Addr} : ∀ {vs : List Value} {xs : List PV} (n : Nat), Reps h ad av vs xs → Reps h ad av (vs.drop n) (xs.drop n)
  | _, _, 0, r => r
  | _, _, n + 1, .nil => .nil
  | _, _, n + 1, .cons a r => r.drop n
theorem Reps.slL {h : Heap} {ad av : List Addr} {vs : List Value} {xs : List PV} (lo hi : Option Int) (r : Reps h ad av vs xs) : Reps h ad av (slL vs lo hi) (slL xs lo hi) := by
  unfold Mine.Internal.slL
  rw [r.length]
  exact (r.take _).drop _
theorem isPart_of : ∀ p : Option (Int × Tok), IsPart (partValue p) (p.map (·.1))
  | none => .none
  | some (i, t) => .int i t
theorem slicePick_is (vs : List Value) {lo hi : Option Int} (h1 : posOpt lo = true) (h2 : posOpt hi = true) : slicePick vs.toArray lo hi none = (slL vs lo hi).toArray := by
  have e : sliceRange (sliceBounds lo hi none vs.toArray.size).1 (sliceBounds lo hi none vs.toArray.size).2.1 (sliceBounds lo hi none vs.toArray.size).2.2 = Builtin.Str.strSliceIndices lo hi 1 vs.length := by
    cases lo <;> cases hi <;> rfl
  unfold slicePick
  rw [e, show (fun x : Nat => vs.toArray[x]?) = fun x : Nat => vs[x]? by funext x; simp, (picked_ok vs h1 h2).1]
noncomputable def cSl (f : Rho → Sto → R PV) (g h : Rho → Sto → R (Option Int)) : Rho → Sto → R PV := fun ρ σ => (f ρ σ).bind fun a σ => (g ρ σ).bind fun lo σ => (h ρ σ).bind fun hi σ => R.of (slV a lo hi) σ
section
variable {C : Cx} {k : Nat} {nm : List (Str × NameKind)} {vs : List Str}
structure SPart (C : Cx) (k : Nat) (nm : List (Str × NameKind)) (vs : List Str) (e : Option Expr) (f : Rho → Sto → R (Option Int)) : Prop where
  run : ∀ ρ σ A env s ad av, Hyp C k nm vs ρ σ A env s ad av → Giv C A ad av s (evalPart e env) (f ρ σ) (fun _ v o => ∃ p : Option (Int × Tok), v = partValue p ∧ p.map (·.1) = o ∧ posOpt o = true)
theorem p_none : SPart C k nm vs none oNone := ⟨fun ρ σ A env s ad av H hb Q E K => wpAny_pure (K.ok _ _ _ _ rfl ⟨none, rfl, rfl, rfl⟩ (.refl H))⟩
theorem p_some {e : Expr} {f : Rho → Sto → R PV} (h : SE C k nm vs e f) : SPart C k nm vs (some e) (oInt f) := by
  refine ⟨?_⟩
  intro ρ σ A env s ad av H hb Q E K
  rw [evalPart_some]
  refine (h.run ρ σ A env s ad av H).seq hb K fun a s₁ p σ₁ ra n₁ hb K => ?_
  obtain ⟨i, rfl⟩ : ∃ i, p = PV.int i := of_int hb
  obtain ⟨t, rfl⟩ := ra.int_inv
  dsimp only at hb K
  split at hb
  · rename_i hc
    rw [if_pos hc] at K
    exact K.ok _ _ _ _ rfl ⟨some (i, t), rfl, rfl, by simp [posOpt, hc.1]⟩ (.refl (H.next n₁))
  · exact absurd rfl hb
theorem slV_inv {a : PV} {lo hi : Option Int} {σ : Sto} (h : R.of (slV a lo hi) σ ≠ .bad) : (∃ l, a = .str l ∧ l.length ≤ 1000000) ∨ ∃ l, a = .lst l ∧ l.length ≤ 1000000 := by
  unfold slV at h
  split at h
  · split at h
    · rename_i l hl; exact .inl ⟨l, rfl, hl⟩
    · exact absurd rfl h
  · split at h
    · rename_i l hl; exact .inr ⟨l, rfl, hl⟩
    · exact absurd rfl h
  · exact absurd rfl h
theorem e_sl {v : Expr} {lo hi : Option Expr} {p pos : Pos} {f : Rho → Sto → R PV} {g h : Rho → Sto → R (Option Int)} (hv : SE C k nm vs v f) (hl : SPart C k nm vs lo g) (hh : SPart C k nm vs hi h) :
    SE C k nm vs (.Subscript v (.Slice lo hi none p) pos) (cSl f g h) := by
  refine ⟨?_⟩
  intro ρ σ A env s ad av H hb Q E K
  refine Subscript_ ((hv.run ρ σ A env s ad av H).seq hb K fun a s₁ p σ₁ ra n₁ hb K => wpAny_Slice ?_)
  have H₁ := H.next n₁
  refine (hl.run ρ σ₁ A env s₁ ad av H₁).seq hb K fun b s₂ q σ₂ rb n₂ hb K => ?_
  have H₂ := H₁.next n₂
  refine (hh.run ρ σ₂ A env s₂ ad av H₂).seq hb K fun c s₃ r σ₃ rc n₃ hb K => ?_
  have H₃ := H₂.next n₃
  obtain ⟨pl, rfl, rfl, hp1⟩ := rb
  obtain ⟨pu, rfl, rfl, hp2⟩ := rc
  rw [evalPart_none]
  refine wpAny_pure ?_
  have ra := (ra.keep n₂.kp).keep n₃.kp
  rcases slV_inv hb with ⟨l, rfl, hle⟩ | ⟨xs, rfl, hle⟩
  · obtain ⟨t, rfl⟩ := ra.str_inv
    unfold slV at K
    dsimp only at K
    rw [if_pos hle] at K
    have hsl : ∀ x : List Nat, (toStr x).length = x.length := toStr_length
    have e1 : (toStr l).length = l.length := hsl l
    obtain ⟨q1, q2⟩ := picked_ok l (lo := pl.map (·.1)) (hi := pu.map (·.1)) hp1 hp2
    have N : Nxt ad av s₃ σ₃ { s₃ with heap := s₃.heap.push { cls := .type "slice", data := .fields #[partValue pl, partValue pu, .none] } } := .push H₃ _
    refine tail_any (T := "str") (id := "str.__getitem__") (typeIs_str _ _ _) F.slot_str_getitem.lookup (ops := [.ref s₃.heap.objs.size, .str (toStr l) t]) ?_ rfl
    refine wpAny_getItem_str_slice (l := pl) (u := pu) (st := none) ⟨_, Heap.get?_push_size _ rfl, rfl, rfl⟩ rfl ?_
    unfold sliceMade slicePicked
    refine post_val_or_str ?_
    have hz : (if (((none : Option (Int × Tok)).map (·.1)).getD 1 == 1 && (Builtin.Str.strSliceIndices (pl.map (·.1)) (pu.map (·.1)) (((none : Option (Int × Tok)).map (·.1)).getD 1) (toStr l).length).length == (toStr l).length) = true then toStr l
        else ⟨((Builtin.Str.strSliceIndices (pl.map (·.1)) (pu.map (·.1)) (((none : Option (Int × Tok)).map (·.1)).getD 1) (toStr l).length).filterMap ((toStr l).cps[·]?)).toArray⟩) = toStr (slL l (pl.map (·.1)) (pu.map (·.1))) := by
      have hst : (((none : Option (Int × Tok)).map (·.1)).getD 1) = (1 : Int) := rfl
      rw [hst, e1]
      split
      · rename_i hc
        simp only [Bool.and_eq_true, beq_iff_eq] at hc
        rw [q2 hc.2]
      · have : (fun x => (toStr l).cps[x]?) = fun x : Nat => l[x]? := by funext x; simp
        rw [this, q1]
    rw [hz]
    have hlen : (slL l (pl.map (·.1)) (pu.map (·.1))).length ≤ l.length := by unfold slL; simp; omega
    refine ⟨by rw [hsl]; exact Nat.le_trans hlen (Nat.le_trans hle (by decide)), fun t' k => K.ok _ _ _ _ rfl (.str _ _) ?_⟩
    exact N.trans (.toks (H₃.next N) _)
  · obtain ⟨b, vs, rfl, h1, h2, h3⟩ := ra.lst_inv
    unfold slV at K
    dsimp only at K
    rw [if_pos hle] at K
    have N : Nxt ad av s₃ σ₃ { s₃ with heap := s₃.heap.push { cls := .type "slice", data := .fields #[partValue pl, partValue pu, .none] } } := .push H₃ _
    have H' := H₃.next N
    have hl := h3.length
    refine tail_any (T := "list") (id := "list.__getitem__") (h1.push _).typeIs F.slot_list_getitem.lookup (ops := [.ref s₃.heap.objs.size, .ref b]) ?_ rfl
    refine wpAny_getItem_list_slice (lo := pl.map (·.1)) (hi := pu.map (·.1)) (st := none) (h1.push _) (Heap.IsSliceOf.new ..) (isPart_of pl) (isPart_of pu) .none (by simp) ?_ (Nat.le_trans (by show vs.length ≤ 1000000; omega) (show 1000000 ≤ sizeLine by decide))
    rw [slicePick_is vs hp1 hp2]
    exact K.ok _ _ _ _ rfl (.lst ⟨_, Heap.get?_push_size _ rfl, rfl, _, rfl⟩ (H'.fresh (Nat.le_refl _)) (((h3.slL _ _).keep (ad0 := []) (.push _)).keep (ad0 := []) (.push _))) (N.trans (.push H' _))
theorem of_some {α : Type} {o : Option α} {σ : Sto} (h : R.of o σ ≠ .bad) : ∃ p, o = some p := by
  cases o with
  | none => exact absurd rfl h
  | some p => exact ⟨p, rfl⟩
theorem idxV_inv {a b p : PV} (h : idxV a b = some p) : ∃ i, b = .int i ∧ (0 ≤ i ∧ i < 1000000) ∧ ((∃ l c, a = .str l ∧ l[i.toNat]? = some c ∧ p = .str [c]) ∨ (∃ xs, a = .tup xs ∧ xs[i.toNat]? = some p) ∨ ∃ xs, a = .lst xs ∧ xs[i.toNat]? = some p) := by
  obtain ⟨i, rfl, h1⟩ := pvI_inv h
  split at h1
  · rename_i hc
    refine ⟨i, rfl, hc, ?_⟩
    cases a <;> first | exact nonE h1 | skip
    · obtain ⟨c, h1, h2⟩ := Option.map_eq_some_iff.mp h1
      exact .inl ⟨_, c, rfl, h1, h2.symm⟩
    · first | exact .inr (.inl ⟨_, rfl, h1⟩) | exact .inr (.inr ⟨_, rfl, h1⟩)
    · first | exact .inr (.inl ⟨_, rfl, h1⟩) | exact .inr (.inr ⟨_, rfl, h1⟩)
  · exact nonE h1
theorem idx_nat {i : Int} {n : Nat} (h : 0 ≤ i) (hl : i.toNat < n) : seqIndex? i n = some i.toNat := by
  unfold seqIndex?
  simp only [show ¬ i < 0 by omega, if_false]
  rw [if_pos (by simp; omega)]
theorem e_idx {v i : Expr} {pos : Pos} {f g : Rho → Sto → R PV} (hv : SE C k nm vs v f) (hi : SE C k nm vs i g) (hs : ∀ o x, subscripted i false o x = operate [o, x] (getItem o x) := by intro _ _; rfl) : SE C k nm vs (.Subscript v i pos) (cIdx f g) := by
  refine ⟨?_⟩
  intro ρ σ A env s ad av H hb Q E K
  refine Subscript_ ((hv.run ρ σ A env s ad av H).seq hb K fun a s₁ p σ₁ ra n₁ hb K => ?_)
  have H₁ := H.next n₁
  refine (hi.run ρ σ₁ A env s₁ ad av H₁).seq hb K fun b s₂ q σ₂ rb n₂ hb K => ?_
  have H₂ := H₁.next n₂
  have ra := ra.keep n₂.kp
  obtain ⟨r, hr⟩ := of_some hb
  rw [hr] at K
  have KF := K
  clear K
  obtain ⟨j, rfl, ⟨hj, hj2⟩, h⟩ := idxV_inv hr
  obtain ⟨t, rfl⟩ := rb.int_inv
  rcases h with ⟨l, c, rfl, hl, rfl⟩ | ⟨xs, rfl, hl⟩ | ⟨xs, rfl, hl⟩
  · obtain ⟨u, rfl⟩ := ra.str_inv
    have hlt : j.toNat < l.length := (List.getElem?_eq_some_iff.mp hl).1
    refine tail_any (T := "str") (id := "str.__getitem__") (typeIs_str _ _ _) F.slot_str_getitem.lookup (ops := [.str (toStr l) u, .int j t]) (PyProof.Rows.getItem_str (c := c) ?_ ?_ (KF.ok _ _ _ _ rfl (.str [c] _) (.toks H₂ _))) (hs _ _)
    · simp; omega
    · rw [toStr_length, idx_nat hj hlt]
      simpa using hl
  · obtain ⟨b, vs, rfl, h1, h2, h3⟩ := ra.tup_inv
    obtain ⟨v, hv, rv⟩ := h3.get hl
    have hlt : j.toNat < vs.length := (List.getElem?_eq_some_iff.mp hv).1
    exact tail_any (T := "tuple") (id := "tuple.__getitem__") h1.typeIs F.slot_tuple_getitem.lookup (ops := [.ref b, .int j t]) (PyProof.Rows.getItem_tuple (j := j.toNat) (x := v) h1 (by omega) (by omega) (idx_nat hj (by simpa using hlt)) (by simpa using hv) (KF.ok _ _ _ _ rfl rv (.refl H₂))) (hs _ _)
  · obtain ⟨b, vs, rfl, h1, h2, h3⟩ := ra.lst_inv
    obtain ⟨v, hv, rv⟩ := h3.get hl
    exact tail_any (T := "list") (id := "list.__getitem__") h1.typeIs F.slot_list_getitem.lookup (ops := [.ref b, .int j t]) (wpAny_getItem_list (x := v) h1 (by omega) (by omega) (by simpa using hv) (KF.ok _ _ _ _ rfl rv (.refl H₂))) (hs _ _)
end
end Mine.Internal
/- G8 -/
namespace Mine.Internal
theorem Reps.one {h : Heap} {ad av : List Addr} {vals : List Value} {p : PV} (r : Reps h ad av vals [p]) : ∃ v, vals = [v] ∧ Rep h ad av v p := by
  cases r with
  | cons a b => cases b; exact ⟨_, rfl, a⟩
theorem Reps.two {h : Heap} {ad av : List Addr} {vals : List Value} {p q : PV} (r : Reps h ad av vals [p, q]) : ∃ v w, vals = [v, w] ∧ Rep h ad av v p ∧ Rep h ad av w q := by
  cases r with
  | cons a b => obtain ⟨w, rfl, c⟩ := b.one; exact ⟨_, w, rfl, a, c⟩
section
variable {C : Cx} {k : Nat} {nm : List (Str × NameKind)} {vs : List Str}
noncomputable def IsDef (C : Cx) (a : Addr) : Prop := ∃ o fd, C.base.get? a = some o ∧ o.data = .func fd
theorem FnAt.isDef {C : Cx} {a : Addr} {prm : Arguments} {body : List Stmt} {sc : Scope} (x : FnAt C.base a prm body sc) : IsDef C a := by
  obtain ⟨o, fd, h1, h2, _⟩ := x.at_; exact ⟨o, fd, h1, h2⟩
theorem call_def_ok {ρ : Rho} {σ : Sto} {A : Around} {env : Env} {s : Shared} {ad av : List Addr} {e : Expr} {es : List Expr} {pos : Pos} {a : Addr} {F : List PV → Sto → R PV} {g : Rho → Sto → R (List PV)} {k' : Nat}
    (H : Hyp C k nm vs ρ σ A env s ad av) (hF : SF C k' a F) (hk : k' ≤ k) (hd : IsDef C a) (hs : SEs C k nm vs (e :: es) g) (he : ∀ env, starEach (e :: es) env = (false, eval e env) :: starEach es env) :
    Giv C A ad av s (callWith pos (.ref a) [] (backTo pos (starEach (e :: es) env)) []) (cCall F g ρ σ) (RP ad av) := by
  intro hb Q E K
  obtain ⟨o, fd, ho, hdat⟩ := hd
  refine callWith_def hdat ((hs.run ρ σ A env s ad av pos H).seq hb K fun vals s₁ ps σ₁ rp n₁ hb K => ?_) (he env)
  have H₁ := H.next n₁
  exact ⟨H₁.stays _ _ ho, hF nm vs ρ σ₁ A env s₁ ad av vals ps (H₁.le hk) rp hb Q E K⟩
theorem e_call {f : Str} {p pos : Pos} {e : Expr} {es : List Expr} {a : Addr} {F : List PV → Sto → R PV} {g : Rho → Sto → R (List PV)} {k' : Nat} (hn : nm.lookup f = some .globalImplicit) (hv : C.mg f = some (.ref a))
    (hF : SF C k' a F) (hk : k' ≤ k) (hd : IsDef C a) (hs : SEs C k nm vs (e :: es) g) (he : ∀ env, starEach (e :: es) env = (false, eval e env) :: starEach es env) (hdb : (f == ("__debug__" : Str)) = false) :
    SE C k nm vs (.Call (.Name f p) (e :: es) [] pos) (cCall F g) := by
  refine ⟨?_⟩
  intro ρ σ A env s ad av H hb Q E K
  refine wpAny_Call_Name_kw (name_glob H hn hv ?_ hdb)
  exact call_def_ok H hF hk hd hs he hb Q E K
theorem e_call0 {f : Str} {p pos : Pos} {a : Addr} {F : List PV → Sto → R PV} {k' : Nat} (hn : nm.lookup f = some .globalImplicit) (hv : C.mg f = some (.ref a))
    (hF : SF C k' a F) (hk : k' ≤ k) (hd : IsDef C a) (hdb : (f == ("__debug__" : Str)) = false := by decide) :
    SE C k nm vs (.Call (.Name f p) [] [] pos) (cCall F cNil) := by
  refine ⟨?_⟩
  intro ρ σ A env s ad av H hb Q E K
  obtain ⟨o, fd, ho, hdat⟩ := hd
  refine wpAny_Call_Name_kw (name_glob H hn hv ?_ hdb)
  exact callWith_function (o := o) (fd := fd) (PyProof.Rows.evalArgs_none ⟨⟨H.stays _ _ ho, hdat⟩, hF nm vs ρ σ A env s ad av [] [] (H.le hk) .nil hb Q E K⟩)
/- a call through a name that holds a def -/
theorem e_callv {f : Str} {p pos : Pos} {e : Expr} {es : List Expr} {i : Nat} {T : Addr → Option (List PV → Sto → R PV)} {g : Rho → Sto → R (List PV)} {k' : Nat} (hi : vs[i]? = some f)
    (hT : ∀ a F, T a = some F → SF C k' a F ∧ IsDef C a) (hk : k' ≤ k) (hs : SEs C k nm vs (e :: es) g) (he : ∀ env, starEach (e :: es) env = (false, eval e env) :: starEach es env := by intro _; rfl) (hdb : (f == ("__debug__" : Str)) = false := by decide) :
    SE C k nm vs (.Call (.Name f p) (e :: es) [] pos) (cCallV T i g) := by
  refine ⟨?_⟩
  intro ρ σ A env s ad av H hb Q E K
  refine wpAny_Call_Name_kw (((e_var hi hdb).run ρ σ A env s ad av H).seq hb K fun v s₁ q σ₁ rv n₁ hb K => ?_)
  have H₁ := H.next n₁
  split at hb
  case h_2 => exact absurd rfl hb
  rename_i a
  obtain rfl := rv.raw_inv
  dsimp only at K
  split at hb
  case h_2 => exact absurd rfl hb
  rename_i F hF
  rw [hF] at K
  obtain ⟨q1, q2⟩ := hT a F hF
  exact call_def_ok H₁ q1 hk q2 hs he hb Q E K
/- a builtin function -/
theorem e_blt {f : Str} {p pos : Pos} {e : Expr} {es : List Expr} {id : String} {B : Sto → List PV → Option PV} {g : Rho → Sto → R (List PV)} {k' : Nat} (hn : nm.lookup f = some .globalImplicit) (hg : C.mg f = none) (hv : bootBuiltins f = some (.builtin id))
    (hB : BOk C k' id B) (hk : k' ≤ k) (hs : SEs C k nm vs (e :: es) g) (hx : f ≠ "__name__") (he : ∀ env, starEach (e :: es) env = (false, eval e env) :: starEach es env)
    (hp : ∀ env pos, (backTo pos (starEach es env)).any (·.1) = false) (hdb : (f == ("__debug__" : Str)) = false) :
    SE C k nm vs (.Call (.Name f p) (e :: es) [] pos) (cBlt B g) := by
  refine ⟨?_⟩
  intro ρ σ A env s ad av H hb Q E K
  refine wpAny_Call_Name_kw (name_blt H hn hg hv hx ?_ hdb)
  refine PyProof.Rows.callWith_builtin1 ((hs.run ρ σ A env s ad av pos H).seq hb K fun vals s₁ ps σ₁ rp n₁ hb K => ?_) (he env) (hp env pos)
  exact hB nm vs ρ σ₁ A env s₁ ad av vals ps ((H.next n₁).le hk) rp hb Q E K
/- a method of a text -/
noncomputable def cMeth (B : Sto → List PV → Option PV) (f : Rho → Sto → R PV) (g : Rho → Sto → R (List PV)) : Rho → Sto → R PV := fun ρ σ => (f ρ σ).bind fun o σ => match o with
  | .str l => (g ρ σ).bind fun ps σ => R.of (B σ (.str l :: ps)) σ
  | _ => .bad
theorem e_meth {o e : Expr} {es : List Expr} {name : Str} {apos pos : Pos} {id : String} {B : Sto → List PV → Option PV} {f : Rho → Sto → R PV} {g : Rho → Sto → R (List PV)} {k' : Nat} (ho : SE C k nm vs o f)
    (hm : ∀ (M : Model) A E s x t pl (Q : Value × List Value → Shared → Prop), Q (.builtin id, [.str x t]) s → wpAny M A (getMethod (.str x t) name pl) Q E s)
    (hB : BOk C k' id B) (hk : k' ≤ k) (hs : SEs C k nm vs (e :: es) g)
    (hev : ∀ env, ∃ pl, eval (.Call (.Attribute o name apos) (e :: es) [] pos) env = (do
      let ov ← eval o env
      standAt apos.atName
      let (f, first) ← holding [ov] (getMethod ov name pl)
      callWith pos f first (backTo pos (starEach (e :: es) env)) []) := by intro _; exact ⟨_, rfl⟩)
    (he : ∀ env, starEach (e :: es) env = (false, eval e env) :: starEach es env := by intro _; rfl)
    (hp : ∀ env pos, (backTo pos (starEach es env)).any (·.1) = false := by intro _ _; rfl) :
    SE C k nm vs (.Call (.Attribute o name apos) (e :: es) [] pos) (cMeth B f g) := by
  refine ⟨?_⟩
  intro ρ σ A env s ad av H hb Q E K
  obtain ⟨pl, hev⟩ := hev env
  refine MethodCall_ (pl := pl) ((ho.run ρ σ A env s ad av H).seq hb K fun v s₁ q σ₁ rv n₁ hb K => ?_) hev
  have H₁ := H.next n₁
  obtain ⟨l, rfl⟩ : ∃ l, q = PV.str l := of_str hb
  obtain ⟨t, rfl⟩ := rv.str_inv
  refine hm _ _ _ _ _ _ _ _ ?_
  have hs' := hs.run ρ σ₁ A env s₁ ad av pos H₁
  have hp' := hp env pos
  rw [he env] at hs'
  rw [he env]
  refine callWith_builtin (by show (false || (backTo pos (starEach es env)).any (·.1)) = false; rw [hp']; rfl) (evalArgs_plain (hs'.seq hb K fun vals s₂ ps σ₂ rp n₂ hb K => ?_))
  exact hB nm vs ρ σ₂ A env s₂ ad av (.str (toStr l) t :: vals) (.str l :: ps) ((H₁.next n₂).le hk) (.cons (.str _ _) rp) hb Q E K
theorem e_meth0 {o : Expr} {name : Str} {apos pos : Pos} {id : String} {B : Sto → List PV → Option PV} {f : Rho → Sto → R PV} {k' : Nat} (ho : SE C k nm vs o f)
    (hm : ∀ (M : Model) A E s x t pl (Q : Value × List Value → Shared → Prop), Q (.builtin id, [.str x t]) s → wpAny M A (getMethod (.str x t) name pl) Q E s)
    (hB : BOk C k' id B) (hk : k' ≤ k)
    (hev : ∀ env, ∃ pl, eval (.Call (.Attribute o name apos) [] [] pos) env = (do
      let ov ← eval o env
      standAt apos.atName
      let (f, first) ← holding [ov] (getMethod ov name pl)
      callWith pos f first (backTo pos (starEach [] env)) []) := by intro _; exact ⟨_, rfl⟩) :
    SE C k nm vs (.Call (.Attribute o name apos) [] [] pos) (cMeth B f cNil) := by
  refine ⟨?_⟩
  intro ρ σ A env s ad av H hb Q E K
  obtain ⟨pl, hev⟩ := hev env
  refine MethodCall_ (pl := pl) ((ho.run ρ σ A env s ad av H).seq hb K fun v s₁ q σ₁ rv n₁ hb K => ?_) hev
  have H₁ := H.next n₁
  obtain ⟨l, rfl⟩ : ∃ l, q = PV.str l := of_str hb
  obtain ⟨t, rfl⟩ := rv.str_inv
  refine hm _ _ _ _ _ _ _ _ (callWith_method0 ?_)
  exact hB nm vs ρ σ₁ A env s₁ ad av [.str (toStr l) t] [.str l] (H₁.le hk) (.cons (.str _ _) .nil) hb Q E K

/- ## Builtins -/
noncomputable def lenN (a : PV) : Option Nat := match a with
  | .str l => some l.length
  | .tup l => some l.length
  | .lst l => some l.length
  | _ => none
noncomputable def bLen : Sto → List PV → Option PV := fun _ ps => arg1 ps fun a => (lenN a).bind fun n => if n ≤ 1000000 then some (.int n) else none
noncomputable def bOrd : Sto → List PV → Option PV := fun _ ps => arg1 ps fun a => pvS a fun l => arg1 l fun c => some (.int c)
noncomputable def bChr : Sto → List PV → Option PV := fun _ ps => arg1 ps fun a => pvI a fun i => if 0 ≤ i ∧ i ≤ 1000000 then some (.str [i.toNat]) else none
noncomputable def bMax : Sto → List PV → Option PV := fun _ ps => arg2 ps fun a b => ii a b fun x y => some (.int (max x y))
noncomputable def bMin : Sto → List PV → Option PV := fun _ ps => arg2 ps fun a b => ii a b fun x y => some (.int (min x y))
theorem len_ok : BOk C 0 "len" bLen := by
  intro nm vs ρ σ A env s ad av vals ps H rp
  refine giv_of fun p e Q E K => ?_
  obtain ⟨a, rfl, e1⟩ := arg1_inv e
  obtain ⟨n, hn, e2⟩ := Option.bind_eq_some_iff.mp e1
  obtain ⟨hl, rfl⟩ := iff_inv e2
  obtain ⟨v, rfl, r0⟩ := rp.one
  cases a <;> first | (cases hn; done) | skip
  all_goals cases hn
  · obtain ⟨_, rfl⟩ := r0.str_inv
    refine PyProof.Rows.len_str (by rw [toStr_length]; omega) ?_
    rw [toStr_length]
    exact K _ _ (.int _ _) (.toks H _)
  · obtain ⟨_, vs, rfl, h1, h2, h3⟩ := r0.tup_inv
    have hle := h3.length
    refine PyProof.Rows.len_tuple h1 (by simp; omega) ?_
    rw [List.size_toArray, hle]
    exact K _ _ (.int _ _) (.toks H _)
  · obtain ⟨_, vs, rfl, h1, h2, h3⟩ := r0.lst_inv
    have hle := h3.length
    refine call_len_list h1 (by simp; omega) ?_
    rw [List.size_toArray, hle]
    exact K _ _ (.int _ _) (.toks H _)
theorem ord_ok : BOk C 0 "ord" bOrd := by
  intro nm vs ρ σ A env s ad av vals ps H rp
  refine giv_of fun p e Q E K => ?_
  obtain ⟨a, rfl, e1⟩ := arg1_inv e
  obtain ⟨l, rfl, e2⟩ := pvS_inv e1
  obtain ⟨c, rfl, e3⟩ := arg1_inv e2
  cases e3
  obtain ⟨v, rfl, r0⟩ := rp.one
  obtain ⟨_, rfl⟩ := r0.str_inv
  exact P.ord_of_char (K _ _ (.int _ _) (.toks H _))
theorem chr_ok : BOk C 0 "chr" bChr := by
  intro nm vs ρ σ A env s ad av vals ps H rp
  refine giv_of fun p e Q E K => ?_
  obtain ⟨a, rfl, e1⟩ := arg1_inv e
  obtain ⟨l, rfl, e2⟩ := pvI_inv e1
  obtain ⟨hl, rfl⟩ := iff_inv e2
  obtain ⟨v, rfl, r0⟩ := rp.one
  obtain ⟨_, rfl⟩ := r0.int_inv
  exact P.chr_of_int (by simp; omega) (K _ _ (.str [_] _) (.toks H _))
theorem max_ok : BOk C 1 "max" bMax := by
  intro nm vs ρ σ A env s ad av vals ps H rp
  refine giv_of fun p e Q E K => ?_
  obtain ⟨_, _, rfl, e1⟩ := arg2_inv e
  obtain ⟨a, b, rfl, rfl, e2⟩ := ii_inv e1
  cases e2
  obtain ⟨v, w, rfl, r0, r1⟩ := rp.two
  obtain ⟨t, rfl⟩ := r0.int_inv
  obtain ⟨u, rfl⟩ := r1.int_inv
  refine max_two_ints (H.hh (by decide)) fun h' tk hk => ?_
  by_cases c : b > a
  · rw [if_pos c]
    have : max a b = b := by omega
    exact K _ _ (by rw [this]; exact .int _ _) (.all H hk)
  · rw [if_neg c]
    have : max a b = a := by omega
    exact K _ _ (by rw [this]; exact .int _ _) (.all H hk)
theorem min_ok : BOk C 1 "min" bMin := by
  intro nm vs ρ σ A env s ad av vals ps H rp
  refine giv_of fun p e Q E K => ?_
  obtain ⟨_, _, rfl, e1⟩ := arg2_inv e
  obtain ⟨a, b, rfl, rfl, e2⟩ := ii_inv e1
  cases e2
  obtain ⟨v, w, rfl, r0, r1⟩ := rp.two
  obtain ⟨t, rfl⟩ := r0.int_inv
  obtain ⟨u, rfl⟩ := r1.int_inv
  refine min_two_ints (H.hh (by decide)) fun h' tk hk => ?_
  by_cases c : b < a
  · rw [if_pos c]
    have : min a b = b := by omega
    exact K _ _ (by rw [this]; exact .int _ _) (.all H hk)
  · rw [if_neg c]
    have : min a b = a := by omega
    exact K _ _ (by rw [this]; exact .int _ _) (.all H hk)
end
end Mine.Internal
/- G9 -/
namespace Mine.Internal
section
variable {C : Cx} {k : Nat} {nm : List (Str × NameKind)} {vs : List Str}
/- ## Rows that are walked -/
noncomputable def owners : List String := ["enumerate", "zip", "dict_itemiterator", "dict_reverseitemiterator", "odict_iterator", "itertools.zip_longest", "itertools.pairwise"]
theorem own_pure {M : Model} {A : Around} {s : Shared} {I : Addr} {o : Obj} {n : String} {t : Expr} {v : Value} {Q : Unit → Shared → Prop} {E : Value → Shared → Prop} (ho : s.heap.get? I = some o) (hc : o.cls = .type n) (hn : owners.contains n = false) (h : Q () s) : wpAny M A (letOwnedTupleGo t (.ref I) v) Q E s := by
  have body : ∀ a : Addr, wpAny M A (do
      let o ← load I
      match o.cls, o.data with
      | .type n, .fields vs =>
        if owners.contains n && vs[0]? == some (rawInt a) then
          rule "for.unpacks-the-owned-tuple"
          updateField I 0 .none
      | _, _ => pure ()) Q E s := fun a => by
    refine wpAny_bind (wpAny_load ho ?_)
    obtain ⟨oc, od, oda, osl⟩ := o
    dsimp only at hc
    subst hc
    cases oda <;> first | exact wpAny_pure h | skip
    dsimp only
    rw [hn, Bool.false_and, if_neg (by decide)]
    exact wpAny_pure h
  unfold letOwnedTupleGo
  cases t <;> first | exact wpAny_pure h | skip
  all_goals (cases v <;> first | exact wpAny_pure h | exact body _)
structure Iter (C : Cx) (A : Around) (I : Addr) (fp wr : List Addr) (n : Nat) (St : Nat → Heap → Prop) (xs : List PV) (avs : List Value) (axs : List PV) (Tg : Expr → Prop) : Prop where
  sub : ∀ b ∈ wr, b ∈ fp
  len : xs.length = n
  frame : ∀ i h h', St i h → (∀ b ∈ fp, ∀ o, h.get? b = some o → h'.get? b = some o) → St i h'
  lv : ∀ i h, St i h → ∀ b ∈ fp, ∃ o, h.get? b = some o
  fld : ∀ i h, St i h → ∀ b ∈ wr, ∀ o, h.get? b = some o → ∃ vs, o.data = .fields vs
  item : ∀ (t : Expr) (i : Nat) (s : Shared) (Q : Value → Shared → Prop) (E : Value → Shared → Prop) (ad av : List Addr), Tg t → i < n → St i s.heap → (∀ b ∈ fp, b ∉ av) → (∀ b ∈ av, Live s.heap b) → Reps s.heap ad av avs axs →
    (∀ v h' tk p, xs[i]? = some p → Rep h' ad av v p → St (i + 1) h' → (∀ b o, b ∉ wr → s.heap.get? b = some o → h'.get? b = some o) → Q v { s with heap := h', toks := tk }) → wpAny C.M A (pyNext (.ref I)) (fun r s₁ => match r with | none => False | some v => wpAny C.M A (letOwnedTupleGo t (.ref I) v) (fun _ s₂ => Q v s₂) E s₁) E s
  done : ∀ (s : Shared) (Q : Option Value → Shared → Prop) (E : Value → Shared → Prop), St n s.heap →
    (∀ h' tk, (∀ b o, b ∉ wr → s.heap.get? b = some o → h'.get? b = some o) → Q none { s with heap := h', toks := tk }) → wpAny C.M A (pyNext (.ref I)) Q E s
  self : ∀ (i : Nat) (s : Shared) (Q : Value → Shared → Prop) (E : Value → Shared → Prop), St i s.heap → Q (.ref I) s → wpAny C.M A (pyIter (.ref I)) Q E s
theorem Iter.of {A : Around} {I : Addr} {fp wr : List Addr} {n : Nat} {P : Nat → Value → Prop} {St : Nat → Heap → Prop} {xs : List PV} {avs : List Value} {axs : List PV} (W : Walks C.prog C.w A I fp wr n P St)
    (len : xs.length = n) (lv : ∀ i h, St i h → ∀ b ∈ fp, ∃ o, h.get? b = some o) (fld : ∀ i h, St i h → ∀ b ∈ wr, ∀ o, h.get? b = some o → ∃ vs, o.data = .fields vs)
    (cls : ∀ i h, St i h → ∃ o n, h.get? I = some o ∧ o.cls = .type n ∧ owners.contains n = false)
    (conv : ∀ i v h ad av, i < n → P i v → Reps h ad av avs axs → ∃ p, xs[i]? = some p ∧ Rep h ad av v p) : Iter C A I fp wr n St xs avs axs fun _ => True :=
  ⟨W.sub, len, W.frame, lv, fld, fun t i s Q E ad av _ hi st hf _ r h => W.item i s _ E hi st fun v h' tk hp st' kp => by
      have r' : Reps h' ad av avs axs := r.toNF (fun _ _ e => e) fun b o nb e nf => ⟨kp b o (fun hm => by obtain ⟨vs, q⟩ := fld i _ st b hm o e; exact nf vs q) e, nb⟩
      obtain ⟨p, h1, h2⟩ := conv i v h' ad av hi hp r'
      obtain ⟨o, cn, ho, hc, hn⟩ := cls _ _ st'
      exact own_pure ho hc hn (h v h' tk p h1 h2 st' kp), W.done, W.self⟩
structure SI (C : Cx) (k : Nat) (nm : List (Str × NameKind)) (vs : List Str) (Tg : Expr → Prop) (e : Expr) (it : Rho → Sto → R (List PV)) : Prop where
  run : ∀ ρ σ A env s ad av, Hyp C k nm vs ρ σ A env s ad av → it ρ σ ≠ .bad → ∀ (Q : Value → Shared → Prop) (E : Value → Shared → Prop),
    (∀ I fp wr n St xs avs axs s₂ σ₂, it ρ σ = .val xs σ₂ → Iter C A I fp wr n St xs avs axs Tg → St 0 s₂.heap → Reps s₂.heap ad av avs axs → (∀ b ∈ fp, b ∉ av) → (∀ b ∈ wr, s.heap.get? b = none) → Nxt ad av s σ₂ s₂ → Q (.ref I) s₂) →
    (∀ x s' σ', it ρ σ = .exc σ' → Exc A ad av s σ' x s' → E x s') → wpAny C.M A (eval e env) (fun v s₁ => wpAny C.M A (pyIter v) Q E s₁) E s
noncomputable def cItems (f : Rho → Sto → R PV) : Rho → Sto → R (List PV) := fun ρ σ => (f ρ σ).bind fun p σ => match p with
  | .str l => .val (l.map fun c => .str [c]) σ
  | .tup xs => .val xs σ
  | .lst xs => .val xs σ
  | _ => .bad
theorem fresh_before {ρ : Rho} {σ σ₁ : Sto} {A : Around} {env : Env} {s s₁ : Shared} {ad av : List Addr} (H : Hyp C k nm vs ρ σ A env s ad av) (n : Nxt ad av s σ₁ s₁) {b : Addr} (h : s₁.heap.get? b = none) : s.heap.get? b = none := by
  cases e : s.heap.get? b with
  | none => rfl
  | some o =>
    by_cases hm : b ∈ av
    · exact ((n.kp.lv b hm (H.above b hm).2).ne h).elim
    · rw [n.kp.kp b o hm e] at h; cases h
theorem strIter (hh : A.handled = none) {I : Addr} {ty : String} (hty : owners.contains ty = false) {l : List Nat} {t : Tok} (W : Walks C.prog C.w A I [I] [I] (toStr l).cps.size (SignAt (toStr l)) (fun i h => h.IsStrIter I ty (toStr l) t i)) :
    Iter C A I [I] [I] l.length (fun i h => h.IsStrIter I ty (toStr l) t i) (l.map fun c => .str [c]) [] [] (fun _ => True) := by
  have hl : (toStr l).cps.size = l.length := by simp
  rw [hl] at W
  refine .of W (by simp) (fun i h st b hb => ?_) (fun i h st b hb o e => ?_) (fun i h st => let ⟨o, e, c, _⟩ := st; ⟨o, _, e, c, hty⟩) fun i v h ad av hi hp _ => ?_
  · obtain ⟨o, e, _⟩ := st; rw [List.mem_singleton.mp hb]; exact ⟨o, e⟩
  · obtain ⟨o', e', _, d⟩ := st; rw [List.mem_singleton.mp hb] at e; rw [e] at e'; cases e'; exact ⟨_, d⟩
  · obtain ⟨c, u, hc, rfl⟩ := hp
    have hc' : l[i]? = some c := by simpa using hc
    exact ⟨.str [c], by rw [List.getElem?_map, hc']; rfl, .str [c] u⟩
theorem items_inv {p : PV} {σ : Sto} (h : (match p with
  | .str l => R.val (l.map fun c => PV.str [c]) σ
  | .tup xs => .val xs σ
  | .lst xs => .val xs σ
  | _ => .bad) ≠ .bad) : (∃ l, p = .str l) ∨ (∃ xs, p = .tup xs) ∨ ∃ xs, p = .lst xs := by
  split at h
  · exact .inl ⟨_, rfl⟩
  · exact .inr (.inl ⟨_, rfl⟩)
  · exact .inr (.inr ⟨_, rfl⟩)
  · exact absurd rfl h
theorem i_val {e : Expr} {f : Rho → Sto → R PV} (hk : 0 < k) (h : SE C k nm vs e f) : SI C k nm vs (fun _ => True) e (cItems f) := by
  refine ⟨?_⟩
  intro ρ σ A env s ad av H hb Q E hQ hE
  unfold cItems at hb hQ hE
  refine h.run ρ σ A env s ad av H (fun e => hb (by rw [e]; rfl)) _ E ⟨fun v s₁ p σ₁ e r n => ?_, fun x s' σ' e q => hE x s' σ' (by rw [e]; rfl) q⟩
  rw [e] at hb hQ
  have H₁ := H.next n
  have hh := H.hh hk
  have fr : ∀ {b}, b = s₁.heap.objs.size → s.heap.get? b = none := fun hb => fresh_before H n (get?_none_of_size (Nat.le_of_eq hb.symm))
  have fra : s₁.heap.objs.size ∉ av := H₁.fresh (Nat.le_refl _)
  rcases items_inv hb with ⟨l, rfl⟩ | ⟨xs, rfl⟩ | ⟨xs, rfl⟩
  · obtain ⟨t, rfl⟩ := r.str_inv
    dsimp only [R.bind_val] at hQ
    cases ha : (toStr l).cps.all (· < 128)
    · refine wpAny_pyIter_wide ha (hQ _ _ _ _ _ _ [] [] _ _ rfl (strIter hh (by decide) (Walks.strWide hh _ (toStr l) t)) ⟨_, Heap.get?_push_size _ rfl, rfl, rfl⟩ .nil (fun b hb => by rw [List.mem_singleton.mp hb]; exact fra) (fun b hb => fr (List.mem_singleton.mp hb)) (n.trans (.push H₁ _)))
    · refine wpAny_pyIter_ascii ha (hQ _ _ _ _ _ _ [] [] _ _ rfl (strIter hh (by decide) (Walks.strAscii hh _ (toStr l) t)) ⟨_, Heap.get?_push_size _ rfl, rfl, rfl⟩ .nil (fun b hb => by rw [List.mem_singleton.mp hb]; exact fra) (fun b hb => fr (List.mem_singleton.mp hb)) (n.trans (.push H₁ _)))
  · obtain ⟨a, ws, rfl, h1, h2, h3⟩ := r.tup_inv
    dsimp only [R.bind_val] at hQ
    have hlt : a ≠ s₁.heap.objs.size := by obtain ⟨o, ho, _⟩ := h1; exact Nat.ne_of_lt (Heap.lt_size ho)
    refine wpAny_pyIter_tuple h1 (hQ _ _ _ _ _ _ ws xs _ _ rfl (.of (Walks.tuple hh s₁.heap.objs.size a hlt ws.toArray) (by simp; exact h3.length.symm) (fun i h st b hb => ?_) (fun i h st b hb o e => ?_) (fun i h st => let ⟨⟨o, e, c, _⟩, _⟩ := st; ⟨o, _, e, c, by decide⟩) fun i v h ad av hi hp r => ?_)
      ⟨⟨_, Heap.get?_push_size _ rfl, rfl, rfl⟩, h1.push _⟩ (h3.keep (ad0 := []) (.push _)) (fun b hb => ?_) (fun b hb => fr (List.mem_singleton.mp hb)) (n.trans (.push H₁ _)))
    · obtain ⟨⟨o, e, _⟩, ⟨o', e', _⟩⟩ := st
      simp only [List.mem_cons, List.not_mem_nil, or_false] at hb
      rcases hb with rfl | rfl
      · exact ⟨o, e⟩
      · exact ⟨o', e'⟩
    · obtain ⟨⟨o', e', _, d⟩, _⟩ := st; rw [List.mem_singleton.mp hb] at e; rw [e] at e'; cases e'; exact ⟨_, d⟩
    · exact r.get' (by simpa using hp)
    · simp only [List.mem_cons, List.not_mem_nil, or_false] at hb
      rcases hb with rfl | rfl
      · exact fra
      · exact h2
  · obtain ⟨a, ws, rfl, h1, h2, h3⟩ := r.lst_inv
    dsimp only [R.bind_val] at hQ
    have hlt : a ≠ s₁.heap.objs.size := by obtain ⟨o, ho, _⟩ := h1; exact Nat.ne_of_lt (Heap.lt_size ho)
    refine wpAny_pyIter_list h1 (hQ _ _ _ _ _ _ ws xs _ _ rfl (.of (Walks.list hh s₁.heap.objs.size a hlt ws.toArray) (by simp; exact h3.length.symm) (fun i h st b hb => ?_) (fun i h st b hb o e => ?_) (fun i h st => let ⟨⟨o, e, c, _⟩, _⟩ := st; ⟨o, _, e, c, by decide⟩) fun i v h ad av hi hp r => ?_)
      ⟨⟨_, Heap.get?_push_size _ rfl, rfl, rfl⟩, h1.push _⟩ (h3.keep (ad0 := []) (.push _)) (fun b hb => ?_) (fun b hb => fr (List.mem_singleton.mp hb)) (n.trans (.push H₁ _)))
    · obtain ⟨⟨o, e, _⟩, ⟨o', e', _⟩⟩ := st
      simp only [List.mem_cons, List.not_mem_nil, or_false] at hb
      rcases hb with rfl | rfl
      · exact ⟨o, e⟩
      · exact ⟨o', e'⟩
    · obtain ⟨⟨o', e', _, d⟩, _⟩ := st; rw [List.mem_singleton.mp hb] at e; rw [e] at e'; cases e'; exact ⟨_, d⟩
    · exact r.get' (by simpa using hp)
    · simp only [List.mem_cons, List.not_mem_nil, or_false] at hb
      rcases hb with rfl | rfl
      · exact fra
      · exact h2

/- ## range -/
noncomputable def rngL (a b c : Int) : List PV := (List.range (if a < b then (b - a - 1) / c + 1 else 0).toNat).map fun (i : Nat) => .int (a + i * c)
noncomputable def rngV (ps : List PV) : Option (List PV) := match ps with
  | [p] => pvI p fun b => if b.natAbs ≤ 1000000 then some (rngL 0 b 1) else none
  | [p, q] => ii p q fun a b => if a.natAbs ≤ 1000000 ∧ b.natAbs ≤ 1000000 then some (rngL a b 1) else none
  | [p, q, r] => ii p q fun a b => pvI r fun c => if a.natAbs ≤ 1000000 ∧ b.natAbs ≤ 1000000 ∧ 0 < c ∧ c ≤ 1000000 then some (rngL a b c) else none
  | _ => none
theorem rngV_inv {ps xs : List PV} {P : Prop} (h : rngV ps = some xs) (k1 : ∀ b, ps = [.int b] → b.natAbs ≤ 1000000 → rngL 0 b 1 = xs → P)
    (k2 : ∀ a b, ps = [.int a, .int b] → a.natAbs ≤ 1000000 ∧ b.natAbs ≤ 1000000 → rngL a b 1 = xs → P)
    (k3 : ∀ a b c, ps = [.int a, .int b, .int c] → a.natAbs ≤ 1000000 ∧ b.natAbs ≤ 1000000 ∧ 0 < c ∧ c ≤ 1000000 → rngL a b c = xs → P) : P := by
  cases ps with
  | nil => exact nonE h
  | cons p ps => cases ps with
    | nil =>
      obtain ⟨b, e, h1⟩ := pvI_inv h
      exact k1 b (e ▸ rfl) (iff_inv h1).1 (iff_inv h1).2
    | cons q ps => cases ps with
      | nil =>
        obtain ⟨a, b, e1, e2, h1⟩ := ii_inv h
        exact k2 a b (e1 ▸ e2 ▸ rfl) (iff_inv h1).1 (iff_inv h1).2
      | cons r ps => cases ps with
        | nil =>
          obtain ⟨a, b, e1, e2, h1⟩ := ii_inv h
          obtain ⟨c, e3, h2⟩ := pvI_inv h1
          exact k3 a b c (e1 ▸ e2 ▸ e3 ▸ rfl) (iff_inv h2).1 (iff_inv h2).2
        | cons _ _ => exact nonE h
noncomputable def cRange (g : Rho → Sto → R (List PV)) : Rho → Sto → R (List PV) := fun ρ σ => (g ρ σ).bind fun ps σ => R.of (rngV ps) σ
theorem small_ok {a b c : Int} (ha : a.natAbs ≤ 1000000) (hb : b.natAbs ≤ 1000000) (h0 : 0 < c) (hc : c ≤ 1000000) : Builtin.Range.small a b c = true := by
  have hs : 0 ≤ Builtin.Range.rangeSize a b c ∧ Builtin.Range.rangeSize a b c ≤ 4000000 := by
    unfold Builtin.Range.rangeSize
    rw [if_pos h0]
    split
    · have h1 : (b - a - 1) / c ≤ b - a - 1 := Int.ediv_le_self _ (by omega)
      have h2 : 0 ≤ (b - a - 1) / c := Int.ediv_nonneg (by omega) (by omega)
      omega
    · omega
  unfold Builtin.Range.small
  simp only [Builtin.Range.rangeFitsLong, Bool.and_eq_true, Bool.or_eq_true, decide_eq_true_eq, beq_iff_eq]
  refine ⟨⟨⟨⟨by omega, by omega⟩, by omega⟩, by omega⟩, .inr ?_⟩
  rw [if_pos h0]
  simp only [Bool.and_eq_true, decide_eq_true_eq]
  omega
theorem rng_size {a b c : Int} (h0 : 0 < c) : Builtin.Range.rangeSize a b c = ((if a < b then (b - a - 1) / c + 1 else 0).toNat : Nat) := by
  unfold Builtin.Range.rangeSize
  rw [if_pos h0]
  split
  · have h2 : 0 ≤ (b - a - 1) / c := Int.ediv_nonneg (by omega) (by omega)
    omega
  · rfl
theorem i_range {f : Str} {p pos : Pos} {e : Expr} {es : List Expr} {g : Rho → Sto → R (List PV)} (hk : 0 < k) (hn : nm.lookup f = some .globalImplicit) (hg : C.mg f = none) (hv : bootBuiltins f = some (.type "range"))
    (hs : SEs C k nm vs (e :: es) g) (hx : f ≠ "__name__") (he : ∀ env, starEach (e :: es) env = (false, eval e env) :: starEach es env)
    (hp : ∀ env pos, (backTo pos (starEach es env)).any (·.1) = false) (hdb : (f == ("__debug__" : Str)) = false) :
    SI C k nm vs (fun _ => True) (.Call (.Name f p) (e :: es) [] pos) (cRange g) := by
  refine ⟨?_⟩
  intro ρ σ A env s ad av H hb Q E hQ hE
  unfold cRange at hb hQ hE
  have hh := H.hh hk
  refine wpAny_Call_Name_kw (name_blt H hn hg hv hx ?_ hdb)
  have hp' := hp env pos
  have hs' := hs.run ρ σ A env s ad av pos H
  rw [he env] at hs' ⊢
  refine PySem.callWith_type (by show (false || (backTo pos (starEach es env)).any (·.1)) = false; rw [hp']; rfl) (evalArgs_plain (hs' (fun e => hb (by rw [e]; rfl)) _ E ⟨fun vals s₁ ps σ₁ e r n => ?_, fun x s' σ' e q => hE x s' σ' (by rw [e]; rfl) q⟩))
  rw [e] at hb hQ
  have H₁ := H.next n
  dsimp only [R.bind_val] at hb hQ
  cases hr : rngV ps with
  | none => rw [hr] at hb; exact absurd rfl hb
  | some xs =>
    rw [hr] at hQ
    dsimp only [R.of_some] at hQ
    have fin : ∀ (a b c : Int) (s₂ : Shared) (r : Addr) (t u v : Tok), xs = rngL a b c → a.natAbs ≤ 1000000 → b.natAbs ≤ 1000000 → 0 < c → c ≤ 1000000 → IsRange s₂.heap r a b c t u v → Nxt ad av s₁ σ₁ s₂ → wpAny C.M A (pyIter (.ref r)) Q E s₂ := by
      intro a b c s₂ r t u v hx ha hb' h0 hc hr n₂
      have H₂ := H₁.next n₂
      refine wpAny_pyIter_range hr (small_ok ha hb' h0 hc) ?_
      have W := Walks.range (prog := C.prog) (w := C.w) hh s₂.heap.objs.size a c (if a < b then (b - a - 1) / c + 1 else 0).toNat
      refine hQ _ _ _ _ _ _ [] [] _ _ rfl (.of W (by rw [hx]; unfold rngL; simp) (fun i h st b hb => ?_) (fun i h st b hb o e => ?_) (fun i h st => ⟨_, _, st, rfl, by decide⟩) fun i v h ad av hi hp _ => ?_) ?_ .nil (fun b hb => ?_) (fun b hb => ?_) (n.trans (n₂.trans (.push H₂ _)))
      · rw [List.mem_singleton.mp hb]; exact ⟨_, st⟩
      · rw [List.mem_singleton.mp hb, st] at e; cases e; exact ⟨_, rfl⟩
      · obtain ⟨t, rfl⟩ := hp
        refine ⟨.int (a + i * c), ?_, .int _ _⟩
        rw [hx]; unfold rngL
        rw [List.getElem?_map, List.getElem?_range hi]; rfl
      · show IsRangeIter _ _ _ _ _
        rw [rng_size h0]
        simpa using Heap.get?_push_size _ rfl
      · rw [List.mem_singleton.mp hb]; exact H₂.fresh (Nat.le_refl _)
      · rw [List.mem_singleton.mp hb]; exact fresh_before H (n.trans n₂) (get?_none_of_size (Nat.le_refl _))
    refine rngV_inv hr (fun _ e1 hc e2 => ?_) (fun _ _ e1 hc e2 => ?_) fun _ _ _ e1 hc e2 => ?_ <;> subst e1 e2
    · obtain ⟨v, rfl, r0⟩ := r.one
      obtain ⟨t, rfl⟩ := r0.int_inv
      refine call_range_1 ?_
      exact fin _ _ _ _ _ _ _ _ rfl (by decide) hc (by decide) (by decide) (IsRange.new ..) ((Nxt.push H₁ _).trans (.toks (H₁.next (.push H₁ _)) _))
    · obtain ⟨v, w, rfl, r0, r1⟩ := r.two
      obtain ⟨t, rfl⟩ := r0.int_inv
      obtain ⟨u, rfl⟩ := r1.int_inv
      refine call_range_2 ?_
      exact fin _ _ _ _ _ _ _ _ rfl hc.1 hc.2 (by decide) (by decide) (IsRange.new ..) ((Nxt.push H₁ _).trans (.toks (H₁.next (.push H₁ _)) _))
    · cases r with
      | cons r0 r =>
        obtain ⟨v, w, rfl, r1, r2⟩ := r.two
        obtain ⟨t, rfl⟩ := r0.int_inv
        obtain ⟨u, rfl⟩ := r1.int_inv
        obtain ⟨x, rfl⟩ := r2.int_inv
        refine call_range_3 (by omega) ?_ (.inl (noPy ⟨hc.2.2.1, by omega⟩))
        exact fin _ _ _ _ _ _ _ _ rfl hc.1 hc.2.1 hc.2.2.1 hc.2.2.2 (IsRange.new ..) (.push H₁ _)
end
end Mine.Internal
/- G10 -/
namespace Mine.Internal
section
variable {C : Cx} {k : Nat} {nm : List (Str × NameKind)} {vs : List Str}
/- ## A walker has moved -/
theorem Hyp.over {ρ : Rho} {σ : Sto} {A : Around} {env : Env} {s : Shared} {ad av : List Addr} (H : Hyp C k nm vs ρ σ A env s ad av) {h' : Heap} {tk : Tok} {wr : List Addr} (kp : ∀ b o, b ∉ wr → s.heap.get? b = some o → h'.get? b = some o)
    (fld : ∀ b ∈ wr, ∀ o, s.heap.get? b = some o → ∃ vs, o.data = .fields vs) (nb : ∀ b ∈ wr, C.base.get? b = none) : Hyp C k nm vs ρ σ A env { s with heap := h', toks := tk } ad av := by
  have nf : ∀ b o, s.heap.get? b = some o → (∀ vs, o.data ≠ .fields vs) → h'.get? b = some o := fun b o e n => kp b o (fun hm => by obtain ⟨vs, q⟩ := fld b hm o e; exact n vs q) e
  have ns : ∀ {b m}, s.heap.Ns b m → h'.Ns b m := fun x => by
    obtain ⟨o, es, ep, e, d, r⟩ := x; exact ⟨o, es, ep, nf _ o e (fun vs q => by rw [d] at q; cases q), d, r⟩
  have cl : ∀ {b v}, s.heap.IsCell b v → h'.IsCell b v := fun x => by
    obtain ⟨o, e, d⟩ := x; exact ⟨o, nf _ o e (fun vs q => by rw [d] at q; cases q), d⟩
  have rp : ∀ {v p}, Rep s.heap ad av v p → Rep h' ad av v p := fun r => r.toNF (fun _ _ e => e) fun b o n e q => ⟨nf b o e q, n⟩
  obtain ⟨m, hm, hv⟩ := H.loc
  refine ⟨fun b o e => kp b o (fun hm => by rw [nb b hm] at e; cases e) (H.stays b o e), fun a ha => ⟨(H.above a ha).1, let ⟨o, e, n⟩ := (H.above a ha).2; ⟨o, nf a o e n, n⟩⟩, H.adsub, H.adnd, H.names, H.kind, H.glob, H.blt, ⟨m, ns hm, fun i p e => ?_⟩, H.lav,
    fun x c e => ?_, H.celn, H.apart, ?_, ⟨H.sg.len, fun i a m h1 h2 => (H.sg.at_ i a m h1 h2).toNF (fun o e n => nf a o e n) fun b o n e q => ⟨nf b o e q, n⟩⟩, H.hh, H.dep, H.un⟩
  · obtain ⟨x, hx, q⟩ := hv i p e
    refine ⟨x, hx, ?_⟩
    rcases q with ⟨h1, v, h2, h3⟩ | ⟨h1, c, v, h2, h3, h4⟩
    · exact .inl ⟨h1, v, h2, rp h3⟩
    · exact .inr ⟨h1, c, v, h2, cl h3, rp h4⟩
  · obtain ⟨h1, h2, h3, v, h4⟩ := H.cel x c e
    exact ⟨h1, h2, h3, v, cl h4⟩
  · obtain ⟨fl, e, q⟩ := H.fr
    exact ⟨fl, e, fun f hf => by obtain ⟨h1, L, m, h2, h3, h4, h5⟩ := q f hf; exact ⟨h1, L, m, h2, ns h3, h4, h5⟩⟩
/- behind a start -/
theorem Aft.over {env : Env} {ad av ad' av' : List Addr} {s₀ s : Shared} (a : Aft env ad av s₀ s ad' av') {h' : Heap} {tk : Tok} {wr : List Addr} (kp : ∀ b o, b ∉ wr → s.heap.get? b = some o → h'.get? b = some o)
    (fld : ∀ b ∈ wr, ∀ o, s.heap.get? b = some o → ∃ vs, o.data = .fields vs) (nw : ∀ b ∈ wr, s₀.heap.get? b = none) : Aft env ad av s₀ { s with heap := h', toks := tk } ad' av' := by
  have nf : ∀ b o, s.heap.get? b = some o → (∀ vs, o.data ≠ .fields vs) → h'.get? b = some o := fun b o e n => kp b o (fun hm => by obtain ⟨vs, q⟩ := fld b hm o e; exact n vs q) e
  refine ⟨?_, a.ex, fun b hb hl => let ⟨o, e, n⟩ := a.lv b hb hl; ⟨o, nf b o e n, n⟩, fun b o hb e => kp b o (fun hm => by rw [nw b hm] at e; cases e) (a.kp b o hb e), fun b h1 h2 h3 h4 m e => ?_, fun b h1 h2 h3 h4 v e => ?_, fun b h1 h2 h3 h4 v e => ?_⟩
  · obtain ⟨h, t, rfl⟩ := a.sh; exact ⟨h', tk, rfl⟩
  · obtain ⟨o, es, ep, e, d, r⟩ := a.ns b h1 h2 h3 h4 m e; exact ⟨o, es, ep, nf _ o e (fun vs q => by rw [d] at q; cases q), d, r⟩
  · obtain ⟨o, e, d⟩ := a.cl b h1 h2 h3 h4 v e; exact ⟨o, nf _ o e (fun vs q => by rw [d] at q; cases q), d⟩
  · obtain ⟨o, e, c, n, d⟩ := a.li b h1 h2 h3 h4 v e; exact ⟨o, nf _ o e (fun vs q => by rw [d] at q; cases q), c, n, d⟩

/- ## Plain assignments -/
theorem load_ok {ρ : Rho} {σ : Sto} {A : Around} {env : Env} {s : Shared} {ad av : List Addr} {i : Nat} {x : Str} (H : Hyp C k nm vs ρ σ A env s ad av) (hi : vs[i]? = some x) : Giv C A ad av s (loadName env x) (cVar i ρ σ) (RP ad av) := by
  intro hb Q E K
  obtain ⟨m, hm, hv⟩ := H.loc
  unfold cVar at hb K
  split at hb
  · rename_i p hp
    rw [hp] at K
    obtain ⟨y, hy, q⟩ := hv i p hp
    rw [hi] at hy; cases hy
    rcases q with ⟨h1, v, h2, h3⟩ | ⟨h1, c, v, h2, h3, h4⟩
    · exact wpAny_loadName_local H.kind (by unfold Env.kindOf; rw [H.names]; exact h1) hm h2 (K.ok _ _ _ _ rfl h3 (.refl H))
    · exact wpAny_loadName_cell H.kind (by unfold Env.kindOf; rw [H.names]; exact h1) h2 h3 (K.ok _ _ _ _ rfl h4 (.refl H))
  · exact absurd rfl hb
theorem s_set {e : Expr} {x : Str} {p pos : Pos} {i : Nat} {f : Rho → Sto → R PV} (h : SE C k nm vs e f) (nd : vs.Nodup) (hi : vs[i]? = some x) (hk : nm.lookup x = some .local ∨ nm.lookup x = some .cell)
    (hs : ∀ env, swapsWith e (some (.Name x p)) pos.line env = pure false) : SS C k nm vs (.Assign [.Name x p] e pos) (xSet i f) := by
  refine ⟨?_⟩
  intro ρ σ A env s ad av H hb Q E K
  refine wpAny_Assign_Name ((h.run ρ σ A env s ad av H).seqX H hb K fun v s₁ p σ₁ r n hb K => ?_) (hs env)
  have H₁ := H.next n
  exact store_ok H₁ nd hi hk r fun s' H' a => K.nx _ _ _ _ _ rfl H' a
theorem s_aug {op : Operator} {e : Expr} {x : Str} {p pos : Pos} {i : Nat} {f : Rho → Sto → R PV} (h : SE C k nm vs e f) (nd : vs.Nodup) (hi : vs[i]? = some x) (hk : nm.lookup x = some .local ∨ nm.lookup x = some .cell) : SS C k nm vs (.AugAssign (.Name x p) op e pos) (xAug op i f) := by
  refine ⟨?_⟩
  intro ρ σ A env s ad av H hb Q E K
  refine wpAny_AugAssign_Name ((load_ok H hi).seqX H hb K fun a s₁ p σ₁ ra n₁ hb K => ?_)
  have H₁ := H.next n₁
  refine (h.run ρ σ₁ A env s₁ ad av H₁).seqX H₁ hb K fun b s₂ q σ₂ rb n₂ hb K => ?_
  have H₂ := H₁.next n₂
  refine (inp_ok H₂ (ra.keep n₂.kp) rb).seqX H₂ hb K fun c s₃ r σ₃ rc n₃ hb K => ?_
  exact store_ok (H₂.next n₃) nd hi hk rc fun s' H' a => K.nx _ _ _ _ _ rfl H' a
/- ## Targets -/
structure SA (C : Cx) (k : Nat) (nm : List (Str × NameKind)) (vs : List Str) (t : Expr) (g : PV → Rho → Option Rho) : Prop where
  run : ∀ ρ σ A env s ad av v p ρ', Hyp C k nm vs ρ σ A env s ad av → Rep s.heap ad av v p → g p ρ = some ρ' → ∀ (Q : Unit → Shared → Prop) (E : Value → Shared → Prop),
    (∀ s', Hyp C k nm vs ρ' σ A env s' ad av → Aft env ad av s s' ad av → Q () s') → wpAny C.M A (assign t env v) Q E s
noncomputable def SAs (C : Cx) (k : Nat) (nm : List (Str × NameKind)) (vs : List Str) (ts : List Expr) (g : List PV → Rho → Option Rho) : Prop :=
  (∀ env, (assignEach ts env).findIdx? (·.1) = none ∧ (assignEach ts env).length = ts.length) ∧ (∀ ps ρ ρ', g ps ρ = some ρ' → ps.length = ts.length) ∧ ∀ ρ σ A env s ad av vals ps ρ', Hyp C k nm vs ρ σ A env s ad av → Reps s.heap ad av vals ps → g ps ρ = some ρ' → ∀ (Q : Unit → Shared → Prop) (E : Value → Shared → Prop),
    (∀ s', Hyp C k nm vs ρ' σ A env s' ad av → Aft env ad av s s' ad av → Q () s') → wpAny C.M A (assignInOrder ((assignEach ts env).map (·.2)) vals) Q E s
noncomputable def aOne (i : Nat) : PV → Rho → Option Rho := fun p ρ => some (ρ.set i (some p))
noncomputable def aNil : List PV → Rho → Option Rho := fun ps ρ => match ps with
  | [] => some ρ
  | _ => none
noncomputable def aCons (i : Nat) (g : List PV → Rho → Option Rho) : List PV → Rho → Option Rho := fun ps ρ => match ps with
  | p :: ps => g ps (ρ.set i (some p))
  | [] => none
noncomputable def aTup (g : List PV → Rho → Option Rho) : PV → Rho → Option Rho := fun p ρ => match p with
  | .tup ps => g ps ρ
  | _ => none
theorem a_one {x : Str} {p : Pos} {i : Nat} (nd : vs.Nodup) (hi : vs[i]? = some x) (hk : nm.lookup x = some .local ∨ nm.lookup x = some .cell) : SA C k nm vs (.Name x p) (aOne i) := by
  refine ⟨?_⟩
  intro ρ σ A env s ad av v p ρ' H r e Q E h
  cases e
  exact wpAny_assign_Name (store_ok H nd hi hk r h)
theorem a_nil : SAs C k nm vs [] aNil := by
  refine ⟨fun env => ⟨rfl, rfl⟩, fun ps ρ ρ' e => ?_, fun ρ σ A env s ad av vals ps ρ' H r e Q E h => ?_⟩
  · cases ps with
    | nil => rfl
    | cons _ _ => cases e
  · cases r with
    | nil => cases e; exact wpAny_pure (h s H (.of (.refl H)))
    | cons _ _ => cases e
theorem a_cons {x : Str} {p : Pos} {i : Nat} {ts : List Expr} {g : List PV → Rho → Option Rho} (nd : vs.Nodup) (hi : vs[i]? = some x) (hk : nm.lookup x = some .local ∨ nm.lookup x = some .cell) (h : SAs C k nm vs ts g) : SAs C k nm vs (.Name x p :: ts) (aCons i g) := by
  refine ⟨fun env => ?_, fun ps ρ ρ' e => ?_, fun ρ σ A env s ad av vals ps ρ' H r e Q E hQ => ?_⟩
  · obtain ⟨h1, h2⟩ := h.1 env
    have : assignEach (.Name x p :: ts) env = (false, assign (.Name x p) env) :: assignEach ts env := rfl
    rw [this]
    exact ⟨by rw [List.findIdx?_cons, h1]; rfl, by simp [h2]⟩
  · cases ps with
    | nil => cases e
    | cons q qs => simp [h.2.1 qs _ _ e]
  · cases r with
    | nil => cases e
    | cons r0 rs =>
      rename_i v p ws ps
      show wpAny C.M A (do holding ws (assign (.Name x _) env v); assignInOrder ((assignEach ts env).map (·.2)) ws) Q E s
      refine wpAny_bind (wpAny_holding (wpAny_assign_Name (store_ok H nd hi hk r0 fun s₁ H₁ a₁ => ?_)))
      have R : Reps s₁.heap ad av ws ps := rs.to (fun _ _ e => e) fun b o n e => ⟨a₁.kp b o n e, n⟩
      exact h.2.2 _ σ A env s₁ ad av ws ps ρ' H₁ R e Q E fun s' H' a' => hQ s' H' (a₁.trans H.lives a')
theorem a_tup {ts : List Expr} {x : Nat} {pos : Pos} {g : List PV → Rho → Option Rho} (hk : 0 < k) (h : SAs C k nm vs ts g) : SA C k nm vs (.Tuple ts x pos) (aTup g) := by
  refine ⟨?_⟩
  intro ρ σ A env s ad av v p ρ' H r e Q E hQ
  unfold aTup at e
  split at e
  case h_2 => cases e
  rename_i ps
  cases r with
  | @tup a ws _ h1 h2 h3 =>
    obtain ⟨q1, q2⟩ := h.1 env
    refine wpAny_assign_Tuple (H.hh hk) h1 (by rw [q2, ← h.2.1 ps _ _ e, List.size_toArray]; exact h3.length.symm) q1 fun h' he => ?_
    have N : Nxt ad av s σ { s with heap := h' } := by
      have := Nxt.all (tk := s.toks) H (h' := h') fun b o e => he b o (Nat.ne_of_lt (Heap.lt_size e)) e
      exact this
    have R : Reps h' ad av ws ps := h3.keep (ad0 := ad) N.kp
    exact h.2.2 ρ σ A env _ ad av ws ps ρ' (H.next N) R e Q E fun s' H' a' => hQ s' H' ((Aft.of N).trans H.lives a')
noncomputable def xAsg (g : PV → Rho → Option Rho) (f : Rho → Sto → R PV) : Rho → Sto → R Ou := fun ρ σ => (f ρ σ).bind fun p σ => match g p ρ with
  | some ρ' => .val (.nxt ρ') σ
  | none => .bad
theorem s_asg {ts : List Expr} {x : Nat} {tp pos : Pos} {e : Expr} {g : PV → Rho → Option Rho} {f : Rho → Sto → R PV} (ht : SA C k nm vs (.Tuple ts x tp) g) (h : SE C k nm vs e f)
    (hs : ∀ env, swapsWithSole [.Tuple ts x tp] e pos.line env = pure false := by intro _; rfl) (hw : ∀ env, swappedStores [.Tuple ts x tp] e env = pure none := by intro _; rfl) : SS C k nm vs (.Assign [.Tuple ts x tp] e pos) (xAsg g f) := by
  refine ⟨?_⟩
  intro ρ σ A env s ad av H hb Q E K
  refine Assign_Tuple ((h.run ρ σ A env s ad av H).seqX H hb K fun v s₁ p σ₁ r n hb K => ?_) (hs env) (hw env)
  have H₁ := H.next n
  split at hb
  case h_2 => exact absurd rfl hb
  rename_i ρ' hg
  rw [hg] at K
  exact ht.run ρ σ₁ A env s₁ ad av v p ρ' H₁ r hg _ E fun s' H' a => K.nx _ _ _ _ _ rfl H' a
/- a, b = x, y: the two change places without a tuple -/
noncomputable def xSwap (i j : Nat) (f g : Rho → Sto → R PV) : Rho → Sto → R Ou := fun ρ σ => (f ρ σ).bind fun p σ => (g ρ σ).bind fun q σ => .val (.nxt ((ρ.set j (some q)).set i (some p))) σ
theorem swapped_ok {x y : Str} {a b : Expr} {px py tp vp : Pos} {xt xv : Nat} {env : Env} (hk : env.scope.kind = .function) (hx : env.kindOf x = some .local) (hy : env.kindOf y = some .local) (hl : (py.line == px.line) = true) (hxy : (y == x) = false)
    (hs : ([a, b].any fun | .Starred .. => true | _ => false) = false) (hf : [a, b].all (foldedForSure 8) = false) (hc : [a, b].all (constantsAlone 8) = false) :
    swappedStores [.Tuple [.Name x px, .Name y py] xt tp] (.Tuple [a, b] xv vp) env = pure (some [x, y]) := by
  have hb : env.blockKind = .function := by unfold Env.blockKind; rw [hk]; rfl
  have e1 : (Expr.Name x px).pos = px := rfl
  unfold swappedStores
  dsimp only [List.filterMap_cons, List.filterMap_nil]
  simp -iota only [List.length_cons, List.length_nil, hb, hf, hc, List.filterMap_cons, List.filterMap_nil, hx, hy, hl, e1, List.head?_cons, Option.map_some, Option.getD_some, beq_self_eq_true, Bool.and_self, if_true, bne_self_eq_false, Bool.false_eq_true, if_false]
  have he : [x, y].eraseDups = [x, y] := by simp [List.eraseDups_cons, hxy]
  rw [he]
  refine Eq.trans (if_neg (by decide)) (Eq.trans (if_neg fun q => ?_) (if_neg (by simp)))
  have q' : ([a, b].any fun | .Starred .. => true | _ => false) = true := q
  rw [hs] at q'; cases q'
theorem s_swap {x y : Str} {a b : Expr} {px py tp vp pos : Pos} {xt xv i j : Nat} {f g : Rho → Sto → R PV} (hk0 : 0 < k) (ha : SE C k nm vs a f) (hb' : SE C k nm vs b g) (nd : vs.Nodup) (hi : vs[i]? = some x) (hj : vs[j]? = some y)
    (hki : nm.lookup x = some .local) (hkj : nm.lookup y = some .local) (hl : (py.line == px.line) = true) (hxy : (y == x) = false) (hst : ([a, b].any fun | .Starred .. => true | _ => false) = false) (hfo : [a, b].all (foldedForSure 8) = false) (hco : [a, b].all (constantsAlone 8) = false) (he1 : ∀ env, starEach [a, b] env = (false, eval a env) :: starEach [b] env := by intro _; rfl) (he2 : ∀ env, starEach [b] env = (false, eval b env) :: starEach [] env := by intro _; rfl)
    (hs : ∀ env, swapsWithSole [.Tuple [.Name x px, .Name y py] xt tp] (.Tuple [a, b] xv vp) pos.line env = pure false := by intro _; rfl) :
    SS C k nm vs (.Assign [.Tuple [.Name x px, .Name y py] xt tp] (.Tuple [a, b] xv vp) pos) (xSwap i j f g) := by
  refine ⟨?_⟩
  intro ρ σ A env s ad av H hb Q E K
  refine Assign_Tuple_swapped (wpAny_Tuple (wpAny_items_cons ((ha.run ρ σ A env s ad av H).seqX H hb K fun v s₁ p σ₁ r n hb K => wpAny_items_cons ?_ (he2 env)) (he1 env))) (hs env) (swapped_ok H.kind (by unfold Env.kindOf; rw [H.names]; exact hki) (by unfold Env.kindOf; rw [H.names]; exact hkj) hl hxy hst hfo hco)
  have H₁ := H.next n
  refine (hb'.run ρ σ₁ A env s₁ ad av H₁).seqX H₁ hb K fun w s₂ q σ₂ r₂ n₂ hb K => wpAny_items_nil ⟨by show 2 ≤ sizeLine; decide, ?_⟩
  have H₂ := H₁.next n₂
  have N : Nxt ad av s₂ σ₂ { s₂ with heap := s₂.heap.push { cls := .type "tuple", data := .seq [v, w].toArray } } := .push H₂ _
  have H₃ := H₂.next N
  refine wpAny_unpackItems_tuple (t := s₂.heap.objs.size) (items := [v, w].toArray) (H.hh hk0) ⟨_, Heap.get?_push_size _ rfl, rfl, _, rfl⟩ fun h' he => ?_
  have N' : Nxt ad av { s₂ with heap := s₂.heap.push { cls := .type "tuple", data := .seq [v, w].toArray } } σ₂ { s₂ with heap := h' } :=
    Nxt.all (tk := s₂.toks) H₃ (h' := h') fun b o e => he b o (Nat.ne_of_lt (Heap.lt_size e)) e
  have H₄ := H₃.next N'
  show wpAny C.M A (assignInOrder [bindName env y, bindName env x] [w, v]) _ E _
  show wpAny C.M A (do holding [v] (bindName env y w); (do holding [] (bindName env x v); pure ())) _ E _
  have rv : Rep h' ad av v p := ((r.keep n₂.kp).keep N.kp).keep N'.kp
  have rw' : Rep h' ad av w q := (r₂.keep N.kp).keep N'.kp
  refine wpAny_bind (wpAny_holding (wpAny_bindName (store_ok H₄ nd hj (.inl hkj) rw' fun s₅ H₅ a₅ => ?_)))
  refine wpAny_bind (wpAny_holding (wpAny_bindName (store_ok H₅ nd hi (.inl hki) (rv.to (fun _ _ e => e) fun b o n e => ⟨a₅.kp b o n e, n⟩) fun s₆ H₆ a₆ => wpAny_pure ?_)))
  exact K.nx _ _ _ _ _ rfl H₆ ((Aft.of (N.trans N')).trans H₂.lives (a₅.trans H₄.lives a₆))

/- ## Loops -/
noncomputable def R.quiet {α : Type} : R α → R α
  | .exc _ => .bad
  | r => r
@[simp] theorem R.quiet_val {α : Type} (a : α) (σ : Sto) : (R.val a σ).quiet = .val a σ := rfl
noncomputable def xLoop (t : Rho → Sto → R Bool) (f : Rho → Sto → R Ou) : Nat → Rho → Sto → R Ou
  | 0 => fun _ _ => .bad
  | n + 1 => fun ρ σ => (t ρ σ).quiet.bind fun b σ => if b then (f ρ σ).quiet.bind fun o σ => match o with
      | .nxt ρ => xLoop t f n ρ σ
      | .ret p => .val (.ret p) σ
      | .thr => .bad
    else .val (.nxt ρ) σ
theorem quiet_ne {α β : Type} {r : R α} {g : α → Sto → R β} (h : r.quiet.bind g ≠ .bad) : ∃ a σ, r = .val a σ ∧ g a σ ≠ .bad := by
  cases r with
  | bad => exact absurd rfl h
  | exc σ => exact absurd rfl h
  | val a σ => exact ⟨a, σ, rfl, h⟩
theorem loop_run {t : Rho → Sto → R Bool} {f : Rho → Sto → R Ou} {n : Nat} {ρ : Rho} {σ : Sto} {X : R Ou} (e : xLoop t f n ρ σ = X) (hb : X ≠ .bad) :
    ∃ m b σ₁, n = m + 1 ∧ t ρ σ = .val b σ₁ ∧ (b = false → X = .val (.nxt ρ) σ₁) ∧ (b = true → ∃ o σ₂, f ρ σ₁ = .val o σ₂ ∧ (∀ ρ₂, o = .nxt ρ₂ → xLoop t f m ρ₂ σ₂ = X) ∧ (∀ p, o = .ret p → X = .val (.ret p) σ₂) ∧ o ≠ .thr) := by
  cases n with
  | zero => exact absurd e.symm hb
  | succ n =>
    rw [xLoop] at e
    dsimp only at e
    have hb' := hb
    rw [← e] at hb'
    obtain ⟨b, σ₁, et, _⟩ := quiet_ne hb'
    clear hb'
    rw [et] at e
    refine ⟨n, b, σ₁, rfl, et, ?_⟩
    clear et
    cases b with
    | false => exact ⟨fun _ => e.symm, fun h => nomatch h⟩
    | true =>
      refine ⟨fun h => (nomatch h), fun _ => ?_⟩
      have e : ((f ρ σ₁).quiet.bind fun o σ => match o with
        | .nxt ρ => xLoop t f n ρ σ
        | .ret p => .val (.ret p) σ
        | .thr => .bad) = X := e
      have hb' := hb
      rw [← e] at hb'
      obtain ⟨o, σ₂, q, _⟩ := quiet_ne hb'
      rw [q] at e
      exact ⟨o, σ₂, q, fun _ h => by subst h; exact e, fun _ h => by subst h; exact e.symm, fun h => by subst h; exact hb e.symm⟩
theorem s_while {t : Expr} {body : List Stmt} {pos : Pos} {ft : Rho → Sto → R Bool} {f : Rho → Sto → R Ou} (N : Nat) (ht : ST C k nm vs t ft) (hf : SX C k nm vs body f) : SS C k nm vs (.While t body [] pos) (xLoop ft f N) := by
  refine ⟨?_⟩
  intro ρ σ A env s ad av H hb Q E K
  generalize hX : xLoop ft f N ρ σ = X at hb K
  obtain ⟨J, mk, un⟩ : ∃ J : Nat → Shared → Prop, (∀ n ρ' σ' ad' av' s', Hyp C k nm vs ρ' σ' A env s' ad' av' → Aft env ad av s s' ad' av' → xLoop ft f n ρ' σ' = X → J n s') ∧ ∀ n s', J n s' → ∃ ρ' σ' ad' av', Hyp C k nm vs ρ' σ' A env s' ad' av' ∧ Aft env ad av s s' ad' av' ∧ xLoop ft f n ρ' σ' = X :=
    ⟨fun n s' => ∃ ρ' σ' ad' av', Hyp C k nm vs ρ' σ' A env s' ad' av' ∧ Aft env ad av s s' ad' av' ∧ xLoop ft f n ρ' σ' = X, fun n ρ' σ' ad' av' s' h1 h2 h3 => ⟨ρ', σ', ad', av', h1, h2, h3⟩, fun _ _ h => h⟩
  refine wpAny_While (codeAny_whileLoop J (fun n s₁ hJ => ?_) N (mk N ρ σ ad av s H (.of (.refl H)) hX))
  obtain ⟨ρ₁, σ₁, ad₁, av₁, H₁, a₁, e₁⟩ := un n s₁ hJ
  have HL := H.lives
  clear un hJ H hX
  obtain ⟨n, b, σ₂, rfl, et, h0, h1⟩ := loop_run e₁ hb
  refine ht.run ρ₁ σ₁ A env s₁ ad₁ av₁ H₁ (by rw [et]; intro h; cases h) _ _ ⟨fun b' s₂ c σ₃ e p n₂ => ?_, fun x s' σ' e _ => by rw [et] at e; cases e⟩
  rw [et] at e; cases e
  subst p
  have H₂ := H₁.next n₂
  have a₂ := a₁.trans HL (.of n₂)
  clear n₂ a₁
  cases b' with
  | false =>
    simp only [Bool.false_eq_true, if_false]
    exact wpAny_execs_nil (K.nx _ _ _ _ _ (h0 rfl) H₂ a₂)
  | true =>
    simp only [if_true]
    obtain ⟨o, σ₄, eb, on, or_, ot⟩ := h1 rfl
    refine hf.run ρ₁ σ₂ A env s₂ ad₁ av₁ H₂ (by rw [eb]; intro h; cases h) _ _ ⟨fun s' ρ' σ' ad' av' e H' a' => ?_, fun v s' p σ' ad' av' e r sg a' => ?_, fun x s' σ' ad' av' e _ _ _ => (by rw [eb] at e; cases e), fun x s' σ' ad' av' e _ _ _ => (by rw [eb] at e; cases e; exact (ot rfl).elim), K.tp⟩
    · rw [eb] at e; cases e
      exact ⟨n, Nat.lt_succ_self _, mk _ _ _ _ _ _ H' (a₂.trans HL a') (on _ rfl)⟩
    · rw [eb] at e; cases e
      exact K.rt _ _ p _ _ _ (or_ _ rfl) r sg (a₂.trans HL a')
noncomputable def xFold (g : PV → Rho → Option Rho) (f : Rho → Sto → R Ou) : List PV → Rho → Sto → R Ou
  | [] => fun ρ σ => .val (.nxt ρ) σ
  | x :: xs => fun ρ σ => match g x ρ with
    | none => .bad
    | some ρ => (f ρ σ).quiet.bind fun o σ => match o with
      | .nxt ρ => xFold g f xs ρ σ
      | .ret p => .val (.ret p) σ
      | .thr => .bad
noncomputable def xFor (it : Rho → Sto → R (List PV)) (g : PV → Rho → Option Rho) (f : Rho → Sto → R Ou) : Rho → Sto → R Ou := fun ρ σ => (it ρ σ).bind fun xs σ => xFold g f xs ρ σ
theorem Reps.aft {env : Env} {ad av ad' av' : List Addr} {s s' : Shared} {vals : List Value} {ps : List PV} (r : Reps s.heap ad av vals ps) (a : Aft env ad av s s' ad' av') : Reps s'.heap ad' av' vals ps := by
  obtain ⟨ex, nw, rfl, rfl, _, f⟩ := a.ex
  exact r.to (fun _ _ e => prefix_get e) fun b o n e => ⟨a.kp b o n e, fun hm => (List.mem_append.mp hm).elim (fun hm => by rw [f b hm] at e; cases e) n⟩
theorem fold_run {g : PV → Rho → Option Rho} {f : Rho → Sto → R Ou} {x : PV} {xs : List PV} {ρ : Rho} {σ : Sto} {X : R Ou} (e : xFold g f (x :: xs) ρ σ = X) (hb : X ≠ .bad) :
    ∃ ρ₁ o σ₁, g x ρ = some ρ₁ ∧ f ρ₁ σ = .val o σ₁ ∧ (∀ ρ₂, o = .nxt ρ₂ → xFold g f xs ρ₂ σ₁ = X) ∧ (∀ p, o = .ret p → X = .val (.ret p) σ₁) ∧ o ≠ .thr := by
  rw [xFold] at e
  dsimp only at e
  cases hg : g x ρ with
  | none => rw [hg] at e; exact absurd e.symm hb
  | some ρ₁ =>
    rw [hg] at e
    dsimp only at e
    have hb' := hb
    rw [← e] at hb'
    obtain ⟨o, σ₁, q, _⟩ := quiet_ne hb'
    rw [q] at e
    exact ⟨ρ₁, o, σ₁, rfl, q, fun _ h => by subst h; exact e, fun _ h => by subst h; exact e.symm, fun h => by subst h; exact hb e.symm⟩
theorem Hyp.baseN {ρ : Rho} {σ : Sto} {A : Around} {env : Env} {s : Shared} {ad av : List Addr} (H : Hyp C k nm vs ρ σ A env s ad av) {b : Addr} (h : s.heap.get? b = none) : C.base.get? b = none := by
  cases q : C.base.get? b with
  | none => rfl
  | some o => have := H.stays b o q; rw [h] at this; cases this
theorem s_for {t e : Expr} {body : List Stmt} {pos : Pos} {it : Rho → Sto → R (List PV)} {g : PV → Rho → Option Rho} {f : Rho → Sto → R Ou} {Tg : Expr → Prop} (hi : SI C k nm vs Tg e it) (ht : SA C k nm vs t g) (hf : SX C k nm vs body f)
    (hs : ∀ env x, foldedSetIterable e env x = pure x := by intro _ _; rfl) (htg : Tg t := by first | exact trivial | exact ⟨_, _, _, rfl⟩) : SS C k nm vs (.For t e body [] pos) (xFor it g f) := by
  refine ⟨?_⟩
  intro ρ σ A env s ad av H hb Q E K
  refine wpAny_For (hi.run ρ σ A env s ad av H (fun e => hb (by unfold xFor; rw [e]; rfl)) _ E (fun I fp wr n St xs avs axs s₂ σ₂ ei W st ra hfp hwr n₂ => ?_) fun x s' σ' e q => K.ex x s' σ' ad av (by unfold xFor; rw [e]; rfl) q.nx.sg (.of q.nx) q.fly) (hs env)
  unfold xFor at hb K
  rw [ei] at hb K
  dsimp only [R.bind_val] at hb K
  generalize hX : xFold g f xs ρ σ₂ = X at hb K
  have nb : ∀ b ∈ wr, C.base.get? b = none := fun b hbm => H.baseN (hwr b hbm)
  obtain ⟨J, mk, un⟩ : ∃ J : Nat → Shared → Prop, (∀ i ρ' σ' ad' av' s', i ≤ n → Hyp C k nm vs ρ' σ' A env s' ad' av' → Aft env ad av s s' ad' av' → St i s'.heap → Reps s'.heap ad' av' avs axs → (∀ b ∈ fp, b ∉ av') → xFold g f (xs.drop i) ρ' σ' = X → J (n - i) s') ∧
      ∀ m s', J m s' → ∃ i ρ' σ' ad' av', m = n - i ∧ i ≤ n ∧ Hyp C k nm vs ρ' σ' A env s' ad' av' ∧ Aft env ad av s s' ad' av' ∧ St i s'.heap ∧ Reps s'.heap ad' av' avs axs ∧ (∀ b ∈ fp, b ∉ av') ∧ xFold g f (xs.drop i) ρ' σ' = X :=
    ⟨fun m s' => ∃ i ρ' σ' ad' av', m = n - i ∧ i ≤ n ∧ Hyp C k nm vs ρ' σ' A env s' ad' av' ∧ Aft env ad av s s' ad' av' ∧ St i s'.heap ∧ Reps s'.heap ad' av' avs axs ∧ (∀ b ∈ fp, b ∉ av') ∧ xFold g f (xs.drop i) ρ' σ' = X,
      fun i ρ' σ' ad' av' s' h1 h2 h3 h4 h5 h6 h7 => ⟨i, ρ', σ', ad', av', rfl, h1, h2, h3, h4, h5, h6, h7⟩, fun _ _ h => h⟩
  refine codeAny_forLoop_any J (fun m s₃ hJ => ?_) n (mk 0 ρ σ₂ ad av _ (Nat.zero_le _) (H.next n₂) (.of n₂) st ra hfp hX)
  have len := W.len
  have HL := H.lives
  have HW : ∀ b ∈ wr, s.heap.get? b = none := hwr
  clear hwr H n₂ st ra hfp hX ei
  obtain ⟨i, ρ₃, σ₃, ad₃, av₃, rfl, hin, H₃, a₃, st₃, ra₃, hfp₃, e₃⟩ := un m s₃ hJ
  clear un hJ
  have fld := W.fld i _ st₃
  by_cases hlt : i < n
  · have hx : xs.drop i = xs[i] :: xs.drop (i + 1) := List.drop_eq_getElem_cons (by omega)
    rw [hx] at e₃
    obtain ⟨ρ₄, o, σ₆, hg, eb, on, or_, ot⟩ := fold_run e₃ hb
    refine wpAny_mono (W.item t i s₃ _ _ ad₃ av₃ htg hlt st₃ hfp₃ H₃.lives ra₃ fun v h' tk p hp rp st₄ kp => ?_) (fun r s₁ z => by cases r with | none => exact z.elim | some v => exact z) fun _ _ z => z
    rw [List.getElem?_eq_getElem (by omega)] at hp
    obtain rfl := Option.some.inj hp
    have H₄ := H₃.over (tk := tk) kp fld nb
    have a₄ := a₃.over (tk := tk) kp fld HW
    have ra₄ : Reps h' ad₃ av₃ avs axs := ra₃.toNF (fun _ _ e => e) fun b o nb e nf => ⟨kp b o (fun hm => by obtain ⟨vs, q⟩ := fld b hm o e; exact nf vs q) e, nb⟩
    clear H₃ a₃ ra₃ kp fld
    refine ht.run ρ₃ σ₃ A env _ ad₃ av₃ v xs[i] ρ₄ H₄ rp hg _ _ fun s₅ H₅ a₅ => ?_
    have st₅ : St (i + 1) s₅.heap := W.frame _ _ _ st₄ fun b hbm o e => a₅.kp b o (hfp₃ b hbm) e
    have ra₅ : Reps s₅.heap ad₃ av₃ avs axs := Reps.aft (s := { s₃ with heap := h', toks := tk }) ra₄ a₅
    have a₆ := a₄.trans HL a₅
    clear H₄ a₄ ra₄ a₅ st₄ rp
    refine hf.run ρ₄ σ₃ A env s₅ ad₃ av₃ H₅ (by rw [eb]; intro h; cases h) _ _ ⟨fun s' ρ' σ' ad' av' e H' a' => ?_, fun v s' p σ' ad' av' e r sg a' => ?_, fun x s' σ' ad' av' e _ _ _ => (by rw [eb] at e; cases e), fun x s' σ' ad' av' e _ _ _ => (by rw [eb] at e; cases e; exact (ot rfl).elim), K.tp⟩
    · rw [eb] at e; cases e
      obtain ⟨ex, nw, q1, q2, q3, q4⟩ := a'.ex
      refine ⟨n - (i + 1), by omega, mk (i + 1) ρ' _ ad' av' _ hlt H' (a₆.trans HL a') (W.frame _ _ _ st₅ fun b hbm o e => a'.kp b o (hfp₃ b hbm) e) (ra₅.aft a') (fun b hbm hm => ?_) (on _ rfl)⟩
      rw [q2] at hm
      rcases List.mem_append.mp hm with hm | hm
      · obtain ⟨o, ho⟩ := W.lv _ _ st₅ b hbm
        rw [q4 b hm] at ho; cases ho
      · exact hfp₃ b hbm hm
    · rw [eb] at e; cases e
      exact K.rt _ _ p _ _ _ (or_ _ rfl) r sg (a₆.trans HL a')
  · have hin' : i = n := by omega
    subst hin'
    have hx : xs.drop i = [] := List.drop_eq_nil_of_le (by omega)
    rw [hx] at e₃
    exact W.done s₃ _ _ st₃ fun h' tk kp => wpAny_execs_nil (K.nx _ _ _ _ _ e₃.symm (H₃.over kp fld nb) (a₃.over kp fld HW))
end
end Mine.Internal
/- G11 -/
namespace Mine.Internal
structure KeepE (ad av X : List Addr) (h h' : Heap) : Prop where
  lv : ∀ b ∈ av, Live h b → Live h' b
  kp : ∀ b o, b ∉ X → b ∉ av → h.get? b = some o → h'.get? b = some o
  ns : ∀ b, b ∈ av → b ∉ ad → ∀ m, h.Ns b m → h'.Ns b m
  cl : ∀ b, b ∈ av → b ∉ ad → ∀ v, h.IsCell b v → h'.IsCell b v
  li : ∀ b, b ∈ av → b ∉ ad → ∀ v, h.IsList b v → h'.IsList b v
theorem KeepE.refl {ad av X : List Addr} {h : Heap} : KeepE ad av X h h := ⟨fun _ _ e => e, fun _ _ _ _ e => e, fun _ _ _ _ e => e, fun _ _ _ _ e => e, fun _ _ _ _ e => e⟩
theorem KeepE.trans {ad av X : List Addr} {h₁ h₂ h₃ : Heap} (x : KeepE ad av X h₁ h₂) (y : KeepE ad av X h₂ h₃) : KeepE ad av X h₁ h₃ :=
  ⟨fun b hb e => y.lv b hb (x.lv b hb e), fun b o hx hb e => y.kp b o hx hb (x.kp b o hx hb e), fun b h1 h2 m e => y.ns b h1 h2 m (x.ns b h1 h2 m e), fun b h1 h2 v e => y.cl b h1 h2 v (x.cl b h1 h2 v e), fun b h1 h2 v e => y.li b h1 h2 v (x.li b h1 h2 v e)⟩
theorem KeepE.skip {ad av X Y : List Addr} {h₀ h h' : Heap} (K : KeepE ad av X h₀ h) (kp : ∀ b o, b ∉ Y → h.get? b = some o → h'.get? b = some o) (hY : ∀ b ∈ Y, h₀.get? b = none ∨ b ∈ X) (hX : ∀ b ∈ X, b ∉ av) : KeepE ad av X h₀ h' := by
  have out : ∀ b, b ∈ av → (∃ o, h₀.get? b = some o) → b ∉ Y := fun b hb ⟨o, e⟩ hm => by
    rcases hY b hm with q | q
    · rw [q] at e; cases e
    · exact hX b q hb
  refine ⟨fun b hb e => (K.lv b hb e).keeps fun o => kp b o (out b hb (let ⟨o, e, _⟩ := e; ⟨o, e⟩)), fun b o hx hb e => kp b o (fun hm => ?_) (K.kp b o hx hb e), fun b h1 h2 m e => ?_, fun b h1 h2 v e => ?_, fun b h1 h2 v e => ?_⟩
  · rcases hY b hm with q | q
    · rw [q] at e; cases e
    · exact hx q
  · have q := out b h1 (let ⟨o, _, _, e, _⟩ := e; ⟨o, e⟩)
    obtain ⟨o, es, ep, e', r⟩ := K.ns b h1 h2 m e
    exact ⟨o, es, ep, kp b o q e', r⟩
  · have q := out b h1 (let ⟨o, e, _⟩ := e; ⟨o, e⟩)
    obtain ⟨o, e', r⟩ := K.cl b h1 h2 v e
    exact ⟨o, kp b o q e', r⟩
  · have q := out b h1 (let ⟨o, e, _⟩ := e; ⟨o, e⟩)
    obtain ⟨o, e', r⟩ := K.li b h1 h2 v e
    exact ⟨o, kp b o q e', r⟩
theorem KeepE.step {ad av av' X : List Addr} {h₀ h h' : Heap} (K : KeepE ad av X h₀ h) (S : Keep ad av' h h') (h1 : ∀ b ∈ av, b ∈ av') (h2 : ∀ b ∈ av', b ∈ av ∨ b ∈ X) : KeepE ad av X h₀ h' :=
  K.trans ⟨fun b hb e => S.lv b (h1 b hb) e, fun b o hx hb e => S.kp b o (fun hm => (h2 b hm).elim hb hx) e, fun b i1 i2 => S.ns b (h1 b i1) i2, fun b i1 i2 => S.cl b (h1 b i1) i2, fun b i1 i2 => S.li b (h1 b i1) i2⟩

section
variable {C : Cx} {k : Nat} {nm : List (Str × NameKind)} {vs : List Str}
/- a list of our own has turned -/
theorem Hyp.turn {ρ : Rho} {σ : Sto} {A : Around} {env : Env} {s : Shared} {ad av : List Addr} (H : Hyp C k nm vs ρ σ A env s ad av) {h' : Heap} {tk : Tok} {D : Addr} {its : Array Value} (hD : D ∈ av) (hd : D ∉ ad) (hl : s.heap.IsList D its) (hs : Heap.SameBut D s.heap h') (lv : Live h' D) :
    Hyp C k nm vs ρ σ A env { s with heap := h', toks := tk } ad av := by
  have kp : ∀ b o, b ≠ D → s.heap.get? b = some o → h'.get? b = some o := fun b o hb e => (hs.2 b hb).trans e
  have ns : ∀ {b m}, s.heap.Ns b m → h'.Ns b m := fun x => by
    obtain ⟨o, es, ep, e, d, r⟩ := x
    refine ⟨o, es, ep, kp _ o (fun q => ?_) e, d, r⟩
    obtain ⟨o', e', _, n, d'⟩ := hl
    rw [q] at e; rw [e] at e'; cases e'; rw [d] at d'; cases d'
  have cl : ∀ {b v}, s.heap.IsCell b v → h'.IsCell b v := fun x => by
    obtain ⟨o, e, d⟩ := x
    refine ⟨o, kp _ o (fun q => ?_) e, d⟩
    obtain ⟨o', e', _, n, d'⟩ := hl
    rw [q] at e; rw [e] at e'; cases e'; rw [d] at d'; cases d'
  have ne : ∀ b, b ∉ av → b ≠ D := fun b n q => n (q ▸ hD)
  have rp : ∀ {v p}, Rep s.heap ad av v p → Rep h' ad av v p := fun r => r.to (fun _ _ e => e) fun b o n e => ⟨kp b o (ne b n) e, n⟩
  obtain ⟨m, hm, hv⟩ := H.loc
  refine ⟨fun b o e => kp b o (fun q => by subst q; rw [(H.above b hD).1] at e; cases e) (H.stays b o e), fun a ha => ⟨(H.above a ha).1, ?_⟩, H.adsub, H.adnd, H.names, H.kind, H.glob, H.blt, ⟨m, ns hm, fun i p e => ?_⟩, H.lav,
    fun x c e => ?_, H.celn, H.apart, ?_, ⟨H.sg.len, fun i a m h1 h2 => (H.sg.at_ i a m h1 h2).to (fun o e => kp a o (fun q => hd (q ▸ List.mem_of_getElem? h1)) e) fun b o n e => ⟨kp b o (ne b n) e, n⟩⟩, H.hh, H.dep, H.un⟩
  · by_cases q : a = D
    · exact q ▸ lv
    · exact (H.above a ha).2.keeps fun o e => kp a o q e
  · obtain ⟨x, hx, q⟩ := hv i p e
    refine ⟨x, hx, ?_⟩
    rcases q with ⟨h1, v, h2, h3⟩ | ⟨h1, c, v, h2, h3, h4⟩
    · exact .inl ⟨h1, v, h2, rp h3⟩
    · exact .inr ⟨h1, c, v, h2, cl h3, rp h4⟩
  · obtain ⟨h1, h2, h3, v, h4⟩ := H.cel x c e
    exact ⟨h1, h2, h3, v, cl h4⟩
  · obtain ⟨fl, e, q⟩ := H.fr
    exact ⟨fl, e, fun f hf => by obtain ⟨h1, L, m, h2, h3, h4, h5⟩ := q f hf; exact ⟨h1, L, m, h2, ns h3, h4, h5⟩⟩

/- ## Targets of a comprehension: in its own frame -/
structure SAL (C : Cx) (k : Nat) (nm : List (Str × NameKind)) (vs : List Str) (t : Expr) (g : PV → Rho → Option Rho) : Prop where
  run : ∀ ρ σ A env s ad av v p ρ', Hyp C k nm vs ρ σ A env s ad av → Rep s.heap ad av v p → g p ρ = some ρ' → ∀ (Q : Unit → Shared → Prop) (E : Value → Shared → Prop),
    (∀ s', Hyp C k nm vs ρ' σ A env s' ad av → (∃ h tk, s' = { s with heap := h, toks := tk }) → (∀ b o, b ≠ env.locals → s.heap.get? b = some o → s'.heap.get? b = some o) → Q () s') → wpAny C.M A (assign t env v) Q E s
noncomputable def SALs (C : Cx) (k : Nat) (nm : List (Str × NameKind)) (vs : List Str) (ts : List Expr) (g : List PV → Rho → Option Rho) : Prop :=
  (∀ env, (assignEach ts env).findIdx? (·.1) = none ∧ (assignEach ts env).length = ts.length) ∧ (∀ ps ρ ρ', g ps ρ = some ρ' → ps.length = ts.length) ∧ ∀ ρ σ A env s ad av vals ps ρ', Hyp C k nm vs ρ σ A env s ad av → Reps s.heap ad av vals ps → g ps ρ = some ρ' → ∀ (Q : Unit → Shared → Prop) (E : Value → Shared → Prop),
    (∀ s', Hyp C k nm vs ρ' σ A env s' ad av → (∃ h tk, s' = { s with heap := h, toks := tk }) → (∀ b o, b ≠ env.locals → s.heap.get? b = some o → s'.heap.get? b = some o) → Q () s') → wpAny C.M A (assignInOrder ((assignEach ts env).map (·.2)) vals) Q E s
theorem al_one {x : Str} {p : Pos} {i : Nat} (nd : vs.Nodup) (hi : vs[i]? = some x) (hk : nm.lookup x = some .local) : SAL C k nm vs (.Name x p) (aOne i) := by
  refine ⟨?_⟩
  intro ρ σ A env s ad av v p ρ' H r e Q E h
  cases e
  exact wpAny_assign_Name (store_ok' H nd hi (.inl hk) r fun s' H' a q => h s' H' a.sh fun b o hb e => (q hk b hb).trans e)
theorem al_nil : SALs C k nm vs [] aNil := by
  refine ⟨fun env => ⟨rfl, rfl⟩, fun ps ρ ρ' e => ?_, fun ρ σ A env s ad av vals ps ρ' H r e Q E h => ?_⟩
  · cases ps with
    | nil => rfl
    | cons _ _ => cases e
  · cases r with
    | nil => cases e; exact wpAny_pure (h s H ⟨_, _, rfl⟩ fun _ _ _ e => e)
    | cons _ _ => cases e
theorem al_cons {x : Str} {p : Pos} {i : Nat} {ts : List Expr} {g : List PV → Rho → Option Rho} (nd : vs.Nodup) (hi : vs[i]? = some x) (hk : nm.lookup x = some .local) (h : SALs C k nm vs ts g) : SALs C k nm vs (.Name x p :: ts) (aCons i g) := by
  refine ⟨fun env => ?_, fun ps ρ ρ' e => ?_, fun ρ σ A env s ad av vals ps ρ' H r e Q E hQ => ?_⟩
  · obtain ⟨h1, h2⟩ := h.1 env
    have : assignEach (.Name x p :: ts) env = (false, assign (.Name x p) env) :: assignEach ts env := rfl
    rw [this]
    exact ⟨by rw [List.findIdx?_cons, h1]; rfl, by simp [h2]⟩
  · cases ps with
    | nil => cases e
    | cons q qs => simp [h.2.1 qs _ _ e]
  · cases r with
    | nil => cases e
    | cons r0 rs =>
      rename_i v p ws ps
      show wpAny C.M A (do holding ws (assign (.Name x _) env v); assignInOrder ((assignEach ts env).map (·.2)) ws) Q E s
      refine wpAny_bind (wpAny_holding (wpAny_assign_Name (store_ok' H nd hi (.inl hk) r0 fun s₁ H₁ a₁ q => ?_)))
      have R : Reps s₁.heap ad av ws ps := rs.to (fun _ _ e => e) fun b o n e => ⟨a₁.kp b o n e, n⟩
      refine h.2.2 _ σ A env s₁ ad av ws ps ρ' H₁ R e Q E fun s' H' sh kp => hQ s' H' ?_ fun b o hb e => kp b o hb ((q hk b hb).trans e)
      obtain ⟨h1, t1, rfl⟩ := a₁.sh; obtain ⟨h2, t2, rfl⟩ := sh; exact ⟨h2, t2, rfl⟩
theorem al_tup {ts : List Expr} {x : Nat} {pos : Pos} {g : List PV → Rho → Option Rho} (hk : 0 < k) (h : SALs C k nm vs ts g) : SAL C k nm vs (.Tuple ts x pos) (aTup g) := by
  refine ⟨?_⟩
  intro ρ σ A env s ad av v p ρ' H r e Q E hQ
  unfold aTup at e
  split at e
  case h_2 => cases e
  rename_i ps
  cases r with
  | @tup a ws _ h1 h2 h3 =>
    obtain ⟨q1, q2⟩ := h.1 env
    refine wpAny_assign_Tuple (H.hh hk) h1 (by rw [q2, ← h.2.1 ps _ _ e, List.size_toArray]; exact h3.length.symm) q1 fun h' he => ?_
    have hk' : ∀ b o, s.heap.get? b = some o → h'.get? b = some o := fun b o e => he b o (Nat.ne_of_lt (Heap.lt_size e)) e
    have N : Nxt ad av s σ { s with heap := h' } := Nxt.all (tk := s.toks) H (h' := h') hk'
    have R : Reps h' ad av ws ps := h3.keep (ad0 := ad) N.kp
    refine h.2.2 ρ σ A env _ ad av ws ps ρ' (H.next N) R e Q E fun s' H' sh kp => hQ s' H' ?_ fun b o hb e => kp b o hb (hk' b o e)
    obtain ⟨h2, t2, rfl⟩ := sh; exact ⟨h2, t2, rfl⟩
/- ## Tests -/
structure STi (C : Cx) (k : Nat) (nm : List (Str × NameKind)) (vs : List Str) (ifs : List Expr) (t : Rho → Sto → R Bool) : Prop where
  run : ∀ ρ σ A env s ad av, Hyp C k nm vs ρ σ A env s ad av → Giv C A ad av s (forIn ifs true fun c r => if r = true then do let ok ← isTrue c env (eval c env); pure (ForInStep.yield ok) else pure (ForInStep.yield r)) (t ρ σ) BP
noncomputable def tTrue : Rho → Sto → R Bool := fun _ σ => .val true σ
theorem ti_nil : STi C k nm vs [] tTrue := ⟨fun ρ σ A env s ad av H hb Q E K => wpAny_tests_nil (K.ok _ _ _ _ rfl rfl (.refl H))⟩
theorem ti_one {c : Expr} {t : Rho → Sto → R Bool} (h : ST C k nm vs c t) : STi C k nm vs [c] t := ⟨fun ρ σ A env s ad av H hb Q E K => wpAny_tests_one (h.run ρ σ A env s ad av H hb Q E K)⟩

/- ## What a turn emits -/
structure InC (C : Cx) (k : Nat) (nm : List (Str × NameKind)) (vs : List Str) (ρ : Rho) (σ : Sto) (A : Around) (env : Env) (s : Shared) (ad av : List Addr) (D : Addr) (acc : List PV) : Prop where
  H : Hyp C k nm vs ρ σ A env s ad (env.locals :: D :: av)
  ls : ∃ ys : List Value, s.heap.IsList D ys.toArray ∧ Reps s.heap ad (env.locals :: D :: av) ys acc
  ne : D ≠ env.locals
  nd : D ∉ ad
  X : ∀ b ∈ [env.locals, D], b ∉ av
structure Emt (ad av : List Addr) (L D : Addr) (s s' : Shared) : Prop where
  sh : ∃ h tk, s' = { s with heap := h, toks := tk }
  kp : KeepE ad av [L, D] s.heap s'.heap
theorem Emt.trans {ad av : List Addr} {L D : Addr} {s s₁ s₂ : Shared} (x : Emt ad av L D s s₁) (y : Emt ad av L D s₁ s₂) : Emt ad av L D s s₂ := by
  obtain ⟨h, t, rfl⟩ := x.sh; obtain ⟨h', t', rfl⟩ := y.sh
  exact ⟨⟨h', t', rfl⟩, x.kp.trans y.kp⟩
/- emit : what stands in the turn behind the tests -/
structure EM (C : Cx) (k : Nat) (nm : List (Str × NameKind)) (vs : List Str) (emit : Around → Env → Addr → Sem Unit) (f : Rho → Sto → R (Rho × List PV)) : Prop where
  run : ∀ ρ σ A env s ad av D acc, InC C k nm vs ρ σ A env s ad av D acc → ∀ ρ' l σ', f ρ σ = .val (ρ', l) σ' → acc.length + l.length ≤ 1000000 → ∀ (Q : Unit → Shared → Prop) (E : Value → Shared → Prop),
    (∀ s', InC C k nm vs ρ' σ' A env s' ad av D (acc ++ l) → Emt ad av env.locals D s s' → Q () s') → wpAny C.M A (emit A env D) Q E s
noncomputable def cpFold (g : PV → Rho → Option Rho) (t : Rho → Sto → R Bool) (f : Rho → Sto → R (Rho × List PV)) : List PV → List PV → Rho → Sto → R (Rho × List PV)
  | [], acc => fun ρ σ => .val (ρ, acc) σ
  | x :: xs, acc => fun ρ σ => match g x ρ with
    | none => .bad
    | some ρ => (t ρ σ).quiet.bind fun b σ => if b then (f ρ σ).quiet.bind fun r σ => if acc.length + r.2.length ≤ 1000000 then cpFold g t f xs (acc ++ r.2) r.1 σ else .bad else cpFold g t f xs acc ρ σ
noncomputable def cpElt (f : Rho → Sto → R PV) : Rho → Sto → R (Rho × List PV) := fun ρ σ => (f ρ σ).bind fun p σ => .val (ρ, [p]) σ
theorem em_elt {elt : Expr} {f : Rho → Sto → R PV} (h : SE C k nm vs elt f) : EM C k nm vs (fun A env D => do let _ ← call (.builtin "list.append") [.ref D, ← eval elt env]) (cpElt f) := by
  refine ⟨?_⟩
  intro ρ σ A env s ad av D acc I ρ' l σ' e hz Q E hQ
  obtain ⟨ys, hl, hr⟩ := I.ls
  unfold cpElt at e
  have hf : ∃ p, f ρ σ = .val p σ' ∧ ρ' = ρ ∧ l = [p] := by
    cases q : f ρ σ with
    | bad => rw [q] at e; cases e
    | exc σ => rw [q] at e; cases e
    | val p σ => rw [q] at e; cases e; exact ⟨p, rfl, rfl, rfl⟩
  obtain ⟨p, hf, rfl, rfl⟩ := hf
  refine wpAny_bind (h.run ρ' σ A env s ad _ I.H (by rw [hf]; intro h; cases h) _ E ⟨fun v s₁ q σ₁ e r n => ?_, fun x s' σ' e _ => by rw [hf] at e; cases e⟩)
  rw [hf] at e; cases e
  have H₁ := I.H.next n
  have hDm : D ∈ env.locals :: D :: av := .tail _ (.head _)
  have hl₁ : s₁.heap.IsList D ys.toArray := n.kp.li D hDm I.nd _ hl
  have hlen := hr.length
  have hsz : ys.toArray.size ≤ sizeLine := by rw [List.size_toArray]; exact Nat.le_trans (by omega) (show 1000000 ≤ sizeLine by decide)
  refine wpAny_bind (wpAny_list_append hl₁ (fun h' hl' hs' => wpAny_pure ?_) hsz)
  have hl'' : h'.IsList D (ys ++ [v]).toArray := by simpa using hl'
  have lv : Live h' D := by obtain ⟨o, e, _, n, d⟩ := hl''; exact ⟨o, e, fun vs q => by rw [d] at q; cases q⟩
  have H₂ : Hyp C k nm vs ρ' σ' A env { s₁ with heap := h' } ad (env.locals :: D :: av) := H₁.turn (tk := s₁.toks) hDm I.nd hl₁ hs' lv
  have up : ∀ {v p}, Rep s₁.heap ad (env.locals :: D :: av) v p → Rep h' ad (env.locals :: D :: av) v p := fun r => r.to (fun _ _ e => e) fun b o n e => ⟨(hs'.2 b fun q => n (q ▸ hDm)).trans e, n⟩
  have ups : ∀ {v p}, Reps s₁.heap ad (env.locals :: D :: av) v p → Reps h' ad (env.locals :: D :: av) v p := fun r => r.to (fun _ _ e => e) fun b o n e => ⟨(hs'.2 b fun q => n (q ▸ hDm)).trans e, n⟩
  refine hQ _ ⟨H₂, ⟨_, hl'', Reps.append (ups (hr.keep n.kp)) (.cons (up r) .nil)⟩, I.ne, I.nd, I.X⟩ ⟨?_, ?_⟩
  · obtain ⟨h1, t1, rfl⟩ := n.sh; exact ⟨h', t1, rfl⟩
  · have K : KeepE ad av [env.locals, D] s.heap s₁.heap := KeepE.refl.step n.kp (fun b h => .tail _ (.tail _ h)) fun b h => by
      rcases List.mem_cons.mp h with rfl | h
      · exact .inr (.head _)
      · rcases List.mem_cons.mp h with rfl | h
        · exact .inr (.tail _ (.head _))
        · exact .inl h
    exact K.skip (Y := [D]) (fun b o hb e => (hs'.2 b fun q => hb (q ▸ .head _)).trans e) (fun b hb => .inr (.tail _ hb)) I.X

/- ## The loop of a comprehension -/
noncomputable def TurnSpec (C : Cx) (A : Around) (I D : Addr) (target : Expr) (ifs : List Expr) (emit : Around → Env → Addr → Sem Unit) (env : Env) (c : Code) : Prop :=
  ∀ (R : Result → Shared → Prop) (J : Nat → Shared → Prop) (s : Shared),
    (∀ n s, J n s → wpAny C.M A (pyNext (.ref I)) (fun r s₁ => match r with
      | none => R (.ok .next) s₁
      | some v => wpAny C.M A (letOwnedTupleGo target (.ref I) v) (fun _ s₁' => wpAny C.M A (assign target env v) (fun _ s₂ =>
          wpAny C.M A (forIn ifs true fun c r => if r = true then do let ok ← isTrue c env (eval c env); pure (ForInStep.yield ok) else pure (ForInStep.yield r)) (fun ok s₃ =>
            if ok = true then wpAny C.M A (emit A env D) (fun _ s₅ => ∃ m, m < n ∧ J m s₅) (notedBy C.M A env fun e s' => R (.error e) s') s₃
            else ∃ m, m < n ∧ J m s₃) (notedBy C.M A env fun e s' => R (.error e) s') s₂) (notedBy C.M A env fun e s' => R (.error e) s') s₁') (notedBy C.M A env fun e s' => R (.error e) s') s₁) (notedBy C.M A env fun e s' => R (.error e) s') s) →
    ∀ n, J n s → codeAny C.M A c R s
theorem qbind_val {α β : Type} {r : R α} {g : α → Sto → R β} {b : β} {σ' : Sto} (h : r.quiet.bind g = .val b σ') : ∃ a σ, r = .val a σ ∧ g a σ = .val b σ' := by
  cases r with
  | bad => cases h
  | exc σ => cases h
  | val a σ => exact ⟨a, σ, rfl, h⟩
theorem bind_val' {α β : Type} {r : R α} {g : α → Sto → R β} {b : β} {σ' : Sto} (h : r.bind g = .val b σ') : ∃ a σ, r = .val a σ ∧ g a σ = .val b σ' := by
  cases r with
  | bad => cases h
  | exc σ => cases h
  | val a σ => exact ⟨a, σ, rfl, h⟩
theorem fold_step {g : PV → Rho → Option Rho} {t : Rho → Sto → R Bool} {f : Rho → Sto → R (Rho × List PV)} {x : PV} {xs part : List PV} {ρ : Rho} {p : Rho × List PV} {σ σ' : Sto} (e : cpFold g t f (x :: xs) part ρ σ = .val p σ') : ∃ ρ₁ b σ₁, g x ρ = some ρ₁ ∧ t ρ₁ σ = .val b σ₁ ∧
    ((b = false ∧ cpFold g t f xs part ρ₁ σ₁ = .val p σ') ∨ (b = true ∧ ∃ r σ₂, f ρ₁ σ₁ = .val r σ₂ ∧ cpFold g t f xs (part ++ r.2) r.1 σ₂ = .val p σ')) := by
  unfold cpFold at e
  cases hg : g x ρ with
  | none => rw [hg] at e; cases e
  | some ρ₁ =>
    rw [hg] at e
    obtain ⟨b, σ₁, q, e⟩ := qbind_val e
    refine ⟨ρ₁, b, σ₁, rfl, q, ?_⟩
    clear hg q
    cases b with
    | false => exact .inl ⟨rfl, e⟩
    | true =>
      rw [if_pos rfl] at e
      obtain ⟨a, σ₂, q, e⟩ := qbind_val e
      refine .inr ⟨rfl, a, σ₂, q, ?_⟩
      clear q
      split at e
      · exact e
      · cases e
theorem cpFold_len {g : PV → Rho → Option Rho} {t : Rho → Sto → R Bool} {f : Rho → Sto → R (Rho × List PV)} {p : Rho × List PV} {σ' : Sto} : ∀ {xs acc : List PV} {ρ : Rho} {σ : Sto}, cpFold g t f xs acc ρ σ = .val p σ' → acc.length ≤ p.2.length
  | [], acc, ρ, σ, e => by cases e; exact Nat.le_refl _
  | x :: xs, acc, ρ, σ, e => by
    obtain ⟨_, _, _, _, _, ⟨_, e⟩ | ⟨_, r, _, _, e⟩⟩ := fold_step e
    · exact cpFold_len e
    · have := cpFold_len e
      rw [List.length_append] at this
      exact Nat.le_trans (Nat.le_add_right _ _) this
/- where a loop stands -/
structure LpS (C : Cx) (k : Nat) (nm : List (Str × NameKind)) (vs : List Str) (A : Around) (env : Env) (D : Addr) (ad av : List Addr) (s₀ : Shared) (St : Nat → Heap → Prop) (avs : List Value) (axs : List PV) (i : Nat) (ρ : Rho) (σ : Sto) (acc : List PV) (s : Shared) : Prop where
  ic : InC C k nm vs ρ σ A env s ad av D acc
  em : Emt ad av env.locals D s₀ s
  st : St i s.heap
  ra : Reps s.heap ad (env.locals :: D :: av) avs axs
section
variable {A : Around} {env : Env} {D : Addr} {ad av : List Addr} {s₀ : Shared} {St : Nat → Heap → Prop} {avs : List Value} {axs : List PV} {i : Nat} {ρ ρ' : Rho} {σ σ' : Sto} {acc acc' : List PV} {s s' : Shared} {I : Addr} {fp wr : List Addr} {n : Nat} {xs : List PV} {Tg : Expr → Prop}
theorem in2 {b : Addr} (h : b ∈ env.locals :: D :: av) : b ∈ av ∨ b ∈ [env.locals, D] := by
  rcases List.mem_cons.mp h with rfl | h
  · exact .inr (.head _)
  · rcases List.mem_cons.mp h with rfl | h
    · exact .inr (.tail _ (.head _))
    · exact .inl h
theorem in2' {b : Addr} (hm : b ∈ [env.locals, D]) : b ∈ env.locals :: D :: av := by
  rcases List.mem_cons.mp hm with rfl | hm
  · exact .head _
  · rw [List.mem_singleton.mp hm]; exact .tail _ (.head _)
theorem InC.over (L : InC C k nm vs ρ σ A env s ad av D acc) {h' : Heap} {tk : Tok} (kp : ∀ b o, b ∉ wr → s.heap.get? b = some o → h'.get? b = some o) (fld : ∀ b ∈ wr, ∀ o, s.heap.get? b = some o → ∃ vs, o.data = .fields vs) (nb : ∀ b ∈ wr, C.base.get? b = none) :
    InC C k nm vs ρ σ A env { s with heap := h', toks := tk } ad av D acc := by
  obtain ⟨ys, ⟨o, e, c, n, d⟩, hr⟩ := L.ls
  exact ⟨L.H.over kp fld nb, ⟨ys, ⟨o, kp D o (fun hm => by obtain ⟨vs, q⟩ := fld D hm o e; rw [d] at q; cases q) e, c, n, d⟩, hr.toNF (fun _ _ e => e) fun b o nb e nf => ⟨kp b o (fun hm => by obtain ⟨vs, q⟩ := fld b hm o e; exact nf vs q) e, nb⟩⟩, L.ne, L.nd, L.X⟩
theorem Emt.over (L : Emt ad av env.locals D s₀ s) (X : ∀ b ∈ [env.locals, D], b ∉ av) {h' : Heap} {tk : Tok} (kp : ∀ b o, b ∉ wr → s.heap.get? b = some o → h'.get? b = some o) (hwr : ∀ b ∈ wr, s₀.heap.get? b = none) : Emt ad av env.locals D s₀ { s with heap := h', toks := tk } :=
  ⟨by obtain ⟨h, t, rfl⟩ := L.sh; exact ⟨h', tk, rfl⟩, L.kp.skip kp (fun b hb => .inl (hwr b hb)) X⟩
theorem LpS.item (L : LpS C k nm vs A env D ad av s₀ St avs axs i ρ σ acc s) (W : Iter C A I fp wr n St xs avs axs Tg) (hwr : ∀ b ∈ wr, s₀.heap.get? b = none) (nb : ∀ b ∈ wr, C.base.get? b = none) {h' : Heap} {tk : Tok} (kp : ∀ b o, b ∉ wr → s.heap.get? b = some o → h'.get? b = some o) (st : St (i + 1) h') :
    LpS C k nm vs A env D ad av s₀ St avs axs (i + 1) ρ σ acc { s with heap := h', toks := tk } :=
  have fld := W.fld i _ L.st
  ⟨L.ic.over kp fld nb, L.em.over L.ic.X kp hwr, st, L.ra.toNF (fun _ _ e => e) fun b o nb e nf => ⟨kp b o (fun hm => by obtain ⟨vs, q⟩ := fld b hm o e; exact nf vs q) e, nb⟩⟩
theorem LpS.asg (L : LpS C k nm vs A env D ad av s₀ St avs axs i ρ σ acc s) (W : Iter C A I fp wr n St xs avs axs Tg) (hfp : ∀ b ∈ fp, b ∉ env.locals :: D :: av) {h₅ : Heap} {tk : Tok} (H₅ : Hyp C k nm vs ρ' σ A env { s with heap := h₅, toks := tk } ad (env.locals :: D :: av))
    (kp : ∀ b o, b ≠ env.locals → s.heap.get? b = some o → h₅.get? b = some o) : LpS C k nm vs A env D ad av s₀ St avs axs i ρ' σ acc { s with heap := h₅, toks := tk } := by
  have ne : ∀ b, b ∉ env.locals :: D :: av → b ≠ env.locals := fun b hb q => hb (q ▸ .head _)
  obtain ⟨ys, ⟨o, e, r⟩, hr⟩ := L.ic.ls
  exact ⟨⟨H₅, ⟨ys, ⟨o, kp D o L.ic.ne e, r⟩, hr.to (fun _ _ e => e) fun b o n e => ⟨kp b o (ne b n) e, n⟩⟩, L.ic.ne, L.ic.nd, L.ic.X⟩,
    ⟨by obtain ⟨h, t, rfl⟩ := L.em.sh; exact ⟨h₅, tk, rfl⟩, L.em.kp.skip (Y := [env.locals]) (fun b o hb e => kp b o (fun q => hb (q ▸ .head _)) e) (fun b hb => .inr (List.mem_cons.mpr (.inl (List.mem_singleton.mp hb)))) L.ic.X⟩,
    W.frame _ _ _ L.st fun b hbm o e => kp b o (ne b (hfp b hbm)) e, L.ra.to (fun _ _ e => e) fun b o n e => ⟨kp b o (ne b n) e, n⟩⟩
theorem LpS.nxt (L : LpS C k nm vs A env D ad av s₀ St avs axs i ρ σ acc s) (W : Iter C A I fp wr n St xs avs axs Tg) (hfp : ∀ b ∈ fp, b ∉ env.locals :: D :: av) (N : Nxt ad (env.locals :: D :: av) s σ' s') : LpS C k nm vs A env D ad av s₀ St avs axs i ρ σ' acc s' := by
  obtain ⟨ys, hl, hr⟩ := L.ic.ls
  refine ⟨⟨L.ic.H.next N, ⟨ys, N.kp.li D (.tail _ (.head _)) L.ic.nd _ hl, hr.keep N.kp⟩, L.ic.ne, L.ic.nd, L.ic.X⟩, ⟨?_, L.em.kp.step N.kp (fun b h => .tail _ (.tail _ h)) fun b h => in2 h⟩, W.frame _ _ _ L.st fun b hbm o e => N.kp.kp b o (hfp b hbm) e, L.ra.keep N.kp⟩
  obtain ⟨h, t, q⟩ := L.em.sh; obtain ⟨h', t', rfl⟩ := N.sh; rw [q]; exact ⟨h', t', rfl⟩
theorem LpS.emit (L : LpS C k nm vs A env D ad av s₀ St avs axs i ρ σ acc s) (W : Iter C A I fp wr n St xs avs axs Tg) (hfp : ∀ b ∈ fp, b ∉ env.locals :: D :: av) (ic : InC C k nm vs ρ' σ' A env s' ad av D acc') (em : Emt ad av env.locals D s s') : LpS C k nm vs A env D ad av s₀ St avs axs i ρ' σ' acc' s' :=
  ⟨ic, L.em.trans em, W.frame _ _ _ L.st fun b hbm o e => em.kp.kp b o (fun hm => hfp b hbm (in2' hm)) (fun hm => hfp b hbm (.tail _ (.tail _ hm))) e, L.ra.to (fun _ _ e => e) fun b o n e => ⟨em.kp.kp b o (fun hm => n (in2' hm)) (fun hm => n (.tail _ (.tail _ hm))) e, n⟩⟩
end
theorem loop_ok {A : Around} {env : Env} {I D : Addr} {target : Expr} {ifs : List Expr} {emit : Around → Env → Addr → Sem Unit} {c : Code} (T : TurnSpec C A I D target ifs emit env c)
    {fp wr : List Addr} {n : Nat} {St : Nat → Heap → Prop} {xs : List PV} {avs : List Value} {axs : List PV} {Tg : Expr → Prop} (W : Iter C A I fp wr n St xs avs axs Tg) (htg : Tg target)
    {g : PV → Rho → Option Rho} {t : Rho → Sto → R Bool} {f : Rho → Sto → R (Rho × List PV)} (ht : SAL C k nm vs target g) (hi : STi C k nm vs ifs t) (hf : EM C k nm vs emit f)
    {ρ : Rho} {σ : Sto} {s₀ s : Shared} {ad av : List Addr} {acc : List PV} (IC : InC C k nm vs ρ σ A env s ad av D acc) (em : Emt ad av env.locals D s₀ s) (st : St 0 s.heap) (ra : Reps s.heap ad (env.locals :: D :: av) avs axs)
    (hfp : ∀ b ∈ fp, b ∉ env.locals :: D :: av) (hwr : ∀ b ∈ wr, s₀.heap.get? b = none) (nb : ∀ b ∈ wr, C.base.get? b = none)
    {ρ' : Rho} {l : List PV} {σ' : Sto} (e : cpFold g t f xs [] ρ σ = .val (ρ', l) σ') (hz : acc.length + l.length ≤ 1000000)
    {R : Result → Shared → Prop} (hR : ∀ s', InC C k nm vs ρ' σ' A env s' ad av D (acc ++ l) → Emt ad av env.locals D s₀ s' → R (.ok .next) s') : codeAny C.M A c R s := by
  obtain ⟨J, mk, un⟩ : ∃ J : Nat → Shared → Prop, (∀ i ρ₁ σ₁ part s', i ≤ n → LpS C k nm vs A env D ad av s₀ St avs axs i ρ₁ σ₁ (acc ++ part) s' → cpFold g t f (xs.drop i) part ρ₁ σ₁ = .val (ρ', l) σ' → J (n - i) s') ∧
      ∀ m s', J m s' → ∃ i ρ₁ σ₁ part, m = n - i ∧ i ≤ n ∧ LpS C k nm vs A env D ad av s₀ St avs axs i ρ₁ σ₁ (acc ++ part) s' ∧ cpFold g t f (xs.drop i) part ρ₁ σ₁ = .val (ρ', l) σ' :=
    ⟨fun m s' => ∃ i ρ₁ σ₁ part, m = n - i ∧ i ≤ n ∧ LpS C k nm vs A env D ad av s₀ St avs axs i ρ₁ σ₁ (acc ++ part) s' ∧ cpFold g t f (xs.drop i) part ρ₁ σ₁ = .val (ρ', l) σ', fun i ρ₁ σ₁ part s' h1 h2 h3 => ⟨i, ρ₁, σ₁, part, rfl, h1, h2, h3⟩, fun _ _ h => h⟩
  refine T R J s (fun m s₃ hJ => ?_) n (mk 0 ρ σ [] s (Nat.zero_le _) ⟨by rw [List.append_nil]; exact IC, em, st, ra⟩ e)
  clear IC em st ra e
  have len := W.len
  obtain ⟨i, ρ₃, σ₃, part, rfl, hin, L, e₃⟩ := un m s₃ hJ
  clear un hJ
  by_cases hlt : i < n
  · have hx : xs.drop i = xs[i] :: xs.drop (i + 1) := List.drop_eq_getElem_cons (by omega)
    rw [hx] at e₃
    obtain ⟨ρ₄, tb, σ₆, hg, et, e₄⟩ := fold_step e₃
    refine wpAny_mono (W.item target i s₃ _ _ ad (env.locals :: D :: av) htg hlt L.st hfp L.ic.H.lives L.ra fun v h' tk p hp rp st₄ kp => ?_) (fun r s₁ z => by cases r with | none => exact z.elim | some v => exact z) fun _ _ z => z
    rw [List.getElem?_eq_getElem (by omega)] at hp
    obtain rfl := Option.some.inj hp
    have L₄ := L.item (tk := tk) W hwr nb kp st₄
    clear L
    refine ht.run ρ₃ σ₃ A env _ ad _ v xs[i] ρ₄ L₄.ic.H rp hg _ _ fun s₅ H₅ sh₅ kp₅ => ?_
    obtain ⟨h₅, tk₅, rfl⟩ := sh₅
    have L₅ := L₄.asg W hfp H₅ kp₅
    clear L₄
    refine hi.run ρ₄ σ₃ A env _ ad _ H₅ (by rw [et]; intro h; cases h) _ _ ⟨fun b s₆ c σ₇ e p n₆ => ?_, fun x s' σ' e _ => by rw [et] at e; cases e⟩
    rw [et] at e; cases e
    subst p
    have L₆ := L₅.nxt W hfp n₆
    clear L₅
    rcases e₄ with ⟨rfl, e₄⟩ | ⟨rfl, ⟨ρ₈, l₈⟩, σ₈, ef, e₄⟩
    · exact ⟨n - (i + 1), by omega, mk (i + 1) ρ₄ σ₆ part _ hlt L₆ e₄⟩
    · have hpre : part.length + l₈.length ≤ l.length := by have := cpFold_len e₄; rw [List.length_append] at this; exact this
      refine hf.run ρ₄ σ₆ A env s₆ ad av D (acc ++ part) L₆.ic ρ₈ l₈ σ₈ ef (by rw [List.length_append]; omega) _ _ fun s₉ IC₉ em₉ => ?_
      exact ⟨n - (i + 1), by omega, mk (i + 1) ρ₈ σ₈ (part ++ l₈) _ hlt (by rw [← List.append_assoc]; exact L₆.emit W hfp IC₉ em₉) e₄⟩
  · have hin' : i = n := by omega
    subst hin'
    have hx : xs.drop i = [] := List.drop_eq_nil_of_le (by omega)
    rw [hx] at e₃
    cases e₃
    exact W.done s₃ _ _ L.st fun h' tk kp => hR _ (L.ic.over kp (W.fld i _ L.st) nb) (L.em.over L.ic.X kp hwr)

/- ## One clause, two clauses -/
theorem turn_gen {A : Around} {I D : Addr} {target : Expr} {ifs : List Expr} {emit : Sem Unit} {em : Around → Env → Addr → Sem Unit} {elt : Expr} {gens : List Comprehension} {scope : Scope} {pos p : Pos} {d : Nat} {env : Env}
    (hem : em A env D = emit)
    (he : compTurn (.ListComp elt gens scope pos) d (.ref I) (.ref D) env = (do
      standAt p
      match ← pyNext (.ref I) with
      | none => pure (.done .next)
      | some v =>
        letOwnedTupleGo target (.ref I) v
        assign target env v
        let mut ok := true
        for c in ifs do
          if ok then ok ← isTrue c env (eval c env)
        if ok then
          emit
        again (.compLoop (.ListComp elt gens scope pos) d (.ref I) (.ref D) env))) :
    TurnSpec C A I D target ifs em env (.compLoop (.ListComp elt gens scope pos) d (.ref I) (.ref D) env) := by
  intro R J s turn n hn
  subst hem
  refine codeAny_loop rfl J (fun n s hI => ?_) n hn
  show wpAny _ A ((compTurn (.ListComp elt gens scope pos) d (.ref I) (.ref D) env).onRaise (fun x => do noteFrame x env; theTreesLotGoes x)) _ _ s
  refine wpAny_noted ?_
  rw [he]
  refine wpAny_bind (wpAny_standAt (wpAny_bind (wpAny_mono (turn n s hI) (fun r s₁ h₁ => ?_) fun _ _ h' => h')))
  cases r with
  | none => exact wpAny_pure h₁
  | some v =>
    refine wpAny_bind (wpAny_mono h₁ (fun _ s₁' h₁' => ?_) fun _ _ h' => h')
    refine wpAny_bind (wpAny_mono h₁' (fun _ s₂ h₂ => wpAny_bind (wpAny_mono h₂ (fun ok s₃ h₃ => ?_) fun _ _ h' => h')) fun _ _ h' => h')
    cases ok with
    | false => exact wpAny_pure ⟨rfl, h₃⟩
    | true => exact wpAny_bind (wpAny_mono h₃ (fun _ s₅ h₅ => wpAny_pure ⟨rfl, h₅⟩) fun _ _ h' => h')
noncomputable abbrev emElt (elt : Expr) : Around → Env → Addr → Sem Unit := fun A env D => do let _ ← call (.builtin "list.append") [.ref D, ← eval elt env]
theorem turn_one {A : Around} {I D : Addr} {target iter elt : Expr} {ifs : List Expr} {scope : Scope} {pos : Pos} {env : Env} :
    TurnSpec C A I D target ifs (emElt elt) env (.compLoop (.ListComp elt [⟨target, iter, ifs, 0⟩] scope pos) 0 (.ref I) (.ref D) env) :=
  turn_gen rfl (by rfl)
theorem turn_in {A : Around} {I D : Addr} {target iter elt : Expr} {ifs : List Expr} {g₀ : Comprehension} {scope : Scope} {pos : Pos} {env : Env} :
    TurnSpec C A I D target ifs (emElt elt) env (.compLoop (.ListComp elt [g₀, ⟨target, iter, ifs, 0⟩] scope pos) 1 (.ref I) (.ref D) env) :=
  turn_gen rfl (by rfl)
noncomputable abbrev emIn (elt target₀ iter₀ target iter : Expr) (ifs₀ ifs : List Expr) (scope : Scope) (pos : Pos) : Around → Env → Addr → Sem Unit := fun A env D => do
  let x ← eval iter env
  standAt iter.pos
  let x ← foldedSetIterable iter env x
  let _ ← runOwn (.compStart (.ListComp elt [⟨target₀, iter₀, ifs₀, 0⟩, ⟨target, iter, ifs, 0⟩] scope pos) 1 (← holding [x] (pyIter x)) (.ref D) env) env
theorem flat_out {I D : Addr} {target₀ iter₀ target iter elt : Expr} {ifs₀ ifs : List Expr} {scope : Scope} {pos : Pos} {env : Env} : compTurn (.ListComp elt [⟨target₀, iter₀, ifs₀, 0⟩, ⟨target, iter, ifs, 0⟩] scope pos) 0 (.ref I) (.ref D) env = (do
      standAt iter₀.pos
      match ← pyNext (.ref I) with
      | none => pure (.done .next)
      | some v =>
        letOwnedTupleGo target₀ (.ref I) v
        assign target₀ env v
        let mut ok := true
        for c in ifs₀ do
          if ok then ok ← isTrue c env (eval c env)
        if ok then
          let x ← eval iter env
          standAt iter.pos
          let x ← foldedSetIterable iter env x
          let _ ← runOwn (.compStart (.ListComp elt [⟨target₀, iter₀, ifs₀, 0⟩, ⟨target, iter, ifs, 0⟩] scope pos) 1 (← holding [x] (pyIter x)) (.ref D) env) env
        again (.compLoop (.ListComp elt [⟨target₀, iter₀, ifs₀, 0⟩, ⟨target, iter, ifs, 0⟩] scope pos) 0 (.ref I) (.ref D) env)) := by rfl
theorem turn_out {A : Around} {I D : Addr} {target₀ iter₀ target iter elt : Expr} {ifs₀ ifs : List Expr} {scope : Scope} {pos : Pos} {env : Env} :
    TurnSpec C A I D target₀ ifs₀ (emIn elt target₀ iter₀ target iter ifs₀ ifs scope pos) env (.compLoop (.ListComp elt [⟨target₀, iter₀, ifs₀, 0⟩, ⟨target, iter, ifs, 0⟩] scope pos) 0 (.ref I) (.ref D) env) := by
  refine turn_gen (p := iter₀.pos) rfl ?_
  rw [flat_out]
  simp only [bind_assoc, pure_bind]
theorem start_in {A : Around} {R : Result → Shared → Prop} {s : Shared} {elt : Expr} {g₀ : Comprehension} {target iter : Expr} {ifs : List Expr} {scope : Scope} {pos : Pos} {it acc : Value} {env : Env}
    (h0 : codeAny C.M A (.compLoop (.ListComp elt [g₀, ⟨target, iter, ifs, 0⟩] scope pos) 1 it acc env) R s)
    (h : wpAny C.M A (pyIter it) (fun it' s' => codeAny C.M A (.compLoop (.ListComp elt [g₀, ⟨target, iter, ifs, 0⟩] scope pos) 1 it' acc env) R s') (notedBy C.M A env fun x s' => R (.error x) s') s) :
    codeAny C.M A (.compStart (.ListComp elt [g₀, ⟨target, iter, ifs, 0⟩] scope pos) 1 it acc env) R s := by
  refine codeAny_of_tree ?_
  show wpAny _ _ ((compStart (.ListComp elt [g₀, ⟨target, iter, ifs, 0⟩] scope pos) 1 it acc env).onRaise (fun x => do noteFrame x env; standAt theWindowsPlace)) _ _ s
  refine wpAny_notedAt ?_
  unfold compStart
  show wpAny _ _ (ask >>= _) _ _ s
  refine wpAny_bind (wpAny_askSetting (wpAny_ite ?_))
  split
  · first
      | exact wpAny_bind (wpAny_pure (wpAny_pure (And.intro rfl h0)))
      | exact wpAny_pure (And.intro rfl h0)
  · first
      | exact wpAny_bind (wpAny_rule (wpAny_bind (wpAny_standAt (wpAny_bind (wpAny_mono h (fun it' s' h' => wpAny_pure (And.intro rfl h')) fun _ _ x => x)))))
      | (refine wpAny_bind (wpAny_rule ?_); show wpAny _ _ (standAt iter.pos >>= _) _ _ s; exact wpAny_bind (wpAny_standAt (wpAny_bind (wpAny_mono h (fun it' s' h' => wpAny_pure (And.intro rfl h')) fun _ _ x => x))))
noncomputable def cpIn (it : Rho → Sto → R (List PV)) (g : PV → Rho → Option Rho) (t : Rho → Sto → R Bool) (f : Rho → Sto → R (Rho × List PV)) : Rho → Sto → R (Rho × List PV) := fun ρ σ => (it ρ σ).bind fun xs σ => cpFold g t f xs [] ρ σ
theorem em_in {elt target₀ iter₀ target iter : Expr} {ifs₀ ifs : List Expr} {scope : Scope} {pos : Pos} {it : Rho → Sto → R (List PV)} {g : PV → Rho → Option Rho} {t : Rho → Sto → R Bool} {f : Rho → Sto → R (Rho × List PV)}
    {Tg : Expr → Prop} (htg : Tg target) (hit : SI C k nm vs Tg iter it) (ht : SAL C k nm vs target g) (hi : STi C k nm vs ifs t) (hf : EM C k nm vs (emElt elt) f) (hs : ∀ env x, foldedSetIterable iter env x = pure x := by intro _ _; rfl) :
    EM C k nm vs (emIn elt target₀ iter₀ target iter ifs₀ ifs scope pos) (cpIn it g t f) := by
  refine ⟨?_⟩
  intro ρ σ A env s ad av D acc IC ρ' l σ' e hz Q E hQ
  unfold cpIn at e
  obtain ⟨xs, σ₁, ei, e⟩ : ∃ xs σ₁, it ρ σ = .val xs σ₁ ∧ cpFold g t f xs [] ρ σ₁ = .val (ρ', l) σ' := by
    cases q : it ρ σ with
    | bad => rw [q] at e; cases e
    | exc σ => rw [q] at e; cases e
    | val a σ => rw [q] at e; exact ⟨a, σ, rfl, e⟩
  show wpAny C.M A (do
    let x ← eval iter env
    standAt iter.pos
    let x ← foldedSetIterable iter env x
    let _ ← runOwn (.compStart (.ListComp elt [⟨target₀, iter₀, ifs₀, 0⟩, ⟨target, iter, ifs, 0⟩] scope pos) 1 (← holding [x] (pyIter x)) (.ref D) env) env) Q E s
  refine wpAny_bind (wpAny_mono (hit.run ρ σ A env s ad _ IC.H (by rw [ei]; intro h; cases h) (fun v s₂ => wpAny C.M A (runOwn (.compStart (.ListComp elt [⟨target₀, iter₀, ifs₀, 0⟩, ⟨target, iter, ifs, 0⟩] scope pos) 1 v (.ref D) env) env) (fun _ s' => Q () s') E s₂) E (fun I fp wr n St xs' avs axs s₂ σ₂ ei' W st ra hfp hwr n₂ => ?_) fun x s' σ' e _ => by rw [ei] at e; cases e) (fun v s₁ h₁ => ?_) fun _ _ e => e)
  · rw [ei] at ei'; cases ei'
    have nb : ∀ b ∈ wr, C.base.get? b = none := fun b hbm => by
      cases q : C.base.get? b with
      | none => rfl
      | some o => have := IC.H.stays b o q; rw [hwr b hbm] at this; cases this
    have hDm : D ∈ env.locals :: D :: av := .tail _ (.head _)
    obtain ⟨ys, hyl, hyr⟩ := IC.ls
    have IC₂ : InC C k nm vs ρ σ₁ A env s₂ ad av D acc := ⟨IC.H.next n₂, ⟨ys, n₂.kp.li D hDm IC.nd _ hyl, hyr.keep n₂.kp⟩, IC.ne, IC.nd, IC.X⟩
    have em₂ : Emt ad av env.locals D s s₂ := ⟨n₂.sh, KeepE.refl.step n₂.kp (fun b h => .tail _ (.tail _ h)) fun b h => by
      rcases List.mem_cons.mp h with rfl | h
      · exact .inr (.head _)
      · rcases List.mem_cons.mp h with rfl | h
        · exact .inr (.tail _ (.head _))
        · exact .inl h⟩
    refine wpAny_runOwn ?_
    have fin : codeAny C.M A (.compLoop (.ListComp elt [⟨target₀, iter₀, ifs₀, 0⟩, ⟨target, iter, ifs, 0⟩] scope pos) 1 (.ref I) (.ref D) env) (fun r s' => match r with | .ok _ => Q () s' | .error e => cameBackBy C.M A env E e s') s₂ :=
      loop_ok turn_in W htg ht hi hf IC₂ em₂ st ra hfp hwr nb e hz fun s' IC' em' => hQ s' IC' em'
    exact start_in fin (W.self 0 s₂ _ _ st fin)
  · exact wpAny_bind (wpAny_standAt (wpAny_bind (wpAny_of_eq (hs env v) (wpAny_bind (wpAny_holding (wpAny_mono h₁ (fun it s₂ h₂ => wpAny_bind (wpAny_mono h₂ (fun _ _ q => wpAny_pure q) fun _ _ e => e)) fun _ _ e => e))))))
end
end Mine.Internal
/- G12 -/
namespace Mine.Internal
theorem closure_go {env : Env} : ∀ (names : List (Str × NameKind)) (acc : List (Str × Addr)), (∀ x ∈ names, x.2 = .free → ∃ c, env.cells.lookup x.1 = some c) →
    ∃ cl : List (Str × Addr), (forIn names acc (fun x cs => if (x.2 == NameKind.free) = true then do let c ← cellOf env x.1; pure (ForInStep.yield ((x.1, c) :: cs)) else pure (ForInStep.yield cs)) : Sem (List (Str × Addr))) = pure (cl ++ acc) ∧
      (∀ p ∈ cl, env.cells.lookup p.1 = some p.2 ∧ (p.1, NameKind.free) ∈ names) ∧ (∀ x ∈ names, x.2 = .free → ∃ c, (x.1, c) ∈ cl) ∧ ((names.map (·.1)).Nodup → (cl.map (·.1)).Nodup)
  | [], acc, _ => ⟨[], rfl, by simp, by simp, by simp⟩
  | (n, kd) :: r, acc, h => by
    rw [List.forIn_cons]
    cases hk : (kd == NameKind.free) with
    | false =>
      obtain ⟨cl, e, h1, h2, h3⟩ := closure_go r acc fun x hx => h x (.tail _ hx)
      refine ⟨cl, ?_, fun p hp => ⟨(h1 p hp).1, .tail _ (h1 p hp).2⟩, fun x hx hf => ?_, fun nd => h3 (List.nodup_cons.mp nd).2⟩
      · simp only [hk, Bool.false_eq_true, if_false]
        rw [pure_bind]; exact e
      · rcases List.mem_cons.mp hx with rfl | hx
        · rw [show kd = .free from hf] at hk; cases hk
        · exact h2 x hx hf
    | true =>
      have hkf : kd = .free := eq_of_beq hk
      subst hkf
      obtain ⟨c, hc⟩ := h (n, .free) (.head _) rfl
      obtain ⟨cl, e, h1, h2, h3⟩ := closure_go r ((n, c) :: acc) fun x hx => h x (.tail _ hx)
      refine ⟨cl ++ [(n, c)], ?_, fun p hp => ?_, fun x hx hf => ?_, fun nd => ?_⟩
      · have hco : cellOf env n = pure c := by unfold cellOf; rw [hc]
        simp only [beq_self_eq_true, if_true, hco, pure_bind]
        rw [e]; simp
      · rcases List.mem_append.mp hp with hp | hp
        · exact ⟨(h1 p hp).1, .tail _ (h1 p hp).2⟩
        · rw [List.mem_singleton.mp hp]; exact ⟨hc, .head _⟩
      · rcases List.mem_cons.mp hx with rfl | hx
        · exact ⟨c, List.mem_append_right _ (.head _)⟩
        · obtain ⟨c', hc'⟩ := h2 x hx hf; exact ⟨c', List.mem_append_left _ hc'⟩
      · obtain ⟨n1, n2⟩ := List.nodup_cons.mp nd
        rw [List.map_append, List.nodup_append]
        refine ⟨h3 n2, by simp, fun a ha b hb => ?_⟩
        have hb' : b = n := by simpa using hb
        subst hb'
        rintro rfl
        obtain ⟨p, hp, rfl⟩ := List.mem_map.mp ha
        exact n1 (List.mem_map.mpr ⟨_, (h1 p hp).2, rfl⟩)
theorem lookup_of_nodup {α : Type} : ∀ {l : List (Str × α)} {x : Str} {c : α}, (l.map (·.1)).Nodup → (x, c) ∈ l → l.lookup x = some c
  | (n, d) :: r, x, c, nd, h => by
    obtain ⟨n1, n2⟩ := List.nodup_cons.mp nd
    rw [List.lookup_cons]
    rcases List.mem_cons.mp h with q | h'
    · cases q; simp
    · have : (x == n) = false := by
        rw [beq_eq_false_iff_ne]; rintro rfl; exact n1 (List.mem_map.mpr ⟨(x, c), h', rfl⟩)
      rw [this]; exact lookup_of_nodup n2 h'
theorem closure_ok {scope : Scope} {env : Env} (h : ∀ x ∈ scope.names, x.2 = .free → ∃ c, env.cells.lookup x.1 = some c) (nd : (scope.names.map (·.1)).Nodup) :
    ∃ cl : List (Str × Addr), closureFor scope env = pure cl ∧ (∀ x c, cl.lookup x = some c → env.cells.lookup x = some c) ∧ (∀ x ∈ scope.names, x.2 = .free → cl.lookup x.1 = env.cells.lookup x.1) ∧ (cl.map (·.1)).Nodup := by
  obtain ⟨cl, e, h1, h2, h3⟩ := closure_go scope.names [] h
  refine ⟨cl, ?_, fun x c hl => (h1 _ (mem_of_lookup hl)).1, fun x hx hf => ?_, h3 nd⟩
  · unfold closureFor
    rw [List.append_nil] at e
    refine Eq.trans ?_ e
    simp only [bind_pure]
  · obtain ⟨c, hc⟩ := h2 x hx hf
    rw [lookup_of_nodup (h3 nd) hc, (h1 _ hc).1]

noncomputable def relab (nm names : List (Str × NameKind)) : List (Str × NameKind) := names.map fun p => if p.2 == .free && nm.lookup p.1 == some .cell then (p.1, .cell) else p
structure CompOk (nm : List (Str × NameKind)) (vs : List Str) (scope : Scope) (caps : List Nat) (cn : List Str) : Prop where
  kind : scope.kind = .function
  names : ∀ x ∈ scope.names, x.2 = .local → scope.names.lookup x.1 = some .local
  ncell : ∀ x ∈ scope.names, x.2 ≠ .cell
  nd : (scope.names.map (·.1)).Nodup
  free : ∀ x ∈ scope.names, x.2 = .free → nm.lookup x.1 = some .cell
  cap : caps.map (vs[·]?) = cn.map some
  capf : ∀ x ∈ cn, (x, NameKind.free) ∈ scope.names
  capc : ∀ x ∈ cn, (relab nm scope.names).lookup x = some .cell
noncomputable def cComp (caps : List Nat) (m : Nat) (it : Rho → Sto → R (List PV)) (g : PV → Rho → Option Rho) (t : Rho → Sto → R Bool) (f : Rho → Sto → R (Rho × List PV)) : Rho → Sto → R PV := fun ρ σ => (it ρ σ).quiet.bind fun xs σ =>
  (cpFold g t f xs [] (caps.map (fun i => (ρ[i]?).join) ++ List.replicate m none) σ).quiet.bind fun r σ => if r.2.length ≤ 1000000 then .val (.lst r.2) σ else .bad
section
variable {C : Cx} {k : Nat} {nm : List (Str × NameKind)} {vs : List Str}
theorem comp_ok {scope : Scope} {caps : List Nat} {cn tn : List Str} (ok : CompOk nm vs scope caps cn) {target iter elt : Expr} {ifs : List Expr} {rest : List Comprehension} {pos cp : Pos} {emit : Around → Env → Addr → Sem Unit}
    {it : Rho → Sto → R (List PV)} {g : PV → Rho → Option Rho} {t : Rho → Sto → R Bool} {f : Rho → Sto → R (Rho × List PV)}
    {Tg : Expr → Prop} (htg : Tg target) (hit : SI C k nm vs Tg iter it) (ht : SAL C k (relab nm scope.names) (cn ++ tn) target g) (hi : STi C k (relab nm scope.names) (cn ++ tn) ifs t) (hf : EM C k (relab nm scope.names) (cn ++ tn) emit f)
    (T : ∀ A I D env, TurnSpec C A I D target ifs emit env (.compLoop (.ListComp elt (⟨target, iter, ifs, 0⟩ :: rest) scope pos) 0 (.ref I) (.ref D) env))
    (hs : ∀ env x, foldedSetIterable iter env x = pure x) {ρ : Rho} {σ : Sto} {A : Around} {env : Env} {s : Shared} {ad av : List Addr} (H : Hyp C k nm vs ρ σ A env s ad av)
    {p : PV} {σ' : Sto} (e : cComp caps tn.length it g t f ρ σ = .val p σ') {use : Option (Value → Sem Unit)} {Q : Value → Shared → Prop} {E : Value → Shared → Prop}
    (h : ∀ D L s' m', Rep s'.heap ad (L :: av) (.ref D) p → Nxt ad av s σ' s' → Sg s'.heap ad (L :: av) σ' → s.heap.get? L = none → s'.heap.Ns L m' → compPost C.M A E use Q (.ref D) L (.ok .next) s') :
    wpAny C.M A (comprehension (.ListComp elt (⟨target, iter, ifs, 0⟩ :: rest) scope pos) scope env cp (newList []) false (eval iter env) use) Q E s := by
  obtain ⟨cl, hcl, c1, c2, c3⟩ := closure_ok (scope := scope) (env := env) (fun x hx hf => H.celn x.1 (ok.free x hx hf)) ok.nd
  refine wpAny_comprehension_free (g := ⟨target, iter, ifs, 0⟩) (gs := rest) rfl (hs env) hcl ok.kind ok.names ?_
  unfold cComp at e
  obtain ⟨xs, σ₁, ei, e⟩ := qbind_val e
  obtain ⟨⟨ρ', l⟩, σ₂, ef, e⟩ := qbind_val e
  obtain ⟨hz, rfl, rfl⟩ : l.length ≤ 1000000 ∧ p = .lst l ∧ σ' = σ₂ := by
    dsimp only at e
    split at e
    · cases e; exact ⟨by assumption, rfl, rfl⟩
    · cases e
  clear e
  refine hit.run ρ σ A env s ad av H (by rw [ei]; intro h; cases h) _ E (fun I fp wr n St xs' avs axs s₂ σ₂ ei' W st ra hfp hwr n₂ => ?_) fun x s' σ' e _ => by rw [ei] at e; cases e
  rw [ei] at ei'; cases ei'
  have H₂ := H.next n₂
  have nb : ∀ b ∈ wr, C.base.get? b = none := fun b hbm => H.baseN (hwr b hbm)
  refine wpAny_newObj_type (wpAny_newFunctionEnv ok.ncell (by intro y hy; cases hy) (fun h₁ hns₁ hsb₁ => ?_) ok.kind)
  dsimp only at hns₁ hsb₁ ⊢
  generalize hH2 : s₂.heap.push { cls := .type "list", dict := none, data := .seq ([] : List Value).toArray } = H2 at hns₁ hsb₁ ⊢
  obtain ⟨D, hD⟩ : ∃ D, D = s₂.heap.objs.size := ⟨_, rfl⟩
  obtain ⟨L, hL⟩ : ∃ L, L = H2.objs.size := ⟨_, rfl⟩
  rw [← hL] at hns₁ hsb₁
  have hLD : L = D + 1 := by rw [hL, hD, ← hH2, Heap.size_push]
  have hDL : D ≠ L := by rw [hLD]; exact Nat.ne_of_lt (Nat.lt_succ_self _)
  have none₂ : ∀ b, b = D ∨ b = L → s₂.heap.get? b = none := fun b hb => by
    rcases hb with rfl | rfl
    · exact get?_none_of_size (Nat.le_of_eq hD.symm)
    · exact get?_none_of_size (by rw [hLD, ← hD]; exact Nat.le_succ _)
  have none₀ : ∀ b, b = D ∨ b = L → s.heap.get? b = none := fun b hb => fresh_before H n₂ (none₂ b hb)
  have old : ∀ b o, s₂.heap.get? b = some o → h₁.get? b = some o := fun b o e => by
    have hb : b < s₂.heap.objs.size := Heap.lt_size e
    refine hsb₁.extBut b o (fun q => ?_) (Heap.get?_push_of_some _ (hH2 ▸ Heap.get?_push_of_some _ e))
    rw [q] at e; rw [none₂ L (.inr rfl)] at e; cases e
  have hacc : h₁.PlainList D #[] := ⟨_, hsb₁.extBut _ _ hDL (Heap.get?_push_of_some _ (by rw [hD, ← hH2]; exact Heap.get?_push_size _ rfl))⟩
  have notin : ∀ b, b = D ∨ b = L → b ∉ av := fun b hb hm => (H.above b hm).2.ne (none₀ b hb)
  have notad : ∀ b, b = D ∨ b = L → b ∉ ad := fun b hb hm => notin b hb (H.adsub b hm)
  have mem3 : ∀ b, b ∈ L :: D :: av → b = D ∨ b = L ∨ b ∈ av := fun b hm => by
    rcases List.mem_cons.mp hm with rfl | hm
    · exact .inr (.inl rfl)
    · rcases List.mem_cons.mp hm with rfl | hm
      · exact .inl rfl
      · exact .inr (.inr hm)
  have toH : ∀ b o, b ∉ av → s₂.heap.get? b = some o → h₁.get? b = some o ∧ b ∉ L :: D :: av := fun b o nb e => ⟨old b o e, fun hm => by
    rcases mem3 b hm with q | q | q
    · rw [none₂ b (.inl q)] at e; cases e
    · rw [none₂ b (.inr q)] at e; cases e
    · exact nb q⟩
  let env' : Env := compEnvC scope cl L env
  have hnames : env'.scope.names = relab nm scope.names := by
    show (scope.names.map _) = _
    unfold relab
    refine List.map_congr_left fun p _ => ?_
    obtain ⟨n, kd⟩ := p
    have hkn : env.kindOf n = nm.lookup n := by unfold Env.kindOf; rw [H.names]
    simp only [H.kind, hkn]
    simp
  obtain ⟨m, hm, hv⟩ := H₂.loc
  have capn : ∀ (j i : Nat), caps[j]? = some i → ∃ x, cn[j]? = some x ∧ vs[i]? = some x := fun j i hj => by
    have := congrArg (·[j]?) ok.cap
    simp only [List.getElem?_map, hj, Option.map_some] at this
    cases hc : cn[j]? with
    | none => rw [hc] at this; cases this
    | some x => rw [hc] at this; exact ⟨x, rfl, by simpa using this⟩
  have lenc : caps.length = cn.length := by have := congrArg List.length ok.cap; simpa using this
  have IH : Hyp C k (relab nm scope.names) (cn ++ tn) (caps.map (fun i => (ρ[i]?).join) ++ List.replicate tn.length none) σ₁ A env' { s₂ with heap := h₁, toks := s₂.toks + ([] : List (Str × Value)).length } ad (L :: D :: av) := by
    refine ⟨fun b o e => old b o (H₂.stays b o e), fun b hbm => ?_, fun b hbm => .tail _ (.tail _ (H.adsub b hbm)), H.adnd, hnames, ok.kind, H.glob, H.blt, ⟨_, hns₁, fun j p hp => ?_⟩, ⟨.head _, notad L (.inr rfl)⟩, fun x c hc => ?_, fun x hx => ?_, ?_, ?_,
      ⟨H₂.sg.len, fun i b m i1 i2 => (H₂.sg.at_ i b m i1 i2).to (fun o e => old b o e) toH⟩, H.hh, H.dep, H.un⟩
    · rcases mem3 b hbm with rfl | rfl | q
      · exact ⟨H.baseN (none₀ _ (.inl rfl)), live_pl hacc⟩
      · exact ⟨H.baseN (none₀ _ (.inr rfl)), live_ns hns₁⟩
      · exact ⟨(H.above b q).1, (H₂.above b q).2.keeps fun o e => old b o e⟩
    · have hj : j < caps.length := by
        rcases Nat.lt_or_ge j caps.length with h | h
        · exact h
        · rw [List.getElem?_append_right (by simpa using h)] at hp
          have := List.mem_of_getElem? hp
          rw [List.mem_replicate] at this
          cases this.2
      rw [List.getElem?_append_left (by simpa using hj), List.getElem?_map, List.getElem?_eq_getElem hj] at hp
      have hp' : (ρ[caps[j]]?).join = some p := by simpa using hp
      have hq : ρ[caps[j]]? = some (some p) := by
        cases hr : ρ[caps[j]]? with
        | none => rw [hr] at hp'; cases hp'
        | some q => rw [hr] at hp'; exact congrArg some hp'
      obtain ⟨x, hx1, hx2⟩ := capn j caps[j] (List.getElem?_eq_getElem hj)
      obtain ⟨y, hy, w⟩ := hv caps[j] p hq
      rw [hx2] at hy; cases hy
      have hxm : x ∈ cn := List.mem_of_getElem? hx1
      refine ⟨x, by rw [List.getElem?_append_left (by omega)]; exact hx1, ?_⟩
      have hfree := ok.free (x, .free) (ok.capf x hxm) rfl
      rcases w with ⟨h1, _⟩ | ⟨h1, c, v, h2, h3, h4⟩
      · rw [hfree] at h1; cases h1
      · refine .inr ⟨ok.capc x hxm, c, v, ?_, h3.keeps old, h4.to (fun _ _ e => e) toH⟩
        show cl.lookup x = some c
        rw [c2 (x, .free) (ok.capf x hxm) rfl]; exact h2
    · obtain ⟨h1, h2, h3, v, h4⟩ := H₂.cel x c (c1 x c hc)
      refine ⟨.tail _ (.tail _ h1), h2, fun q => notin L (.inr rfl) (show L ∈ av from (show c = L from q) ▸ h1), v, h4.keeps old⟩
    · have hmem := mem_of_lookup hx
      obtain ⟨⟨n, kd⟩, hp, hq⟩ := List.mem_map.mp hmem
      have hf : kd = .free ∧ n = x := by
        dsimp only at hq
        split at hq
        · rename_i hc
          simp only [Bool.and_eq_true, beq_iff_eq] at hc
          exact ⟨hc.1, (Prod.mk.inj hq).1⟩
        · have := ok.ncell _ hp
          exact absurd (Prod.mk.inj hq).2 this
      obtain ⟨rfl, rfl⟩ := hf
      obtain ⟨c, hc⟩ := H.celn n (ok.free (n, .free) hp rfl)
      exact ⟨c, (c2 (n, .free) hp rfl).trans hc⟩
    · show cl.Pairwise fun x y => x.2 ≠ y.2
      have ndc : cl.Pairwise fun x y => x.1 ≠ y.1 := by simpa [List.Nodup, List.pairwise_map] using c3
      refine ndc.imp_of_mem fun {x y} hx hy hxy q => ?_
      have h1 := mem_of_lookup (c1 x.1 x.2 (lookup_of_nodup c3 hx))
      have h2 := mem_of_lookup (c1 y.1 y.2 (lookup_of_nodup c3 hy))
      rw [q] at h1
      exact hxy (name_of_addr H.apart h1 h2)
    · obtain ⟨fl, e, q⟩ := H₂.fr
      exact ⟨fl, e, fun f hf => by obtain ⟨h1, L', m, h2, h3, h4, h5⟩ := q f hf; exact ⟨h1, L', m, h2, h3.keeps old, .tail _ (.tail _ h4), h5⟩⟩
  have X : ∀ b ∈ [L, D], b ∉ av := fun b hb => by
    rcases List.mem_cons.mp hb with rfl | hb
    · exact notin _ (.inr rfl)
    · rw [List.mem_singleton.mp hb]; exact notin _ (.inl rfl)
  have IC : InC C k (relab nm scope.names) (cn ++ tn) (caps.map (fun i => (ρ[i]?).join) ++ List.replicate tn.length none) σ₁ A env' { s₂ with heap := h₁, toks := s₂.toks + ([] : List (Str × Value)).length } ad av D [] :=
    ⟨IH, ⟨[], hacc.isList, .nil⟩, hDL, notad D (.inl rfl), X⟩
  have em : Emt ad av L D s { s₂ with heap := h₁, toks := s₂.toks + ([] : List (Str × Value)).length } := by
    refine ⟨by obtain ⟨h, t, rfl⟩ := n₂.sh; exact ⟨_, _, rfl⟩, ?_⟩
    have K : KeepE ad av [L, D] s.heap s₂.heap := KeepE.refl.step n₂.kp (fun _ h => h) fun _ h => .inl h
    exact K.skip (Y := []) (fun b o _ e => old b o e) (fun b hb => nomatch hb) X
  have fin : codeAny C.M A (.compLoop (.ListComp elt (⟨target, iter, ifs, 0⟩ :: rest) scope pos) 0 (.ref I) (.ref D) env') (compPost C.M A E use Q (.ref D) L) { s₂ with heap := h₁, toks := s₂.toks + ([] : List (Str × Value)).length } := by
    refine loop_ok (T A I D env') W htg ht hi hf IC em (W.frame _ _ _ st fun b _ o e => old b o e) (ra.to (fun _ _ e => e) toH) (fun b hbm hm => ?_) hwr nb ef (by simpa using hz) fun s' IC' em' => ?_
    · obtain ⟨o, ho⟩ := W.lv 0 _ st b hbm
      exact (toH b o (hfp b hbm) ho).2 hm
    · obtain ⟨ys, hl, hr⟩ := IC'.ls
      obtain ⟨m', hm', _⟩ := IC'.H.loc
      have sgL : Sg s'.heap ad (L :: av) σ' := ⟨IC'.H.sg.len, fun i b m i1 i2 => (IC'.H.sg.at_ i b m i1 i2).to (fun _ e => e) fun b o n e => ⟨e, fun q => n (by
        rcases List.mem_cons.mp q with rfl | q
        · exact .head _
        · exact .tail _ (.tail _ q))⟩⟩
      refine h D L s' m' (.lst hl (fun q => ?_) ?_) ⟨em'.sh, ⟨em'.kp.lv, fun b o hb e => em'.kp.kp b o (fun hx => ?_) hb e, em'.kp.ns, em'.kp.cl, em'.kp.li⟩, ?_⟩ sgL (none₀ L (.inr rfl)) hm'
      · rcases List.mem_cons.mp q with q | q
        · exact hDL q
        · exact notin D (.inl rfl) q
      · exact hr.less fun b hb => by
          rcases List.mem_cons.mp hb with rfl | hb
          · exact .head _
          · exact .tail _ (.tail _ hb)
      · rcases List.mem_cons.mp hx with q | hx
        · rw [none₀ b (.inr q)] at e; cases e
        · rw [List.mem_singleton.mp hx] at e; rw [none₀ D (.inl rfl)] at e; cases e
      · exact ⟨sgL.len, fun i b m i1 i2 => (sgL.at_ i b m i1 i2).to (fun _ e => e) fun b o n e => ⟨e, fun q => n (.tail _ q)⟩⟩
  have goal : codeAny C.M A (.compStart (.ListComp elt (⟨target, iter, ifs, 0⟩ :: rest) scope pos) 0 (.ref I) (.ref D) env') (compPost C.M A E use Q (.ref D) L) { s₂ with heap := h₁, toks := s₂.toks + ([] : List (Str × Value)).length } :=
    codeAny_compStart_list fin (W.self 0 _ _ _ (W.frame _ _ _ st fun b _ o e => old b o e) fin)
  rw [hD, hL] at goal
  rw [show env' = compEnvC scope cl L env from rfl, hL] at goal
  exact goal
end
end Mine.Internal
/- G13 -/
namespace Mine.Internal
section
variable {C : Cx} {k : Nat} {nm : List (Str × NameKind)} {vs : List Str}
theorem Nxt.skipOne {ad av : List Addr} {s s' : Shared} {σ' : Sto} {L : Addr} (n : Nxt ad av s σ' s') (sg : Sg s'.heap ad (L :: av) σ') (hL : s.heap.get? L = none) (sub : ∀ b ∈ ad, b ∈ av) (hv : ∀ b ∈ av, Live s.heap b) {h' : Heap} (hs : Heap.SameBut L s'.heap h') : Nxt ad av s σ' { s' with heap := h' } := by
  have ne : ∀ b ∈ av, b ≠ L := fun b hb q => (hv b hb).ne (q ▸ hL)
  refine ⟨by obtain ⟨h, t, rfl⟩ := n.sh; exact ⟨h', t, rfl⟩, ⟨fun b hb e => (n.kp.lv b hb e).keeps fun o e => (hs.2 b (ne b hb)).trans e, fun b o hb e => (hs.2 b fun q => by rw [q, hL] at e; cases e).trans (n.kp.kp b o hb e), fun b h1 h2 m e => (n.kp.ns b h1 h2 m e).sameBut hs (ne b h1), fun b h1 h2 m e => (n.kp.cl b h1 h2 m e).sameBut hs (ne b h1),
    fun b h1 h2 m e => by obtain ⟨o, e', r⟩ := n.kp.li b h1 h2 m e; exact ⟨o, (hs.2 b (ne b h1)).trans e', r⟩⟩, sg.len, fun i b m i1 i2 => (sg.at_ i b m i1 i2).to (fun o e => (hs.2 b (ne b (sub b (List.mem_of_getElem? i1)))).trans e) fun b o n e => ⟨(hs.2 b fun q => n (q ▸ .head _)).trans e, fun q => n (.tail _ q)⟩⟩
theorem Rep.skipOne {h h' : Heap} {ad av : List Addr} {L : Addr} {v : Value} {p : PV} (r : Rep h ad (L :: av) v p) (hs : Heap.SameBut L h h') : Rep h' ad av v p :=
  r.to (fun _ _ e => e) fun b o n e => ⟨(hs.2 b fun q => n (q ▸ .head _)).trans e, fun q => n (.tail _ q)⟩
theorem e_compG {scope : Scope} {caps : List Nat} {cn tn : List Str} (ok : CompOk nm vs scope caps cn) {target iter elt : Expr} {ifs : List Expr} {rest : List Comprehension} {pos : Pos} {emit : Around → Env → Addr → Sem Unit}
    {it : Rho → Sto → R (List PV)} {g : PV → Rho → Option Rho} {t : Rho → Sto → R Bool} {f : Rho → Sto → R (Rho × List PV)}
    {Tg : Expr → Prop} (htg : Tg target) (hit : SI C k nm vs Tg iter it) (ht : SAL C k (relab nm scope.names) (cn ++ tn) target g) (hi : STi C k (relab nm scope.names) (cn ++ tn) ifs t) (hf : EM C k (relab nm scope.names) (cn ++ tn) emit f)
    (T : ∀ A I D env, TurnSpec C A I D target ifs emit env (.compLoop (.ListComp elt (⟨target, iter, ifs, 0⟩ :: rest) scope pos) 0 (.ref I) (.ref D) env))
    (hs : ∀ env x, foldedSetIterable iter env x = pure x) : SE C k nm vs (.ListComp elt (⟨target, iter, ifs, 0⟩ :: rest) scope pos) (cComp caps tn.length it g t f) := by
  refine ⟨?_⟩
  intro ρ σ A env s ad av H hb Q E K
  cases e : cComp caps tn.length it g t f ρ σ with
  | bad => exact absurd e hb
  | exc σ' =>
    exfalso
    unfold cComp at e
    cases q : it ρ σ with
    | bad => rw [q] at e; cases e
    | exc σ => rw [q] at e; cases e
    | val a σ =>
      rw [q] at e
      dsimp only [R.quiet_val, R.bind_val] at e
      cases q2 : cpFold g t f a [] (caps.map (fun i => (ρ[i]?).join) ++ List.replicate tn.length none) σ with
      | bad => rw [q2] at e; cases e
      | exc σ => rw [q2] at e; cases e
      | val b σ =>
        rw [q2] at e
        dsimp only [R.quiet_val, R.bind_val] at e
        split at e <;> cases e
  | val p σ' =>
    rw [e] at K
    rw [eval_ListComp]
    refine comp_ok (use := none) ok htg hit ht hi hf T hs H e fun D L s' m' rp n sg hL hm => ⟨m', hm, fun h' hs' => ?_⟩
    exact K.ok _ _ _ _ rfl (rp.skipOne hs') (n.skipOne sg hL H.adsub H.lives hs')
theorem e_comp {scope : Scope} {caps : List Nat} {cn tn : List Str} (ok : CompOk nm vs scope caps cn) {target iter elt : Expr} {ifs : List Expr} {pos : Pos}
    {it : Rho → Sto → R (List PV)} {g : PV → Rho → Option Rho} {t : Rho → Sto → R Bool} {f : Rho → Sto → R PV}
    {Tg : Expr → Prop} (hit : SI C k nm vs Tg iter it) (ht : SAL C k (relab nm scope.names) (cn ++ tn) target g) (hi : STi C k (relab nm scope.names) (cn ++ tn) ifs t) (hf : SE C k (relab nm scope.names) (cn ++ tn) elt f)
    (hs : ∀ env x, foldedSetIterable iter env x = pure x := by intro _ _; rfl) (htg : Tg target := by first | exact trivial | exact ⟨_, _, _, rfl⟩) : SE C k nm vs (.ListComp elt [⟨target, iter, ifs, 0⟩] scope pos) (cComp caps tn.length it g t (cpElt f)) :=
  e_compG ok htg hit ht hi (em_elt hf) (fun _ _ _ _ => turn_one) hs
theorem e_comp2 {scope : Scope} {caps : List Nat} {cn tn : List Str} (ok : CompOk nm vs scope caps cn) {target₀ iter₀ target iter elt : Expr} {ifs₀ ifs : List Expr} {pos : Pos}
    {it₀ it : Rho → Sto → R (List PV)} {g₀ g : PV → Rho → Option Rho} {t₀ t : Rho → Sto → R Bool} {f : Rho → Sto → R PV}
    {Tg₀ Tg : Expr → Prop} (hit₀ : SI C k nm vs Tg₀ iter₀ it₀) (ht₀ : SAL C k (relab nm scope.names) (cn ++ tn) target₀ g₀) (hi₀ : STi C k (relab nm scope.names) (cn ++ tn) ifs₀ t₀)
    (hit : SI C k (relab nm scope.names) (cn ++ tn) Tg iter it) (ht : SAL C k (relab nm scope.names) (cn ++ tn) target g) (hi : STi C k (relab nm scope.names) (cn ++ tn) ifs t) (hf : SE C k (relab nm scope.names) (cn ++ tn) elt f)
    (hs₀ : ∀ env x, foldedSetIterable iter₀ env x = pure x := by intro _ _; rfl) (htg₀ : Tg₀ target₀ := by first | exact trivial | exact ⟨_, _, _, rfl⟩)
    (hs : ∀ env x, foldedSetIterable iter env x = pure x := by intro _ _; rfl) (htg : Tg target := by first | exact trivial | exact ⟨_, _, _, rfl⟩) : SE C k nm vs (.ListComp elt [⟨target₀, iter₀, ifs₀, 0⟩, ⟨target, iter, ifs, 0⟩] scope pos) (cComp caps tn.length it₀ g₀ t₀ (cpIn it g t (cpElt f))) :=
  e_compG ok htg₀ hit₀ ht₀ hi₀ (em_in htg hit ht hi (em_elt hf) hs) (fun _ _ _ _ => turn_out) hs₀

theorem Hyp.wide {ρ : Rho} {σ σ' : Sto} {A : Around} {env : Env} {s s' : Shared} {ad av : List Addr} {L : Addr} (H : Hyp C k nm vs ρ σ A env s ad av) (N : Nxt ad av s σ' s') (hL : s.heap.get? L = none) (sg : Sg s'.heap ad (L :: av) σ') (lv : Live s'.heap L) : Hyp C k nm vs ρ σ' A env s' ad (L :: av) := by
  have H' := H.next N
  have up : ∀ {v p}, Rep s.heap ad av v p → Rep s'.heap ad (L :: av) v p := fun r => r.to (fun _ _ e => e) fun b o n e => ⟨N.kp.kp b o n e, fun q => by
    rcases List.mem_cons.mp q with rfl | q
    · rw [hL] at e; cases e
    · exact n q⟩
  obtain ⟨m, hm, hv⟩ := H.loc
  refine ⟨H'.stays, fun a ha => ?_, fun b hb => .tail _ (H.adsub b hb), H.adnd, H.names, H.kind, H.glob, H.blt, ⟨m, N.kp.ns _ H.lav.1 H.lav.2 _ hm, fun i p e => ?_⟩, ⟨.tail _ H.lav.1, H.lav.2⟩, fun x c e => ?_, H.celn, H.apart, ?_, sg, H.hh, H.dep, H.un⟩
  · rcases List.mem_cons.mp ha with rfl | ha
    · refine ⟨?_, lv⟩
      cases e : C.base.get? a with
      | none => rfl
      | some o => rw [H.stays a o e] at hL; cases hL
    · exact H'.above a ha
  · obtain ⟨x, hx, q⟩ := hv i p e
    refine ⟨x, hx, ?_⟩
    rcases q with ⟨h1, v, h2, h3⟩ | ⟨h1, c, v, h2, h3, h4⟩
    · exact .inl ⟨h1, v, h2, up h3⟩
    · have := H.cel x c h2
      exact .inr ⟨h1, c, v, h2, N.kp.cl _ this.1 this.2.1 _ h3, up h4⟩
  · obtain ⟨h1, h2, h3, h4⟩ := H'.cel x c e
    exact ⟨.tail _ h1, h2, h3, h4⟩
  · obtain ⟨fl, e, q⟩ := H'.fr
    exact ⟨fl, e, fun f hf => by obtain ⟨h1, L', m, h2, h3, h4, h5⟩ := q f hf; exact ⟨h1, L', m, h2, h3, .tail _ h4, h5⟩⟩
theorem Hyp.narrow {ρ ρ' : Rho} {σ σ' : Sto} {A : Around} {env : Env} {s s' : Shared} {ad av : List Addr} {L : Addr} (H₀ : Hyp C k nm vs ρ σ A env s ad av) (hL : s.heap.get? L = none) (H : Hyp C k nm vs ρ' σ' A env s' ad (L :: av)) {h' : Heap} {tk : Tok} (hs : Heap.SameBut L s'.heap h') : Hyp C k nm vs ρ' σ' A env { s' with heap := h', toks := tk } ad av := by
  have ne : ∀ b ∈ av, b ≠ L := fun b hb q => (H₀.above b hb).2.ne (q ▸ hL)
  obtain ⟨m, hm, hv⟩ := H.loc
  refine ⟨fun b o e => (hs.2 b fun q => ?_).trans (H.stays b o e), fun a ha => ⟨(H₀.above a ha).1, (H.above a (.tail _ ha)).2.keeps fun o e => (hs.2 a (ne a ha)).trans e⟩, H₀.adsub, H.adnd, H.names, H.kind, H.glob, H.blt, ⟨m, hm.sameBut hs (ne _ H₀.lav.1), fun i p e => ?_⟩, H₀.lav, fun x c e => ?_, H.celn, H.apart, ?_,
    ⟨H.sg.len, fun i b m i1 i2 => (H.sg.at_ i b m i1 i2).to (fun o e => (hs.2 b (ne b (H₀.adsub b (List.mem_of_getElem? i1)))).trans e) fun b o n e => ⟨(hs.2 b fun q => n (q ▸ .head _)).trans e, fun q => n (.tail _ q)⟩⟩, H.hh, H.dep, H.un⟩
  · rw [q] at e
    rw [H₀.stays L o e] at hL; cases hL
  · obtain ⟨x, hx, q⟩ := hv i p e
    refine ⟨x, hx, ?_⟩
    rcases q with ⟨h1, v, h2, h3⟩ | ⟨h1, c, v, h2, h3, h4⟩
    · exact .inl ⟨h1, v, h2, h3.skipOne hs⟩
    · exact .inr ⟨h1, c, v, h2, h3.sameBut hs (ne c (H₀.cel x c h2).1), h4.skipOne hs⟩
  · obtain ⟨h1, h2, h3, _⟩ := H₀.cel x c e
    obtain ⟨_, _, _, v, h4⟩ := H.cel x c e
    exact ⟨h1, h2, h3, v, h4.sameBut hs (ne c h1)⟩
  · obtain ⟨fl, e, q⟩ := H₀.fr
    obtain ⟨fl', e', q'⟩ := H.fr
    rw [e] at e'; cases e'
    refine ⟨fl, e, fun f hf => ?_⟩
    obtain ⟨h1, L', m, h2, h3, h4, h5⟩ := q f hf
    obtain ⟨_, L'', m', h2', h3', _, _⟩ := q' f hf
    rw [h2] at h2'; cases h2'
    exact ⟨h1, L', m', h2, h3'.sameBut hs (ne _ h4), h4, h5⟩
/- x = [...] on one line: the store stands inside -/
theorem s_setC {x : Str} {px spos : Pos} {i : Nat} {scope : Scope} {caps : List Nat} {cn tn : List Str} (ok : CompOk nm vs scope caps cn) {target iter elt : Expr} {ifs : List Expr} {pos : Pos}
    {it : Rho → Sto → R (List PV)} {g : PV → Rho → Option Rho} {t : Rho → Sto → R Bool} {f : Rho → Sto → R PV}
    {Tg : Expr → Prop} (hit : SI C k nm vs Tg iter it) (ht : SAL C k (relab nm scope.names) (cn ++ tn) target g) (hi : STi C k (relab nm scope.names) (cn ++ tn) ifs t) (hf : SE C k (relab nm scope.names) (cn ++ tn) elt f)
    (nd : vs.Nodup) (hx : vs[i]? = some x) (hk : nm.lookup x = some .local) (hline : (px.line == pos.line) = true) (hno : (scope.names.any fun p => p.1 == x && (p.2 == .local || p.2 == .cell)) = false)
    (hs : ∀ env x, foldedSetIterable iter env x = pure x := by intro _ _; rfl) (htg : Tg target := by first | exact trivial | exact ⟨_, _, _, rfl⟩) : SS C k nm vs (.Assign [.Name x px] (.ListComp elt [⟨target, iter, ifs, 0⟩] scope pos) spos) (xSet i (cComp caps tn.length it g t (cpElt f))) := by
  refine ⟨?_⟩
  intro ρ σ A env s ad av H hb Q E K
  have hsw : swapsWith (.ListComp elt [⟨target, iter, ifs, 0⟩] scope pos) (some (.Name x px)) spos.line env = pure true := by
    show (pure (env.blockKind == .function && env.kindOf x == some .local && px.line == pos.line && !(scope.names.any fun (n, k) => n == x && (k == .local || k == .cell))) : Sem Bool) = pure true
    have h1 : env.blockKind = .function := by unfold Env.blockKind; rw [H.kind]; rfl
    have h2 : env.kindOf x = some .local := by unfold Env.kindOf; rw [H.names]; exact hk
    rw [h1, h2, hline, hno]; rfl
  obtain ⟨p, σ', e⟩ : ∃ p σ', cComp caps tn.length it g t (cpElt f) ρ σ = .val p σ' := by
    unfold xSet at hb
    cases q : cComp caps tn.length it g t (cpElt f) ρ σ with
    | bad => rw [q] at hb; exact absurd rfl hb
    | val p σ' => exact ⟨p, σ', rfl⟩
    | exc σ' =>
      exfalso
      unfold cComp at q
      cases q1 : it ρ σ with
      | bad => rw [q1] at q; cases q
      | exc σ => rw [q1] at q; cases q
      | val a σ =>
        rw [q1] at q
        dsimp only [R.quiet_val, R.bind_val] at q
        cases q2 : cpFold g t (cpElt f) a [] (caps.map (fun i => (ρ[i]?).join) ++ List.replicate tn.length none) σ with
        | bad => rw [q2] at q; cases q
        | exc σ => rw [q2] at q; cases q
        | val b σ =>
          rw [q2] at q
          dsimp only [R.quiet_val, R.bind_val] at q
          split at q <;> cases q
  have K' : KonX C k nm vs A env s ad av (.val (.nxt (ρ.set i (some p))) σ') Q E := by
    have : xSet i (cComp caps tn.length it g t (cpElt f)) ρ σ = .val (.nxt (ρ.set i (some p))) σ' := by unfold xSet; rw [e]; rfl
    rw [this] at K; exact K
  rw [exec_Assign_Name_used _ _ _ _ hsw]
  refine wpAny_bind (wpAny_standAt (wpAny_bind ?_))
  show wpAny _ A (do let _ ← comprehension (.ListComp elt [⟨target, iter, ifs, 0⟩] scope pos) scope env _ (newList []) false (eval iter env) (some (assign (.Name x px) env))) _ _ s
  refine wpAny_bind (wpAny_mono (comp_ok (use := some (assign (.Name x px) env)) (Q := fun _ s' => Q .next s') ok htg hit ht hi (em_elt hf) (fun _ _ _ _ => turn_one) hs H e fun D L s' m' rp n sg hL hm => ?_) (fun _ s' hq => wpAny_pure (wpAny_pure hq)) fun _ _ e => e)
  have Hw := H.wide n hL  sg (live_ns hm)
  have hLL : env.locals ≠ L := fun q => (H.above _ H.lav.1).2.ne (q ▸ hL)
  show wpAny _ A (assign (.Name x px) env (.ref D)) _ _ _
  refine wpAny_assign_Name (store_ok' Hw nd hx (.inl hk) rp fun s'' H'' a'' same => ?_)
  have hm'' : s''.heap.Ns L m' := by
    obtain ⟨o, es, ep, e, r⟩ := hm
    exact ⟨o, es, ep, (same hk L (Ne.symm hLL)).trans e, r⟩
  refine ⟨m', hm'', fun h' hs' => ?_⟩
  have Hn := H.narrow (tk := s''.toks) hL H'' hs'
  refine K'.nx _ _ _ _ _ rfl Hn ?_
  have ne : ∀ b ∈ av, b ≠ L := fun b hb q => (H.above b hb).2.ne (q ▸ hL)
  refine ⟨?_, ⟨[], [], by simp, by simp, by simp, by simp⟩, fun b hb e => (a''.lv b (.tail _ hb) (n.kp.lv b hb e)).keeps fun o e => (hs'.2 b (ne b hb)).trans e, fun b o hb e => ?_, fun b h1 h2 h3 h4 m e => ?_, fun b h1 h2 h3 h4 v e => ?_, fun b h1 h2 h3 h4 v e => ?_⟩
  · obtain ⟨h1, t1, rfl⟩ := n.sh; obtain ⟨h2, t2, rfl⟩ := a''.sh; exact ⟨h', t2, rfl⟩
  · have hbL : b ≠ L := fun q => by rw [q, hL] at e; cases e
    exact (hs'.2 b hbL).trans (a''.kp b o (fun q => (List.mem_cons.mp q).elim hbL hb) (n.kp.kp b o hb e))
  · exact (a''.ns b (.tail _ h1) h2 h3 h4 m (n.kp.ns b h1 h2 m e)).sameBut hs' (ne b h1)
  · exact (a''.cl b (.tail _ h1) h2 h3 h4 v (n.kp.cl b h1 h2 v e)).sameBut hs' (ne b h1)
  · obtain ⟨o, e', r⟩ := a''.li b (.tail _ h1) h2 h3 h4 v (n.kp.li b h1 h2 v e)
    exact ⟨o, (hs'.2 b (ne b h1)).trans e', r⟩
end
end Mine.Internal
/- G14 -/
namespace Mine.Internal
section
variable {C : Cx} {k : Nat} {nm : List (Str × NameKind)} {vs : List Str}
noncomputable def cBad : Rho → Sto → R PV := fun _ _ => .bad
theorem e_bad {e : Expr} : SE C k nm vs e cBad := ⟨fun ρ σ A env s ad av H hb => absurd rfl hb⟩
noncomputable def xBad : Rho → Sto → R Ou := fun _ _ => .bad
theorem s_bad {st : Stmt} : SS C k nm vs st xBad := ⟨fun ρ σ A env s ad av H hb => absurd rfl hb⟩
/- ## Lists: plus, times -/
noncomputable def cPlus (f g : Rho → Sto → R PV) : Rho → Sto → R PV := fun ρ σ => (f ρ σ).bind fun a σ => (g ρ σ).bind fun b σ => match a, b with
  | .lst xs, .lst ys => if xs.length + ys.length ≤ 1000000 then .val (.lst (xs ++ ys)) σ else .bad
  | _, _ => .bad
theorem plus_inv {a b : PV} {σ : Sto} (h : (match a, b with
  | .lst xs, .lst ys => if xs.length + ys.length ≤ 1000000 then R.val (PV.lst (xs ++ ys)) σ else .bad
  | _, _ => .bad) ≠ .bad) : ∃ xs ys, a = .lst xs ∧ b = .lst ys ∧ xs.length + ys.length ≤ 1000000 := by
  split at h
  · split at h
    · rename_i xs ys hz; exact ⟨xs, ys, rfl, rfl, hz⟩
    · exact absurd rfl h
  · exact absurd rfl h
theorem e_plus {l r : Expr} {pos : Pos} {f g : Rho → Sto → R PV} (hl : SE C k nm vs l f) (hr : SE C k nm vs r g) : SE C k nm vs (.BinOp l .Add r pos) (cPlus f g) := by
  refine ⟨?_⟩
  intro ρ σ A env s ad av H hb Q E K
  refine wpAny_BinOp ((hl.run ρ σ A env s ad av H).seq hb K fun a s₁ p σ₁ ra n₁ hb K => ?_)
  have H₁ := H.next n₁
  refine (hr.run ρ σ₁ A env s₁ ad av H₁).seq hb K fun b s₂ q σ₂ rb n₂ hb K => ?_
  have H₂ := H₁.next n₂
  have ra := ra.keep n₂.kp
  have KF := K
  clear K
  obtain ⟨xs, ys, rfl, rfl, hz⟩ := plus_inv hb
  obtain ⟨a, vs, rfl, h1, _, h3⟩ := ra.lst_inv
  obtain ⟨b, ws, rfl, i1, _, i3⟩ := rb.lst_inv
  dsimp only at KF
  rw [if_pos hz] at KF
  have l1 := h3.length
  have l2 := i3.length
  obtain ⟨⟨cls, dd, data, sl⟩, ho, hc, n, hd⟩ := id h1
  obtain ⟨⟨cls2, dd2, data2, sl2⟩, ho2, hc2, n2, hd2⟩ := id i1
  simp only at hc hd hc2 hd2
  subst hc hd hc2 hd2
  have e : vs.toArray ++ ws.toArray = (vs ++ ws).toArray := by simp
  refine concat_meets ⟨_, ho, rfl⟩ ⟨_, ho2, rfl⟩ noFill_list_add seq_list_add PySem.F.slot_list_add PySem.F.entry_list_add (PySem.F.args_list_add_2 _ _) (list_addW _ _ vs.toArray ws.toArray n n2 dd dd2 sl sl2 (by simp; exact Nat.le_trans (by omega) (show 1000000 ≤ sizeLine by decide))) ⟨ho, ho2, ?_⟩
  rw [e]
  exact KF.ok _ _ _ _ rfl (.lst ⟨_, Heap.get?_push_size _ rfl, rfl, _, rfl⟩ (H₂.fresh (Nat.le_refl _)) ((h3.append i3).keep (ad0 := []) (.push _))) (.push H₂ _)
noncomputable def cRep (f : Rho → Sto → R (List PV)) (g : Rho → Sto → R PV) : Rho → Sto → R PV := fun ρ σ => (f ρ σ).bind fun xs σ => if xs.length ≤ 1000 then (g ρ σ).bind fun b σ => match b with
  | .int n => if 0 ≤ n ∧ n ≤ 1000 then .val (.lst (List.replicate n.toNat xs).flatten) σ else .bad
  | _ => .bad
  else .bad
theorem flat_reps {h : Heap} {ad av : List Addr} {vals : List Value} {xs : List PV} (r : Reps h ad av vals xs) : ∀ n, Reps h ad av (List.replicate n vals).flatten (List.replicate n xs).flatten
  | 0 => .nil
  | n + 1 => by rw [List.replicate_succ, List.replicate_succ, List.flatten_cons, List.flatten_cons]; exact r.append (flat_reps r n)
theorem fold_flat (items : Array Value) : ∀ n, List.foldl (fun x1 x2 => x1 ++ x2) #[] (List.replicate n items) = (List.replicate n items.toList).flatten.toArray := by
  have key : ∀ (n : Nat) (acc : Array Value), List.foldl (fun x1 x2 => x1 ++ x2) acc (List.replicate n items) = acc ++ (List.replicate n items.toList).flatten.toArray := by
    intro n
    induction n with
    | zero => intro acc; simp
    | succ n ih => intro acc; rw [List.replicate_succ, List.foldl_cons, ih, List.replicate_succ, List.flatten_cons]; apply Array.ext'; simp
  intro n; rw [key]; simp
theorem rep_inv {b : PV} {xs : List PV} {σ : Sto} (h : (match b with
  | .int n => if 0 ≤ n ∧ n ≤ 1000 then R.val (PV.lst (List.replicate n.toNat xs).flatten) σ else .bad
  | _ => .bad) ≠ .bad) : ∃ n, b = .int n ∧ 0 ≤ n ∧ n ≤ 1000 := by
  split at h
  · split at h
    · rename_i n hz; exact ⟨n, rfl, hz⟩
    · exact absurd rfl h
  · exact absurd rfl h
theorem e_rep {es : List Expr} {lp : Pos} {r : Expr} {pos : Pos} {f : Rho → Sto → R (List PV)} {g : Rho → Sto → R PV} (hl : SEs C k nm vs es f) (hr : SE C k nm vs r g) : SE C k nm vs (.BinOp (.List es lp) .Mult r pos) (cRep f g) := by
  refine ⟨?_⟩
  intro ρ σ A env s ad av H hb Q E K
  refine wpAny_BinOp (wpAny_List ((hl.run ρ σ A env s ad av lp H).seq hb K fun vals s₁ xs σ₁ ra n₁ hb K => ?_))
  have H₁ := H.next n₁
  have l1 := ra.length
  split at hb
  case isFalse => exact absurd rfl hb
  rename_i hz
  rw [if_pos hz] at K
  refine ⟨Nat.le_trans (by omega) (show 1000 ≤ sizeLine by decide), ?_⟩
  have N : Nxt ad av s₁ σ₁ { s₁ with heap := s₁.heap.push { cls := .type "list", data := .seq vals.toArray } } := .push H₁ _
  have H₂ := H₁.next N
  have hL : s₁.heap.objs.size ∉ av := H₁.fresh (Nat.le_refl _)
  have K₂ : Kon A ad av { s₁ with heap := s₁.heap.push { cls := .type "list", data := .seq vals.toArray } } ((g ρ σ₁).bind fun b σ => match b with
      | .int n => if 0 ≤ n ∧ n ≤ 1000 then R.val (.lst (List.replicate n.toNat xs).flatten) σ else .bad
      | _ => .bad) (RP ad av) Q E := ⟨fun a s' b σ' e p n => K.ok a s' b σ' e p (N.trans n), fun x s' σ' e q => K.ex x s' σ' e (q.before N)⟩
  refine (hr.run ρ σ₁ A env _ ad av H₂).seq hb K₂ fun b s₃ q σ₃ rb n₃ hb K => ?_
  have H₃ := H₂.next n₃
  have KF := K
  clear K
  obtain ⟨x, rfl, hx⟩ := rep_inv hb
  obtain ⟨u, rfl⟩ := rb.int_inv
  dsimp only at KF
  rw [if_pos hx] at KF
  have ho : s₃.heap.get? s₁.heap.objs.size = some { cls := .type "list", dict := none, data := .seq vals.toArray 0, slots := #[] } := n₃.kp.kp _ _ hL (Heap.get?_push_size _ rfl)
  have rr : Reps s₃.heap ad av vals xs := (ra.keep N.kp).keep n₃.kp
  have fin : ∀ s' : Shared, s' = { s₃ with heap := s₃.heap.push { cls := .type "list", data := .seq (List.foldl (fun x1 x2 => x1 ++ x2) #[] (List.replicate (if vals.toArray.isEmpty = true then 0 else x.toNat) vals.toArray)) } } → Q (.ref s₃.heap.objs.size) s' := by
    rintro s' rfl
    have e : List.foldl (fun x1 x2 => x1 ++ x2) #[] (List.replicate (if vals.toArray.isEmpty = true then 0 else x.toNat) vals.toArray) = (List.replicate x.toNat vals).flatten.toArray := by
      rw [fold_flat]
      cases vals with
      | nil => simp
      | cons v vs => simp
    rw [e]
    exact KF.ok _ _ _ _ rfl (.lst ⟨_, Heap.get?_push_size _ rfl, rfl, _, rfl⟩ (H₃.fresh (Nat.le_refl _)) ((flat_reps rr _).keep (ad0 := []) (.push _))) (.push H₃ _)
  have hsz : vals.toArray.size * x.toNat ≤ 2 ^ 24 := by
    rw [List.size_toArray]
    have : vals.length * x.toNat ≤ 1000 * 1000 := Nat.mul_le_mul (by omega) (by omega)
    omega
  exact wpAny_binaryOp_repeat_ref (T := "list") (U := "int") (by decide) ⟨_, ho, rfl⟩ (fun s' => typeIs_int s' x u) noFill_list_mul F.fills_int_mul F.slot_int_rmul repeat_list F.slot_int_index.lookup
    (call_meets F.slot_int_rmul (typeIs_int _ x u) F.entry_int_rmul (F.args_int_rmul_2 _ _) (int___rmul___int_list x u _ vals.toArray 0)
      ⟨ho, rfl, ⟨_, ho, rfl⟩, call_meets F.slot_list_mul ⟨_, ho, rfl⟩ F.entry_list_mul (F.args_list_mul_2 _ _)
        (AutoListH.list___mul___list_int_3 _ vals.toArray 0 x u (by simp [Builtin.List.listFitsIndex]; omega) (by omega) (by simp [Builtin.List.listTooLong, sizeLine]; omega))
        ⟨ho, fin _ rfl⟩⟩)
/- ## sum, all -/
noncomputable def sumP : List PV → Option Int
  | [] => some 0
  | .int i :: r => (sumP r).map (i + ·)
  | _ => none
noncomputable def allP : List PV → Option Bool
  | [] => some true
  | .bool b :: r => (allP r).map (b && ·)
  | _ => none
noncomputable def bSum : Sto → List PV → Option PV := fun _ ps => arg1 ps fun a => pvL a fun xs => (sumP xs).map .int
noncomputable def bAll : Sto → List PV → Option PV := fun _ ps => arg1 ps fun a => pvL a fun xs => (allP xs).map .bool
theorem sumP_pre : ∀ {xs : List PV} {t : Int}, sumP xs = some t → preSum (fun i => match xs[i]? with | some (.int j) => j | _ => 0) xs.length = t ∧ ∀ (i : Nat) p, xs[i]? = some p → ∃ j, p = .int j := by
  have pre : ∀ (f g : Nat → Int) n, (∀ i, i < n → f (i + 1) = g i) → preSum f (n + 1) = f 0 + preSum g n := by
    intro f g n
    induction n with
    | zero => intro _; show preSum f 0 + f 0 = _; simp [preSum]
    | succ n ih =>
      intro h
      show preSum f (n + 1) + f (n + 1) = f 0 + (preSum g n + g n)
      rw [ih fun i hi => h i (by omega), h n (by omega)]; omega
  intro xs
  induction xs with
  | nil => intro t e; cases e; exact ⟨rfl, fun i p h => by simp at h⟩
  | cons x r ih =>
    intro t e
    cases x <;> first | (cases e; done) | skip
    rename_i j
    obtain ⟨t', h', rfl⟩ := Option.map_eq_some_iff.mp e
    obtain ⟨q1, q2⟩ := ih h'
    refine ⟨?_, fun i p h => ?_⟩
    · rw [List.length_cons, pre _ (fun i => match r[i]? with | some (.int j) => j | _ => 0) r.length (fun i _ => by rw [List.getElem?_cons_succ]), q1]; rfl
    · cases i with
      | zero => cases h; exact ⟨_, rfl⟩
      | succ i => exact q2 i p h
theorem allP_all : ∀ {xs : List PV} {t : Bool}, allP xs = some t → (List.range xs.length).all (fun i => match xs[i]? with | some (.bool j) => j | _ => false) = t ∧ ∀ (i : Nat) p, xs[i]? = some p → ∃ j, p = .bool j := by
  intro xs
  induction xs with
  | nil => intro t e; cases e; exact ⟨rfl, fun i p h => by simp at h⟩
  | cons x r ih =>
    intro t e
    cases x <;> first | (cases e; done) | skip
    rename_i j
    obtain ⟨t', h', rfl⟩ := Option.map_eq_some_iff.mp e
    obtain ⟨q1, q2⟩ := ih h'
    refine ⟨?_, fun i p h => ?_⟩
    · rw [List.length_cons, List.range_succ_eq_map, List.all_cons, List.all_map, ← q1]
      rfl
    · cases i with
      | zero => cases h; exact ⟨_, rfl⟩
      | succ i => exact q2 i p h
theorem sum_ok : BOk C 1 "sum" bSum := by
  intro nm vs ρ σ A env s ad av vals ps H rp
  refine giv_of fun p e Q E K => ?_
  obtain ⟨_, rfl, e1⟩ := arg1_inv e
  obtain ⟨xs, rfl, e2⟩ := pvL_inv e1
  · obtain ⟨t, ht, rfl⟩ := Option.map_eq_some_iff.mp e2
    obtain ⟨v, rfl, r0⟩ := rp.one
    obtain ⟨q1, q2⟩ := sumP_pre ht
    obtain ⟨a, ws, rfl, h1, h2, h3⟩ := r0.lst_inv
    have hlt : a ≠ s.heap.objs.size := by obtain ⟨o, ho, _⟩ := h1; exact Nat.ne_of_lt (Heap.lt_size ho)
    have hl := h3.length
    refine call_sum_walkG (wpAny_pyIter_list h1 ⟨_, _, _, _, _, _, (fun i => match xs[i]? with | some (.int j) => j | _ => 0), rfl, Walks.list (A := A.in1) (H.hh (by decide)) s.heap.objs.size a hlt ws.toArray, ⟨⟨_, Heap.get?_push_size _ rfl, rfl, rfl⟩, h1.push _⟩, fun b hb => ?_, fun i v hv => ?_, fun h' tk t' hk => ?_⟩)
    · show b < (s.heap.push _).objs.size
      rw [Heap.size_push]
      rcases List.mem_cons.mp hb with rfl | hb
      · exact Nat.lt_succ_self _
      · rw [List.mem_singleton.mp hb]; obtain ⟨o, ho, _⟩ := h1; exact Nat.lt_succ_of_lt (Heap.lt_size ho)
    · obtain ⟨p, hp, rp⟩ := h3.get' (i := i) (by simpa using hv)
      obtain ⟨j, rfl⟩ := q2 i p hp
      obtain ⟨t, rfl⟩ := rp.int_inv
      exact ⟨t, by simp only [hp]⟩
    · rw [List.size_toArray, hl, q1]
      exact K _ _ (.int _ _) (.all H (old_kept hk))
theorem all_ok : BOk C 1 "all" bAll := by
  intro nm vs ρ σ A env s ad av vals ps H rp
  refine giv_of fun p e Q E K => ?_
  obtain ⟨_, rfl, e1⟩ := arg1_inv e
  obtain ⟨xs, rfl, e2⟩ := pvL_inv e1
  · obtain ⟨t, ht, rfl⟩ := Option.map_eq_some_iff.mp e2
    obtain ⟨v, rfl, r0⟩ := rp.one
    obtain ⟨q1, q2⟩ := allP_all ht
    obtain ⟨a, ws, rfl, h1, h2, h3⟩ := r0.lst_inv
    have hlt : a ≠ s.heap.objs.size := by obtain ⟨o, ho, _⟩ := h1; exact Nat.ne_of_lt (Heap.lt_size ho)
    have hl := h3.length
    refine call_all_walk (wpAny_pyIter_list h1 ⟨_, _, _, _, _, _, (fun i => match xs[i]? with | some (.bool j) => j | _ => false), rfl, Walks.list (A := A.in1) (H.hh (by decide)) s.heap.objs.size a hlt ws.toArray, ⟨⟨_, Heap.get?_push_size _ rfl, rfl, rfl⟩, h1.push _⟩, fun i v s' Q' E' hv hq => ?_, fun h' tk hk => ?_⟩)
    · obtain ⟨p, hp, rp⟩ := h3.get' (i := i) (by simpa using hv)
      obtain ⟨j, rfl⟩ := q2 i p hp
      cases rp
      simp only [hp] at hq
      exact wpAny_truthy_bool hq
    · rw [List.size_toArray, hl, q1]
      exact K _ _ (.bool _) (.all H (old_kept hk))
end
end Mine.Internal
/- G15 -/
namespace Mine.Internal
section
variable {C : Cx} {k : Nat} {nm : List (Str × NameKind)} {vs : List Str}
noncomputable def lstripL (cs l : List Nat) : List Nat := l.dropWhile fun c => cs.contains c
noncomputable def stripL (cs l : List Nat) : List Nat := ((lstripL cs l).reverse.dropWhile fun c => cs.contains c).reverse
noncomputable def bLstrip : Sto → List PV → Option PV := fun _ ps => arg2 ps fun a b => ss a b fun l cs => if l.length ≤ 1000000 then some (.str (lstripL cs l)) else none
noncomputable def bStrip : Sto → List PV → Option PV := fun _ ps => arg2 ps fun a b => ss a b fun l cs => if l.length ≤ 1000000 then some (.str (stripL cs l)) else none
theorem drop_takeWhile {α : Type} (p : α → Bool) : ∀ l : List α, l.drop (l.takeWhile p).length = l.dropWhile p
  | [] => rfl
  | x :: l => by
    rw [List.takeWhile_cons, List.dropWhile_cons]
    cases p x with
    | true => simpa using drop_takeWhile p l
    | false => simp
theorem take_back {α : Type} (p : α → Bool) (m : List α) : m.take (m.length - (m.reverse.takeWhile p).length) = (m.reverse.dropWhile p).reverse := by
  rw [← drop_takeWhile, List.reverse_drop]
  simp
theorem contains_arr (cs : List Nat) : (fun c => (toStr cs).cps.contains c) = fun c => cs.contains c := by funext c; simp
theorem lstrip_eq (l cs : List Nat) : Txt.lstripChars (toStr l) (toStr cs) = toStr (lstripL cs l) := by
  have hg : ((toStr cs).cps.contains : Nat → Bool) = fun c => cs.contains c := contains_arr cs
  unfold Txt.lstripChars Txt.stripBy
  rw [hg]
  have hlo : stripLo (fun c => cs.contains c) true (toStr l) = (l.takeWhile fun c => cs.contains c).length := by simp [stripLo]
  have hs : PySem.stripped (fun c => cs.contains c) true false (toStr l) = toStr (lstripL cs l) := by
    unfold PySem.stripped stripHi
    rw [hlo]
    simp only [Bool.false_eq_true, if_false, toStr_length]
    unfold Builtin.Str.strSub lstripL
    rw [← drop_takeWhile]
    congr 1
    apply Array.ext'
    rw [Array.toList_extract]
    show (l.extract _ _) = _
    rw [List.extract_eq_take_drop]
    exact List.take_of_length_le (by simp)
  split
  · rename_i h
    unfold stripSame at h
    rw [hlo] at h
    simp only [Bool.and_eq_true, beq_iff_eq] at h
    unfold lstripL
    rw [← drop_takeWhile, h.1]; rfl
  · exact hs
theorem strip_eq (l cs : List Nat) : Txt.stripChars (toStr l) (toStr cs) = toStr (stripL cs l) := by
  have hg : ((toStr cs).cps.contains : Nat → Bool) = fun c => cs.contains c := contains_arr cs
  unfold Txt.stripChars Txt.stripBy
  rw [hg]
  have hlo : stripLo (fun c => cs.contains c) true (toStr l) = (l.takeWhile fun c => cs.contains c).length := by simp [stripLo]
  have hhi : stripHi (fun c => cs.contains c) true (toStr l) (l.takeWhile fun c => cs.contains c).length = l.length - ((lstripL cs l).reverse.takeWhile fun c => cs.contains c).length := by
    unfold stripHi lstripL
    rw [← drop_takeWhile, toStr_length]; rfl
  have hle : (lstripL cs l).length = l.length - (l.takeWhile fun c => cs.contains c).length := by unfold lstripL; rw [← drop_takeWhile]; simp
  have hle2 : ((lstripL cs l).reverse.takeWhile fun c => cs.contains c).length ≤ (lstripL cs l).length := by
    have := (List.takeWhile_sublist (fun c => cs.contains c) (l := (lstripL cs l).reverse)).length_le
    simpa using this
  have hs : PySem.stripped (fun c => cs.contains c) true true (toStr l) = toStr (stripL cs l) := by
    unfold PySem.stripped
    rw [hlo, hhi]
    unfold Builtin.Str.strSub stripL
    rw [← take_back]
    congr 1
    apply Array.ext'
    rw [Array.toList_extract]
    show (l.extract _ _) = _
    rw [List.extract_eq_take_drop]
    have : lstripL cs l = l.drop (l.takeWhile fun c => cs.contains c).length := by unfold lstripL; rw [← drop_takeWhile]
    rw [← this, hle]
    show _ = List.take _ (lstripL cs l)
    rw [Nat.sub_right_comm]
  split
  · rename_i h
    unfold stripSame at h
    rw [hlo, hhi] at h
    simp only [Bool.and_eq_true, beq_iff_eq, toStr_length] at h
    unfold stripL
    rw [← take_back]
    have h1 : lstripL cs l = l := by unfold lstripL; rw [← drop_takeWhile, h.1]; rfl
    have h2 : ((lstripL cs l).reverse.takeWhile fun c => cs.contains c).length = 0 := by rw [h1] at hle2 ⊢; rw [h1] at h; omega
    rw [h2, h1]
    simp
  · exact hs
theorem lstrip_ok : BOk C 0 "str.lstrip" bLstrip := by
  intro nm vs ρ σ A env s ad av vals ps H rp
  refine giv_of fun p e Q E K => ?_
  obtain ⟨_, _, rfl, e1⟩ := arg2_inv e
  obtain ⟨l, cs, rfl, rfl, e2⟩ := ss_inv e1
  obtain ⟨hl, rfl⟩ := iff_inv e2
  · obtain ⟨v, w, rfl, r0, r1⟩ := rp.two
    obtain ⟨t, rfl⟩ := r0.str_inv
    obtain ⟨u, rfl⟩ := r1.str_inv
    refine SC.lstripChars (fun t' k => ?_) (by rw [toStr_length]; exact Nat.le_trans hl (by decide))
    rw [lstrip_eq]
    exact K _ _ (.str _ _) (.toks H _)
theorem strip_ok : BOk C 0 "str.strip" bStrip := by
  intro nm vs ρ σ A env s ad av vals ps H rp
  refine giv_of fun p e Q E K => ?_
  obtain ⟨_, _, rfl, e1⟩ := arg2_inv e
  obtain ⟨l, cs, rfl, rfl, e2⟩ := ss_inv e1
  obtain ⟨hl, rfl⟩ := iff_inv e2
  · obtain ⟨v, w, rfl, r0, r1⟩ := rp.two
    obtain ⟨t, rfl⟩ := r0.str_inv
    obtain ⟨u, rfl⟩ := r1.str_inv
    refine SC.stripChars (fun t' k => ?_) (by rw [toStr_length]; exact Nat.le_trans hl (by decide))
    rw [strip_eq]
    exact K _ _ (.str _ _) (.toks H _)
noncomputable def lowc (c : Nat) : Nat := if 65 ≤ c ∧ c ≤ 90 then c + 32 else c
noncomputable def bLower : Sto → List PV → Option PV := fun _ ps => arg1 ps fun a => pvS a fun l => arg1 l fun c => if c < 128 then some (.str [lowc c]) else none
theorem low_all : ∀ c, c < 128 → Txt.lower ⟨#[c]⟩ = ⟨#[lowc c]⟩ := by decide +kernel
theorem lower_ok : BOk C 0 "str.lower" bLower := by
  intro nm vs ρ σ A env s ad av vals ps H rp
  refine giv_of fun p e Q E K => ?_
  obtain ⟨_, rfl, e1⟩ := arg1_inv e
  obtain ⟨_, rfl, e2⟩ := pvS_inv e1
  obtain ⟨c, rfl, e3⟩ := arg1_inv e2
  obtain ⟨hl, rfl⟩ := iff_inv e3
  · obtain ⟨v, rfl, r0⟩ := rp.one
    obtain ⟨t, rfl⟩ := r0.str_inv
    have hc := low_all c hl
    refine SC.lower (by show Builtin.Str.tooLong (Txt.lower ⟨#[c]⟩).length = false; rw [hc]; rfl) ?_
    show Q (.str (Txt.lower ⟨#[c]⟩) _) _
    rw [hc]
    exact K _ _ (.str [lowc c] _) (.toks H _)
noncomputable def lit36 : List Nat := [48, 49, 50, 51, 52, 53, 54, 55, 56, 57, 97, 98, 99, 100, 101, 102, 103, 104, 105, 106, 107, 108, 109, 110, 111, 112, 113, 114, 115, 116, 117, 118, 119, 120, 121, 122]
noncomputable def placeOf (c : Nat) : Int := if 48 ≤ c ∧ c ≤ 57 then (c : Int) - 48 else if 97 ≤ c ∧ c ≤ 122 then (c : Int) - 87 else -1
noncomputable def bFind : Sto → List PV → Option PV := fun _ ps => arg2 ps fun a b => ss a b fun l m => arg1 m fun c => if (l == lit36 && decide (c < 128)) = true then some (.int (placeOf c)) else none
theorem find_all : ∀ c, c < 128 → Txt.find (toStr lit36) ⟨#[c]⟩ = placeOf c := by decide +kernel
theorem find_ok : BOk C 0 "str.find" bFind := by
  intro nm vs ρ σ A env s ad av vals ps H rp
  refine giv_of fun p e Q E K => ?_
  obtain ⟨_, _, rfl, e1⟩ := arg2_inv e
  obtain ⟨l, m, rfl, rfl, e2⟩ := ss_inv e1
  obtain ⟨c, rfl, e3⟩ := arg1_inv e2
  obtain ⟨hl, rfl⟩ := iff_inv e3
  · simp only [Bool.and_eq_true, beq_iff_eq, decide_eq_true_eq] at hl
    obtain ⟨v, w, rfl, r0, r1⟩ := rp.two
    obtain ⟨t, rfl⟩ := r0.str_inv
    obtain ⟨u, rfl⟩ := r1.str_inv
    have hc := find_all c hl.2
    refine SC.find ?_
    rw [hl.1]
    show Q (.int (Txt.find (toStr lit36) ⟨#[c]⟩) _) _
    rw [hc]
    exact K _ _ (.int _ _) (.toks H _)
noncomputable def strsP : List PV → Option (List (List Nat))
  | [] => some []
  | .str l :: r => (strsP r).map (l :: ·)
  | _ => none
noncomputable def moL (m : MO) : Option (List PV) := match m with
  | .lst xs => some xs
  | _ => none
noncomputable def lstOf (σ : Sto) (p : PV) : Option (List PV) := match p with
  | .lst xs => some xs
  | .mref j => (σ[j]?).bind moL
  | _ => none
noncomputable def bJoin : Sto → List PV → Option PV := fun σ ps => arg2 ps fun a q => pvS a fun l => if l.isEmpty = true then (lstOf σ q).bind fun xs => (strsP xs).bind fun ls => if ls.flatten.length ≤ 1000000 then some (.str ls.flatten) else none else none
theorem strsP_are {h : Heap} {ad av : List Addr} : ∀ {xs : List PV} {ls : List (List Nat)} {vals : List Value}, strsP xs = some ls → Reps h ad av vals xs → StrsAre vals (ls.map toStr)
  | [], ls, _, e, rs => by cases e; cases rs; exact .nil
  | x :: r, ls, _, e, rs => by
    obtain ⟨_, _, r0, rs', rfl⟩ := rs.cons_inv
    cases x <;> first | (cases e; done) | skip
    obtain ⟨ls', h', rfl⟩ := Option.map_eq_some_iff.mp e
    obtain ⟨t, rfl⟩ := r0.str_inv
    exact .cons _ _ (strsP_are h' rs')
theorem join_flat : ∀ ls : List (List Nat), Txt.join (toStr []) (ls.map toStr) = toStr ls.flatten := by
  intro ls
  unfold Txt.join
  rw [StrLaws.glued_eq_join]
  induction ls with
  | nil => rfl
  | cons l r ih => cases r with
    | nil => simp [Str.join]
    | cons m r =>
      show toStr l ++ toStr [] ++ Str.join (toStr []) (toStr m :: r.map toStr) = _
      rw [List.map_cons] at ih
      rw [ih, toStr_append, toStr_append]
      simp
theorem join_ok : BOk C 0 "str.join" bJoin := by
  intro nm vs ρ σ A env s ad av vals ps H rp
  refine giv_of fun p e Q E K => ?_
  obtain ⟨_, q, rfl, e1⟩ := arg2_inv e
  obtain ⟨l, rfl, e2⟩ := pvS_inv e1
  obtain ⟨hl0, e3⟩ : l = [] ∧ (lstOf σ q).bind (fun xs => (strsP xs).bind fun ls => if ls.flatten.length ≤ 1000000 then some (.str ls.flatten) else none) = some p := by
    cases l with
    | nil => exact ⟨rfl, e2⟩
    | cons _ _ => cases e2
  subst hl0
  obtain ⟨xs, hxs, e4⟩ := Option.bind_eq_some_iff.mp e3
  obtain ⟨ls, hls, e5⟩ := Option.bind_eq_some_iff.mp e4
  obtain ⟨hl, rfl⟩ := iff_inv e5
  obtain ⟨v, w, rfl, r0, r1⟩ := rp.two
  obtain ⟨t, rfl⟩ := r0.str_inv
  have main : ∀ (a : Addr) (ws : List Value) (ad' : List Addr), s.heap.IsList a ws.toArray → Reps s.heap ad' av ws xs → wpAny C.M A (call (.builtin "str.join") [.str (toStr []) t, .ref a]) Q E s := by
    intro a ws ad' h1 h3
    have hsum : ((ls.map toStr).map (·.length)).sum = ls.flatten.length := by
      rw [List.map_map, List.length_flatten]
      exact congrArg List.sum (List.map_congr_left fun l _ => toStr_length l)
    refine join_list h1 (by simpa using strsP_are hls h3) ?_ fun t' k => ?_
    · rw [hsum, toStr_length]; simp only [List.length_nil, Nat.mul_zero, Nat.add_zero]; omega
    · rw [join_flat]
      exact K _ _ (.str _ _) (.toks H _)
  cases q <;> first | (cases hxs; done) | skip
  · first
    | (cases hxs; obtain ⟨a, ws, rfl, h1, h2, h3⟩ := r1.lst_inv; exact main a ws ad h1 h3)
    | (obtain ⟨m, hm, hx⟩ := Option.bind_eq_some_iff.mp hxs; cases m <;> first | (cases hx; done) | skip; cases hx; obtain ⟨a, rfl, hj⟩ := r1.mref_inv; obtain ⟨ws, h1, h3⟩ := H.sg.at_ _ a _ hj hm; exact main a ws [] h1.isList h3)
  · first
    | (cases hxs; obtain ⟨a, ws, rfl, h1, h2, h3⟩ := r1.lst_inv; exact main a ws ad h1 h3)
    | (obtain ⟨m, hm, hx⟩ := Option.bind_eq_some_iff.mp hxs; cases m <;> first | (cases hx; done) | skip; cases hx; obtain ⟨a, rfl, hj⟩ := r1.mref_inv; obtain ⟨ws, h1, h3⟩ := H.sg.at_ _ a _ hj hm; exact main a ws [] h1.isList h3)
end
end Mine.Internal
/- G16 -/
namespace Mine.Internal
section
variable {C : Cx} {k : Nat} {nm : List (Str × NameKind)} {vs : List Str}
/- ## A new place that turns -/
theorem Hyp.grow {ρ : Rho} {σ : Sto} {A : Around} {env : Env} {s s' : Shared} {ad av : List Addr} {D : Addr} {m : MO} (H : Hyp C k nm vs ρ σ A env s ad av) (sh : ∃ h tk, s' = { s with heap := h, toks := tk }) (kp : Keep [] (av.filter (· ∉ ad)) s.heap s'.heap) (hD : s.heap.get? D = none) (lv : Live s'.heap D) (hm : MOk s'.heap (D :: av) D m) :
    Hyp C k nm vs ρ (σ ++ [m]) A env s' (ad ++ [D]) (D :: av) := by
  have hDv : D ∉ av := fun h => (H.above D h).2.ne hD
  have hDa : D ∉ ad := fun h => hDv (H.adsub D h)
  have inF : ∀ b, b ∈ av → b ∉ ad → b ∈ av.filter (· ∉ ad) := fun b h1 h2 => List.mem_filter.mpr ⟨h1, by simpa using h2⟩
  have out : ∀ b, b ∉ av → b ∉ av.filter (· ∉ ad) := fun b h1 h2 => h1 (List.mem_filter.mp h2).1
  have outA : ∀ b, b ∈ ad → b ∉ av.filter (· ∉ ad) := fun b h1 h2 => by simpa [h1] using (List.mem_filter.mp h2).2
  have lvA : ∀ b ∈ av, Live s'.heap b := fun b hb => by
    by_cases h : b ∈ ad
    · exact (H.above b hb).2.keeps fun o e => kp.kp b o (outA b h) e
    · exact kp.lv b (inF b hb h) (H.above b hb).2
  have kpv : ∀ b o, b ∉ av → s.heap.get? b = some o → s'.heap.get? b = some o ∧ b ∉ D :: av := fun b o n e => ⟨kp.kp b o (out b n) e, fun q => by
    rcases List.mem_cons.mp q with rfl | q
    · rw [hD] at e; cases e
    · exact n q⟩
  have up : ∀ {v p}, Rep s.heap ad av v p → Rep s'.heap (ad ++ [D]) (D :: av) v p := fun r => r.to (fun _ _ e => prefix_get e) kpv
  have nadD : ∀ b, b ∈ av → b ∉ ad → b ∉ ad ++ [D] := fun b h1 h2 q => by
    rcases List.mem_append.mp q with q | q
    · exact h2 q
    · exact hDv (List.mem_singleton.mp q ▸ h1)
  obtain ⟨mm, hmm, hv⟩ := H.loc
  have lF := inF _ H.lav.1 H.lav.2
  refine ⟨fun b o e => kp.kp b o (out b fun hb => by rw [(H.above b hb).1] at e; cases e) (H.stays b o e), fun a ha => ?_, fun b hb => ?_, ?_, H.names, H.kind, H.glob, H.blt, ⟨mm, kp.ns _ lF (by simp) _ hmm, fun i p e => ?_⟩, ⟨.tail _ H.lav.1, nadD _ H.lav.1 H.lav.2⟩, fun x c e => ?_, H.celn, H.apart, ?_, ⟨?_, fun i a mo h1 h2 => ?_⟩, H.hh, H.dep, H.un⟩
  · rcases List.mem_cons.mp ha with rfl | ha
    · refine ⟨?_, lv⟩
      cases e : C.base.get? a with
      | none => rfl
      | some o => rw [H.stays a o e] at hD; cases hD
    · exact ⟨(H.above a ha).1, lvA a ha⟩
  · rcases List.mem_append.mp hb with hb | hb
    · exact .tail _ (H.adsub b hb)
    · rw [List.mem_singleton.mp hb]; exact .head _
  · rw [List.nodup_append]
    exact ⟨H.adnd, by simp, fun a ha b hb => by rw [List.mem_singleton.mp hb]; rintro rfl; exact hDa ha⟩
  · obtain ⟨x, hx, q⟩ := hv i p e
    refine ⟨x, hx, ?_⟩
    rcases q with ⟨h1, v, h2, h3⟩ | ⟨h1, c, v, h2, h3, h4⟩
    · exact .inl ⟨h1, v, h2, up h3⟩
    · have := H.cel x c h2
      exact .inr ⟨h1, c, v, h2, kp.cl _ (inF _ this.1 this.2.1) (by simp) _ h3, up h4⟩
  · obtain ⟨h1, h2, h3, v, h4⟩ := H.cel x c e
    exact ⟨.tail _ h1, nadD _ h1 h2, h3, v, kp.cl _ (inF _ h1 h2) (by simp) _ h4⟩
  · obtain ⟨fl, e, q⟩ := H.fr
    refine ⟨fl, e, fun f hf => ?_⟩
    obtain ⟨h1, L', m, h2, h3, h4, h5⟩ := q f hf
    exact ⟨h1, L', m, h2, kp.ns _ (inF _ h4 h5) (by simp) _ h3, .tail _ h4, nadD _ h4 h5⟩
  · rw [List.length_append, List.length_append, H.sg.len]; rfl
  · have hl := H.sg.len
    by_cases hi : i < ad.length
    · rw [List.getElem?_append_left hi] at h1
      rw [List.getElem?_append_left (by omega)] at h2
      exact (H.sg.at_ i a mo h1 h2).to (fun o e => kp.kp a o (outA a (List.mem_of_getElem? h1)) e) kpv
    · have hi' : i = ad.length := by
        have := (List.getElem?_eq_some_iff.mp h1).1
        rw [List.length_append] at this
        simp at this; omega
      subst hi'
      rw [List.getElem?_append_right (Nat.le_refl _)] at h1
      rw [hl, List.getElem?_append_right (Nat.le_refl _)] at h2
      simp at h1 h2
      subst h1 h2
      exact hm
theorem Aft.growF {env : Env} {ad av : List Addr} {s s' : Shared} {D : Addr} (sh : ∃ h tk, s' = { s with heap := h, toks := tk }) (kp : Keep [] (av.filter (· ∉ ad)) s.heap s'.heap) (hv : ∀ b ∈ av, Live s.heap b) (hD : s.heap.get? D = none) : Aft env ad av s s' (ad ++ [D]) (D :: av) := by
  have inF : ∀ b, b ∈ av → b ∉ ad → b ∈ av.filter (· ∉ ad) := fun b h1 h2 => List.mem_filter.mpr ⟨h1, by simpa using h2⟩
  have outA : ∀ b, b ∈ ad → b ∉ av.filter (· ∉ ad) := fun b h1 h2 => by simpa [h1] using (List.mem_filter.mp h2).2
  refine ⟨sh, ⟨[D], [D], rfl, rfl, fun a h => by rw [List.mem_singleton.mp h]; exact hD, fun a h => by rw [List.mem_singleton.mp h]; exact hD⟩, fun b hb l => ?_, fun b o n e => kp.kp b o (fun h => n (List.mem_filter.mp h).1) e, fun b h1 h2 _ _ => kp.ns b (inF b h1 h2) (by simp), fun b h1 h2 _ _ => kp.cl b (inF b h1 h2) (by simp), fun b h1 h2 _ _ => kp.li b (inF b h1 h2) (by simp)⟩
  by_cases h : b ∈ ad
  · exact (hv b hb).keeps fun o e => kp.kp b o (outA b h) e
  · exact kp.lv b (inF b hb h) l
theorem LstD.live {h : Heap} {a : Addr} {its : Array Value} (x : LstD h a its) : Live h a := by
  obtain ⟨o, e, c, n, d, _⟩ := x; exact ⟨o, e, fun vs q => by rw [d] at q; cases q⟩
noncomputable def xNewList (i : Nat) : Rho → Sto → R Ou := fun ρ σ => .val (.nxt (ρ.set i (some (.mref σ.length)))) (σ ++ [.lst []])
theorem last_get {ad : List Addr} {σ : Sto} {D : Addr} (h : ad.length = σ.length) : (ad ++ [D])[σ.length]? = some D := by
  rw [← h]; simp
theorem s_newlist {x : Str} {p lp pos : Pos} {i : Nat} (nd : vs.Nodup) (hi : vs[i]? = some x) (hk : nm.lookup x = some .local ∨ nm.lookup x = some .cell)
    (hs : ∀ env, swapsWith (.List [] lp) (some (.Name x p)) pos.line env = pure false := by intro _; rfl) : SS C k nm vs (.Assign [.Name x p] (.List [] lp) pos) (xNewList i) := by
  refine ⟨?_⟩
  intro ρ σ A env s ad av H hb Q E K
  refine wpAny_Assign_Name (wpAny_List (wpAny_items_nil ⟨by decide, ?_⟩)) (hs env)
  have hD : s.heap.get? s.heap.objs.size = none := get?_none_of_size (Nat.le_refl _)
  have hl : LstD (s.heap.push { cls := .type "list", data := .seq ([] : List Value).toArray }) s.heap.objs.size #[] := ⟨_, Heap.get?_push_size _ rfl, rfl, _, rfl, rfl⟩
  have H₁ := H.grow (s' := { s with heap := s.heap.push { cls := .type "list", data := .seq ([] : List Value).toArray } }) (m := .lst []) ⟨_, _, rfl⟩ (.push _) hD hl.live ⟨[], hl, .nil⟩
  refine store_ok H₁ nd hi hk (.mref (last_get H.sg.len)) fun s' H' a => K.nx _ _ _ _ _ rfl H' ?_
  exact (Aft.growF (s' := { s with heap := s.heap.push { cls := .type "list", data := .seq ([] : List Value).toArray } }) ⟨_, _, rfl⟩ (.push _) H.lives hD).trans H.lives a

/- ## append -/
theorem dict_mapSeq (o : Obj) (f : Array Value → Array Value) : (o.mapSeq f).dict = o.dict := by
  obtain ⟨c, d, dt, sl⟩ := o; cases dt <;> rfl
theorem append_D {A : Around} {E : Value → Shared → Prop} {s : Shared} {prog : Program} {w : World} {l : Addr} {items : Array Value} {x : Value} {Q : Value → Shared → Prop} (hl : LstD s.heap l items)
    (hQ : ∀ h', LstD h' l (items.push x) → Heap.SameBut l s.heap h' → Q .none { s with heap := h' }) (hsz : items.size ≤ sizeLine) : wpAny (model prog w) A (call (.builtin "list.append") [.ref l, x]) Q E s := by
  obtain ⟨o, ho, hc, n, hd, hdn⟩ := id hl
  obtain ⟨n', hd'⟩ := Obj.data_mapSeq hd (·.push x)
  refine wpAny_call_entry slot_list_append hl.isList.typeIs entry_list_append ?_ (args_list_append _ _)
  show wpAny _ _ (updateSeq l (·.push x) >>= fun _ => ret .none) _ _ s
  refine wpAny_bind ?_
  refine wpAny_updateSeq ho hd (wpAny_pure ⟨.none, rfl, hQ _ ?_ (Heap.SameBut.update ..)⟩)
  exact ⟨_, Heap.get?_update_self _ ho (Obj.isFreed_of_seq hd'), (Obj.cls_mapSeq ..).trans hc, n', hd', (dict_mapSeq ..).trans hdn⟩
theorem interactive_fn {env : Env} (h : env.scope.kind = .function) : interactive env = false := by unfold interactive; rw [h]; rfl
noncomputable def isLst (σ : Sto) (j : Nat) : Bool := match σ[j]? with
  | some (.lst _) => true
  | _ => false
noncomputable def xAppend (f g : Rho → Sto → R PV) : Rho → Sto → R Ou := fun ρ σ => (f ρ σ).bind fun o σ => match o with
  | .mref j => if isLst σ j = true then (g ρ σ).bind fun p σ => match σ[j]? with
    | some (.lst xs) => if (closedN 6 p && decide (xs.length < 1000000)) = true then .val (.nxt ρ) (σ.set j (.lst (xs ++ [p]))) else .bad
    | _ => .bad
    else .bad
  | _ => .bad
/- one place has turned -/
theorem Nxt.turn {ρ : Rho} {σ : Sto} {A : Around} {env : Env} {s : Shared} {ad av : List Addr} (H : Hyp C k nm vs ρ σ A env s ad av) {h' : Heap} {tk : Tok} {j : Nat} {D : Addr} {m : MO} (hj : ad[j]? = some D) (hs : Heap.SameBut D s.heap h') (lv : Live h' D) (hm : MOk h' av D m) : Nxt ad av s (σ.set j m) { s with heap := h', toks := tk } :=
  have hD := List.mem_of_getElem? hj
  ⟨⟨_, _, rfl⟩, .turn hD (H.adsub _ hD) hs lv, H.sg.turn H.adnd H.adsub hj hs hm⟩
theorem SEs.of_one {e : Expr} {f : Rho → Sto → R PV} {env : Env} (h : SE C k nm vs e f) (hst : starEach [e] env = (false, eval e env) :: starEach [] env) :
    ∀ ρ σ A s ad av pos, Hyp C k nm vs ρ σ A env s ad av → Giv C A ad av s (spliced (backTo pos (starEach [e] env))) (f ρ σ) (fun h vals p => ∃ v, vals = [v] ∧ Rep h ad av v p) := by
  intro ρ σ A s ad av pos H hb Q E K
  refine wpAny_items_cons (h.run ρ σ A env s ad av H hb _ E ⟨fun a s₁ p σ₁ e ra n₁ => ?_, K.ex⟩) hst
  exact wpAny_items_nil (K.ok _ _ _ _ e ⟨a, rfl, ra⟩ n₁)
theorem s_append {o e : Expr} {apos cpos pos : Pos} {f g : Rho → Sto → R PV} (ho : SE C k nm vs o f) (he : SE C k nm vs e g)
    (hev : ∀ env, ∃ pl, eval (.Call (.Attribute o "append" apos) [e] [] cpos) env = (do
      let ov ← eval o env
      standAt apos.atName
      let (f, first) ← holding [ov] (getMethod ov "append" pl)
      callWith cpos f first (backTo cpos (starEach [e] env)) []) := by intro _; exact ⟨_, rfl⟩)
    (hst : ∀ env, starEach [e] env = (false, eval e env) :: starEach [] env := by intro _; rfl)
    (hsw : ∀ env, swapsWith (.Call (.Attribute o "append" apos) [e] [] cpos) none pos.line env = pure false := by intro _; rfl) :
    SS C k nm vs (.Expr (.Call (.Attribute o "append" apos) [e] [] cpos) pos) (xAppend f g) := by
  refine ⟨?_⟩
  intro ρ σ A env s ad av H hb Q E K
  obtain ⟨pl, hev⟩ := hev env
  refine wpAny_Expr_any (MethodCall_ (pl := pl) ((ho.run ρ σ A env s ad av H).seqX H hb K fun v s₁ q σ₁ rv n₁ hb K => ?_) hev) (interactive_fn H.kind) (hsw env)
  have H₁ := H.next n₁
  obtain ⟨j, rfl⟩ : ∃ j, q = PV.mref j := of_mref hb
  obtain ⟨D, rfl, hj⟩ := rv.mref_inv
  dsimp only at hb K
  split at hb
  case isFalse => exact absurd rfl hb
  rename_i hL
  rw [if_pos hL] at K
  obtain ⟨xs₁, hm⟩ : ∃ xs, σ₁[j]? = some (.lst xs) := by
    unfold isLst at hL
    split at hL
    · rename_i xs hx; exact ⟨xs, hx⟩
    · cases hL
  obtain ⟨vs₁, ⟨o₁, ho₁, hc₁, n₁', hd₁, hdn₁⟩, _⟩ := H₁.sg.at_ j D _ hj hm
  refine getMethod_builtin (T := "list") ⟨o₁, ho₁, hc₁⟩ PySem.F.plainAttrs_list PySem.F.slot_list_append PySem.F.type_list_append (fun a e => by cases e; exact ⟨o₁, ho₁, hdn₁⟩) ?_
  have hs' := SEs.of_one he (hst env) ρ σ₁ A s₁ ad av cpos H₁
  rw [hst env] at hs' ⊢
  refine callWith_builtin rfl (evalArgs_plain (hs'.seqX H₁ hb K fun vals s₂ p σ₂ rp n₂ hb K => ?_))
  have H₂ := H₁.next n₂
  obtain ⟨v, rfl, rv⟩ := rp
  split at hb
  case h_2 => exact absurd rfl hb
  rename_i xs hx
  rw [hx] at K
  dsimp only at K
  split at hb
  case isFalse => exact absurd rfl hb
  rename_i hc
  rw [if_pos hc] at K
  rw [Bool.and_eq_true, decide_eq_true_eq] at hc
  obtain ⟨vs₂, hl₂, hr₂⟩ := H₂.sg.at_ j D _ hj hx
  have hlen := hr₂.length
  refine append_D hl₂ (fun h' hl' hs' => ?_) (by rw [List.size_toArray]; exact Nat.le_trans (by omega) (show 1000000 ≤ sizeLine by decide))
  have hl'' : LstD h' D (vs₂ ++ [v]).toArray := by simpa using hl'
  have hDv := H₂.adsub D (List.mem_of_getElem? hj)
  have up : ∀ {v p}, Rep s₂.heap [] av v p → Rep h' [] av v p := fun r => r.to (fun _ _ e => e) fun b o n e => ⟨(hs'.2 b fun q => n (q ▸ hDv)).trans e, n⟩
  have ups : ∀ {v p}, Reps s₂.heap [] av v p → Reps h' [] av v p := fun r => r.to (fun _ _ e => e) fun b o n e => ⟨(hs'.2 b fun q => n (q ▸ hDv)).trans e, n⟩
  have N := Nxt.turn (tk := s₂.toks) H₂ hj hs' hl''.live (m := .lst (xs ++ [p])) ⟨_, hl'', (ups hr₂).append (.cons (up (closed_rep 6 hc.1 rv fun _ h => h)) .nil)⟩
  exact K.nx _ _ _ _ _ rfl (H₂.next N) (.of N)
end
end Mine.Internal
/- G17 -/
namespace Mine.Internal
section
variable {C : Cx} {k : Nat} {nm : List (Str × NameKind)} {vs : List Str}
/- ## A dict that turns -/
noncomputable abbrev dD (C : Cx) : Obj → List (Str × Value) → Prop := fun o kvs => Obj.IsDictOf (PySem.strKind C.prog C.w) o kvs
noncomputable abbrev DP := Obj → List (Str × Value) → Prop
noncomputable def isDic (D : DP) (σ : Sto) (j : Nat) : Option (List (List Nat) × List PV) := match σ[j]? with
  | some (.dic D0 ks vs) => @ite _ (D0 = D) (Classical.propDecidable _) (some (ks, vs)) none
  | _ => none
theorem isDic_some {D : DP} {σ : Sto} {j : Nat} {ks : List (List Nat)} {vs : List PV} (h : isDic D σ j = some (ks, vs)) : σ[j]? = some (.dic D ks vs) := by
  unfold isDic at h
  split at h
  · rename_i D0 ks' vs' e
    split at h
    · rename_i q; cases h; rw [e, q]
    · cases h
  · cases h
noncomputable def xNewDict (D : DP) (i : Nat) (ks : List (List Nat)) (g : Rho → Sto → R (List PV)) : Rho → Sto → R Ou := fun ρ σ => (g ρ (σ ++ [.dic D [] []])).bind fun ps σ' => match isDic D σ' σ.length with
  | some ([], []) => if (ps.all (closedN 6) && decide (ps.length = ks.length)) = true then .val (.nxt (ρ.set i (some (.mref σ.length)))) (σ'.set σ.length (.dic D ks ps)) else .bad
  | _ => .bad
noncomputable def xSetItem (D : DP) (i : Nat) (key : List Nat) (f : Rho → Sto → R PV) : Rho → Sto → R Ou := fun ρ σ => (f ρ σ).bind fun p σ => (cVar i ρ σ).bind fun o σ => match o with
  | .mref j => match isDic D σ j with
    | some (ks, vs) => if (closedN 6 p && !ks.contains key && decide (ks.length ≤ 1000)) = true then .val (.nxt ρ) (σ.set j (.dic D (ks ++ [key]) (vs ++ [p]))) else .bad
    | none => .bad
  | _ => .bad
noncomputable def cGetD (D : DP) (f g : Rho → Sto → R PV) : Rho → Sto → R PV := fun ρ σ => (f ρ σ).bind fun o σ => (g ρ σ).bind fun b σ => match o, b with
  | .mref j, .str key => match isDic D σ j with
    | some (ks, vs) => R.of ((ks.zip vs).lookup key) σ
    | none => .bad
  | _, _ => .bad
/- the pairs of a display -/
structure SPs (C : Cx) (k : Nat) (nm : List (Str × NameKind)) (vs : List Str) (keys : List (Option Expr)) (values : List Expr) (ks : List (List Nat)) (g : Rho → Sto → R (List PV)) : Prop where
  run : ∀ ρ σ A env s ad av pos, Hyp C k nm vs ρ σ A env s ad av → Giv C A ad av s (evalPairs (pairTrees keys values env pos)) (g ρ σ) (fun h prs ps => allStrKeys prs = true ∧ (strPairs prs).map (·.1) = ks.map toStr ∧ Reps h ad av ((strPairs prs).map (·.2)) ps)
theorem sp_nil : SPs C k nm vs [] [] [] cNil := ⟨fun ρ σ A env s ad av pos H hb Q E K => pairTrees_nil_walk (K.ok _ _ _ _ rfl ⟨rfl, rfl, .nil⟩ (.refl H))⟩
theorem sp_cons {x : Str} {l : List Nat} {n : Nat} {p : Pos} {v : Expr} {keys : List (Option Expr)} {values : List Expr} {ks : List (List Nat)} {f : Rho → Sto → R PV} {g : Rho → Sto → R (List PV)} (hx : x = toStr l) (h : SE C k nm vs v f) (hs : SPs C k nm vs keys values ks g) :
    SPs C k nm vs (some (.Constant (.str x) n p) :: keys) (v :: values) (l :: ks) (cCons f g) := by
  subst hx
  refine ⟨?_⟩
  intro ρ σ A env s ad av pos H hb Q E K
  refine pairTrees_cons_walk (wpAny_Constant_str ?_)
  have N := Nxt.toks H (s.toks + 1)
  have H₀ := H.next N
  have K' : Kon A ad av { s with toks := s.toks + 1 } (cCons f g ρ σ) (fun h prs ps => allStrKeys prs = true ∧ (strPairs prs).map (·.1) = (l :: ks).map toStr ∧ Reps h ad av ((strPairs prs).map (·.2)) ps) Q E := ⟨fun a s' b σ' e p n => K.ok a s' b σ' e p (N.trans n), fun x s' σ' e q => K.ex x s' σ' e (q.before N)⟩
  refine (h.run ρ σ A env _ ad av H₀).seq hb K' fun a s₁ q σ₁ ra n₁ hb K => ?_
  have H₁ := H₀.next n₁
  refine (hs.run ρ σ₁ A env s₁ ad av pos H₁).seq hb K fun prs s₂ ps σ₂ rl n₂ hb K => ?_
  obtain ⟨r1, r2, r3⟩ := rl
  refine K.ok _ _ _ _ rfl ⟨r1, ?_, .cons (ra.keep n₂.kp) r3⟩ (.refl (H₁.next n₂))
  show toStr l :: _ = _
  rw [r2]; rfl
theorem toStr_inj {a b : List Nat} (h : toStr a = toStr b) : a = b := by
  have := congrArg (fun s : Str => s.cps.toList) h
  simpa using this
theorem nodup_toStr : ∀ {ks : List (List Nat)}, ks.Nodup → (ks.map toStr).Nodup
  | [], _ => .nil
  | k :: ks, h => by
    obtain ⟨h1, h2⟩ := List.nodup_cons.mp h
    rw [List.map_cons, List.nodup_cons]
    refine ⟨fun hm => ?_, nodup_toStr h2⟩
    obtain ⟨l, h3, h4⟩ := List.mem_map.mp hm
    exact h1 (toStr_inj h4 ▸ h3)
theorem s_newdict {x : Str} {p dp pos : Pos} {i : Nat} {keys : List (Option Expr)} {values : List Expr} {ks : List (List Nat)} {g : Rho → Sto → R (List PV)} (h : SPs C k nm vs keys values ks g) (hks : ks.Nodup)
    (hall : keys.all (·.isSome) = true) (hl : keys.length = values.length) (h0 : keys ≠ []) (hlen : keys.length ≤ 15) (nd : vs.Nodup) (hi : vs[i]? = some x) (hk : nm.lookup x = some .local ∨ nm.lookup x = some .cell)
    (hs : ∀ env, swapsWith (.Dict keys values dp) (some (.Name x p)) pos.line env = pure false := by intro _; rfl) : SS C k nm vs (.Assign [.Name x p] (.Dict keys values dp) pos) (xNewDict (dD C) i ks g) := by
  refine ⟨?_⟩
  intro ρ σ A env s ad av H hb Q E K
  have hD : s.heap.get? s.heap.objs.size = none := get?_none_of_size (Nat.le_refl _)
  have hm₀ : (s.heap.push { cls := .type "dict", data := .dict #[] }).DictOf (PySem.strKind C.prog C.w) s.heap.objs.size [] := Heap.DictOf.new s.heap
  have sh : ∃ h tk, ({ s with heap := s.heap.push { cls := .type "dict", data := .dict #[] } } : Shared) = { s with heap := h, toks := tk } := ⟨_, _, rfl⟩
  have mok : ∀ {h' : Heap} {a : Addr} {av : List Addr} {kvs : List (Str × Value)} {ks : List (List Nat)} {ps : List PV}, h'.DictOf (PySem.strKind C.prog C.w) a kvs → kvs.map (·.1) = ks.map toStr → Reps h' [] av (kvs.map (·.2)) ps → MOk h' av a (.dic (dD C) ks ps) := fun hd e r => by
    obtain ⟨o, ho, hdo⟩ := Heap.dictOf_iff.mp hd
    refine ⟨o, _, ho, fun vs q => ?_, hdo, e, r⟩
    obtain ⟨es, ep, _, hdat, _⟩ := hdo
    rw [hdat] at q; cases q
  have live : ∀ {h' : Heap} {a : Addr} {kvs : List (Str × Value)}, h'.DictOf (PySem.strKind C.prog C.w) a kvs → Live h' a := fun hd => by
    obtain ⟨o, es, ep, ho, _, hdat, _⟩ := hd
    exact ⟨o, ho, fun vs q => by rw [hdat] at q; cases q⟩
  have H₁ := H.grow (s' := { s with heap := s.heap.push { cls := .type "dict", data := .dict #[] } }) (m := .dic (dD C) [] []) sh (.push _) hD (live hm₀) (mok hm₀ rfl .nil)
  have a₁ := Aft.growF (env := env) (s' := { s with heap := s.heap.push { cls := .type "dict", data := .dict #[] } }) (ad := ad) sh (.push _) H.lives hD
  have K₁ := K.after H.lives a₁
  refine wpAny_Assign_Name (wpAny_Dict_walk (knd := PySem.strKind C.prog C.w) hall hl h0 hlen ((h.run ρ _ A env _ _ _ dp H₁).seqX H₁ hb K₁ fun prs s₂ ps σ₂ rp n₂ hb K => ?_)) (hs env)
  have H₂ := H₁.next n₂
  obtain ⟨r1, r2, r3⟩ := rp
  split at hb
  case h_2 => exact absurd rfl hb
  rename_i hd
  rw [hd] at K
  dsimp only at K
  split at hb
  case isFalse => exact absurd rfl hb
  rename_i hc
  rw [if_pos hc] at K
  rw [Bool.and_eq_true, decide_eq_true_eq] at hc
  have hj := last_get (D := s.heap.objs.size) H.sg.len
  obtain ⟨o, kvs, q1, q2, q3, q4, q5⟩ := H₂.sg.at_ _ _ _ hj (isDic_some hd)
  have hnil : kvs = [] := by simpa using q4
  subst hnil
  have hnd : ((strPairs prs).map (·.1)).Nodup := by
    rw [r2]
    exact nodup_toStr hks
  refine display_done_str r1 hnd (Heap.dictOf_iff.mpr ⟨o, q1, q3⟩) fun h' hm hs' => ?_
  have hDv := H₂.adsub _ (List.mem_of_getElem? hj)
  have cl : Reps s₂.heap [] (s.heap.objs.size :: av) ((strPairs prs).map (·.2)) ps := closed_reps (fun _ h => h) hc.1 r3
  have N := Nxt.turn (tk := s₂.toks + prs.length) H₂ hj hs' (live hm) (m := .dic (dD C) ks ps) (mok hm r2 (cl.to (fun _ _ e => e) fun b o n e => ⟨(hs'.2 b fun q => n (q ▸ hDv)).trans e, n⟩))
  have H₃ := H₂.next N
  refine store_ok H₃ nd hi hk (.mref hj) fun s' H' a => K.nx _ _ _ _ _ rfl H' ((Aft.of N).trans H₂.lives a)
theorem s_setitem {x kx : Str} {l : List Nat} {px kp sp pos : Pos} {n i : Nat} {e : Expr} {f : Rho → Sto → R PV} (h : SE C k nm vs e f) (hkx : kx = toStr l) (hi : vs[i]? = some x)
    (hs : ∀ env, swapsWith e (some (.Subscript (.Name x px) (.Constant (.str kx) n kp) sp)) pos.line env = pure false := by intro _; rfl) (hdb : (x == ("__debug__" : Str)) = false := by decide) :
    SS C k nm vs (.Assign [.Subscript (.Name x px) (.Constant (.str kx) n kp) sp] e pos) (xSetItem (dD C) i l f) := by
  subst hkx
  refine ⟨?_⟩
  intro ρ σ A env s ad av H hb Q E K
  refine wpAny_Assign_Subscript ((h.run ρ σ A env s ad av H).seqX H hb K fun v s₁ p σ₁ r n₁ hb K => ?_) (hs env)
  have H₁ := H.next n₁
  refine ((e_var hi hdb).run ρ σ₁ A env s₁ ad av H₁).seqX H₁ hb K fun o s₂ q σ₂ ro n₂ hb K => ?_
  have H₂ := H₁.next n₂
  obtain ⟨j, rfl⟩ : ∃ j, q = PV.mref j := of_mref hb
  obtain ⟨D, rfl, hj⟩ := ro.mref_inv
  dsimp only at hb K
  split at hb
  case h_2 => exact absurd rfl hb
  rename_i ks vs' hd
  rw [hd] at K
  dsimp only at K
  split at hb
  case isFalse => exact absurd rfl hb
  rename_i hc
  rw [if_pos hc] at K
  simp only [Bool.and_eq_true, decide_eq_true_eq, Bool.not_eq_true'] at hc
  obtain ⟨⟨hc1, hc2⟩, hc3⟩ := hc
  refine wpAny_Constant_str ?_
  have N₃ := Nxt.toks H₂ (s₂.toks + 1)
  have H₃ := H₂.next N₃
  obtain ⟨o, kvs, q1, q2, q3, q4, q5⟩ := H₃.sg.at_ _ _ _ hj (isDic_some hd)
  have hkl : kvs.length = ks.length := by have := congrArg List.length q4; simpa using this
  refine wpAny_setItem_pairs (knd := PySem.strKind C.prog C.w) (k := toStr l) (strKind_is _ _ _ _) (Heap.dictOf_iff.mpr ⟨o, q1, q3⟩) (fun h' hm hs' => ?_) (by rw [hkl]; exact Nat.le_trans hc3 (show 1000 ≤ sizeLine by decide))
  have hst : stored kvs (toStr l) v = kvs ++ [(toStr l, v)] := by
    unfold stored
    rw [if_neg]
    intro ha
    obtain ⟨kv, h1, h2⟩ := List.any_eq_true.mp ha
    have h2 : kv.1 = toStr l := by simpa using h2
    have h3 : toStr l ∈ ks.map toStr := by rw [← q4, ← h2]; exact List.mem_map.mpr ⟨kv, h1, rfl⟩
    obtain ⟨l', h4, h5⟩ := List.mem_map.mp h3
    rw [toStr_inj h5] at h4
    have : ks.contains l = true := by simpa using h4
    rw [this] at hc2; cases hc2
  rw [hst] at hm
  obtain ⟨o', ho', hdo'⟩ := Heap.dictOf_iff.mp hm
  have nf' : ∀ vs, o'.data ≠ .fields vs := fun vs q => by
    obtain ⟨es, ep, _, hdat, _⟩ := id hdo'
    rw [hdat] at q; cases q
  have hDv := H₃.adsub _ (List.mem_of_getElem? hj)
  have up : ∀ {v p}, Rep s₂.heap [] av v p → Rep h' [] av v p := fun r => r.to (fun _ _ e => e) fun b o n e => ⟨(hs'.2 b fun q => n (q ▸ hDv)).trans e, n⟩
  have ups : ∀ {v p}, Reps s₂.heap [] av v p → Reps h' [] av v p := fun r => r.to (fun _ _ e => e) fun b o n e => ⟨(hs'.2 b fun q => n (q ▸ hDv)).trans e, n⟩
  have N := Nxt.turn (tk := s₂.toks + 1 + 1) H₃ hj hs' ⟨o', ho', nf'⟩ (m := .dic (dD C) (ks ++ [l]) (vs' ++ [p])) ⟨o', _, ho', nf', hdo', by rw [List.map_append, q4, List.map_append]; rfl, by rw [List.map_append]; exact (ups q5).append (.cons (up (closed_rep 6 hc1 (r.keep n₂.kp) fun _ h => h)) .nil)⟩
  exact K.nx _ _ _ _ _ rfl (H₃.next N) ((Aft.of N₃).trans H₂.lives (.of N))
theorem valueAt_ok {h : Heap} {ad av : List Addr} {l : List Nat} {p : PV} : ∀ {kvs : List (Str × Value)} {ks : List (List Nat)} {vs : List PV}, kvs.map (·.1) = ks.map toStr → Reps h ad av (kvs.map (·.2)) vs → (ks.zip vs).lookup l = some p → ∃ v, valueAt kvs (toStr l) = some v ∧ Rep h ad av v p
  | [], [], _, _, _, e => by cases e
  | [], _ :: _, _, e, _, _ => by cases e
  | _ :: _, [], _, e, _, _ => by cases e
  | (x, v) :: kvs, y :: ks, [], _, r, _ => by cases r
  | (x, v) :: kvs, y :: ks, q :: vs, e, .cons r rs, hl => by
    have e1 : x = toStr y := (List.cons.inj e).1
    have e2 := (List.cons.inj e).2
    rw [List.zip_cons_cons, List.lookup_cons] at hl
    unfold valueAt
    rw [List.find?_cons]
    cases hb : l == y with
    | true =>
      rw [hb] at hl; cases hl
      have : l = y := by simpa using hb
      subst this
      exact ⟨v, by simp [e1], r⟩
    | false =>
      rw [hb] at hl
      have : ¬ x = toStr l := fun q => by
        have := toStr_inj (e1.symm.trans q)
        subst this; simp at hb
      simp only [this, decide_false]
      exact valueAt_ok e2 rs hl
theorem getd_inv {D : DP} {p q : PV} {σ : Sto} (h : (match p, q with
  | .mref j, .str key => match isDic D σ j with
    | some (ks, vs) => R.of ((ks.zip vs).lookup key) σ
    | none => .bad
  | _, _ => .bad) ≠ .bad) : ∃ j l, p = .mref j ∧ q = .str l := by
  split at h
  · exact ⟨_, _, rfl, rfl⟩
  · exact absurd rfl h
theorem e_getd {v i : Expr} {pos : Pos} {f g : Rho → Sto → R PV} (hv : SE C k nm vs v f) (hi : SE C k nm vs i g) (hs : ∀ o x, subscripted i false o x = operate [o, x] (getItem o x) := by intro _ _; rfl) : SE C k nm vs (.Subscript v i pos) (cGetD (dD C) f g) := by
  refine ⟨?_⟩
  intro ρ σ A env s ad av H hb Q E K
  refine Subscript_ ((hv.run ρ σ A env s ad av H).seq hb K fun a s₁ p σ₁ ra n₁ hb K => ?_)
  have H₁ := H.next n₁
  refine (hi.run ρ σ₁ A env s₁ ad av H₁).seq hb K fun b s₂ q σ₂ rb n₂ hb K => ?_
  have H₂ := H₁.next n₂
  have KF := K
  clear K
  obtain ⟨j, l, rfl, rfl⟩ : ∃ j l, p = PV.mref j ∧ q = PV.str l := getd_inv hb
  obtain ⟨D, rfl, hj⟩ := ra.mref_inv
  obtain ⟨t, rfl⟩ := rb.str_inv
  dsimp only at hb KF
  cases hd : isDic (dD C) σ₂ j with
  | none => rw [hd] at hb; exact absurd rfl hb
  | some kv =>
    obtain ⟨ks, vs'⟩ := kv
    rw [hd] at hb KF
    dsimp only at hb KF
    cases hl : (ks.zip vs').lookup l with
    | none => rw [hl] at hb; exact absurd rfl hb
    | some p =>
      rw [hl] at KF
      obtain ⟨o, kvs, q1, q2, q3, q4, q5⟩ := H₂.sg.at_ _ _ _ hj (isDic_some hd)
      obtain ⟨v, hv, rv⟩ := valueAt_ok q4 q5 hl
      have hdo : s₂.heap.DictOf (PySem.strKind C.prog C.w) D kvs := Heap.dictOf_iff.mpr ⟨o, q1, q3⟩
      refine tail_any (T := "dict") (id := "dict.__getitem__") hdo.typeIs slot_dict_getitem.lookup (ops := [.ref D, .str (toStr l) t]) (wpAny_getItem_of (strKind_is _ _ _ _) hdo.mapOf hv ?_) (hs _ _)
      exact KF.ok _ _ _ _ rfl (rv.to (fun i a e => by simp at e) fun b o n e => ⟨e, n⟩) (.toks H₂ _)
end
end Mine.Internal
/- G18 -/
namespace Mine.Internal
/- ## Dicts of objects -/
theorem KeysAre.nil_ {ks : List (List Nat)} (h : KeysAre [] ks) : ks = [] := List.length_eq_zero_iff.mp h.1.symm
theorem KeysAre.cons_ {e : DictEntry} {es : List DictEntry} {ks : List (List Nat)} (h : KeysAre (e :: es) ks) : ∃ k r t, ks = k :: r ∧ e.key = .str (toStr k) t ∧ KeysAre es r := by
  cases ks with
  | nil => cases h.1
  | cons k r =>
    obtain ⟨t, ht⟩ := h.2 0 e k rfl rfl
    exact ⟨k, r, t, rfl, ht, by simpa using h.1, fun i e' k' h1 h2 => h.2 (i + 1) e' k' h1 h2⟩
theorem KeysAre.cons' {e : DictEntry} {es : List DictEntry} {k : List Nat} {r : List (List Nat)} {t : Tok} (h1 : e.key = .str (toStr k) t) (h : KeysAre es r) : KeysAre (e :: es) (k :: r) := by
  refine ⟨by simp [h.1], fun i e' k' h2 h3 => ?_⟩
  cases i with
  | zero => cases h2; cases h3; exact ⟨t, h1⟩
  | succ i => exact h.2 i e' k' h2 h3
theorem KeysAre.snoc {e : DictEntry} {k : List Nat} {t : Tok} (h1 : e.key = .str (toStr k) t) : ∀ {es : List DictEntry} {ks : List (List Nat)}, KeysAre es ks → KeysAre (es ++ [e]) (ks ++ [k])
  | [], ks, h => by rw [h.nil_]; exact KeysAre.cons' h1 ⟨rfl, fun i e k h _ => by simp at h⟩
  | e' :: es, ks, h => by
    obtain ⟨k', r, t', rfl, h2, h3⟩ := h.cons_
    exact KeysAre.cons' h2 (KeysAre.snoc h1 h3)
theorem isStr_key {e : DictEntry} {k name : List Nat} {t : Tok} (h : e.key = .str (toStr k) t) : e.key.isStr (toStr name) = (k == name) := by
  rw [h]; show (toStr k == toStr name) = _; exact toStr_beq k name
theorem any_none {name : List Nat} : ∀ {es : List DictEntry} {ks : List (List Nat)}, KeysAre es ks → ks.contains name = false → es.any (·.key.isStr (toStr name)) = false ∧ es.any (·.refKey) = false
  | [], _, _, _ => ⟨rfl, rfl⟩
  | e :: es, ks, h, hc => by
    obtain ⟨k, r, t, rfl, h1, h2⟩ := h.cons_
    rw [List.contains_cons, Bool.or_eq_false_iff] at hc
    obtain ⟨q1, q2⟩ := any_none h2 hc.2
    have : (k == name) = false := by rw [beq_eq_false_iff_ne] at *; exact fun q => hc.1 q.symm
    exact ⟨by rw [List.any_cons, isStr_key h1, this, q1]; rfl, by rw [List.any_cons, q2]; unfold DictEntry.refKey; rw [h1]; rfl⟩
theorem putL_new {name : Str} {hsh : Int} {key v : Value} : ∀ {es : List DictEntry}, es.any (·.key.isStr name) = false → putL name hsh key v es = es ++ [⟨hsh, key, v⟩]
  | [], _ => rfl
  | e :: es, h => by
    rw [List.any_cons, Bool.or_eq_false_iff] at h
    unfold putL
    rw [h.1, if_neg (by decide), putL_new h.2]; rfl
theorem find_none {name : Str} {es : List DictEntry} (h : es.any (·.key.isStr name) = false) : es.find? (·.key.isStr name) = none := by
  rw [List.find?_eq_none]
  intro e he hq
  rw [List.any_eq_false] at h
  exact h e he hq
theorem getL_none {name : List Nat} {es : List DictEntry} {ks : List (List Nat)} (h : KeysAre es ks) (hc : ks.contains name = false) : getL (toStr name) es = some none := by
  obtain ⟨q1, q2⟩ := any_none h hc
  unfold getL
  rw [find_none q1, q2]; rfl
theorem getL_some {h : Heap} {ad av : List Addr} {name : List Nat} {p : PV} : ∀ {es : List DictEntry} {ks : List (List Nat)} {vs : List PV}, KeysAre es ks → Reps h ad av (es.map (·.val)) vs → (ks.zip vs).lookup name = some p → ∃ v, getL (toStr name) es = some (some v) ∧ Rep h ad av v p
  | [], ks, _, hk, _, e => by rw [hk.nil_] at e; cases e
  | e :: es, ks, [], hk, r, _ => by cases r
  | e :: es, ks, q :: vs, hk, .cons r rs, hl => by
    obtain ⟨k, ks', t, rfl, h1, h2⟩ := hk.cons_
    rw [List.zip_cons_cons, List.lookup_cons] at hl
    unfold getL
    rw [List.find?_cons, isStr_key h1]
    cases hb : name == k with
    | true =>
      rw [hb] at hl; cases hl
      have : name = k := by simpa using hb
      subst this
      simp only [beq_self_eq_true]
      exact ⟨e.val, rfl, r⟩
    | false =>
      rw [hb] at hl
      have hb' : (k == name) = false := by rw [beq_eq_false_iff_ne] at *; exact fun q => hb q.symm
      obtain ⟨v, hv, rv⟩ := getL_some h2 rs hl
      refine ⟨v, ?_, rv⟩
      rw [hb']
      unfold getL at hv
      dsimp only
      split at hv
      · rename_i e' he'
        rw [he']; exact hv
      · split at hv <;> cases hv
noncomputable def toS (p : PV) : PV := if closedN 6 p = true then p else match p with
  | .nlst x => .nlst x
  | .inst c => .inst c
  | _ => .any
theorem toS_rep {h : Heap} {ad av : List Addr} {v : Value} {p : PV} (r : Rep h ad av v p) : Rep h [] av v (toS p) := by
  unfold toS
  split
  · rename_i hc; exact closed_rep 6 hc r fun _ h => h
  · cases r with
    | nlst a b c => exact .nlst a b c
    | inst a b c d e f g i => exact .inst a b c d e f g i
    | _ => exact .any _
/- ## What is known of a class -/
structure AttrOk (K : Frag) (c : Addr) (name : Str) : Prop where
  pg : plainGet K c name = true
  hd : hasDictIn K c = true
  ng : ∃ attr, findIn K (.ref c) name = some attr ∧ noGet K attr = true
structure SetOk (K : Frag) (c : Addr) (name : Str) : Prop where
  hs : findIn K (.ref c) "__setattr__" = some (some (.builtin "object.__setattr__"))
  hp : plainOver K c = true
  ht : takerIn K c name = some none
  hh : hasDictIn K c = true
section
variable {C : Cx} {k : Nat} {nm : List (Str × NameKind)} {vs : List Str} {K : Frag}
theorem in_heap {ρ : Rho} {σ : Sto} {A : Around} {env : Env} {s : Shared} {ad av : List Addr} (X : K.In C.base) (H : Hyp C k nm vs ρ σ A env s ad av) : K.In s.heap := X.keeps H.stays
theorem get_at {A : Around} {E : Value → Shared → Prop} {s : Shared} {prog : Program} {w : World} {x c d : Addr} {es : List DictEntry} {n : Nat} {name : Str} {v : Value} {b : Bool} {Q : Value → Shared → Prop} (X : K.In s.heap) (ok : AttrOk K c name) (hx : s.heap.get? x = some (instObj c d)) (hd : s.heap.get? d = some (dictOf es n)) (hl : getL name es = some (some v)) (hv : handedIn v = true)
    (h : Q v { s with toks := s.toks + 1 }) : wpAny (model prog w) A (getAttr (.ref x) name b) Q E s := by
  obtain ⟨attr, ha, hn⟩ := ok.ng
  exact get_value X ⟨hx, rfl, rfl, hd⟩ (plainGet_of ok.pg).1 (findObj_own (od := dictOf es n) ok.hd ha hn hl) hv h
theorem set_at {A : Around} {E : Value → Shared → Prop} {s : Shared} {prog : Program} {w : World} {x c d : Addr} {es : List DictEntry} {ks : List (List Nat)} {n : Nat} {name : List Nat} {v : Value} {Q : Unit → Shared → Prop} (X : K.In s.heap) (ok : SetOk K c (toStr name)) (hx : s.heap.get? x = some (instObj c d)) (hd : s.heap.get? d = some (dictOf es n))
    (hk : KeysAre es ks) (hc : ks.contains name = false) (hz : es.length ≤ 900)
    (h : ∀ h' n' hsh t, Heap.SameBut d s.heap h' → h'.get? d = some (dictOf (es ++ [⟨hsh, .str (toStr name) t, v⟩]) n') → Q () { s with heap := h', toks := s.toks + 2 }) : wpAny (model prog w) A (setAttr (.ref x) (toStr name) v) Q E s := by
  obtain ⟨hp, g, dr, tk, os⟩ := s
  dsimp only at X hx hd h
  have I : InstAt hp x (instObj c d) c (some (dictOf es n)) := ⟨hx, rfl, rfl, hd⟩
  obtain ⟨q1, q2⟩ := any_none hk hc
  refine set_plain X I ok.hs (osa_open (s := ⟨hp, g, dr, tk + 1, os⟩) X I ok.hp ok.ht fun b => ?_)
  obtain ⟨cd, hc', hd'⟩ := any_some ok.hh
  refine wpAny_bind (wpAny_pure (wpAny_bind (wpAny_bind (wpAny_loadPart hx (wpAny_bind ((looks_clsIn X hc').at ?_))))))
  rw [hd']
  refine wpAny_pure (a := some d) (wpAny_bind (wpAny_pure (wpAny_bind ?_)))
  unfold nsSet
  refine wpAny_bind (wpAny_bind (wpAny_askSetting (wpAny_pure (wpAny_bind (wpAny_mkText (wpAny_bind (wpAny_loadPart hd ?_)))))))
  dsimp only
  rw [aRefKeyMayBeTheName_at, ← Array.any_toList, ← Array.any_toList, q1, q2]
  simp -iota only [Bool.not_false, Bool.and_false, Bool.false_eq_true, if_false]
  refine wpAny_updatePart hd ?_
  have D' : (hp.update d (Obj.putName (toStr name) (PyData.keyHash w.params (toStr name)) (.str (toStr name) (tk + 1)) v)).get? d = some (dictOf (es ++ [⟨PyData.keyHash w.params (toStr name), .str (toStr name) (tk + 1), v⟩]) (putN (toStr name) es n)) := by
    rw [Heap.get?_update_self _ hd (by rw [putName_dict]; rfl), putName_dict, putL_new q1]
  refine wpAny_bind (wpAny_lookBehind D' (by exact pastItsLine_dict (by rw [List.size_toArray, sizeLine_eq, List.length_append]; simp; omega)) ?_)
  exact wpAny_pure (h _ _ _ _ (Heap.SameBut.update ..) D')
/- a place of an object's dict has turned -/
noncomputable def xSetAttr (c : Addr) (i : Nat) (name : List Nat) (f : Rho → Sto → R PV) : Rho → Sto → R Ou := fun ρ σ => (f ρ σ).bind fun p σ => (cVar i ρ σ).bind fun o σ => match o with
  | .slf c' j _ => match σ[j]? with
    | some (.dct ks vs) => if (c' == c && !ks.contains name && decide (ks.length ≤ 900)) = true then .val (.nxt ρ) (σ.set j (.dct (ks ++ [name]) (vs ++ [toS p]))) else .bad
    | _ => .bad
  | _ => .bad
noncomputable def cSelfAttr (c : Addr) (name : List Nat) (f : Rho → Sto → R PV) : Rho → Sto → R PV := fun ρ σ => (f ρ σ).bind fun o σ => match o with
  | .slf c' j _ => match σ[j]? with
    | some (.dct ks vs) => if (c' == c) = true then match (ks.zip vs).lookup name with
      | some (.inst d) => .val (.inst d) σ
      | _ => .bad
      else .bad
    | _ => .bad
  | _ => .bad
noncomputable def cNotes (f : Rho → Sto → R PV) : Rho → Sto → R PV := fun ρ σ => (f ρ σ).bind fun o σ => match o with
  | .host i => .val (.mref i) σ
  | _ => .bad
noncomputable def cSilent (f : Rho → Sto → R PV) : Rho → Sto → R PV := fun ρ σ => (f ρ σ).bind fun o σ => match o with
  | .host i => .val (.int 0) σ
  | _ => .bad
noncomputable def cNl (i : Nat) : Rho → Sto → R PV := fun ρ σ => (cVar i ρ σ).bind fun o σ => match o with
  | .slf _ _ x => .val (.nlst x) σ
  | _ => .bad
theorem e_dict0 {pos : Pos} : SE C k nm vs (.Dict [] [] pos) (cVal .any) := ⟨fun ρ σ A env s ad av H hb Q E K => wpAny_Dict_empty (K.ok _ _ _ _ rfl (.any _) (.push H _))⟩
theorem e_nl {i : Nat} {x : Str} {pos : Pos} (hi : vs[i]? = some x) : SE C k nm vs (.List [] pos) (cNl i) := by
  refine ⟨?_⟩
  intro ρ σ A env s ad av H hb Q E K
  unfold cNl cVar at hb K
  split at hb
  case h_2 => exact absurd rfl hb
  rename_i p hp
  rw [hp] at K
  dsimp only [R.bind_val] at hb K
  split at hb
  case h_2 => exact absurd rfl hb
  rename_i c j x
  obtain ⟨m, hm, hv⟩ := H.loc
  obtain ⟨y, hy, w⟩ := hv i _ hp
  have hx : ∃ o, s.heap.get? x = some o := by
    rcases w with ⟨_, v, _, r⟩ | ⟨_, c, v, _, _, r⟩
    · cases r with | slf e h1 h2 => exact ⟨_, h1⟩
    · cases r with | slf e h1 h2 => exact ⟨_, h1⟩
  obtain ⟨o, ho⟩ := hx
  refine wpAny_List (wpAny_items_nil ⟨by decide, ?_⟩)
  exact K.ok _ _ _ _ rfl (.nlst ⟨_, Heap.get?_push_size _ rfl, rfl, _, rfl, rfl⟩ (Heap.lt_size ho) (H.fresh (Nat.le_refl _))) (.push H _)
section
variable {o : Expr} {ap pos : Pos} {f : Rho → Sto → R PV}
theorem e_notes (X : K.In C.base) (ok : AttrOk K 762 "notes") (ho : SE C k nm vs o f)
    (he : ∀ env, eval (.Attribute o "notes" ap) env = (do
      let ov ← eval o env
      standAt ap.atName
      let r ← holding [ov] (getAttr ov "notes" true)
      letTemporaryGo o ov r
      pure r) := by intro _; with_unfolding_all rfl) (hg : ∀ ov r, letTemporaryGo o ov r = pure () := by intro _ _; with_unfolding_all rfl) : SE C k nm vs (.Attribute o "notes" ap) (cNotes f) := by
  refine ⟨?_⟩
  intro ρ σ A env s ad av H hb Q E K
  rw [he]
  refine wpAny_bind ((ho.run ρ σ A env s ad av H).seq hb K fun v s₁ q σ₁ rv n₁ hb K => ?_)
  have H₁ := H.next n₁
  obtain ⟨i, rfl⟩ : ∃ i, q = PV.host i := of_host hb
  obtain ⟨a, nl, d, es, n, t, rfl, e1, e2, e3, e4, e5, e6, e7, e8⟩ := rv.host_inv
  refine wpAny_bind (wpAny_standAt (wpAny_bind (wpAny_holding (get_at (in_heap X H₁) ok e2 e4 e6 rfl ?_))))
  rw [hg]
  exact wpAny_bind (wpAny_pure (wpAny_pure (K.ok _ _ _ _ rfl (.mref e1) (.toks H₁ _))))
theorem e_silent (X : K.In C.base) (ok : AttrOk K 762 "silent") (ho : SE C k nm vs o f)
    (he : ∀ env, eval (.Attribute o "silent" ap) env = (do
      let ov ← eval o env
      standAt ap.atName
      let r ← holding [ov] (getAttr ov "silent" true)
      letTemporaryGo o ov r
      pure r) := by intro _; with_unfolding_all rfl) (hg : ∀ ov r, letTemporaryGo o ov r = pure () := by intro _ _; with_unfolding_all rfl) : SE C k nm vs (.Attribute o "silent" ap) (cSilent f) := by
  refine ⟨?_⟩
  intro ρ σ A env s ad av H hb Q E K
  rw [he]
  refine wpAny_bind ((ho.run ρ σ A env s ad av H).seq hb K fun v s₁ q σ₁ rv n₁ hb K => ?_)
  have H₁ := H.next n₁
  obtain ⟨i, rfl⟩ : ∃ i, q = PV.host i := of_host hb
  obtain ⟨a, nl, d, es, n, t, rfl, e1, e2, e3, e4, e5, e6, e7, e8⟩ := rv.host_inv
  refine wpAny_bind (wpAny_standAt (wpAny_bind (wpAny_holding (get_at (in_heap X H₁) ok e2 e4 e7 rfl ?_))))
  rw [hg]
  exact wpAny_bind (wpAny_pure (wpAny_pure (K.ok _ _ _ _ rfl (.int _ _) (.toks H₁ _))))
theorem e_self {c : Addr} {name : Str} {l : List Nat} (X : K.In C.base) (hn : name = toStr l) (ok : AttrOk K c (toStr l)) (ho : SE C k nm vs o f)
    (he : ∀ env, eval (.Attribute o name ap) env = (do
      let ov ← eval o env
      standAt ap.atName
      let r ← holding [ov] (getAttr ov name true)
      letTemporaryGo o ov r
      pure r) := by intro _; with_unfolding_all rfl) (hg : ∀ ov r, letTemporaryGo o ov r = pure () := by intro _ _; with_unfolding_all rfl) : SE C k nm vs (.Attribute o name ap) (cSelfAttr c l f) := by
  subst hn
  refine ⟨?_⟩
  intro ρ σ A env s ad av H hb Q E K
  rw [he]
  refine wpAny_bind ((ho.run ρ σ A env s ad av H).seq hb K fun v s₁ q σ₁ rv n₁ hb K => ?_)
  have H₁ := H.next n₁
  obtain ⟨c', j, a, rfl⟩ : ∃ c j x, q = PV.slf c j x := of_slf hb
  obtain ⟨rfl, d, e1, e2, e3⟩ := rv.slf_inv
  dsimp only at hb K
  split at hb
  case h_2 => exact absurd rfl hb
  rename_i ks vs' hd
  rw [hd] at K
  dsimp only at K
  split at hb
  case isFalse => exact absurd rfl hb
  rename_i hc
  rw [if_pos hc] at K
  have hc : c = c' := by simpa using Eq.symm (by simpa using hc : c' = c)
  subst hc
  split at hb
  case h_2 => exact absurd rfl hb
  rename_i dd hl
  rw [hl] at K
  obtain ⟨es, n, q1, q2, q3⟩ := H₁.sg.at_ _ _ _ e1 hd
  obtain ⟨v, hv, rv⟩ := getL_some q2 q3 hl
  cases rv with
  | inst r1 r2 r3 r4 r5 r6 r7 r8 =>
    refine wpAny_bind (wpAny_standAt (wpAny_bind (wpAny_holding (get_at (in_heap X H₁) ok e2 q1 hv rfl ?_))))
    rw [hg]
    exact wpAny_bind (wpAny_pure (wpAny_pure (K.ok _ _ _ _ rfl (.inst r1 r2 r3 r4 r5 r6 r7 r8) (.toks H₁ _))))
end
theorem s_setattr {c : Addr} {x name : Str} {l : List Nat} {px ap pos : Pos} {i : Nat} {e : Expr} {f : Rho → Sto → R PV} (X : K.In C.base) (hn : name = toStr l) (ok : SetOk K c (toStr l)) (h : SE C k nm vs e f) (hi : vs[i]? = some x)
    (hs : ∀ env, swapsWith e (some (.Attribute (.Name x px) name ap)) pos.line env = pure false := by intro _; rfl) (hdb : (x == ("__debug__" : Str)) = false := by decide) :
    SS C k nm vs (.Assign [.Attribute (.Name x px) name ap] e pos) (xSetAttr c i l f) := by
  subst hn
  refine ⟨?_⟩
  intro ρ σ A env s ad av H hb Q E KK
  refine plainObj_wpAny_Assign_Attribute ((h.run ρ σ A env s ad av H).seqX H hb KK fun v s₁ p σ₁ r n₁ hb KK => ?_) (hs env)
  have H₁ := H.next n₁
  refine ((e_var hi hdb).run ρ σ₁ A env s₁ ad av H₁).seqX H₁ hb KK fun o s₂ q σ₂ ro n₂ hb KK => ?_
  have H₂ := H₁.next n₂
  obtain ⟨c', j, a, rfl⟩ : ∃ c j x, q = PV.slf c j x := of_slf hb
  obtain ⟨rfl, d, e1, e2, e3⟩ := ro.slf_inv
  dsimp only at hb KK
  split at hb
  case h_2 => exact absurd rfl hb
  rename_i ks vs' hd
  rw [hd] at KK
  dsimp only at KK
  split at hb
  case isFalse => exact absurd rfl hb
  rename_i hc
  rw [if_pos hc] at KK
  simp only [Bool.and_eq_true, beq_iff_eq, decide_eq_true_eq, Bool.not_eq_true'] at hc
  obtain ⟨⟨hc1, hc2⟩, hc3⟩ := hc
  have hc1 := hc1.symm
  subst hc1
  obtain ⟨es, n, q1, q2, q3⟩ := H₂.sg.at_ _ _ _ e1 hd
  refine set_at (in_heap X H₂) ok e2 q1 q2 hc2 (by rw [q2.1]; exact hc3) fun h' n' hsh t hs' hd' => ?_
  have hDv := H₂.adsub _ (List.mem_of_getElem? e1)
  have up : ∀ {v p}, Rep s₂.heap [] av v p → Rep h' [] av v p := fun r => r.to (fun _ _ e => e) fun b o n e => ⟨(hs'.2 b fun q => n (q ▸ hDv)).trans e, n⟩
  have ups : ∀ {v p}, Reps s₂.heap [] av v p → Reps h' [] av v p := fun r => r.to (fun _ _ e => e) fun b o n e => ⟨(hs'.2 b fun q => n (q ▸ hDv)).trans e, n⟩
  have N := Nxt.turn (tk := s₂.toks + 2) H₂ e1 hs' ⟨_, hd', fun vs q => by cases q⟩ (m := .dct (ks ++ [l]) (vs' ++ [toS p])) ⟨_, _, hd', q2.snoc rfl, by rw [List.map_append]; exact (ups q3).append (.cons (up (toS_rep (r.keep n₂.kp))) .nil)⟩
  exact KK.nx _ _ _ _ _ rfl (H₂.next N) (.of N)
end
end Mine.Internal
/- G19 -/
namespace Mine.Internal
section
variable {C : Cx} {k : Nat} {nm : List (Str × NameKind)} {vs : List Str} {K : Frag} {ρ : Rho} {σ : Sto} {A : Around} {env : Env} {s : Shared} {ad av : List Addr}
noncomputable abbrev avF (ad av : List Addr) : List Addr := av.filter (· ∉ ad)
theorem memF {ad av : List Addr} {b : Addr} : b ∈ avF ad av ↔ b ∈ av ∧ b ∉ ad := by simp [avF]
theorem Hyp.drop (H : Hyp C k nm vs ρ σ A env s ad av) : Hyp C k nm [] [] [] A env s [] (avF ad av) := by
  obtain ⟨m, hm, _⟩ := H.loc
  refine ⟨H.stays, fun a ha => H.above a (memF.mp ha).1, (fun a ha => by cases ha), .nil, H.names, H.kind, H.glob, H.blt, ⟨m, hm, fun i p e => by simp at e⟩, ⟨memF.mpr H.lav, by simp⟩, fun x c e => ?_, H.celn, H.apart, ?_, ⟨rfl, fun i a m h => by simp at h⟩, H.hh, H.dep, H.un⟩
  · obtain ⟨h1, h2, h3, h4⟩ := H.cel x c e
    exact ⟨memF.mpr ⟨h1, h2⟩, by simp, h3, h4⟩
  · obtain ⟨fl, e, q⟩ := H.fr
    exact ⟨fl, e, fun f hf => by obtain ⟨h1, L, m, h2, h3, h4, h5⟩ := q f hf; exact ⟨h1, L, m, h2, h3, memF.mpr ⟨h4, h5⟩, by simp⟩⟩
theorem Hyp.under {c : Addr} {rest : List Value} {kw : List (Str × Value)} (H : Hyp C (k + 1) nm vs ρ σ A env s ad av) : Hyp C k nm vs ρ σ (A.under (.builtin "type.__call__" ⟨.ref c :: rest, kw⟩)) env s ad av := by
  have hw : Code.weight (.builtin "type.__call__" ⟨.ref c :: rest, kw⟩) = 1 := by rfl
  have hc : Code.cUnits (.builtin "type.__call__" ⟨.ref c :: rest, kw⟩) = 1 := by rfl
  have he : Code.envs (.builtin "type.__call__" ⟨.ref c :: rest, kw⟩) = [] := by rfl
  refine ⟨H.stays, H.above, H.adsub, H.adnd, H.names, H.kind, H.glob, H.blt, H.loc, H.lav, H.cel, H.celn, H.apart, ?_, H.sg, fun _ => H.hh (by omega), ?_, ?_⟩
  · obtain ⟨fl, e, q⟩ := H.fr
    exact ⟨fl, by unfold Around.under; rw [he]; exact e, q⟩
  · show A.depth + Code.weight _ + k < _
    rw [hw]; have := H.dep; omega
  · show A.units + Code.cUnits _ + 8 * k + 8 < _
    rw [hc]; have := H.un; omega
theorem Nxt.ofF {s' : Shared} (H : Hyp C k nm vs ρ σ A env s ad av) (sh : ∃ h tk, s' = { s with heap := h, toks := tk }) (kp : Keep [] (avF ad av) s.heap s'.heap) : Nxt ad av s σ s' := by
  have out : ∀ b, b ∉ av → b ∉ avF ad av := fun b h1 h2 => h1 (memF.mp h2).1
  have outA : ∀ b, b ∈ ad → b ∉ avF ad av := fun b h1 h2 => (memF.mp h2).2 h1
  refine ⟨sh, ⟨fun b hb l => ?_, fun b o n e => kp.kp b o (out b n) e, fun b h1 h2 => kp.ns b (memF.mpr ⟨h1, h2⟩) (by simp), fun b h1 h2 => kp.cl b (memF.mpr ⟨h1, h2⟩) (by simp), fun b h1 h2 => kp.li b (memF.mpr ⟨h1, h2⟩) (by simp)⟩, H.sg.len, fun i a m h1 h2 => (H.sg.at_ i a m h1 h2).to (fun o e => kp.kp a o (outA a (List.mem_of_getElem? h1)) e) fun b o n e => ⟨kp.kp b o (out b n) e, n⟩⟩
  by_cases h : b ∈ ad
  · exact l.keeps fun o e => kp.kp b o (outA b h) e
  · exact kp.lv b (memF.mpr ⟨hb, h⟩) l
structure NewOk (K : Frag) (c fI : Addr) : Prop where
  hm : makesIn K c = true
  hi : findIn K (.ref c) "__init__" = some (some (.ref fI))
  hf : typeIn K (.ref fI) = some (.type "function")
  hk : keepIn K (.ref c) = true
theorem new_core {c fI : Addr} {F : List PV → Sto → R PV} {ks : List (List Nat)} {vals : Addr → List PV} (X : K.In C.base) (ok : NewOk K c fI) (hF : SFc C k fI F) (hv : ∀ x, F [.slf c 0 x] [.dct [] []] = .val .none [.dct ks (vals x)])
    (H : Hyp C (k + 1) nm vs ρ σ A env s ad av) {RR : Result → Shared → Prop}
    (h : ∀ s' x d es n, (∃ h tk, s' = { s with heap := h, toks := tk }) → Keep [] (avF ad av) s.heap s'.heap → s'.heap.get? x = some (instObj c d) → s'.heap.get? d = some (dictOf es n) → KeysAre es ks → Reps s'.heap [] (d :: avF ad av) (es.map (·.val)) (vals x) →
      s.heap.get? x = none → s.heap.get? d = none → (∀ a, x < a → s.heap.get? a = none) → x ≠ d → RR (.ok (.ret (.ref x))) s') : codeAny C.M A (.call (.ref c) ⟨[], []⟩) RR s := by
  have X' := in_heap X H
  have H₀ := (H.drop).under (c := c) (rest := []) (kw := [])
  obtain ⟨hp, g, dr, tk, os⟩ := s
  dsimp only at X' h
  refine make_core (makes_of X' ok.hm) (looks_findIn X' ok.hi) (fun self => bind_fn X' self ok.hf) (.inl rfl) ?_
  have kpa : ∀ b o, hp.get? b = some o → ((hp.push emptyDict).push (instObj c hp.objs.size)).get? b = some o := fun b o e => Heap.get?_push_of_some _ (Heap.get?_push_of_some _ e)
  have hd₁ : ((hp.push emptyDict).push (instObj c hp.objs.size)).get? hp.objs.size = some (dictOf [] 0) := Heap.get?_push_of_some _ (Heap.get?_push_size _ rfl)
  have hx₁ : ((hp.push emptyDict).push (instObj c hp.objs.size)).get? (hp.objs.size + 1) = some (instObj c hp.objs.size) := by
    have := Heap.get?_push_size (h := hp.push emptyDict) (o := instObj c hp.objs.size) rfl
    rwa [Heap.size_push] at this
  have hd₀ : hp.get? hp.objs.size = none := get?_none_of_size (Nat.le_refl _)
  have hx₀ : hp.get? (hp.objs.size + 1) = none := get?_none_of_size (Nat.le_succ _)
  have H₁ := H₀.grow (s' := ⟨(hp.push emptyDict).push (instObj c hp.objs.size), g, dr, tk, os⟩) (m := .dct [] []) ⟨_, _, rfl⟩ (.all kpa) hd₀ ⟨_, hd₁, fun vs q => by cases q⟩ ⟨[], 0, hd₁, ⟨rfl, fun i e k h _ => by simp at h⟩, .nil⟩
  have nD : hp.objs.size ∉ avF ad av := fun h => (H.above _ (memF.mp h).1).2.ne hd₀
  have nX : hp.objs.size + 1 ∉ hp.objs.size :: avF ad av := fun h => by
    rcases List.mem_cons.mp h with q | q
    · omega
    · exact (H.above _ (memF.mp q).1).2.ne hx₀
  refine hF [.dct [] []] _ _ [hp.objs.size] (hp.objs.size :: avF ad av) [.ref (hp.objs.size + 1)] [.slf c 0 (hp.objs.size + 1)] H₁.b (.cons (.slf rfl hx₁ nX) .nil) (by rw [hv]; intro e; cases e) _ ⟨fun v s' p σ' e rp n => ?_, fun x' s' σ' e _ => by rw [hv] at e; cases e⟩
  rw [hv] at e; cases e
  cases rp
  refine ⟨rfl, ?_⟩
  obtain ⟨es, n', q1, q2, q3⟩ := n.sg.at_ 0 _ _ rfl rfl
  have nDof : ∀ b o, hp.get? b = some o → b ∉ avF ad av → b ∉ hp.objs.size :: avF ad av := fun b o e nb q => by
    rcases List.mem_cons.mp q with q | q
    · rw [q, hd₀] at e; cases e
    · exact nb q
  have ne1 : ∀ b, b ∈ avF ad av → b ∉ [hp.objs.size] := fun b hb q => nD (List.mem_singleton.mp q ▸ hb)
  refine h s' (hp.objs.size + 1) hp.objs.size es n' ?_ ⟨fun b hb l => n.kp.lv b (.tail _ hb) (l.keeps fun o e => kpa b o e), fun b o nb e => n.kp.kp b o (nDof b o e nb) (kpa b o e), fun b h1 _ m e => n.kp.ns b (.tail _ h1) (ne1 b h1) m (e.keeps kpa), fun b h1 _ m e => n.kp.cl b (.tail _ h1) (ne1 b h1) m (e.keeps kpa), fun b h1 _ m ⟨o, e, r⟩ => n.kp.li b (.tail _ h1) (ne1 b h1) m ⟨o, kpa _ _ e, r⟩⟩
    (n.kp.kp _ _ nX hx₁) q1 q2 q3 hx₀ hd₀ (fun a ha => get?_none_of_size (Nat.le_of_succ_le (Nat.le_of_lt ha))) (Nat.succ_ne_self _)
  obtain ⟨h', t', rfl⟩ := n.sh
  exact ⟨h', t', rfl⟩
theorem e_new {f : Str} {p pos : Pos} {c fI : Addr} {F : List PV → Sto → R PV} {ks : List (List Nat)} {vals : Addr → List PV} {k' : Nat} (X : K.In C.base) (ok : NewOk K c fI) (hF : SFc C k' fI F) (hk : k' + 1 ≤ k) (hv : ∀ x, F [.slf c 0 x] [.dct [] []] = .val .none [.dct ks (vals x)])
    (hn : nm.lookup f = some .globalImplicit) (hg : C.mg f = some (.ref c)) (hdb : (f == ("__debug__" : Str)) = false := by decide) : SE C k nm vs (.Call (.Name f p) [] [] pos) (cVal (.inst c)) := by
  refine ⟨?_⟩
  intro ρ σ A env s ad av H hb Q E KK
  refine wpAny_Call_Name_kw (name_glob H hn hg ?_ hdb)
  refine callWith_K0 (in_heap X H) ok.hk (wpAny_call (new_core X ok hF hv (H.le hk) fun s' x d es n sh kp hx hd _ _ hx0 hd0 _ _ => ?_))
  exact KK.ok _ _ _ _ rfl (.inst hx rfl rfl rfl (fun q => (H.above x q).2.ne hx0) hd rfl fun q => (H.above d q).2.ne hd0) (.ofF H sh kp)
noncomputable def xNewHost (i : Nat) : Rho → Sto → R Ou := fun ρ σ => .val (.nxt (ρ.set i (some (.host σ.length)))) (σ ++ [.lst []])
theorem s_newhost {f x : Str} {p px pos sp : Pos} {fI : Addr} {F : List PV → Sto → R PV} {ks : List (List Nat)} {vals : Addr → List PV} {k' i : Nat} (X : K.In C.base) (ok : NewOk K 762 fI) (hF : SFc C k' fI F) (hk : k' + 1 ≤ k) (hv : ∀ x, F [.slf 762 0 x] [.dct [] []] = .val .none [.dct ks (vals x)])
    (hno : ∀ x, (ks.zip (vals x)).lookup [110, 111, 116, 101, 115] = some (.nlst x)) (hsi : ∀ x, (ks.zip (vals x)).lookup [115, 105, 108, 101, 110, 116] = some (.int 0)) (hwa : ks.contains [119, 97, 114, 110] = false)
    (hn : nm.lookup f = some .globalImplicit) (hg : C.mg f = some (.ref 762)) (nd : vs.Nodup) (hi : vs[i]? = some x) (hkx : nm.lookup x = some .local ∨ nm.lookup x = some .cell)
    (hs : ∀ env, swapsWith (.Call (.Name f p) [] [] pos) (some (.Name x px)) sp.line env = pure false := by intro _; rfl) (hdb : (f == ("__debug__" : Str)) = false := by decide) : SS C k nm vs (.Assign [.Name x px] (.Call (.Name f p) [] [] pos) sp) (xNewHost i) := by
  refine ⟨?_⟩
  intro ρ σ A env s ad av H hb Q E KK
  refine wpAny_Assign_Name (wpAny_Call_Name_kw (name_glob H hn hg ?_ hdb)) (hs env)
  refine callWith_K0 (in_heap X H) ok.hk (wpAny_call (new_core X ok hF hv (H.le hk) fun s' a d es n sh kp hx hd hks hrs hx0 hd0 hab hxd => ?_))
  obtain ⟨v, g1, r1⟩ := getL_some hks hrs (hno a)
  obtain ⟨v2, g2, r2⟩ := getL_some hks hrs (hsi a)
  have g3 := getL_none hks hwa
  obtain ⟨t, rfl⟩ := r2.int_inv
  cases r1 with
  | @nlst nl _ l1 l2 l3 =>
    have hnl0 := hab nl l2
    have hnx : a ≠ nl := Nat.ne_of_lt l2
    have hnd : d ≠ nl := fun q => l3 (q ▸ .head _)
    have H' := H.grow (m := .lst []) sh kp hnl0 l1.live ⟨[], l1, .nil⟩
    have nin : ∀ b, s.heap.get? b = none → b ≠ nl → b ∉ nl :: av := fun b hb hne q => by
      rcases List.mem_cons.mp q with q | q
      · exact hne q
      · exact (H.above b q).2.ne hb
    have r : Rep s'.heap (ad ++ [nl]) (nl :: av) (.ref a) (.host σ.length) := .host (last_get H.sg.len) hx (nin a hx0 hnx) hd (nin d hd0 hnd) g1 g2 g3
    exact store_ok H' nd hi hkx r fun s'' H'' a'' => KK.nx _ _ _ _ _ rfl H'' ((Aft.growF sh kp H.lives hnl0).trans H.lives a'')
/- ## host.warn -/
noncomputable def xWarn (F : List PV → Sto → R PV) (i : Nat) (g : Rho → Sto → R (List PV)) : Rho → Sto → R Ou := fun ρ σ => (cVar i ρ σ).bind fun h σ => match h with
  | .host j => (g ρ σ).bind fun ps σ => (F (.host j :: ps) σ).bind fun _ σ => .val (.nxt ρ) σ
  | _ => .bad
structure MethOk (K : Frag) (c : Addr) (name : Str) (f : Addr) : Prop where
  pg : plainGet K c name = true
  hf : findIn K (.ref c) name = some (some (.ref f))
  ht : typeIn K (.ref f) = some (.type "function")
theorem s_warn {x : Str} {px ap cp pos : Pos} {e : Expr} {es : List Expr} {i : Nat} {F : List PV → Sto → R PV} {g : Rho → Sto → R (List PV)} {k' : Nat} (X : K.In C.base) (ok : MethOk K 762 "warn" 696) (hd : IsDef C 696) (hF : SF C k' 696 F) (hk : k' ≤ k) (hi : vs[i]? = some x) (hs : SEs C k nm vs (e :: es) g)
    (hev : ∀ env, ∃ pl, eval (.Call (.Attribute (.Name x px) "warn" ap) (e :: es) [] cp) env = (do
      let ov ← eval (.Name x px) env
      standAt ap.atName
      let (f, first) ← holding [ov] (getMethod ov "warn" pl)
      callWith cp f first (backTo cp (starEach (e :: es) env)) []) := by intro _; exact ⟨_, rfl⟩)
    (he : ∀ env, starEach (e :: es) env = (false, eval e env) :: starEach es env := by intro _; rfl)
    (hsw : ∀ env, swapsWith (.Call (.Attribute (.Name x px) "warn" ap) (e :: es) [] cp) none pos.line env = pure false := by intro _; rfl) (hdb : (x == ("__debug__" : Str)) = false := by decide) :
    SS C k nm vs (.Expr (.Call (.Attribute (.Name x px) "warn" ap) (e :: es) [] cp) pos) (xWarn F i g) := by
  refine ⟨?_⟩
  intro ρ σ A env s ad av H hb Q E KK
  obtain ⟨pl, hev⟩ := hev env
  obtain ⟨o, fd, ho, hdat⟩ := hd
  refine wpAny_Expr_any (MethodCall_ (pl := pl) (((e_var hi hdb).run ρ σ A env s ad av H).seqX H hb KK fun v s₁ q σ₁ rv n₁ hb KK => ?_) hev) (interactive_fn H.kind) (hsw env)
  have H₁ := H.next n₁
  cases rv with
  | @host j a nl d es' n t e1 e2 e3 e4 e5 e6 e7 e8 =>
    have rh : Rep s₁.heap ad av (.ref a) (.host j) := .host e1 e2 e3 e4 e5 e6 e7 e8
    dsimp only at hb KK
    refine method_fn (ox := instObj 762 d) (od := some (dictOf es' n)) (in_heap X H₁) ⟨e2, rfl, rfl, e4⟩ (plainGet_of ok.pg).1 (plainGet_of ok.pg).2 ok.hf ok.ht (by show (lookIn _ (dictOf es' n)).map _ = _; rw [lookIn_dict, e8]; rfl) ?_
    have hs' := hs.run ρ σ₁ A env s₁ ad av cp H₁
    rw [he env] at hs' ⊢
    refine callWith_function (o := o) (fd := fd) (evalArgs_plain (hs'.seqX H₁ hb KK fun vals s₂ ps σ₂ rp n₂ hb KK => ?_))
    have H₂ := H₁.next n₂
    refine ⟨⟨H₂.stays _ _ ho, hdat⟩, ?_⟩
    refine (hF nm vs ρ σ₂ A env s₂ ad av (.ref a :: vals) (.host j :: ps) (H₂.le hk) (.cons (rh.keep n₂.kp) rp)).seqX H₂ hb KK fun v s₃ q σ₃ rv n₃ hb KK => ?_
    exact KK.nx _ _ _ _ _ rfl (H₂.next n₃) (.of (.refl (H₂.next n₃)))
  | _ => exact absurd rfl hb
end
end Mine.Internal
/- G20 -/
section
open Builtin Builtin.ObjectAttr
namespace Mine.Internal
/- ## Exceptions of the text: how one is made -/
noncomputable abbrev eObj (C : Addr) (t : Addr) : Obj := { cls := .ref C, data := .fields #[.ref t, .none, .none, .none, .bool false, .none] }
section
variable {prog : Program} {w : World} {A : Around} {E : Value → Shared → Prop} {h : Heap} {g : Array GenState} {d : Drawn} {t : Nat} {os : OsState}
variable {nm q : Str} {C N : Addr} {bs bm : List Value} {hdct : Bool} {sn : List Str} {sub : List Value} {ab : Bool} {col : Option Bool} {dd : Option Addr} {k0 k1 k2 k3 k5 : Option Value} {B newId initId : String} {bmB : List Value}
structure Tail (bm : List Value) (B : String) : Prop where
  hasB : bm.contains (.type B) = true
  noAttr : bm.contains (.type "AttributeError") = false
  noName : bm.contains (.type "NameError") = false
theorem check_new (F : ExcBaseFacts B newId initId bmB) (T : Tail bm B) {M : Model} {rest : List Value} {Q : Unit → Shared → Prop} (hC : h.get? C = some (excClassObj nm q C N bs bm hdct sn sub ab col dd k0 k1 k2 k3 k5 newId))
    (hq : Q () ⟨h, g, d, t, os⟩) : wpAny M A (checkBuiltinCall newId ⟨.ref C :: rest, []⟩) Q E ⟨h, g, d, t, os⟩ := by
  have hcont : (Value.ref C :: bm).contains (.type B) = true := by rw [List.contains_cons, T.hasB, Bool.or_true]
  have hstar := F.noStar
  unfold checkBuiltinCall; rw [F.newKind, F.newSplit]; dsimp only; rw [F.newRow]; dsimp only
  repeat (first | refine wpAny_loadPart_at hC ?_ | (refine wpAny_isSubtype_exc hC ?_; rw [hcont]) | refine wpAny_staticBase_exc hC ?_ | refine wpAny_madeBy_exc hC ?_ | simp -iota only [bne_self_eq_false, Bool.false_eq_true, if_false] | wp_step)
  exact hq
theorem exc_new {R : Result → Shared → Prop} (F : ExcBaseFacts B newId initId bmB) (T : Tail bm B) {rest : List Value} (hC : h.get? C = some (excClassObj nm q C N bs bm hdct sn sub ab col dd k0 k1 k2 k3 k5 newId))
    (hq : R (.ok (.ret (.ref (h.objs.size + 1)))) ⟨(h.push { cls := .type "tuple", data := .seq rest.toArray }).push (eObj C h.objs.size), g, d, t, os⟩) (hrest : rest.length ≤ sizeLine) :
    codeAny (model prog w) A (.builtin newId ⟨.ref C :: rest, []⟩) R ⟨h, g, d, t, os⟩ := by
  have hends := F.ends
  have hcB : (Value.ref C :: bm).contains (.type B) = true := by rw [List.contains_cons, T.hasB, Bool.or_true]
  have hcA : (Value.ref C :: bm).contains (.type "AttributeError") = false := by rw [List.contains_cons, T.noAttr]; rfl
  have hcN : (Value.ref C :: bm).contains (.type "NameError") = false := by rw [List.contains_cons, T.noName]; rfl
  refine codeAny_builtinAt F.entry ?_
  unfold Builtin.«BaseException.__new__»
  refine PySem.wpAt_bind ?_
  show PySem.wpAt _ _ _ (stack >>= _) _ _ _
  refine PySem.wpAt_bind (PySem.wpAt_stack fun p below => PySem.wpAt_of_wpAny ?_)
  wp_walk
  refine PySem.wpAt_of_wpAny ?_
  rw [F.owner]
  repeat (first | with_reducible refine wpAny_madeHere_exc F.canon hC ?_ | with_reducible refine wpAny_loadPart_at hC ?_ | (with_reducible refine wpAny_isSubtype_exc hC ?_; first | rw [hcB] | rw [hcA] | rw [hcN]) | wp_step)
  show R _ _
  rw [Heap.size_push]
  exact hq
theorem exc_call {K : Frag} {fI : Addr} {R : Result → Shared → Prop} (F : ExcBaseFacts B newId initId bmB) (T : Tail bm B) {rest : List Value} (X : K.In h) (hC : h.get? C = some (excClassObj nm q C N bs bm hdct sn sub ab col dd k0 k1 k2 k3 k5 newId))
    (hi : findIn K (.ref C) "__init__" = some (some (.ref fI))) (hf : typeIn K (.ref fI) = some (.type "function")) (hrest : rest.length ≤ sizeLine)
    (hq : codeAny (model prog w) (A.under (.builtin "type.__call__" ⟨.ref C :: rest, []⟩)) (.call (.ref fI) ⟨.ref (h.objs.size + 1) :: rest, []⟩) (InitBack (h.objs.size + 1) R) ⟨(h.push { cls := .type "tuple", data := .seq rest.toArray }).push (eObj C h.objs.size), g, d, t, os⟩) :
    codeAny (model prog w) A (.call (.ref C) ⟨rest, []⟩) R ⟨h, g, d, t, os⟩ := by
  have f1 := tc_lookup
  have f2 := tc_bind (.ref C)
  have hT : (⟨h, g, d, t, os⟩ : Shared).TypeIs (.ref C) "type" := ⟨_, hC, rfl⟩
  refine codeAny_mono (R := fun r s' => match r with | .ok (.ret v) => R (.ok (.ret v)) s' | .ok _ => False | .error e => R (.error e) s') (codeAny_of_tree ?_) (fun r s' hr => by
    rcases r with e | (v | _ | _ | _) <;> first | exact hr | exact hr.elim)
  show wpAny _ _ (callAny (.ref C) _) _ _ _
  repeat (any_goals (first | assumption | with_reducible refine wpAny_loadPart_at hC ?_ | wp_step))
  refine ⟨rfl, ?_⟩
  refine codeAny_call_builtin_at (Code.quiet_builtin _ (by decide +kernel)) entry_typeCall (wpAny_check_type_call_sub hC ?_)
  unfold Builtin.«type.__call__»
  repeat (first | with_reducible refine wpAny_loadPart_at hC ?_ | with_reducible refine wpAny_madeBy_exc hC ?_ | wp_step)
  refine codeAny_call_builtin_code (Code.quiet_builtin _ F.quiet) (check_new F T hC ?_)
  refine exc_new F T hC ?_ hrest
  show wpAny _ _ _ _ _ _
  have k : ∀ b o, h.get? b = some o → ((h.push { cls := .type "tuple", data := .seq rest.toArray }).push (eObj C h.objs.size)).get? b = some o := fun b o e => Heap.get?_push_of_some _ (Heap.get?_push_of_some _ e)
  have hC₁ := k _ _ hC
  have X₁ : K.In ((h.push { cls := .type "tuple", data := .seq rest.toArray }).push (eObj C h.objs.size)) := X.keeps k
  have hget : ((h.push { cls := .type "tuple", data := .seq rest.toArray }).push (eObj C h.objs.size)).get? (h.objs.size + 1) = some (eObj C h.objs.size) := by
    have := Heap.get?_push_size (h := h.push { cls := .type "tuple", data := .seq rest.toArray }) (o := eObj C h.objs.size) rfl
    rwa [Heap.size_push] at this
  have hcC : (Value.ref C :: bm).contains (.ref C) = true := by simp
  unfold isInstance
  repeat (first | with_reducible refine wpAny_loadPart_at hget ?_ | (show wpAny _ _ (isSubtype (.ref C) (.ref C)) _ _ _; refine wpAny_isSubtype_exc hC₁ ?_; rw [hcC]) | wp_step)
  show wpAny _ _ (typeLookup (.ref C) _) _ _ _
  refine (looks_findIn X₁ hi).at ?_
  refine wpAny_holding (wpAny_bind ((bind_fn X₁ _ hf).at ?_))
  refine wpAny_bind (wpAny_call (codeAny_mono hq fun r s' z => ?_))
  rcases r with e | (v | _ | _ | _) <;> first | exact z | exact z.elim | skip
  obtain ⟨rfl, z⟩ := z
  exact wpAny_pure (wpAny_pure z)
theorem check_init (F : ExcBaseFacts B newId initId bmB) (T : Tail bm B) {M : Model} {e : Addr} {oe : Obj} {rest : List Value} {Q : Unit → Shared → Prop}
    (hC : h.get? C = some (excClassObj nm q C N bs bm hdct sn sub ab col dd k0 k1 k2 k3 k5 newId)) (he : h.get? e = some oe) (hcls : oe.cls = .ref C) (hq : Q () ⟨h, g, d, t, os⟩) :
    wpAny M A (checkBuiltinCall initId ⟨.ref e :: rest, []⟩) Q E ⟨h, g, d, t, os⟩ := by
  have hcB : (Value.ref C :: bm).contains (.type B) = true := by rw [List.contains_cons, T.hasB, Bool.or_true]
  have hshort := F.noStar
  unfold checkBuiltinCall; rw [F.initKind, F.initSplit]; dsimp only; rw [F.initRow]; dsimp only
  repeat (first | (with_reducible refine wpAny_loadPart_at he ?_; rw [hcls]) | with_reducible refine wpAny_loadPart_at hC ?_ | (with_reducible refine wpAny_isSubtype_exc hC ?_; rw [hcB]) | wp_step)
  refine wpAny_onRaise ?_
  rw [show ∀ (a b : String) (n : Nat), Bind.check ⟨.positional, "*", B, .self, [⟨"args", .varPos, false⟩]⟩ a b n (List.map (fun x => x.fst) ({ pos := Value.ref e :: rest } : Args).kw) = pure () from
    fun a b n => check_star_args _ _ _ _ _ _]
  exact wpAny_pure hq
theorem exc_init (F : ExcBaseFacts B newId initId bmB) (T : Tail bm B) {e t0 : Addr} {v : Value} {Q : Value → Shared → Prop} (hC : h.get? C = some (excClassObj nm q C N bs bm hdct sn sub ab col dd k0 k1 k2 k3 k5 newId)) (he : h.get? e = some (eObj C t0))
    (hq : ∀ h' t1, (∀ b o, b ≠ e → h.get? b = some o → h'.get? b = some o) → h'.get? e = some (eObj C t1) → Q .none ⟨h', g, d, t, os⟩) : wpAny (model prog w) A (call (.builtin initId) [.ref e, v]) Q E ⟨h, g, d, t, os⟩ := by
  refine wpAny_call (codeAny_call_builtin F.init.plain F.initEntry (check_init F T hC he rfl ?_))
  wp_walk
  refine hq _ h.objs.size (fun b o hb e' => ?_) ?_
  · rw [Heap.get?_update_other _ _ (Ne.symm hb)]; exact Heap.get?_push_of_some _ e'
  · rw [Heap.get?_update_self _ (Heap.get?_push_of_some _ he) rfl]
    rfl
/- the first attribute of an exception makes its dict -/
theorem exc_store {K : Frag} {e : Addr} {cd : ClassData} {fs : Array Value} {sl : Array (Option Value)} {name : Str} {v : Value} {Q : Unit → Shared → Prop} (X : K.In h) (he : h.get? e = some ⟨.ref C, none, .fields fs, sl⟩) (hc : clsIn K C = some cd) (hd : cd.hasDict = true)
    (hs : findIn K (.ref C) "__setattr__" = some (some (.builtin "object.__setattr__"))) (m1 : cd.mro.isEmpty = false) (m5 : cd.mro.contains (.type "object") = true) (re : ∀ self, refuseLoop self "__setattr__" cd.mro = pure ()) (ht : takerIn K C name = some none)
    (hq : ∀ h' dx, (∀ b o, b ≠ e → h.get? b = some o → h'.get? b = some o) → h'.get? e = some ⟨.ref C, some dx, .fields fs, sl⟩ → Q () ⟨h', g, d, t + 2, os⟩) : wpAny (model prog w) A (setAttr (.ref e) name v) Q E ⟨h, g, d, t, os⟩ := by
  have I : InstAt h e ⟨.ref C, none, .fields fs, sl⟩ C none := ⟨he, rfl, rfl, trivial⟩
  refine set_plain X I hs ?_
  have SF := PySem.F.store_object
  have sub : Looks (model prog w) h (isInstance (.ref e) (.type "object")) true := I.type.andThen (looks_mroIn X (by unfold mroIn; rw [hc, Option.bind_some, if_neg (by rw [m1]; decide), m5]))
  refine codeAny_call_builtin SF.slot.plain SF.entry (@check_slot (model prog w) _ _ ⟨h, g, d, t + 1, os⟩ "object.__setattr__" "object" "__setattr__" (.ref e) [.str name t, v] [] _ SF.kind SF.split sub (SF.args (.ref e) (.str name t) v) ?_)
  obtain ⟨attr, ha, hr⟩ := Option.bind_eq_some_iff.mp ht
  have hm : Looks (model prog w) h (mroOf (.ref C)) cd.mro := (looks_clsIn X hc).andThen .now
  have L3 : Looks (model prog w) h (storeTaker? attr) none := by
    cases attr with
    | none => exact .now
    | some a =>
      obtain ⟨b, hb, hb'⟩ := Option.map_eq_some_iff.mp hr
      refine (looks_takesIn X hb).andThen ?_
      cases b with
      | true => cases hb'
      | false => exact .now
  rw [osa_eq, refuse_eq]
  refine wpAny_bind (wpAny_bind (I.type.at (wpAny_bind (hm.at ?_))))
  rw [re]
  refine wpAny_pure (wpAny_bind (I.type.at (wpAny_bind ((looks_findIn X ha).at (wpAny_bind (L3.at ?_))))))
  refine wpAny_bind (wpAny_pure (wpAny_bind (wpAny_bind (wpAny_loadPart he (wpAny_bind ((looks_clsIn X hc).at ?_))))))
  rw [hd]
  have hne : e ≠ h.objs.size := Nat.ne_of_lt (Heap.lt_size he)
  refine wpAny_bind (wpAny_alloc (wpAny_bind (wpAny_update (o := ⟨.ref C, none, .fields fs, sl⟩) (Heap.get?_push_of_some _ he) ?_)))
  have hd₁ : ((h.push { cls := .type "dict", data := .dict #[] }).update e fun o => { o with dict := some h.objs.size }).get? h.objs.size = some (dictOf [] 0) := by
    rw [Heap.get?_update_other _ _ hne]; exact Heap.get?_push_size _ rfl
  have he₁ : ((h.push { cls := .type "dict", data := .dict #[] }).update e fun o => { o with dict := some h.objs.size }).get? e = some ⟨.ref C, some h.objs.size, .fields fs, sl⟩ :=
    Heap.get?_update_self _ (Heap.get?_push_of_some _ he) rfl
  refine wpAny_pure (a := some h.objs.size) (wpAny_bind (wpAny_pure (wpAny_bind ?_)))
  unfold nsSet
  refine wpAny_bind (wpAny_bind (wpAny_askSetting (wpAny_pure (wpAny_bind (wpAny_mkText (wpAny_bind (wpAny_loadPart hd₁ ?_)))))))
  dsimp only
  rw [aRefKeyMayBeTheName_at]
  simp -iota only [Bool.and_false, Bool.false_eq_true, if_false, Array.any_empty, Bool.not_false, List.any_toArray, List.any_nil]
  refine wpAny_updatePart hd₁ ?_
  generalize hH : ((h.push { cls := .type "dict", data := .dict #[] }).update e fun o => { o with dict := some h.objs.size }) = H₁ at hd₁ he₁ ⊢
  have D' : (H₁.update h.objs.size (Obj.putName name (PyData.keyHash w.params name) (.str name (t + 1)) v)).get? h.objs.size = some (dictOf [⟨PyData.keyHash w.params name, .str name (t + 1), v⟩] 1) := by
    rw [Heap.get?_update_self _ hd₁ (by rw [putName_dict]; rfl), putName_dict]; rfl
  refine wpAny_bind (wpAny_lookBehind D' (by exact pastItsLine_dict (by rw [List.size_toArray, sizeLine_eq]; simp)) ?_)
  refine wpAny_pure (hq _ h.objs.size (fun b o hb e' => ?_) ?_)
  · have hb2 : h.objs.size ≠ b := Ne.symm (Nat.ne_of_lt (Heap.lt_size e'))
    rw [Heap.get?_update_other _ _ hb2, ← hH, Heap.get?_update_other _ _ (Ne.symm hb)]
    exact Heap.get?_push_of_some _ e'
  · rw [Heap.get?_update_other _ _ (Ne.symm hne)]; exact he₁
end
end Mine.Internal
end
/- G21 -/
section
open Builtin Builtin.ObjectAttr
namespace Mine.Internal
section
variable {prog : Program} {w : World} {A : Around} {E : Value → Shared → Prop} {s : Shared} {K : Frag}
theorem getMethod_type {T : String} {name : Str} {v : Value} {pl : Sem Bool} {Q : Value × List Value → Shared → Prop} (X : K.In s.heap) (ht : typeOf (.type T) = pure (.type "type")) (hs : Manifest.isStub T = false)
    (e : findCls K (.type T) (.type "type") name = some (.val v)) (hh : handedIn v = true) (h : Q (v, []) { s with toks := s.toks + 1 }) : wpAny (model prog w) A (getMethod (.type T) name pl) Q E s := by
  have hstub : opaqueClassAbove (.type T) = pure none := by unfold opaqueClassAbove; dsimp only; rw [hs]; rfl
  have L0 : Looks (model prog w) s.heap (typeOf (.type T)) (.type "type") := Looks.of_pure ht
  have hg : findIn K (.type "type") "__getattribute__" = some (some (.builtin "type.__getattribute__")) := type_tga
  have LO : Looks (model prog w) s.heap (opaqueClassAbove (.type T)) none := Looks.of_pure hstub
  unfold getMethod specialOf
  refine wpAny_bind (wpAny_bind (L0.here ((looks_findIn X hg).here ?_)))
  dsimp only
  rw [if_pos canon_tga]
  refine wpAny_bind (wpAny_mono (Q := fun v => Q (v, [])) (E := E) ?_ (fun _ _ z => wpAny_pure z) fun _ _ z => z)
  exact cls_open X LO L0 hg (looks_hook X (r := none) (by rfl)) (by show subIn K _ _ = _; rfl) e
    (wpAny_pure (by show wpAny _ _ (handedOut v) _ _ _; rw [handedOut_of hh]; exact wpAny_pure h))
variable {nm q : Str} {C N : Addr} {bs bm : List Value} {hdct : Bool} {sn : List Str} {sub : List Value} {ab : Bool} {col : Option Bool} {dd : Option Addr} {k0 k1 k2 k3 k5 : Option Value} {newId : String} {env : Env}
theorem raiseStmt_own {x : Sem Value} {Q : Flow → Shared → Prop} (hbase : bm.contains (.type "BaseException") = true) (hh : A.handled = none)
    (h : wpAny (model prog w) A x (fun v s₁ => ∃ e dx t1 sl, v = .ref e ∧ s₁.heap.get? C = some (excClassObj nm q C N bs bm hdct sn sub ab col dd k0 k1 k2 k3 k5 newId) ∧ s₁.heap.get? e = some ⟨.ref C, dx, .fields #[.ref t1, .none, .none, .none, .bool false, .none], sl⟩ ∧ E (.ref e) s₁) E s) :
    wpAny (model prog w) A (raiseStmt env (some x) none) Q E s := by
  have hcB : (Value.ref C :: bm).contains (.type "BaseException") = true := by rw [List.contains_cons, hbase, Bool.or_true]
  unfold raiseStmt
  refine wpAny_bind (wpAny_mono h (fun v s₁ h₁ => ?_) fun _ _ x => x)
  obtain ⟨e, dx, t1, sl, rfl, hC, he, hE⟩ := h₁
  obtain ⟨hp, g, d, tk, os⟩ := s₁
  repeat (first | with_reducible refine wpAny_loadPart_at he ?_ | with_reducible refine wpAny_loadPart_at hC ?_ | (show wpAny _ _ (isSubtype (.ref C) _) _ _ _; refine wpAny_isSubtype_exc hC ?_; rw [hcB]) | wp_step)
  exact wpAny_raiseNew_none hh hE
end
section
variable {C : Cx} {k : Nat} {nm : List (Str × NameKind)} {vs : List Str} {K : Frag} {ρ : Rho} {σ : Sto} {A : Around} {env : Env} {s : Shared} {ad av : List Addr}
/- what is known of LeftOut -/
structure LeftOk (C : Cx) (K : Frag) (fI : Addr) : Prop where
  X : K.In C.base
  obj : ∃ (n q : Str) (N : Addr) (bs bm : List Value) (sn : List Str) (sub : List Value) (col : Option Bool) (dd : Option Addr) (k0 k1 k2 k3 k5 : Option Value) (cd : ClassData), C.base.get? 51 = some (excClassObj n q 51 N bs bm true sn sub false col dd k0 k1 k2 k3 k5 "Exception.__new__") ∧
    Tail bm "Exception" ∧ bm.contains (.type "BaseException") = true ∧ clsIn K 51 = some cd ∧ cd.hasDict = true ∧ cd.mro.isEmpty = false ∧ cd.mro.contains (.type "object") = true ∧ ∀ self, refuseLoop self "__setattr__" cd.mro = pure ()
  hi : findIn K (.ref 51) "__init__" = some (some (.ref fI))
  hf : typeIn K (.ref fI) = some (.type "function")
  hs : findIn K (.ref 51) "__setattr__" = some (some (.builtin "object.__setattr__"))
  ht : takerIn K 51 "why" = some none
  hk : keepIn K (.ref 51) = true
  fc : findCls K (.type "Exception") (.type "type") "__init__" = some (.val (.builtin "Exception.__init__"))
theorem ref_raw {h : Heap} {ad av : List Addr} {v w : Value} (r : Rep h ad av v (.raw w)) : v = w := by cases r; rfl
theorem name_var {i : Nat} {x : Str} {pos : Pos} {p : PV} {Q : Value → Shared → Prop} {E : Value → Shared → Prop} (H : Hyp C k nm vs ρ σ A env s ad av) (hi : vs[i]? = some x) (hp : ρ[i]? = some (some p)) (h : ∀ v, Rep s.heap ad av v p → Q v s) (hd : (x == ("__debug__" : Str)) = false := by decide) : wpAny C.M A (eval (.Name x pos) env) Q E s := by
  obtain ⟨m, hm, hv⟩ := H.loc
  obtain ⟨y, hy, q⟩ := hv i p hp
  rw [hi] at hy; cases hy
  refine wpAny_Name ?_ hd
  rcases q with ⟨h1, v, h2, h3⟩ | ⟨h1, c, v, h2, h3, h4⟩
  · exact wpAny_loadName_local H.kind (by unfold Env.kindOf; rw [H.names]; exact h1) hm h2 (h v h3)
  · exact wpAny_loadName_cell H.kind (by unfold Env.kindOf; rw [H.names]; exact h1) h2 h3 (h v h4)
theorem exc_fn {fI : Addr} {prm : Arguments} {sc : Scope} {p1 p2 p3 p4 p5 p6 p7 p8 p9 p10 : Pos} (L : LeftOk C K fI)
    (F : FnAt C.base fI prm [.Expr (.Call (.Attribute (.Name "Exception" p1) "__init__" p2) [.Name "self" p3, .Name "why" p4] [] p5) p6, .Assign [.Attribute (.Name "self" p7) "why" p8] (.Name "why" p9) p10] sc)
    (hk : ∀ x ∈ ([Str.ofString "self", Str.ofString "why"] : List Str), sc.names.lookup x = some .local ∨ sc.names.lookup x = some .cell) (hx : sc.names.lookup (Str.ofString "Exception") = some .globalImplicit) (hg : C.mg (Str.ofString "Exception") = none)
    (hbind : ∀ (fd : FuncData) vals, fd.params = prm → fd.defaults = .none → vals.length = 2 → bindArgs fd ⟨vals, []⟩ = pure ([Str.ofString "self", Str.ofString "why"].zip vals))
    (H : Hyp C (k + 2) nm vs ρ σ A env s ad av) {e t0 : Addr} {l : List Nat} {tk : Tok} (he : s.heap.get? e = some (eObj 51 t0)) (heb : C.base.get? e = none) {RR : Result → Shared → Prop}
    (h : ∀ s' dx t1, (∃ h tk, s' = { s with heap := h, toks := tk }) → (∀ b o, b ≠ e → s.heap.get? b = some o → s'.heap.get? b = some o) → s'.heap.get? e = some ⟨.ref 51, some dx, .fields #[.ref t1, .none, .none, .none, .bool false, .none], #[]⟩ → RR (.ok (.ret .none)) s')
    (hev : ∀ env', ∃ pl, eval (.Call (.Attribute (.Name "Exception" p1) "__init__" p2) [.Name "self" p3, .Name "why" p4] [] p5) env' = (do
      let ov ← eval (.Name "Exception" p1) env'
      standAt p2.atName
      let (f, first) ← holding [ov] (getMethod ov "__init__" pl)
      callWith p5 f first (backTo p5 (starEach [.Name "self" p3, .Name "why" p4] env')) []) := by intro _; exact ⟨_, rfl⟩)
    (hco : sc.isCoroutine = false := by rfl) (hgen : sc.isGenerator = false := by rfl) (hkind : sc.kind = .function := by rfl) :
    codeAny C.M A (.call (.ref fI) ⟨[.ref e, .str (toStr l) tk], []⟩) RR s := by
  refine fn_enter (k := k + 1) (pn := [Str.ofString "self", Str.ofString "why"]) (ln := []) (vals := [.ref e, .str (toStr l) tk]) (ps := [.raw (.ref e), .str l]) F (by decide +kernel) hk H.b (.cons (.raw _) (.cons (.str _ _) .nil)) rfl (fun fd q1 q2 => .of_eq (hbind fd _ q1 q2 rfl)) (fun env' s₁ nw H₁ B => ?_) hco hgen hkind
  have FE := PySem.F.excBase_Exception
  obtain ⟨n, qn, N, bs, bm, sn, sub, col, dd, k0, k1, k2, k3, k5, cd, hC, T, hbase, hcd, hd, m1, m5, re⟩ := L.obj
  have nin : e ∉ nw ++ av := fun hm => by
    rcases List.mem_append.mp hm with hm | hm
    · rw [B.nwf e hm] at he; cases he
    · obtain ⟨o, ho, hn⟩ := (H.above e hm).2
      rw [he] at ho; cases ho; exact hn _ rfl
  have he₁ := B.keep _ _ he
  obtain ⟨pl, hev⟩ := hev env'
  refine wpAny_execs_cons (wpAny_Expr_any (MethodCall_ (pl := pl) (name_blt H₁ hx hg (v := .type "Exception") (by rfl) (by decide) ?_) hev) (interactive_fn H₁.kind) rfl)
  refine getMethod_type (in_heap L.X H₁) (by kernel_rfl) (by decide +kernel) L.fc (by rfl) ?_
  have H₂ := H₁.next (Nxt.toks H₁ (s₁.toks + 1))
  rw [show starEach [.Name "self" p3, .Name "why" p4] env' = (false, eval (.Name "self" p3) env') :: starEach [.Name "why" p4] env' from rfl]
  refine callWith_builtin rfl (evalArgs_plain ?_)
  show wpAny _ _ (spliced (backTo p5 (starEach [.Name "self" p3, .Name "why" p4] env'))) _ _ _
  refine wpAny_items_cons (name_var (i := 0) H₂ rfl rfl fun v0 r0 => wpAny_items_cons (name_var (i := 1) H₂ rfl rfl fun v1 r1 => wpAny_items_nil ?_) rfl) rfl
  obtain rfl := ref_raw r0
  obtain ⟨tv, rfl⟩ := r1.str_inv
  obtain ⟨hp, g, d, tk₁, os⟩ := s₁
  dsimp only at he₁ ⊢
  have hC₁ : hp.get? 51 = _ := H₁.stays _ _ hC
  refine exc_init FE T hC₁ he₁ fun h' t1 kp' he' => ?_
  have H₃ := H₂.over (h' := h') (tk := tk₁ + 1) (wr := [e]) (fun b o hb q => kp' b o (fun r => hb (r ▸ .head _)) q) (fun b hb o q => by rw [List.mem_singleton.mp hb] at q; rw [show hp.get? e = _ from he₁] at q; cases q; exact ⟨_, rfl⟩) (fun b hb => by rw [List.mem_singleton.mp hb]; exact heb)
  refine wpAny_execs_cons (plainObj_wpAny_Assign_Attribute (name_var (i := 1) H₃ rfl rfl fun v2 r2 => name_var (i := 0) H₃ rfl rfl fun v3 r3 => ?_) rfl)
  obtain rfl := ref_raw r3
  refine exc_store (in_heap L.X H₃) he' hcd hd L.hs m1 m5 re L.ht fun h'' dx kp'' he'' => wpAny_execs_nil ?_
  obtain ⟨h₀, t₀', q₀⟩ := B.sh
  cases q₀
  exact h _ dx t1 ⟨_, _, rfl⟩ (fun b o hb q => kp'' b o hb (kp' b o hb (B.keep b o q))) he''
end
end Mine.Internal
end
/- G22 -/
namespace Mine.Internal
section
variable {C : Cx} {k : Nat} {nm : List (Str × NameKind)} {vs : List Str} {K : Frag} {ρ : Rho} {σ σ' : Sto} {A : Around} {env : Env} {s s' : Shared} {ad av : List Addr}
/- ## raise LeftOut(text) -/
noncomputable def ExcF (C : Cx) (k : Nat) (fI : Addr) : Prop := ∀ nm vs ρ σ A env s ad av, Hyp C k nm vs ρ σ A env s ad av → ∀ e t0 l tk, s.heap.get? e = some (eObj 51 t0) → C.base.get? e = none → ∀ RR : Result → Shared → Prop,
  (∀ s' dx t1, (∃ h tk, s' = { s with heap := h, toks := tk }) → (∀ b o, b ≠ e → s.heap.get? b = some o → s'.heap.get? b = some o) → s'.heap.get? e = some ⟨.ref 51, some dx, .fields #[.ref t1, .none, .none, .none, .bool false, .none], #[]⟩ → RR (.ok (.ret .none)) s') →
  codeAny C.M A (.call (.ref fI) ⟨[.ref e, .str (toStr l) tk], []⟩) RR s
noncomputable def xRaise : Rho → Sto → R Ou := fun ρ σ => .val .thr σ
theorem s_raise {fI : Addr} {k' : Nat} {x tx : Str} {l : List Nat} {n : Nat} {np ap cpos pos : Pos} (L : LeftOk C K fI) (EF : ExcF C k' fI) (hk : k' + 1 ≤ k) (ht : tx = toStr l) (hn : nm.lookup x = some .globalImplicit) (hg : C.mg x = some (.ref 51)) (hdb : (x == ("__debug__" : Str)) = false := by decide) :
    SS C k nm vs (.Raise (some (.Call (.Name x np) [.Constant (.str tx) n ap] [] cpos)) none pos) xRaise := by
  subst ht
  refine ⟨?_⟩
  intro ρ σ A env s ad av H hb Q E KK
  have FE := PySem.F.excBase_Exception
  obtain ⟨cn, qn, N, bs, bm, sn, sub, col, dd, k0, k1, k2, k3, k5, cd, hC, T, hbase, hcd, hd, m1, m5, re⟩ := L.obj
  rw [arm_exec_Raise]
  refine wpAny_bind (wpAny_standAt ?_)
  show wpAny _ _ (raiseStmt env (some (do let v ← eval (.Call (.Name x np) [.Constant (.str (toStr l)) n ap] [] cpos) env; standAt pos; pure v)) none) Q E s
  refine raiseStmt_own hbase (H.hh (by omega)) (wpAny_bind (wpAny_mono (Q := fun v s₁ => ∃ e dx t1 sl, v = .ref e ∧ s₁.heap.get? 51 = some (excClassObj cn qn 51 N bs bm true sn sub false col dd k0 k1 k2 k3 k5 "Exception.__new__") ∧ s₁.heap.get? e = some ⟨.ref 51, dx, .fields #[.ref t1, .none, .none, .none, .bool false, .none], sl⟩ ∧ E (.ref e) s₁) (E := E) (wpAny_Call_ofName (name_glob H hn hg ?_ hdb)) (fun v s₁ h₁ => wpAny_bind (wpAny_standAt (wpAny_pure h₁))) fun _ _ z => z))
  have X := in_heap L.X H
  refine callWith_K X L.hk (wpAny_items_cons (wpAny_Constant_str (wpAny_items_nil ⟨X, ?_⟩)) rfl) rfl rfl
  have hC₀ := H.stays _ _ hC
  obtain ⟨hp, g, dr, tk, os⟩ := s
  dsimp only at X hC₀ ⊢
  refine wpAny_call (exc_call FE T (A := A) (rest := [.str (toStr l) tk]) (h := hp) (g := g) (d := dr) (t := tk + 1) (os := os) X hC₀ L.hi L.hf (show 1 ≤ sizeLine by decide) ?_)
  have kpa : ∀ b o, hp.get? b = some o → ((hp.push { cls := .type "tuple", data := .seq [Value.str (toStr l) tk].toArray }).push (eObj 51 hp.objs.size)).get? b = some o := fun b o e => Heap.get?_push_of_some _ (Heap.get?_push_of_some _ e)
  have N₁ : Nxt ad av _ σ _ := Nxt.all (tk := tk + 1) H kpa
  have H₁ := ((H.next N₁).le hk).under (c := 51) (rest := [.str (toStr l) tk]) (kw := [])
  have hx₀ : hp.get? (hp.objs.size + 1) = none := get?_none_of_size (Nat.le_succ _)
  have hx₁ : ((hp.push { cls := .type "tuple", data := .seq [Value.str (toStr l) tk].toArray }).push (eObj 51 hp.objs.size)).get? (hp.objs.size + 1) = some (eObj 51 hp.objs.size) := by
    have := Heap.get?_push_size (h := hp.push { cls := .type "tuple", data := .seq [Value.str (toStr l) tk].toArray }) (o := eObj 51 hp.objs.size) rfl
    rwa [Heap.size_push] at this
  have hxb : C.base.get? (hp.objs.size + 1) = none := by
    cases q : C.base.get? (hp.objs.size + 1) with
    | none => rfl
    | some o => have := H.stays _ _ q; rw [show hp.get? _ = _ from hx₀] at this; cases this
  refine EF _ _ _ _ _ _ _ _ _ H₁ _ _ _ _ hx₁ hxb _ fun s' dx t1 sh kp he' => ⟨rfl, ?_⟩
  have kp' : ∀ b o, hp.get? b = some o → s'.heap.get? b = some o := fun b o q => kp b o (fun r => by rw [r, hx₀] at q; cases q) (kpa b o q)
  obtain ⟨h', tk', rfl⟩ := sh
  have N' : Nxt ad av ⟨hp, g, dr, tk, os⟩ σ ⟨h', g, dr, tk', os⟩ := Nxt.all (tk := tk') H kp'
  exact ⟨_, _, _, _, rfl, kp' _ _ hC₀, he', KK.th _ _ _ _ _ rfl N'.sg (.of N') ⟨hx₀, _, _, _, he', rfl, rfl, rfl, rfl⟩⟩

/- ## try .. except LeftOut -/
theorem Hyp.mark {v : Option Value} (H : Hyp C k nm vs ρ σ A env s ad av) : Hyp C 0 nm vs ρ σ (A.mark v) env s ad av :=
  ⟨H.stays, H.above, H.adsub, H.adnd, H.names, H.kind, H.glob, H.blt, H.loc, H.lav, H.cel, H.celn, H.apart, H.fr, H.sg, fun h => absurd h (by omega), (by have := H.dep; show A.depth + 0 < _; omega), (by have := H.un; show A.units + 8 * 0 + 8 < _; omega)⟩
theorem Hyp.unmark {ρ₀ : Rho} {σ₀ : Sto} {s₀ : Shared} {ad₀ av₀ : List Addr} {v : Option Value} (H₀ : Hyp C k nm vs ρ₀ σ₀ A env s₀ ad₀ av₀) (H : Hyp C 0 nm vs ρ σ (A.mark v) env s ad av) : Hyp C k nm vs ρ σ A env s ad av :=
  ⟨H.stays, H.above, H.adsub, H.adnd, H.names, H.kind, H.glob, H.blt, H.loc, H.lav, H.cel, H.celn, H.apart, H.fr, H.sg, H₀.hh, H₀.dep, H₀.un⟩
noncomputable def R.calm : R Ou → R Ou
  | .exc _ => .bad
  | .val .thr _ => .bad
  | r => r
theorem caught {fI : Addr} {x : Str} {np pos : Pos} {b₀ : Stmt} {suite : List Stmt} {hf : Rho → Sto → R Ou} {v : Value} {Q : Flow → Shared → Prop} {E : Value → Shared → Prop} (L : LeftOk C K fI) (hn : nm.lookup x = some .globalImplicit) (hg : C.mg x = some (.ref 51)) (hh : SX C 0 nm vs (b₀ :: suite) hf)
    (H : Hyp C k nm vs ρ σ A env s ad av) (hb : (hf ρ σ').calm ≠ .bad) (KK : KonX C k nm vs A env s ad av (hf ρ σ').calm Q E) (q : Exc A ad av s σ' v s') (hdb : (x == ("__debug__" : Str)) = false := by decide) :
    wpAny C.M A (noteFrame v env) (fun _ s₂ => wpAny C.M A (setFlight v none) (fun _ s₃ => wpAny C.M A (handleBy v env [.ExceptHandler (some (.Name x np)) none (b₀ :: suite) pos]) Q E s₃) E s₂) E s' := by
  obtain ⟨outer, htop, hframe⟩ := KK.tp
  obtain ⟨e, B, a0, fl, rfl, hfl, fly, cov1, cov2⟩ := q.fly
  rw [htop] at hfl; cases hfl
  obtain ⟨cn, qn, N, bs, bm, sn, sub, col, dd, k0, k1, k2, k3, k5, cd, hC, T, hbase, hcd, hd, m1, m5, re⟩ := L.obj
  refine wpAny_looks_onW htop hframe fly fun h₄ held₄ up₄ => ?_
  refine wpAny_landsW held₄ fun h₅ fly₅ up₅ => ?_
  have N₅ : Nxt ad av s σ' { s' with heap := h₅ } := q.nx.land (fun b o n e => fly₅.1 b o (cov1 b o n e)) (fun b hb o e => fly₅.1 b o (cov2 b hb o e)) (up₄.trans up₅)
  have H₅ := (H.next N₅).mark (v := some (.ref e))
  refine wpAny_handleBy_cons (codeAny_handlers_test (name_glob H₅ hn hg ?_ hdb)) (by intro q; cases q)
  obtain ⟨oe, ws, hoe, hoec, hoed, hoe0⟩ := fly₅.first
  have hC₅ := H₅.stays _ _ hC
  obtain ⟨hp', g', d', t', os'⟩ := s'
  refine wpAny_excMatches_sub_self hC₅ hoe hoec hbase ?_
  refine codeAny_handlers_suite (lands_againW fly₅ fun h₆ fly₆ up₆ => ?_)
  have N₆ : Nxt ad av s σ' ⟨h₆, g', d', t', os'⟩ := q.nx.land (fun b o n e => fly₆.1 b o (cov1 b o n e)) (fun b hb o e => fly₆.1 b o (cov2 b hb o e)) ((up₄.trans up₅).trans up₆)
  have H₆ := H.next N₆
  have a₆ : Aft env ad av s _ ad av := .of N₆
  refine hh.run ρ σ' _ env _ ad av (H₆.mark (v := some (.ref e))) (fun z => hb (by rw [z]; rfl)) _ _ ⟨fun s'' ρ'' σ'' ad' av' z H' aft => ?_, fun w s'' p σ'' ad' av' z rp sg aft => ?_, fun w s'' σ'' ad' av' z sg aft f => ?_, fun w s'' σ'' ad' av' z sg aft f => ?_, ⟨outer, htop, hframe⟩⟩
  · rw [z] at KK
    exact KK.nx _ _ _ _ _ rfl (H₆.unmark H') (a₆.trans H.lives aft)
  · rw [z] at KK
    exact KK.rt _ _ _ _ _ _ rfl rp sg (a₆.trans H.lives aft)
  · rw [z] at hb; exact absurd rfl hb
  · rw [z] at hb; exact absurd rfl hb
noncomputable def xTryRet (f : Rho → Sto → R PV) (h : Rho → Sto → R Ou) : Rho → Sto → R Ou := fun ρ σ => match f ρ σ with
  | .val p σ => .val (.ret p) σ
  | .exc σ => (h ρ σ).calm
  | .bad => .bad
noncomputable def xTrySet (i : Nat) (f : Rho → Sto → R PV) (h : Rho → Sto → R Ou) : Rho → Sto → R Ou := fun ρ σ => match f ρ σ with
  | .val p σ => .val (.nxt (ρ.set i (some p))) σ
  | .exc σ => (h ρ σ).calm
  | .bad => .bad
theorem s_tryret {fI : Addr} {x : Str} {np rp hp pos : Pos} {e : Expr} {b₀ : Stmt} {suite : List Stmt} {f : Rho → Sto → R PV} {hf : Rho → Sto → R Ou} (L : LeftOk C K fI) (hn : nm.lookup x = some .globalImplicit) (hg : C.mg x = some (.ref 51)) (he : SE C k nm vs e f) (hh : SX C 0 nm vs (b₀ :: suite) hf) (hdb : (x == ("__debug__" : Str)) = false := by decide) :
    SS C k nm vs (.Try [.Return (some e) rp] [.ExceptHandler (some (.Name x np)) none (b₀ :: suite) hp] [] [] pos) (xTryRet f hf) := by
  refine ⟨?_⟩
  intro ρ σ A env s ad av H hb Q E KK
  refine wpAny_Try_except (wpAny_execs_cons (wpAny_Return_some (he.run ρ σ A env s ad av H (fun z => hb (by unfold xTryRet; rw [z])) _ _ ⟨fun v s' p σ' z r n => ?_, fun v s' σ' z q => ?_⟩)))
  · unfold xTryRet at KK
    rw [z] at KK
    exact KK.rt _ _ _ _ _ _ rfl r n.sg (.of n)
  · unfold xTryRet at KK hb
    rw [z] at KK hb
    exact caught L hn hg hh H hb KK q hdb
theorem s_tryset {fI : Addr} {x y : Str} {np yp sp hp pos : Pos} {e : Expr} {i : Nat} {b₀ : Stmt} {suite : List Stmt} {f : Rho → Sto → R PV} {hf : Rho → Sto → R Ou} (L : LeftOk C K fI) (hn : nm.lookup x = some .globalImplicit) (hg : C.mg x = some (.ref 51)) (he : SE C k nm vs e f) (hh : SX C 0 nm vs (b₀ :: suite) hf)
    (nd : vs.Nodup) (hi : vs[i]? = some y) (hk : nm.lookup y = some .local ∨ nm.lookup y = some .cell) (hs : ∀ env, swapsWith e (some (.Name y yp)) sp.line env = pure false := by intro _; rfl) (hdb : (x == ("__debug__" : Str)) = false := by decide) :
    SS C k nm vs (.Try [.Assign [.Name y yp] e sp] [.ExceptHandler (some (.Name x np)) none (b₀ :: suite) hp] [] [] pos) (xTrySet i f hf) := by
  refine ⟨?_⟩
  intro ρ σ A env s ad av H hb Q E KK
  refine wpAny_Try_except (wpAny_execs_cons (wpAny_Assign_Name (he.run ρ σ A env s ad av H (fun z => hb (by unfold xTrySet; rw [z])) _ _ ⟨fun v s' p σ' z r n => ?_, fun v s' σ' z q => ?_⟩) (hs env)))
  · unfold xTrySet at KK
    rw [z] at KK
    have H' := H.next n
    exact store_ok H' nd hi hk r fun s'' H'' a => wpAny_execs_nil (wpAny_execs_nil (KK.nx _ _ _ _ _ rfl H'' ((Aft.of n).trans H.lives a)))
  · unfold xTrySet at KK hb
    rw [z] at KK hb
    exact caught L hn hg hh H hb KK q hdb
theorem e_bltn {x : Str} {pos : Pos} {v : Value} (hk : nm.lookup x = some .globalImplicit) (hg : C.mg x = none) (hv : bootBuiltins x = some v) (hn : x ≠ "__name__" := by decide) (hd : (x == ("__debug__" : Str)) = false := by decide) : SE C k nm vs (.Name x pos) (cVal (.raw v)) := ⟨fun ρ σ A env s ad av H hb Q E K =>
  name_blt H hk hg hv hn (K.ok _ _ _ _ rfl (.raw _) (.refl H)) hd⟩
theorem SF.le {k' : Nat} {a : Addr} {F : List PV → Sto → R PV} (h : SF C k a F) (hk : k ≤ k') : SF C k' a F := fun nm vs ρ σ A env s ad av vals ps H r => h nm vs ρ σ A env s ad av vals ps (H.le hk) r
/- ## Stores of comprehensions into cells -/
theorem s_setcell {x : Str} {px spos pos : Pos} {i : Nat} {elt : Expr} {gens : List Comprehension} {scope : Scope} {f : Rho → Sto → R PV} (h : SE C k nm vs (.ListComp elt gens scope pos) f) (nd : vs.Nodup) (hi : vs[i]? = some x) (hk : nm.lookup x = some .cell) : SS C k nm vs (.Assign [.Name x px] (.ListComp elt gens scope pos) spos) (xSet i f) := by
  refine ⟨?_⟩
  intro ρ σ A env s ad av H hb Q E K
  have hs : swapsWith (.ListComp elt gens scope pos) (some (.Name x px)) spos.line env = pure false := by
    show (pure (env.blockKind == .function && env.kindOf x == some .local && px.line == pos.line && !(scope.names.any fun (n, k) => n == x && (k == .local || k == .cell))) : Sem Bool) = pure false
    have h2 : env.kindOf x = some .cell := by unfold Env.kindOf; rw [H.names]; exact hk
    have h1 : env.blockKind = .function := by unfold Env.blockKind; rw [H.kind]; rfl
    rw [h2, h1]; rfl
  refine wpAny_Assign_Name ((h.run ρ σ A env s ad av H).seqX H hb K fun v s₁ p σ₁ r n hb K => ?_) hs
  have H₁ := H.next n
  exact store_ok H₁ nd hi (.inr hk) r fun s' H' a => K.nx _ _ _ _ _ rfl H' a
theorem gm_str {id : String} {M : Model} {E : Value → Shared → Prop} {s : Shared} {x : Str} {t : Tok} {name : Str} {pl : Sem Bool} {Q : Value × List Value → Shared → Prop} (slot : Slot "str" name id) (hty : typeOf (.builtin id) = pure (.type "method_descriptor")) (h : Q (.builtin id, [.str x t]) s) : wpAny M A (getMethod (.str x t) name pl) Q E s :=
  getMethod_builtin (typeIs_str _ _ _) PySem.F.plainAttrs_str slot hty (fun a e => by cases e) h
/- ## enumerate(text) -/
noncomputable def enumL (l : List Nat) : List PV := (List.range l.length).map fun (i : Nat) => .tup [.int (i : Int), .str [l.getD i 0]]
noncomputable def cEnum (f : Rho → Sto → R PV) : Rho → Sto → R (List PV) := fun ρ σ => (f ρ σ).bind fun p σ => match p with
  | .str l => .val (enumL l) σ
  | _ => .bad
noncomputable def TupT (t : Expr) : Prop := ∃ elts k pos, t = .Tuple elts k pos
theorem Iter.ofT {I : Addr} {fp wr : List Addr} {n : Nat} {Pt : Nat → Array Value → Prop} {St : Nat → Heap → Prop} {Mid : Nat → Addr → Heap → Prop} {xs : List PV} (W : WalksT C.prog C.w A I fp wr n Pt St Mid) (len : xs.length = n) (lv : ∀ i h, St i h → ∀ b ∈ fp, ∃ o, h.get? b = some o)
    (fld : ∀ i h, St i h → ∀ b ∈ wr, ∀ o, h.get? b = some o → ∃ vs, o.data = .fields vs) (conv : ∀ i vals, i < n → Pt i vals → ∃ ps, xs[i]? = some (.tup ps) ∧ ∀ h ad av, Reps h ad av vals.toList ps) : Iter C A I fp wr n St xs [] [] TupT :=
  ⟨W.sub, len, W.frame, lv, fld, fun t i s Q E ad av ht hi st hf hl r h => by
    obtain ⟨elts, k, pos, rfl⟩ := ht
    refine W.item i s _ E hi st fun T vals h' tk hP hge hT hm kp => ?_
    refine W.go elts k pos i T _ _ E hm fun h'' st' kp' => ?_
    obtain ⟨ps, h1, h2⟩ := conv i vals hi hP
    have hT' : h''.IsTuple T vals := by obtain ⟨o, ho, r⟩ := hT; exact ⟨o, kp' T o (W.apart _ _ _ hm) ho, r⟩
    have hTv : T ∉ av := fun q => by obtain ⟨o, ho, _⟩ := hl T q; exact absurd (Heap.lt_size ho) (Nat.not_lt.mpr hge)
    exact h (.ref T) h'' tk (.tup ps) h1 (.tup (vs := vals.toList) (by simpa using hT') hTv (h2 _ _ _)) st' fun b o hb e => kp' b o hb (kp b o hb e), W.done, W.self⟩
theorem i_enum {f : Str} {p pos : Pos} {e : Expr} {g : Rho → Sto → R PV} (hk : 0 < k) (hn : nm.lookup f = some .globalImplicit) (hg : C.mg f = none) (hv : bootBuiltins f = some (.type "enumerate"))
    (hs : SE C k nm vs e g) (hx : f ≠ "__name__" := by decide) (he : ∀ env, starEach [e] env = (false, eval e env) :: starEach [] env := by intro _; rfl) (hdb : (f == ("__debug__" : Str)) = false := by decide) :
    SI C k nm vs TupT (.Call (.Name f p) [e] [] pos) (cEnum g) := by
  refine ⟨?_⟩
  intro ρ σ A env s ad av H hb Q E hQ hE
  unfold cEnum at hb hQ hE
  have hh := H.hh hk
  refine wpAny_Call_Name_kw (name_blt H hn hg hv hx ?_ hdb)
  have hs' := SEs.of_one hs (he env) ρ σ A s ad av pos H
  rw [he env] at hs' ⊢
  refine PySem.callWith_type (by rfl) (evalArgs_plain (hs' (fun e => hb (by rw [e]; rfl)) _ E ⟨fun vals s₁ q σ₁ e r n => ?_, fun x s' σ' e q => hE x s' σ' (by rw [e]; rfl) q⟩))
  rw [e] at hb hQ
  have H₁ := H.next n
  dsimp only [R.bind_val] at hb hQ
  obtain ⟨v, rfl, rv⟩ := r
  obtain ⟨l, rfl⟩ := of_str hb
  obtain ⟨t, rfl⟩ := rv.str_inv
  dsimp only at hQ
  clear hb hE hs' hs hx he
  refine call_enumerate_str fun h' he' hi' hz' kp' => ?_
  have hd0 : s₁.heap.get? s₁.heap.objs.size = none := get?_none_of_size (Nat.le_refl _)
  have fr0 := H₁.fresh (Nat.le_refl _)
  have fr1 := H₁.fresh (Nat.le_succ _)
  have hd1 : s₁.heap.get? (s₁.heap.objs.size + 1) = none := get?_none_of_size (Nat.le_succ _)
  generalize s₁.heap.objs.size = b0 at he' hi' hd0 hd1 fr0 fr1 kp' hz' ⊢
  have fin : ∀ ty, owners.contains ty = false → strIterType (toStr l) = ty → Draws C.prog C.w A.in1 b0 [b0] (toStr l).cps.size (fun i v => ∃ c u, (toStr l).cps[i]? = some c ∧ v = .str ⟨#[c]⟩ u) (fun i h => h.IsStrIter b0 ty (toStr l) t i) → wpAny C.M A (pyIter (.ref (b0 + 1))) Q E { s₁ with heap := h' } := by
    intro ty hty hst D
    rw [hst] at hi'
    have W := WalksT.enumerateD D (b0 + 1) (Nat.succ_ne_self _) (by simp) (by simp)
    have hl : (toStr l).cps.size = l.length := by simp
    rw [hl] at W
    have It : Iter C A (b0 + 1) [b0 + 1, b0] [b0 + 1, b0] l.length (fun (i : Nat) h => (∃ old, IsEnum h (b0 + 1) b0 (i : Int) old) ∧ h.IsStrIter b0 ty (toStr l) t i) (enumL l) [] [] TupT := by
      refine .ofT W (by simp [enumL]) (fun i h st b hb => ?_) (fun i h st b hb o e => ?_) fun i vals hi hp => ?_
      · obtain ⟨⟨old, q1⟩, o, q2, _⟩ := st
        rcases List.mem_cons.mp hb with rfl | hb
        · exact ⟨_, q1⟩
        · rw [List.mem_singleton.mp hb]; exact ⟨_, q2⟩
      · obtain ⟨⟨old, q1⟩, o', q2, _, d⟩ := st
        rcases List.mem_cons.mp hb with rfl | hb
        · rw [q1] at e; cases e; exact ⟨_, rfl⟩
        · rw [List.mem_singleton.mp hb, q2] at e; cases e; exact ⟨_, d⟩
      · obtain ⟨t', x, ⟨c, u, hc, rfl⟩, rfl⟩ := hp
        have hc' : l[i]? = some c := by simpa using hc
        refine ⟨[.int i, .str [c]], ?_, fun h ad av => .cons (.int _ _) (.cons (.str [c] u) .nil)⟩
        unfold enumL
        rw [List.getElem?_map, List.getElem?_range hi]
        simp [hc']
    have st0 : (∃ old, IsEnum h' (b0 + 1) b0 ((0 : Nat) : Int) old) ∧ h'.IsStrIter b0 ty (toStr l) t 0 := ⟨⟨_, he'⟩, hi'⟩
    refine W.self 0 _ _ _ st0 (hQ _ _ _ _ _ _ [] [] _ _ rfl It st0 .nil (fun b hb => ?_) (fun b hb => ?_) (n.trans (.all (tk := s₁.toks) H₁ kp')))
    · rcases List.mem_cons.mp hb with rfl | hb
      · exact fr1
      · rw [List.mem_singleton.mp hb]; exact fr0
    · rcases List.mem_cons.mp hb with rfl | hb
      · exact fresh_before H n hd1
      · rw [List.mem_singleton.mp hb]; exact fresh_before H n hd0
  cases ha : (toStr l).cps.all (· < 128) with
  | true => exact fin "str_ascii_iterator" (by decide) (by unfold strIterType; rw [ha]; rfl) (Draws.strAscii (A := A.in1) hh _ _ _)
  | false => exact fin "str_iterator" (by decide) (by unfold strIterType; rw [ha]; rfl) (Draws.strWide (A := A.in1) hh _ _ _)
/- ## Rows of written texts -/
noncomputable def cStrs (ls : List (List Nat)) : Rho → Sto → R (List PV) := fun _ σ => .val (ls.map .str) σ
theorem es_sn : SEs C k nm vs [] (cStrs []) := es_nil
theorem es_sc {x : Str} {n : Nat} {p : Pos} {es : List Expr} {ls : List (List Nat)} (h : SEs C k nm vs es (cStrs ls)) : SEs C k nm vs (.Constant (.str x) n p :: es) (cStrs (x.cps.toList :: ls)) :=
  es_cons (C := C) (k := k) (nm := nm) (vs := vs) (e := .Constant (.str x) n p) (e_str (l := x.cps.toList) (by simp [toStr])) h rfl
end
end Mine.Internal
/- W0 -/
namespace Mine.Internal
structure CF (C : Cx) : Prop where
  tab : C.tab = nameTab
  fn : ∀ x ∈ fnTab, ∀ f, fnWant (stmtAt thePw.main.body x.2) = some f → FnIs C.base x.1 f
  objs : Frag.In (kObjs thePw C.w.params) C.base
namespace CF
variable {C : Cx} (Z : CF C)
include Z
theorem glob {x : Str} {v : Value} (h : nameTab.lookup x = some (some v) := by kernel_rfl) : C.mg x = some v := by
  have := C.names (x, some v) (by rw [Z.tab]; exact mem_of_lookup h)
  exact this
theorem blt {x : Str} (h : nameTab.lookup x = some none := by kernel_rfl) : C.mg x = none := by
  have := C.names (x, none) (by rw [Z.tab]; exact mem_of_lookup h)
  exact this
theorem fnAt (a i : Nat) (h1 : fnTab.contains (a, i) = true := by kernel_rfl) (h2 : fnWant (stmtAt thePw.main.body i) = some ⟨methName (stmtAt thePw.main.body i), methArgs (stmtAt thePw.main.body i), methBody (stmtAt thePw.main.body i), methScope (stmtAt thePw.main.body i), mainGlobals, [], .none, builtinsNs, some (methName (stmtAt thePw.main.body i))⟩ := by kernel_rfl) :
    FnAt C.base a (methArgs (stmtAt thePw.main.body i)) (methBody (stmtAt thePw.main.body i)) (methScope (stmtAt thePw.main.body i)) := by
  obtain ⟨o, fd, q1, q2, q3, q4, q5, q6, q7, q8, q9, q10, q11⟩ := (Z.fn (a, i) (List.contains_iff_mem.mp h1) _ h2).at_
  exact ⟨o, fd, q1, q2, q4, q5, q6, q7, q8, q9, q10, by rw [q3]; exact q11 _ rfl⟩
end CF
theorem zip_lookup_some : ∀ {pn : List Str} {vals : List Value} {x : Str}, x ∈ pn → vals.length = pn.length → ((pn.zip vals).lookup x).isSome = true
  | n :: r, [], x, h, hl => by cases hl
  | n :: r, v :: vs, x, h, hl => by
    rw [List.zip_cons_cons, List.lookup_cons]
    cases q : x == n with
    | true => rfl
    | false =>
      refine zip_lookup_some ?_ (by simpa using hl)
      rcases List.mem_cons.mp h with rfl | h
      · simp at q
      · exact h
theorem zip_filterMap : ∀ {pn : List Str} {vals : List Value}, pn.Nodup → vals.length = pn.length → pn.filterMap (fun n => ((pn.zip vals).lookup n).map (n, ·)) = pn.zip vals := by
  intro pn vals nd hl
  have key : ∀ (pn : List Str) (vals : List Value) (L : List (Str × Value)), pn.Nodup → vals.length = pn.length → (∀ (i : Nat) x v, pn[i]? = some x → vals[i]? = some v → L.lookup x = some v) → pn.filterMap (fun n => (L.lookup n).map (n, ·)) = pn.zip vals := by
    intro pn
    induction pn with
    | nil => intro vals L _ _ _; rfl
    | cons n r ih =>
      intro vals L nd hl hL
      cases vals with
      | nil => cases hl
      | cons v vs =>
        have h0 := hL 0 n v rfl rfl
        rw [List.filterMap_cons, h0]
        show (n, v) :: _ = _
        rw [ih vs L (List.nodup_cons.mp nd).2 (by simpa using hl) fun i x v h1 h2 => hL (i + 1) x v h1 h2]
        rfl
  refine key pn vals _ nd hl fun i x v h1 h2 => lookup_of_nodup ?_ ?_
  · rw [List.map_fst_zip (by omega)]; exact nd
  · have hz : (pn.zip vals)[i]? = some (x, v) := by rw [List.getElem?_zip_eq_some]; exact ⟨h1, h2⟩
    exact List.mem_of_getElem? hz
theorem bind_ok {prm : Arguments} {pn : List Str} (h : (prm.posonlyargs.isEmpty && prm.kwonlyargs.isEmpty && prm.vararg.isNone && prm.kwarg.isNone && decide (prm.args.map (·.arg) = pn)) = true) (nd : pn.Nodup) :
    ∀ (fd : FuncData) (vals : List Value), fd.params = prm → fd.defaults = .none → vals.length = pn.length → bindArgs fd ⟨vals, []⟩ = pure (pn.zip vals) := by
  intro fd vals hp hd hl
  simp only [Bool.and_eq_true, List.isEmpty_iff, Option.isNone_iff_eq_none, decide_eq_true_eq] at h
  obtain ⟨⟨⟨⟨h1, h2⟩, h3⟩, h4⟩, h5⟩ := h
  obtain ⟨po, ar, va, ko, kw⟩ := prm
  obtain ⟨f1, f2, f3, f4, f5, f6, f7, f8, f9⟩ := fd
  dsimp only at hp hd h1 h2 h3 h4 h5
  subst hp hd h1 h2 h3 h4 h5
  have hs : (seqItems? Value.none : Sem (Option (Array Value))) = pure none := rfl
  unfold bindArgs
  dsimp only
  simp -iota only [hs, pure_bind, List.forIn_nil]
  have hd : ∀ n, List.drop n ((none : Option (Array Value)).getD #[]).toList = [] := fun n => List.drop_nil
  refine (if_neg (fun q => ?_)).trans ((if_neg (fun q => ?_)).trans ?_)
  · rw [Bool.and_eq_true] at q
    exact Nat.lt_irrefl _ (hl ▸ of_decide_eq_true q.1)
  · rw [hd] at q
    have hm : (List.filter (fun n => (List.lookup n ((ar.map (·.arg)).zip vals)).isNone) (List.take (ar.map (·.arg)).length (ar.map (·.arg)))) = [] := by
      rw [List.filter_eq_nil_iff]
      intro x hx
      rw [List.take_length] at hx
      have := zip_lookup_some hx hl
      cases q : ((ar.map (·.arg)).zip vals).lookup x with
      | none => rw [q] at this; cases this
      | some v => simp
    have q' : (!(List.filter (fun n => (List.lookup n ((ar.map (·.arg)).zip vals)).isNone) (List.take (ar.map (·.arg)).length (ar.map (·.arg)))).isEmpty) = true := q
    rw [hm] at q'; cases q'
  simp -iota only [hd, List.zip_nil_right, List.forIn_nil, pure_bind, List.map_nil]
  refine (if_neg (by decide)).trans ?_
  rw [List.append_nil]
  exact congrArg pure (zip_filterMap nd hl)
theorem compOk_of {nm : List (Str × NameKind)} {vs : List Str} {scope : Scope} {caps : List Nat} {cn : List Str} (h : (decide (scope.kind = .function) && scope.names.all (fun x => (x.2 != .local || scope.names.lookup x.1 == some .local) && x.2 != .cell && (x.2 != .free || nm.lookup x.1 == some .cell)) && decide (scope.names.map (·.1)).Nodup
      && caps.map (vs[·]?) == cn.map some && cn.all (fun x => scope.names.contains (x, NameKind.free) && (relab nm scope.names).lookup x == some .cell)) = true := by kernel_rfl) : CompOk nm vs scope caps cn := by
  simp only [Bool.and_eq_true, decide_eq_true_eq, List.all_eq_true, beq_iff_eq, Bool.or_eq_true, bne_iff_ne, ne_eq, List.contains_iff_mem] at h
  obtain ⟨⟨⟨⟨h1, h2⟩, h3⟩, h4⟩, h5⟩ := h
  refine ⟨h1, fun x hx hl => ?_, fun x hx => (h2 x hx).1.2, h3, fun x hx hf => ?_, h4, fun x hx => (h5 x hx).1, fun x hx => (h5 x hx).2⟩
  · exact ((h2 x hx).1.1).resolve_left (fun q => q hl)
  · exact ((h2 x hx).2).resolve_left (fun q => q hf)
/- ## The rules with their looks laid -/
section
variable {C : Cx} {k k' : Nat} {nm : List (Str × NameKind)} {vs : List Str} {f x : Str} {p px pos : Pos} {e : Expr} {es : List Expr} {i : Nat}
theorem nodup_of {l : List Str} (h : decide l.Nodup = true) : l.Nodup := of_decide_eq_true h
noncomputable def isRef (o : Option (Option Value)) (a : Addr) : Bool := match o with
  | some (some (.ref b)) => b == a
  | _ => false
noncomputable def isNo (o : Option (Option Value)) : Bool := match o with
  | some none => true
  | _ => false
theorem isRef_inv {o : Option (Option Value)} {a : Addr} (h : isRef o a = true) : o = some (some (.ref a)) := by
  unfold isRef at h
  split at h
  · rw [eq_of_beq h]
  · cases h
theorem isNo_inv {o : Option (Option Value)} (h : isNo o = true) : o = some none := by
  unfold isNo at h
  split at h
  · rfl
  · cases h
theorem e_cz (Z : CF C) {a : Addr} {F : List PV → Sto → R PV} {g : Rho → Sto → R (List PV)} (hF : SF C k' a F) (hd : IsDef C a) (hs : SEs C k nm vs (e :: es) g)
    (hb : (Nat.ble k' k && nm.lookup f == some .globalImplicit && isRef (nameTab.lookup f) a && !(f == ("__debug__" : Str))) = true := by kernel_rfl) (he : plainE e = true := by rfl) :
    SE C k nm vs (.Call (.Name f p) (e :: es) [] pos) (cCall F g) := by
  simp only [Bool.and_eq_true, Bool.not_eq_true', beq_iff_eq] at hb
  exact e_call hb.1.1.2 (Z.glob (isRef_inv hb.1.2)) hF (Nat.le_of_ble_eq_true hb.1.1.1) hd hs (star_c he) hb.2
theorem e_gz (Z : CF C) {v : Value} (hk : nm.lookup x = some .globalImplicit := by kernel_rfl) (hv : nameTab.lookup x = some (some v) := by kernel_rfl) (hd : (x == ("__debug__" : Str)) = false := by kernel_rfl) : SE C k nm vs (.Name x pos) (cVal (.raw v)) :=
  e_glob hk (Z.glob hv) hd
theorem e_bz (Z : CF C) {id : String} {B : Sto → List PV → Option PV} {g : Rho → Sto → R (List PV)} (hB : BOk C k' id B) (hs : SEs C k nm vs (e :: es) g)
    (hb : (Nat.ble k' k && nm.lookup f == some .globalImplicit && isNo (nameTab.lookup f) && !decide (f = "__name__") && !(f == ("__debug__" : Str))) = true := by kernel_rfl) (hv : bootBuiltins f = some (.builtin id) := by rfl) (he : plainE e = true := by rfl)
    (hp : ∀ env pos, (backTo pos (starEach es env)).any (·.1) = false := by intro _ _; rfl) : SE C k nm vs (.Call (.Name f p) (e :: es) [] pos) (cBlt B g) := by
  simp only [Bool.and_eq_true, Bool.not_eq_true', beq_iff_eq] at hb
  exact e_blt hb.1.1.1.2 (Z.blt (isNo_inv hb.1.1.2)) hv hB (Nat.le_of_ble_eq_true hb.1.1.1.1) hs (of_decide_eq_false hb.1.2) (star_c he) hp hb.2
theorem i_rz (Z : CF C) {g : Rho → Sto → R (List PV)} (hs : SEs C k nm vs (e :: es) g)
    (hb : (Nat.ble 1 k && nm.lookup f == some .globalImplicit && isNo (nameTab.lookup f) && !decide (f = "__name__") && !(f == ("__debug__" : Str))) = true := by kernel_rfl) (hv : bootBuiltins f = some (.type "range") := by rfl) (he : plainE e = true := by rfl)
    (hp : ∀ env pos, (backTo pos (starEach es env)).any (·.1) = false := by intro _ _; rfl) : SI C k nm vs (fun _ => True) (.Call (.Name f p) (e :: es) [] pos) (cRange g) := by
  simp only [Bool.and_eq_true, Bool.not_eq_true', beq_iff_eq] at hb
  exact i_range (Nat.le_of_ble_eq_true hb.1.1.1.1) hb.1.1.1.2 (Z.blt (isNo_inv hb.1.1.2)) hv hs (of_decide_eq_false hb.1.2) (star_c he) hp hb.2
theorem s_l {g : Rho → Sto → R PV} (h : SE C k nm vs e g) (nd : decide vs.Nodup = true := by kernel_rfl) (hi : vs[i]? = some x := by rfl) (hk : nm.lookup x = some .local := by kernel_rfl) (hs : ∀ env, swapsWith e (some (.Name x p)) pos.line env = pure false := by intro _; rfl) :
    SS C k nm vs (.Assign [.Name x p] e pos) (xSet i g) := s_set h (nodup_of nd) hi (.inl hk) hs
theorem s_c {g : Rho → Sto → R PV} (h : SE C k nm vs e g) (nd : decide vs.Nodup = true := by kernel_rfl) (hi : vs[i]? = some x := by rfl) (hk : nm.lookup x = some .cell := by kernel_rfl) (hs : ∀ env, swapsWith e (some (.Name x p)) pos.line env = pure false := by intro _; rfl) :
    SS C k nm vs (.Assign [.Name x p] e pos) (xSet i g) := s_set h (nodup_of nd) hi (.inr hk) hs
theorem a_l (nd : decide vs.Nodup = true := by kernel_rfl) (hi : vs[i]? = some x := by rfl) (hk : nm.lookup x = some .local := by kernel_rfl) : SA C k nm vs (.Name x p) (aOne i) := a_one (nodup_of nd) hi (.inl hk)
theorem a_cl {ts : List Expr} {g : List PV → Rho → Option Rho} (h : SAs C k nm vs ts g) (nd : decide vs.Nodup = true := by kernel_rfl) (hi : vs[i]? = some x := by rfl) (hk : nm.lookup x = some .local := by kernel_rfl) : SAs C k nm vs (.Name x p :: ts) (aCons i g) := a_cons (nodup_of nd) hi (.inl hk) h
theorem al_o (nd : decide vs.Nodup = true := by kernel_rfl) (hi : vs[i]? = some x := by rfl) (hk : nm.lookup x = some .local := by kernel_rfl) : SAL C k nm vs (.Name x p) (aOne i) := al_one (nodup_of nd) hi hk
theorem al_cl {ts : List Expr} {g : List PV → Rho → Option Rho} (h : SALs C k nm vs ts g) (nd : decide vs.Nodup = true := by kernel_rfl) (hi : vs[i]? = some x := by rfl) (hk : nm.lookup x = some .local := by kernel_rfl) : SALs C k nm vs (.Name x p :: ts) (aCons i g) := al_cons (nodup_of nd) hi hk h
theorem names_ok {ns : List (Str × NameKind)} {pn : List Str} (h : (pn.all fun x => ns.lookup x == some .local || ns.lookup x == some .cell) = true) : ∀ x ∈ pn, ns.lookup x = some .local ∨ ns.lookup x = some .cell := fun x hx => by
  have := List.all_eq_true.mp h x hx
  simpa using this
theorem fn_d {a : Addr} {prm : Arguments} {body : List Stmt} {sc : Scope} {pn ln : List Str} {g : Rho → Sto → R Ou} (F : FnAt C.base a prm body sc) (hbody : SX C k sc.names (pn ++ ln) body g)
    (h : ((prm.posonlyargs.isEmpty && prm.kwonlyargs.isEmpty && prm.vararg.isNone && prm.kwarg.isNone && decide (prm.args.map (·.arg) = pn)) && decide pn.Nodup && decide (pn ++ ln).Nodup && (pn.all fun x => sc.names.lookup x == some .local || sc.names.lookup x == some .cell)
      && !sc.isCoroutine && !sc.isGenerator && decide (sc.kind = .function)) = true := by kernel_rfl) : SFc C (k + 1) a (fnR pn.length ln.length g) := by
  rw [Bool.and_eq_true, Bool.and_eq_true, Bool.and_eq_true, Bool.and_eq_true, Bool.and_eq_true, Bool.and_eq_true, Bool.not_eq_true', Bool.not_eq_true'] at h
  obtain ⟨⟨⟨⟨⟨⟨h1, h2⟩, h3⟩, h4⟩, h5⟩, h6⟩, h7⟩ := h
  exact fn_okc F hbody (bind_ok h1 (nodup_of h2)) (nodup_of h3) (names_ok h4) h5 h6 (of_decide_eq_true h7)
theorem fn_e {a : Addr} {prm : Arguments} {body : List Stmt} {sc : Scope} {pn ln : List Str} {g : Rho → Sto → R Ou} (F : FnAt C.base a prm body sc) (hbody : SX C k sc.names (pn ++ ln) body g)
    (h : ((prm.posonlyargs.isEmpty && prm.kwonlyargs.isEmpty && prm.vararg.isNone && prm.kwarg.isNone && decide (prm.args.map (·.arg) = pn)) && decide pn.Nodup && decide (pn ++ ln).Nodup && (pn.all fun x => sc.names.lookup x == some .local || sc.names.lookup x == some .cell)
      && !sc.isCoroutine && !sc.isGenerator && decide (sc.kind = .function)) = true := by kernel_rfl) : SF C (k + 1) a (fnR pn.length ln.length g) :=
  (fn_d F hbody h).sf
end
end Mine.Internal
/- W1 -/
namespace Mine.Internal
noncomputable abbrev KP (C : Cx) : Frag := kObjs thePw C.w.params
section
variable {C : Cx}
theorem CF.X (Z : CF C) : (KP C).In C.base := Z.objs
theorem okHost (C : Cx) : NewOk (KP C) 762 682 := ⟨by kernel_rfl, by kernel_rfl, by kernel_rfl, by kernel_rfl⟩
theorem okArr (C : Cx) : NewOk (KP C) 316 257 := ⟨by kernel_rfl, by kernel_rfl, by kernel_rfl, by kernel_rfl⟩
theorem okFrame (C : Cx) : NewOk (KP C) 663 660 := ⟨by kernel_rfl, by kernel_rfl, by kernel_rfl, by kernel_rfl⟩
theorem okNotes (C : Cx) : AttrOk (KP C) 762 "notes" := ⟨by kernel_rfl, by kernel_rfl, none, by kernel_rfl, by kernel_rfl⟩
theorem okSilent (C : Cx) : AttrOk (KP C) 762 "silent" := ⟨by kernel_rfl, by kernel_rfl, none, by kernel_rfl, by kernel_rfl⟩
theorem okTop (C : Cx) : AttrOk (KP C) 762 "top" := ⟨by kernel_rfl, by kernel_rfl, none, by kernel_rfl, by kernel_rfl⟩
theorem okWarn (C : Cx) : MethOk (KP C) 762 "warn" 696 := ⟨by kernel_rfl, by kernel_rfl, by kernel_rfl⟩
theorem leftOk (Z : CF C) : LeftOk C (KP C) 35 where
  X := Z.X
  obj := by
    refine ⟨_, _, _, _, _, _, _, _, _, _, _, _, _, _, _, Z.X 51 _ (by rfl), ⟨by rfl, by rfl, by rfl⟩, by rfl, (by rfl), by rfl, by rfl, by rfl, fun self => by kernel_rfl⟩
  hi := by kernel_rfl
  hf := by kernel_rfl
  hs := by kernel_rfl
  ht := by kernel_rfl
  hk := by kernel_rfl
  fc := by kernel_rfl
/- a method of the text -/
theorem CF.meth (Z : CF C) (a i j : Nat) {dv : Value} {n : Str} {q : Str} {pm cd : Value} (h : (KP C).lookup a = some { cls := .type "function", data := .func { name := n, qualname := q, params := methArgs (methAt thePw i j), body := .stmts (methBody (methAt thePw i j)), scope := methScope (methAt thePw i j), globals := mainGlobals, closure := [], defaults := dv, kwdefaults := .none, pyModule := pm, code := cd, builtins := builtinsNs } })
    (hc : codeIn (KP C) cd q = true) : FnAt C.base a (methArgs (methAt thePw i j)) (methBody (methAt thePw i j)) (methScope (methAt thePw i j)) dv :=
  ⟨_, _, Z.X _ _ h, rfl, rfl, rfl, rfl, rfl, rfl, rfl, rfl, codeRec_of Z.X hc⟩
/- ## isinstance -/
noncomputable def isiR (a : Addr) : Option PV := if a = 231 then some (.bool false) else none
noncomputable def isiB (v : Value) : Option PV := match v with
  | .type n => if n = "bool" then some (.bool true) else none
  | .ref a => isiR a
  | _ => none
noncomputable def isiI (v : Value) : Option PV := match v with
  | .type n => if n = "bool" then some (.bool false) else if n = "int" then some (.bool true) else none
  | .ref a => isiR a
  | _ => none
noncomputable def isiS (v : Value) : Option PV := match v with
  | .type n => if n = "bool" then some (.bool false) else if n = "int" then some (.bool false) else if n = "str" then some (.bool true) else none
  | _ => none
noncomputable def isiA (v : Value) : Option PV := match v with
  | .type n => if n = "bool" then some (.bool false) else if n = "int" then some (.bool false) else if n = "str" then some (.bool false) else none
  | .ref a => if a = 316 then some (.bool true) else if a = 231 then some (.bool false) else none
  | _ => none
noncomputable def isiN (v : Value) : Option PV := match v with
  | .ref a => isiR a
  | _ => none
noncomputable def isi2 (p : PV) (v : Value) : Option PV := match p with
  | .bool _ => isiB v
  | .int _ => isiI v
  | .str _ => isiS v
  | .inst c => if c = 316 then isiA v else none
  | .none => isiN v
  | _ => none
noncomputable def bIsi : Sto → List PV → Option PV := fun _ ps => match ps with
  | [p, .raw v] => isi2 p v
  | _ => none
theorem isiR_ok {a : Addr} {p : PV} (h : isiR a = some p) : a = 231 ∧ p = .bool false := by
  unfold isiR at h
  split at h <;> cases h
  exact ⟨by assumption, rfl⟩
section
variable {A : Around} {s : Shared} {Q : Value → Shared → Prop} {E : Value → Shared → Prop} {x v : Value} {p : PV}
theorem isiB_ok {b : Bool} (X : (KP C).In s.heap) (e : isiB v = some p) (K : ∀ c s', p = .bool c → (s' = s ∨ s' = { s with toks := s.toks + 1 }) → Q (.bool c) s') : wpAny C.M A (call (.builtin "isinstance") [.bool b, v]) Q E s := by
  unfold isiB at e
  split at e
  · split at e <;> cases e
    rename_i h; subst h
    exact IsiPair.bool_bool (K _ _ rfl (.inl rfl))
  · obtain ⟨rfl, rfl⟩ := isiR_ok e
    exact isn_call (P := fun _ => True) (T := "bool") X (fun M => Looks.of_pure rfl) (by kernel_rfl) (by intro q; cases q) trivial bool_cls (K _ _ rfl (.inr rfl))
  · cases e
theorem isiI_ok {i : Int} {t : Tok} (X : (KP C).In s.heap) (e : isiI v = some p) (K : ∀ c s', p = .bool c → (s' = s ∨ s' = { s with toks := s.toks + 1 }) → Q (.bool c) s') : wpAny C.M A (call (.builtin "isinstance") [.int i t, v]) Q E s := by
  unfold isiI at e
  split at e
  · split at e
    · cases e; rename_i h; subst h
      exact IsiPair.int_bool (K _ _ rfl (.inr rfl))
    · split at e <;> cases e
      rename_i h; subst h
      exact IsiPair.int_int (K _ _ rfl (.inl rfl))
  · obtain ⟨rfl, rfl⟩ := isiR_ok e
    exact isn_call (P := fun _ => True) (T := "int") X (fun M => Looks.of_pure rfl) (by kernel_rfl) (by intro q; cases q) trivial int_cls (K _ _ rfl (.inr rfl))
  · cases e
theorem isiS_ok {l : Str} {t : Tok} (e : isiS v = some p) (K : ∀ c s', p = .bool c → (s' = s ∨ s' = { s with toks := s.toks + 1 }) → Q (.bool c) s') : wpAny C.M A (call (.builtin "isinstance") [.str l t, v]) Q E s := by
  unfold isiS at e
  split at e
  · split at e
    · cases e; rename_i h; subst h
      exact IsiPair.str_bool (K _ _ rfl (.inr rfl))
    · split at e
      · cases e; rename_i h; subst h
        exact IsiPair.str_int (K _ _ rfl (.inr rfl))
      · split at e <;> cases e
        rename_i h; subst h
        exact IsiPair.str_str (K _ _ rfl (.inl rfl))
  · cases e
theorem isiN_ok (X : (KP C).In s.heap) (e : isiN v = some p) (K : ∀ c s', p = .bool c → (s' = s ∨ s' = { s with toks := s.toks + 1 }) → Q (.bool c) s') : wpAny C.M A (call (.builtin "isinstance") [.none, v]) Q E s := by
  unfold isiN at e
  split at e
  · obtain ⟨rfl, rfl⟩ := isiR_ok e
    exact isn_call (P := fun _ => True) (T := "NoneType") X (fun M => Looks.of_pure rfl) (by kernel_rfl) (by intro q; cases q) trivial none_cls (K _ _ rfl (.inr rfl))
  · cases e
theorem isiA_ok {a d : Addr} {o od : Obj} {es : Array DictEntry} {n : Nat} (X : (KP C).In s.heap) (h1 : s.heap.get? a = some o) (h2 : o.data = .plain) (h3 : o.cls = .ref 316) (h4 : o.dict = some d) (h6 : s.heap.get? d = some od) (h7 : od.data = .dict es n) (e : isiA v = some p)
    (K : ∀ c s', p = .bool c → (s' = s ∨ s' = { s with toks := s.toks + 1 }) → Q (.bool c) s') : wpAny C.M A (call (.builtin "isinstance") [.ref a, v]) Q E s := by
  have I : InstAt s.heap a o 316 (some od) := ⟨h1, h3, by unfold notCls; rw [h2], by rw [h4]; exact h6⟩
  have fin : Q (.bool false) { s with toks := s.toks + 1 } → ∀ T, kin_notT (KP C) 316 T = true → typeOf (.type T) = pure (.type "type") → wpAny C.M A (call (.builtin "isinstance") [.ref a, .type T]) Q E s := fun q T e1 e2 =>
    kin_callT X I e1 e2 (by kernel_rfl) (by kernel_rfl) (by kernel_rfl) (by kernel_rfl) (by kernel_rfl) (by kernel_rfl) q
  unfold isiA at e
  split at e
  · split at e
    · cases e; rename_i h; subst h
      exact fin (K _ _ rfl (.inr rfl)) _ (by kernel_rfl) (by kernel_rfl)
    · split at e
      · cases e; rename_i h; subst h
        exact fin (K _ _ rfl (.inr rfl)) _ (by kernel_rfl) (by kernel_rfl)
      · split at e <;> cases e
        rename_i h; subst h
        exact fin (K _ _ rfl (.inr rfl)) _ (by kernel_rfl) (by kernel_rfl)
  · split at e
    · cases e; rename_i h; subst h
      exact isi_call X (t := .ref 316) (fun M => I.type) (by kernel_rfl) (by intro q; cases q) (K _ _ rfl (.inl rfl))
    · split at e <;> cases e
      rename_i h; subst h
      exact kin_callC X I (by kernel_rfl) (by kernel_rfl) (by kernel_rfl) (by kernel_rfl) (by kernel_rfl) (by kernel_rfl) (by kernel_rfl) (K _ _ rfl (.inr rfl))
  · cases e
end
theorem isi_ok (Z : CF C) : BOk C 0 "isinstance" bIsi := by
  intro nm vs ρ σ A env s ad av vals ps H rp
  refine giv_of fun p e Q E K => ?_
  have X : (KP C).In s.heap := Z.X.keeps H.stays
  have K' : ∀ c s', p = .bool c → (s' = s ∨ s' = { s with toks := s.toks + 1 }) → Q (.bool c) s' := fun c s' hp hs' => by
    subst hp
    rcases hs' with rfl | rfl
    · exact K _ _ (.bool _) (.refl H)
    · exact K _ _ (.bool _) (.toks H _)
  clear K
  unfold bIsi at e
  split at e
  case h_2 => cases e
  obtain ⟨v, w, rfl, r0, r1⟩ := rp.two
  obtain rfl := r1.raw_inv
  unfold isi2 at e
  split at e
  · obtain rfl := r0.bool_inv
    exact isiB_ok X e K'
  · obtain ⟨_, rfl⟩ := r0.int_inv
    exact isiI_ok X e K'
  · obtain ⟨_, rfl⟩ := r0.str_inv
    exact isiS_ok e K'
  · split at e
    case isFalse => cases e
    rename_i hc
    subst hc
    cases r0 with
    | @inst a c d o od es n h1 h2 h3 h4 h5 h6 h7 h8 => exact isiA_ok X h1 h2 h3 h4 h6 h7 e K'
  · obtain rfl := r0.none_inv
    exact isiN_ok X e K'
  · cases e
end
end Mine.Internal
/- W2 -/
namespace Mine.Internal
section
variable {C : Cx} (Z : CF C)
include Z
theorem m_left : FnAt C.base 35 (methArgs (methAt thePw 2 0)) (methBody (methAt thePw 2 0)) (methScope (methAt thePw 2 0)) := Z.meth 35 2 0 (by rfl) (by kernel_rfl)
theorem m_arr : FnAt C.base 257 (methArgs (methAt thePw 25 0)) (methBody (methAt thePw 25 0)) (methScope (methAt thePw 25 0)) (.ref 250) := Z.meth 257 25 0 (by rfl) (by kernel_rfl)
theorem m_frame : FnAt C.base 660 (methArgs (methAt thePw 77 0)) (methBody (methAt thePw 77 0)) (methScope (methAt thePw 77 0)) (.ref 653) := Z.meth 660 77 0 (by rfl) (by kernel_rfl)
theorem m_host : FnAt C.base 682 (methArgs (methAt thePw 79 0)) (methBody (methAt thePw 79 0)) (methScope (methAt thePw 79 0)) (.ref 675) := Z.meth 682 79 0 (by rfl) (by kernel_rfl)
theorem m_warn : FnAt C.base 696 (methArgs (methAt thePw 79 2)) (methBody (methAt thePw 79 2)) (methScope (methAt thePw 79 2)) := Z.meth 696 79 2 (by rfl) (by kernel_rfl)
theorem b_arr (s : Shared) (hs : ∀ b o, C.base.get? b = some o → s.heap.get? b = some o) (fd : FuncData) (vals : List Value) (hp : fd.params = methArgs (methAt thePw 25 0)) (hd : fd.defaults = .ref 250) (hl : vals.length + [Value.int 8 515].length = [Str.ofString "self", Str.ofString "size"].length) :
    BindsTo s fd ⟨vals, []⟩ ([Str.ofString "self", Str.ofString "size"].zip (vals ++ [Value.int 8 515])) := by
  have hl : vals.length = 1 := by simpa using hl
  obtain ⟨v, rfl⟩ := List.length_eq_one_iff.mp hl
  · obtain ⟨a, b, c, d, e, f, g, h, i, j, k, l, m⟩ := fd
    dsimp only at hp hd
    subst hp hd
    exact kp_binds (Z.X.keeps hs) fun S => by kernel_rfl
theorem b_frame (s : Shared) (hs : ∀ b o, C.base.get? b = some o → s.heap.get? b = some o) (fd : FuncData) (vals : List Value) (hp : fd.params = methArgs (methAt thePw 77 0)) (hd : fd.defaults = .ref 653) (hl : vals.length + [Value.none, Value.none, Value.none, Value.none].length = [Str.ofString "self", Str.ofString "func", Str.ofString "this", Str.ofString "cls", Str.ofString "static"].length) :
    BindsTo s fd ⟨vals, []⟩ ([Str.ofString "self", Str.ofString "func", Str.ofString "this", Str.ofString "cls", Str.ofString "static"].zip (vals ++ [Value.none, Value.none, Value.none, Value.none])) := by
  have hl : vals.length = 1 := by simpa using hl
  obtain ⟨v, rfl⟩ := List.length_eq_one_iff.mp hl
  · obtain ⟨a, b, c, d, e, f, g, h, i, j, k, l, m⟩ := fd
    dsimp only at hp hd
    subst hp hd
    exact kp_binds (Z.X.keeps hs) fun S => by kernel_rfl
theorem b_host (s : Shared) (hs : ∀ b o, C.base.get? b = some o → s.heap.get? b = some o) (fd : FuncData) (vals : List Value) (hp : fd.params = methArgs (methAt thePw 79 0)) (hd : fd.defaults = .ref 675) (hl : vals.length + [Value.int 12 1075, Value.none].length = [Str.ofString "self", Str.ofString "limit", Str.ofString "fuel"].length) :
    BindsTo s fd ⟨vals, []⟩ ([Str.ofString "self", Str.ofString "limit", Str.ofString "fuel"].zip (vals ++ [Value.int 12 1075, Value.none])) := by
  have hl : vals.length = 1 := by simpa using hl
  obtain ⟨v, rfl⟩ := List.length_eq_one_iff.mp hl
  · obtain ⟨a, b, c, d, e, f, g, h, i, j, k, l, m⟩ := fd
    dsimp only at hp hd
    subst hp hd
    exact kp_binds (Z.X.keeps hs) fun S => by kernel_rfl
theorem ef_left : ExcF C 3 35 := by
  intro nm vs ρ σ A env s ad av H e t0 l tk he heb RR h
  exact exc_fn (k := 1) (leftOk Z) (m_left Z) (by decide +kernel) (by decide +kernel) (Z.blt (by decide +kernel)) (fun fd vals hp hd hl => bind_ok (pn := [Str.ofString "self", Str.ofString "why"]) (by decide +kernel) (by decide +kernel) fd vals hp hd hl) H he heb h
end
end Mine.Internal
/- W3 -/
namespace Mine.Internal
noncomputable def g_least : Rho → Sto → R Ou := (xRet (cNeg (cBin .Pow (cVal (.int 2)) (cVal (.int 63)))))
noncomputable def F_least : List PV → Sto → R PV := fnR 0 0 (g_least)
theorem d_least {C : Cx} (Z : CF C) : IsDef C 100 := (Z.fnAt 100 7 (by decide +kernel)).isDef
theorem s_least {C : Cx} (Z : CF C) : SF C 2 100 (F_least) :=
  fn_ok (k := 1) (pn := []) (ln := []) (Z.fnAt 100 7 (by decide +kernel))
    (x_one (s_ret (e_neg (e_bin e_int e_int))))
    (bind_ok (by decide +kernel) (by decide +kernel)) (by decide +kernel) (fun _ h => nomatch h)

noncomputable def gi_Frame : Rho → Sto → R Ou := (xSeq (xSetAttr 663 0 [102, 117, 110, 99] (cVar 1))
    (xSeq (xSetAttr 663 0 [116, 104, 105, 115] (cVar 2))
    (xSeq (xSetAttr 663 0 [99, 108, 115] (cVar 3))
    (xSeq (xSetAttr 663 0 [115, 116, 97, 116, 105, 99] (cVar 4))
    (xSeq (xSetAttr 663 0 [118, 97, 114, 115] (cVal .any))
    (xSetAttr 663 0 [97, 114, 103, 115] (cLst cNil)))))))
noncomputable def Fi_Frame : List PV → Sto → R PV := fun ps => fnR 5 0 gi_Frame (ps ++ [.none, .none, .none, .none])
theorem si_Frame {C : Cx} (Z : CF C) : SFc C 2 660 Fi_Frame :=
  fn_core (k := 1) (pn := [(Str.ofString "self"), (Str.ofString "func"), (Str.ofString "this"), (Str.ofString "cls"), (Str.ofString "static")]) (ln := []) (dvs := [Value.none, Value.none, Value.none, Value.none]) (dps := [.none, .none, .none, .none]) (m_frame Z)
    (x_cons (s_setattr Z.X rfl (by exact ⟨by kernel_rfl, by kernel_rfl, by kernel_rfl, by kernel_rfl⟩) (e_var rfl) rfl)
    (x_cons (s_setattr Z.X rfl (by exact ⟨by kernel_rfl, by kernel_rfl, by kernel_rfl, by kernel_rfl⟩) (e_var rfl) rfl)
    (x_cons (s_setattr Z.X rfl (by exact ⟨by kernel_rfl, by kernel_rfl, by kernel_rfl, by kernel_rfl⟩) (e_var rfl) rfl)
    (x_cons (s_setattr Z.X rfl (by exact ⟨by kernel_rfl, by kernel_rfl, by kernel_rfl, by kernel_rfl⟩) (e_var rfl) rfl)
    (x_cons (s_setattr Z.X rfl (by exact ⟨by kernel_rfl, by kernel_rfl, by kernel_rfl, by kernel_rfl⟩) e_dict0 rfl)
    (x_one (s_setattr Z.X rfl (by exact ⟨by kernel_rfl, by kernel_rfl, by kernel_rfl, by kernel_rfl⟩) (e_lst es_nil) rfl)))))))
    (fun _ _ _ => (.cons .none (.cons .none (.cons .none (.cons .none .nil))))) (b_frame Z) (by decide +kernel) (by decide +kernel)

noncomputable def ks_Frame : List (List Nat) := [[102, 117, 110, 99], [116, 104, 105, 115], [99, 108, 115], [115, 116, 97, 116, 105, 99], [118, 97, 114, 115], [97, 114, 103, 115]]
noncomputable def vs_Frame (x : Addr) : List PV := [.none, .none, .none, .none, .any, .lst []]
theorem v_Frame (x : Addr) : Fi_Frame [.slf 663 0 x] [.dct [] []] = .val .none [.dct ks_Frame (vs_Frame x)] := by rfl
noncomputable def gi_Host : Rho → Sto → R Ou := (xSeq (xSetAttr 762 0 [116, 111, 111, 108, 115] (cVal .any))
    (xSeq (xSetAttr 762 0 [101, 118, 97, 108, 115] (cVal .any))
    (xSeq (xSetAttr 762 0 [101, 120, 101, 99, 115] (cVal .any))
    (xSeq (xSetAttr 762 0 [116, 111, 112] (cVal (.inst 663)))
    (xSeq (xSetAttr 762 0 [102, 114, 97, 109, 101] (cSelfAttr 762 [116, 111, 112] (cVar 0)))
    (xSeq (xSetAttr 762 0 [110, 111, 116, 101, 115] (cNl 0))
    (xSeq (xSetAttr 762 0 [115, 105, 108, 101, 110, 116] (cVal (.int 0)))
    (xSeq (xSetAttr 762 0 [112, 97, 114, 116, 115] (cLst cNil))
    (xSeq (xSetAttr 762 0 [98, 117, 102, 102, 101, 114, 115] (cLst cNil))
    (xSeq (xSetAttr 762 0 [100, 101, 112, 116, 104] (cVal (.int 0)))
    (xSeq (xSetAttr 762 0 [108, 105, 109, 105, 116] (cVar 1))
    (xSeq (xSetAttr 762 0 [115, 112, 101, 110, 116] (cVal (.int 0)))
    (xSeq (xSetAttr 762 0 [102, 117, 101, 108] (cVar 2))
    (xSeq (xSetAttr 762 0 [104, 97, 110, 100, 108, 101, 115] (cVal (.int 0)))
    (xSeq (xSetAttr 762 0 [99, 108, 97, 115, 115, 101, 115] (cVal .any))
    (xSeq (xSetAttr 762 0 [102, 117, 110, 99, 116, 105, 111, 110, 115] (cVal .any))
    (xSeq (xSetAttr 762 0 [99, 111, 110, 115, 116, 97, 110, 116, 115] (cVal .any))
    (xSeq (xSetAttr 762 0 [97, 117, 116, 111, 108, 111, 97, 100, 95, 111, 114, 100, 101, 114] (cLst cNil))
    (xSeq (xSetAttr 762 0 [109, 97, 100, 101] (cLst cNil))
    (xSetAttr 762 0 [105, 115, 95, 115, 116, 114, 105, 99, 116] (cVal (.bool false))))))))))))))))))))))
noncomputable def Fi_Host : List PV → Sto → R PV := fun ps => fnR 3 0 gi_Host (ps ++ [.int 12, .none])
theorem si_Host {C : Cx} (Z : CF C) : SFc C 4 682 Fi_Host :=
  fn_core (k := 3) (pn := [(Str.ofString "self"), (Str.ofString "limit"), (Str.ofString "fuel")]) (ln := []) (dvs := [Value.int 12 1075, Value.none]) (dps := [.int 12, .none]) (m_host Z)
    (x_cons (s_setattr Z.X rfl (by exact ⟨by kernel_rfl, by kernel_rfl, by kernel_rfl, by kernel_rfl⟩) e_dict0 rfl)
    (x_cons (s_setattr Z.X rfl (by exact ⟨by kernel_rfl, by kernel_rfl, by kernel_rfl, by kernel_rfl⟩) e_dict0 rfl)
    (x_cons (s_setattr Z.X rfl (by exact ⟨by kernel_rfl, by kernel_rfl, by kernel_rfl, by kernel_rfl⟩) e_dict0 rfl)
    (x_cons (s_setattr Z.X rfl (by exact ⟨by kernel_rfl, by kernel_rfl, by kernel_rfl, by kernel_rfl⟩) (e_new Z.X (okFrame C) (si_Frame Z) (by omega) v_Frame (by decide +kernel) (Z.glob (by decide +kernel))) rfl)
    (x_cons (s_setattr Z.X rfl (by exact ⟨by kernel_rfl, by kernel_rfl, by kernel_rfl, by kernel_rfl⟩) (e_self Z.X rfl (okTop C) (e_var rfl)) rfl)
    (x_cons (s_setattr Z.X rfl (by exact ⟨by kernel_rfl, by kernel_rfl, by kernel_rfl, by kernel_rfl⟩) (e_nl rfl) rfl)
    (x_cons (s_setattr Z.X rfl (by exact ⟨by kernel_rfl, by kernel_rfl, by kernel_rfl, by kernel_rfl⟩) e_int rfl)
    (x_cons (s_setattr Z.X rfl (by exact ⟨by kernel_rfl, by kernel_rfl, by kernel_rfl, by kernel_rfl⟩) (e_lst es_nil) rfl)
    (x_cons (s_setattr Z.X rfl (by exact ⟨by kernel_rfl, by kernel_rfl, by kernel_rfl, by kernel_rfl⟩) (e_lst es_nil) rfl)
    (x_cons (s_setattr Z.X rfl (by exact ⟨by kernel_rfl, by kernel_rfl, by kernel_rfl, by kernel_rfl⟩) e_int rfl)
    (x_cons (s_setattr Z.X rfl (by exact ⟨by kernel_rfl, by kernel_rfl, by kernel_rfl, by kernel_rfl⟩) (e_var rfl) rfl)
    (x_cons (s_setattr Z.X rfl (by exact ⟨by kernel_rfl, by kernel_rfl, by kernel_rfl, by kernel_rfl⟩) e_int rfl)
    (x_cons (s_setattr Z.X rfl (by exact ⟨by kernel_rfl, by kernel_rfl, by kernel_rfl, by kernel_rfl⟩) (e_var rfl) rfl)
    (x_cons (s_setattr Z.X rfl (by exact ⟨by kernel_rfl, by kernel_rfl, by kernel_rfl, by kernel_rfl⟩) e_int rfl)
    (x_cons (s_setattr Z.X rfl (by exact ⟨by kernel_rfl, by kernel_rfl, by kernel_rfl, by kernel_rfl⟩) e_dict0 rfl)
    (x_cons (s_setattr Z.X rfl (by exact ⟨by kernel_rfl, by kernel_rfl, by kernel_rfl, by kernel_rfl⟩) e_dict0 rfl)
    (x_cons (s_setattr Z.X rfl (by exact ⟨by kernel_rfl, by kernel_rfl, by kernel_rfl, by kernel_rfl⟩) e_dict0 rfl)
    (x_cons (s_setattr Z.X rfl (by exact ⟨by kernel_rfl, by kernel_rfl, by kernel_rfl, by kernel_rfl⟩) (e_lst es_nil) rfl)
    (x_cons (s_setattr Z.X rfl (by exact ⟨by kernel_rfl, by kernel_rfl, by kernel_rfl, by kernel_rfl⟩) (e_lst es_nil) rfl)
    (x_one (s_setattr Z.X rfl (by exact ⟨by kernel_rfl, by kernel_rfl, by kernel_rfl, by kernel_rfl⟩) e_bool rfl)))))))))))))))))))))
    (fun _ _ _ => (.cons (.int _ _) (.cons .none .nil))) (b_host Z) (by decide +kernel) (by decide +kernel)

noncomputable def gi_Arr : Rho → Sto → R Ou := (xSeq (xSetAttr 316 0 [105, 115, 95, 112, 97, 99, 107, 101, 100] (cVal (.bool true)))
    (xSeq (xSetAttr 316 0 [107, 101, 121, 115] (cLst cNil))
    (xSeq (xSetAttr 316 0 [118, 97, 108, 115] (cLst cNil))
    (xSeq (xSetAttr 316 0 [104, 101, 97, 100, 115] (cLst cNil))
    (xSeq (xSetAttr 316 0 [110, 101, 120, 116, 115] (cLst cNil))
    (xSeq (xSetAttr 316 0 [115, 105, 122, 101] (cVar 1))
    (xSeq (xSetAttr 316 0 [99, 111, 117, 110, 116] (cVal (.int 0)))
    (xSeq (xSetAttr 316 0 [110, 101, 120, 116] (cCall F_least cNil))
    (xSeq (xSetAttr 316 0 [97, 116] (cVal (.int 0)))
    (xSeq (xSetAttr 316 0 [105, 115, 95, 115, 104, 97, 114, 101, 100] (cVal (.bool false)))
    (xSetAttr 316 0 [119, 97, 108, 107, 115] (cVal .any))))))))))))
noncomputable def Fi_Arr : List PV → Sto → R PV := fun ps => fnR 2 0 gi_Arr (ps ++ [.int 8])
theorem si_Arr {C : Cx} (Z : CF C) : SFc C 4 257 Fi_Arr :=
  fn_core (k := 3) (pn := [(Str.ofString "self"), (Str.ofString "size")]) (ln := []) (dvs := [Value.int 8 515]) (dps := [.int 8]) (m_arr Z)
    (x_cons (s_setattr Z.X rfl (by exact ⟨by kernel_rfl, by kernel_rfl, by kernel_rfl, by kernel_rfl⟩) e_bool rfl)
    (x_cons (s_setattr Z.X rfl (by exact ⟨by kernel_rfl, by kernel_rfl, by kernel_rfl, by kernel_rfl⟩) (e_lst es_nil) rfl)
    (x_cons (s_setattr Z.X rfl (by exact ⟨by kernel_rfl, by kernel_rfl, by kernel_rfl, by kernel_rfl⟩) (e_lst es_nil) rfl)
    (x_cons (s_setattr Z.X rfl (by exact ⟨by kernel_rfl, by kernel_rfl, by kernel_rfl, by kernel_rfl⟩) (e_lst es_nil) rfl)
    (x_cons (s_setattr Z.X rfl (by exact ⟨by kernel_rfl, by kernel_rfl, by kernel_rfl, by kernel_rfl⟩) (e_lst es_nil) rfl)
    (x_cons (s_setattr Z.X rfl (by exact ⟨by kernel_rfl, by kernel_rfl, by kernel_rfl, by kernel_rfl⟩) (e_var rfl) rfl)
    (x_cons (s_setattr Z.X rfl (by exact ⟨by kernel_rfl, by kernel_rfl, by kernel_rfl, by kernel_rfl⟩) e_int rfl)
    (x_cons (s_setattr Z.X rfl (by exact ⟨by kernel_rfl, by kernel_rfl, by kernel_rfl, by kernel_rfl⟩) (e_call0 (by decide +kernel) (Z.glob (by decide +kernel)) (s_least Z) (by omega) (d_least Z)) rfl)
    (x_cons (s_setattr Z.X rfl (by exact ⟨by kernel_rfl, by kernel_rfl, by kernel_rfl, by kernel_rfl⟩) e_int rfl)
    (x_cons (s_setattr Z.X rfl (by exact ⟨by kernel_rfl, by kernel_rfl, by kernel_rfl, by kernel_rfl⟩) e_bool rfl)
    (x_one (s_setattr Z.X rfl (by exact ⟨by kernel_rfl, by kernel_rfl, by kernel_rfl, by kernel_rfl⟩) e_dict0 rfl))))))))))))
    (fun _ _ _ => (.cons (.int _ _) .nil)) (b_arr Z) (by decide +kernel) (by decide +kernel)

noncomputable def ks_Arr : List (List Nat) := [[105, 115, 95, 112, 97, 99, 107, 101, 100], [107, 101, 121, 115], [118, 97, 108, 115], [104, 101, 97, 100, 115], [110, 101, 120, 116, 115], [115, 105, 122, 101], [99, 111, 117, 110, 116], [110, 101, 120, 116], [97, 116], [105, 115, 95, 115, 104, 97, 114, 101, 100], [119, 97, 108, 107, 115]]
noncomputable def vs_Arr (x : Addr) : List PV := [.bool true, .lst [], .lst [], .lst [], .lst [], .int 8, .int 0, .int (-9223372036854775808), .int 0, .bool false, .any]
theorem v_Arr (x : Addr) : Fi_Arr [.slf 316 0 x] [.dct [] []] = .val .none [.dct ks_Arr (vs_Arr x)] := by rfl

noncomputable def ks_Host : List (List Nat) := [[116, 111, 111, 108, 115], [101, 118, 97, 108, 115], [101, 120, 101, 99, 115], [116, 111, 112], [102, 114, 97, 109, 101], [110, 111, 116, 101, 115], [115, 105, 108, 101, 110, 116], [112, 97, 114, 116, 115], [98, 117, 102, 102, 101, 114, 115], [100, 101, 112, 116, 104], [108, 105, 109, 105, 116], [115, 112, 101, 110, 116], [102, 117, 101, 108], [104, 97, 110, 100, 108, 101, 115], [99, 108, 97, 115, 115, 101, 115], [102, 117, 110, 99, 116, 105, 111, 110, 115], [99, 111, 110, 115, 116, 97, 110, 116, 115], [97, 117, 116, 111, 108, 111, 97, 100, 95, 111, 114, 100, 101, 114], [109, 97, 100, 101], [105, 115, 95, 115, 116, 114, 105, 99, 116]]
noncomputable def vs_Host (x : Addr) : List PV := [.any, .any, .any, .inst 663, .inst 663, .nlst x, .int 0, .lst [], .lst [], .int 0, .int 12, .int 0, .none, .int 0, .any, .any, .any, .lst [], .lst [], .bool false]
theorem v_Host (x : Addr) : Fi_Host [.slf 762 0 x] [.dct [] []] = .val .none [.dct ks_Host (vs_Host x)] := by rfl
noncomputable def g_warn : Rho → Sto → R Ou := (xIf (tCmp .Eq (cSilent (cVar 0)) (cVal (.int 0))) (xAppend (cNotes (cVar 0)) (cTup (cCons (cVar 1) (cCons (cVar 2) cNil)))) xSkip)
noncomputable def F_warn : List PV → Sto → R PV := fnR 3 0 g_warn
theorem s_warn_ {C : Cx} (Z : CF C) : SF C 2 696 F_warn :=
  fn_ok (k := 1) (pn := [(Str.ofString "self"), (Str.ofString "level"), (Str.ofString "text")]) (ln := []) (m_warn Z)
    (x_one (s_if (t_cmp (e_silent Z.X (okSilent C) (e_var rfl)) e_int) (x_one (s_append (e_notes Z.X (okNotes C) (e_var rfl)) (e_tup (es_cons (e_var rfl) (es_cons (e_var rfl) es_nil))))) x_nil))
    (bind_ok (by decide +kernel) (by decide +kernel)) (by decide +kernel) (by decide +kernel)

end Mine.Internal
/- W4 -/
namespace Mine.Internal
noncomputable section
noncomputable def g__law_text : Rho → Sto → R Ou := (xSeq (xSet 1 (cTup (cStrs [[48, 120], [49], [45], [102], [32], [48], [55], [48, 98], [65], [122], [43], [48, 111], [46], [101], [9], [57], [120], [71], [48, 88], [66], [95], [33], [57, 50, 50, 51, 51, 55, 50, 48, 51, 54, 56, 53, 52, 55, 55, 53, 56, 48, 55], [128], [102, 102, 102, 102, 102, 102, 102, 102], [79], [48, 66], [10]])))
    (xRet (cMeth bJoin (cVal (.str [])) (cCons (cComp [0, 1] 1 (cRange (cCons (cBin .Mod (cVar 0) (cVal (.int 8))) cNil)) (aOne 2) tTrue (cpElt (cIdx (cVar 1) (cBin .Mod (cBin .FloorDiv (cBin .FloorDiv (cVar 0) (cVal (.int 8))) (cBin .Pow (cVal (.int 28)) (cVar 2))) (cVal (.int 28)))))) cNil))))
noncomputable def F__law_text : List PV → Sto → R PV := fnR 1 1 (g__law_text)
theorem d__law_text {C : Cx} (Z : CF C) : IsDef C 771 := (Z.fnAt 771 81).isDef
theorem s__law_text {C : Cx} (Z : CF C) : SF C 2 771 (F__law_text) :=
  fn_e (k := 1) (pn := ["draw"]) (ln := ["pieces"]) (Z.fnAt 771 81)
    (x_cons (s_c (e_tup (by repeat first | exact es_sn | refine es_sc ?_)))
    (x_one (s_ret (e_meth (e_str rfl) (fun _ _ _ _ _ _ _ _ h => gm_str PySem.F.slot_str_join PySem.F.type_str_join h) join_ok (by omega) (es_cons (e_comp (cn := ["draw", "pieces"]) (tn := ["k"]) (caps := [0, 1]) compOk_of (i_rz Z (es_cons (e_bin (e_var rfl) e_int) es_nil)) al_o ti_nil (e_idx (e_var rfl) (e_bin (e_bin (e_bin (e_var rfl) e_int) (e_bin e_int (e_var rfl))) e_int))) es_nil)))))

noncomputable def g_kind : Rho → Sto → R Ou := (xSeq (xIf (tCmp .Is (cVar 0) (cVal .none)) (xRet (cVal (.str [110, 117, 108, 108]))) xSkip)
    (xSeq (xIf (asB (cBlt bIsi (cCons (cVar 0) (cCons (cVal (.raw (.type "bool"))) cNil)))) (xRet (cVal (.str [98, 111, 111, 108]))) xSkip)
    (xSeq (xIf (asB (cBlt bIsi (cCons (cVar 0) (cCons (cVal (.raw (.type "int"))) cNil)))) (xRet (cVal (.str [105, 110, 116]))) xSkip)
    (xSeq (xIf (asB (cBlt bIsi (cCons (cVar 0) (cCons (cVal (.raw (.type "str"))) cNil)))) (xRet (cVal (.str [115, 116, 114, 105, 110, 103]))) xSkip)
    (xSeq (xIf (asB (cBlt bIsi (cCons (cVar 0) (cCons (cVal (.raw (.ref 316))) cNil)))) (xRet (cVal (.str [97, 114, 114, 97, 121]))) xSkip)
    (xSeq (xIf (asB (cBlt bIsi (cCons (cVar 0) (cCons (cVal (.raw (.ref 231))) cNil)))) (xRet (cVal (.str [111, 98, 106, 101, 99, 116]))) xSkip)
    xBad))))))
noncomputable def F_kind : List PV → Sto → R PV := fnR 1 0 (g_kind)
theorem d_kind {C : Cx} (Z : CF C) : IsDef C 407 := (Z.fnAt 407 39).isDef
theorem s_kind {C : Cx} (Z : CF C) : SF C 7 407 (F_kind) :=
  fn_e (k := 6) (pn := ["value"]) (ln := []) (Z.fnAt 407 39)
    (x_cons (s_if (t_cmp (e_var rfl) e_none) (x_one (s_ret (e_str rfl))) x_nil)
    (x_cons (s_if (t_val (e_bz Z (isi_ok Z) (es_cons (e_var rfl) (es_cons (e_bltn (by decide +kernel) Z.blt (by rfl)) es_nil)))) (x_one (s_ret (e_str rfl))) x_nil)
    (x_cons (s_if (t_val (e_bz Z (isi_ok Z) (es_cons (e_var rfl) (es_cons (e_bltn (by decide +kernel) Z.blt (by rfl)) es_nil)))) (x_one (s_ret (e_str rfl))) x_nil)
    (x_cons (s_if (t_val (e_bz Z (isi_ok Z) (es_cons (e_var rfl) (es_cons (e_bltn (by decide +kernel) Z.blt (by rfl)) es_nil)))) (x_one (s_ret (e_str rfl))) x_nil)
    (x_cons (s_if (t_val (e_bz Z (isi_ok Z) (es_cons (e_var rfl) (es_cons (e_gz Z) es_nil)))) (x_one (s_ret (e_str rfl))) x_nil)
    (x_cons (s_if (t_val (e_bz Z (isi_ok Z) (es_cons (e_var rfl) (es_cons (e_gz Z) es_nil)))) (x_one (s_ret (e_str rfl))) x_nil)
    (x_one s_bad)))))))

noncomputable def g_is_digit : Rho → Sto → R Ou := (xRet (toV (tBo .And (asB (toV (tCmp .Lt (cVar 1) (cBlt bLen (cCons (cVar 0) cNil))))) (asB (toV (tChain .LtE .LtE (cVal (.str [48])) (cIdx (cVar 0) (cVar 1)) (cVal (.str [57]))))))))
noncomputable def F_is_digit : List PV → Sto → R PV := fnR 2 0 (g_is_digit)
theorem d_is_digit {C : Cx} (Z : CF C) : IsDef C 121 := (Z.fnAt 121 11).isDef
theorem s_is_digit {C : Cx} (Z : CF C) : SF C 2 121 (F_is_digit) :=
  fn_e (k := 1) (pn := ["text", "at"]) (ln := []) (Z.fnAt 121 11)
    (x_one (s_ret (e_bo (bs_cons (e_cmp (e_var rfl) (e_bz Z len_ok (es_cons (e_var rfl) es_nil))) (bs_one (e_chain (e_str rfl) (e_idx (e_var rfl) (e_var rfl)) (e_str rfl)))))))

noncomputable def g_is_blank : Rho → Sto → R Ou := (xRet (toV (tCmp .In (cVar 0) (cTup (cStrs [[32], [9], [10], [11], [12], [13]])))))
noncomputable def F_is_blank : List PV → Sto → R PV := fnR 1 0 (g_is_blank)
theorem d_is_blank {C : Cx} (Z : CF C) : IsDef C 442 := (Z.fnAt 442 46).isDef
theorem s_is_blank {C : Cx} (Z : CF C) : SF C 2 442 (F_is_blank) :=
  fn_e (k := 1) (pn := ["sign"]) (ln := []) (Z.fnAt 442 46)
    (x_one (s_ret (e_cmp (e_var rfl) (e_tup (by repeat first | exact es_sn | refine es_sc ?_)))))

noncomputable def g_digit_value : Rho → Sto → R Ou := (xSeq (xIf (tChain .LtE .LtE (cVal (.str [48])) (cVar 0) (cVal (.str [57]))) (xRet (cBin .Sub (cBlt bOrd (cCons (cVar 0) cNil)) (cVal (.int 48)))) xSkip)
    (xSeq (xIf (tChain .LtE .LtE (cVal (.str [97])) (cVar 0) (cVal (.str [122]))) (xRet (cBin .Sub (cBlt bOrd (cCons (cVar 0) cNil)) (cVal (.int 87)))) xSkip)
    (xSeq (xIf (tChain .LtE .LtE (cVal (.str [65])) (cVar 0) (cVal (.str [90]))) (xRet (cBin .Sub (cBlt bOrd (cCons (cVar 0) cNil)) (cVal (.int 55)))) xSkip)
    (xRet (cVal (.int 99))))))
noncomputable def F_digit_value : List PV → Sto → R PV := fnR 1 0 (g_digit_value)
theorem d_digit_value {C : Cx} (Z : CF C) : IsDef C 435 := (Z.fnAt 435 45).isDef
theorem s_digit_value {C : Cx} (Z : CF C) : SF C 2 435 (F_digit_value) :=
  fn_e (k := 1) (pn := ["sign"]) (ln := []) (Z.fnAt 435 45)
    (x_cons (s_if (t_chain (e_str rfl) (e_var rfl) (e_str rfl)) (x_one (s_ret (e_bin (e_bz Z ord_ok (es_cons (e_var rfl) es_nil)) e_int))) x_nil)
    (x_cons (s_if (t_chain (e_str rfl) (e_var rfl) (e_str rfl)) (x_one (s_ret (e_bin (e_bz Z ord_ok (es_cons (e_var rfl) es_nil)) e_int))) x_nil)
    (x_cons (s_if (t_chain (e_str rfl) (e_var rfl) (e_str rfl)) (x_one (s_ret (e_bin (e_bz Z ord_ok (es_cons (e_var rfl) es_nil)) e_int))) x_nil)
    (x_one (s_ret e_int)))))

noncomputable def g_is_of_kind : Rho → Sto → R Ou := (xSeq (xSet 2 (toV (tChain .LtE .LtE (cVal (.str [48])) (cVar 0) (cVal (.str [57])))))
    (xSeq (xSet 3 (toV (tChain .LtE .LtE (cVal (.str [65])) (cVar 0) (cVal (.str [90])))))
    (xSeq (xSet 4 (toV (tChain .LtE .LtE (cVal (.str [97])) (cVar 0) (cVal (.str [122])))))
    (xSeq (xIf (tCmp .Eq (cVar 1) (cVal (.str [100, 105, 103, 105, 116]))) (xRet (cVar 2)) xSkip)
    (xSeq (xIf (tCmp .Eq (cVar 1) (cVal (.str [117, 112, 112, 101, 114]))) (xRet (cVar 3)) xSkip)
    (xSeq (xIf (tCmp .Eq (cVar 1) (cVal (.str [108, 111, 119, 101, 114]))) (xRet (cVar 4)) xSkip)
    (xSeq (xIf (tCmp .Eq (cVar 1) (cVal (.str [97, 108, 112, 104, 97]))) (xRet (toV (tBo .Or (asB (cVar 3)) (asB (cVar 4))))) xSkip)
    (xSeq (xIf (tCmp .Eq (cVar 1) (cVal (.str [97, 108, 110, 117, 109]))) (xRet (toV (tBo .Or (asB (cVar 2)) (tBo .Or (asB (cVar 3)) (asB (cVar 4)))))) xSkip)
    (xSeq (xIf (tCmp .Eq (cVar 1) (cVal (.str [120, 100, 105, 103, 105, 116]))) (xRet (toV (tCmp .Lt (cCall F_digit_value (cCons (cVar 0) cNil)) (cVal (.int 16))))) xSkip)
    (xSeq (xIf (tCmp .Eq (cVar 1) (cVal (.str [115, 112, 97, 99, 101]))) (xRet (cCall F_is_blank (cCons (cVar 0) cNil))) xSkip)
    (xRet (toV (tBo .And (asB (toV (tChain .LtE .LtE (cVal (.str [33])) (cVar 0) (cVal (.str [126]))))) (asB (toV (tNot (asB (toV (tBo .Or (asB (cVar 2)) (tBo .Or (asB (cVar 3)) (asB (cVar 4))))))))))))))))))))))
noncomputable def F_is_of_kind : List PV → Sto → R PV := fnR 2 3 (g_is_of_kind)
theorem d_is_of_kind {C : Cx} (Z : CF C) : IsDef C 554 := (Z.fnAt 554 62).isDef
theorem s_is_of_kind {C : Cx} (Z : CF C) : SF C 3 554 (F_is_of_kind) :=
  fn_e (k := 2) (pn := ["sign", "name"]) (ln := ["is_digit", "is_upper", "is_lower"]) (Z.fnAt 554 62)
    (x_cons (s_l (e_chain (e_str rfl) (e_var rfl) (e_str rfl)))
    (x_cons (s_l (e_chain (e_str rfl) (e_var rfl) (e_str rfl)))
    (x_cons (s_l (e_chain (e_str rfl) (e_var rfl) (e_str rfl)))
    (x_cons (s_if (t_cmp (e_var rfl) (e_str rfl)) (x_one (s_ret (e_var rfl))) x_nil)
    (x_cons (s_if (t_cmp (e_var rfl) (e_str rfl)) (x_one (s_ret (e_var rfl))) x_nil)
    (x_cons (s_if (t_cmp (e_var rfl) (e_str rfl)) (x_one (s_ret (e_var rfl))) x_nil)
    (x_cons (s_if (t_cmp (e_var rfl) (e_str rfl)) (x_one (s_ret (e_bo (bs_cons (e_var rfl) (bs_one (e_var rfl)))))) x_nil)
    (x_cons (s_if (t_cmp (e_var rfl) (e_str rfl)) (x_one (s_ret (e_bo (bs_cons (e_var rfl) (bs_cons (e_var rfl) (bs_one (e_var rfl))))))) x_nil)
    (x_cons (s_if (t_cmp (e_var rfl) (e_str rfl)) (x_one (s_ret (e_cmp (e_cz Z (s_digit_value Z) (d_digit_value Z) (es_cons (e_var rfl) es_nil)) e_int))) x_nil)
    (x_cons (s_if (t_cmp (e_var rfl) (e_str rfl)) (x_one (s_ret (e_cz Z (s_is_blank Z) (d_is_blank Z) (es_cons (e_var rfl) es_nil)))) x_nil)
    (x_one (s_ret (e_bo (bs_cons (e_chain (e_str rfl) (e_var rfl) (e_str rfl)) (bs_one (e_not (e_bo (bs_cons (e_var rfl) (bs_cons (e_var rfl) (bs_one (e_var rfl)))))))))))))))))))))

noncomputable def g_given : Rho → Sto → R Ou := (xSeq (xIf (asB (cBlt bIsi (cCons (cVar 0) (cCons (cVal (.raw (.ref 231))) cNil)))) (xRet cBad) xSkip)
    (xRet (cCall F_kind (cCons (cVar 0) cNil))))
noncomputable def F_given : List PV → Sto → R PV := fnR 1 0 (g_given)
theorem d_given {C : Cx} (Z : CF C) : IsDef C 414 := (Z.fnAt 414 40).isDef
theorem s_given {C : Cx} (Z : CF C) : SF C 8 414 (F_given) :=
  fn_e (k := 7) (pn := ["value"]) (ln := []) (Z.fnAt 414 40)
    (x_cons (s_if (t_val (e_bz Z (isi_ok Z) (es_cons (e_var rfl) (es_cons (e_gz Z) es_nil)))) (x_one (s_ret e_bad)) x_nil)
    (x_one (s_ret (e_cz Z (s_kind Z) (d_kind Z) (es_cons (e_var rfl) es_nil)))))

noncomputable def g_all_of_kind : Rho → Sto → R Ou := (xSeq (xIf (tCmp .Eq (cCall F_kind (cCons (cVar 2) cNil)) (cVal (.str [115, 116, 114, 105, 110, 103]))) (xSeq (xFor (cItems (cVar 2)) (aOne 3) (xIf (tNot (asB (cCall F_is_of_kind (cCons (cVar 3) (cCons (cVar 1) cNil))))) (xRet (cVal (.bool false))) xSkip))
    (xRet (toV (tCmp .NotEq (cVar 2) (cVal (.str [])))))) xSkip)
    (xSeq (xWarn F_warn 0 (cCons (cVal (.str [68, 101, 112, 114, 101, 99, 97, 116, 101, 100])) (cCons (cBin .Add (cBin .Add (cBin .Add (cBin .Add (cVal (.str [99, 116, 121, 112, 101, 95])) (cVar 1)) (cVal (.str [40, 41, 58, 32, 65, 114, 103, 117, 109, 101, 110, 116, 32, 111, 102, 32, 116, 121, 112, 101, 32]))) (cCall F_given (cCons (cVar 2) cNil))) (cVal (.str [32, 119, 105, 108, 108, 32, 98, 101, 32, 105, 110, 116, 101, 114, 112, 114, 101, 116, 101, 100, 32, 97, 115, 32, 115, 116, 114, 105, 110, 103, 32, 105, 110, 32, 116, 104, 101, 32, 102, 117, 116, 117, 114, 101]))) cNil)))
    (xSeq (xIf (tCmp .NotEq (cCall F_kind (cCons (cVar 2) cNil)) (cVal (.str [105, 110, 116]))) (xRet (cVal (.bool false))) xSkip)
    (xSeq (xIf (tChain .LtE .LtE (cNeg (cVal (.int 128))) (cVar 2) (cVal (.int 255))) (xRet (cCall F_is_of_kind (cCons (cBlt bChr (cCons (cBin .Mod (cVar 2) (cVal (.int 256))) cNil)) (cCons (cVar 1) cNil)))) xSkip)
    (xRet (toV (tBo .And (asB (toV (tCmp .Gt (cVar 2) (cVal (.int 255))))) (asB (toV (tCmp .In (cVar 1) (cTup (cCons (cVal (.str [100, 105, 103, 105, 116])) (cCons (cVal (.str [97, 108, 110, 117, 109])) (cCons (cVal (.str [120, 100, 105, 103, 105, 116])) cNil))))))))))))))
noncomputable def F_all_of_kind : List PV → Sto → R PV := fnR 3 1 (g_all_of_kind)
theorem d_all_of_kind {C : Cx} (Z : CF C) : IsDef C 561 := (Z.fnAt 561 63).isDef
theorem s_all_of_kind {C : Cx} (Z : CF C) : SF C 9 561 (F_all_of_kind) :=
  fn_e (k := 8) (pn := ["host", "name", "value"]) (ln := ["sign"]) (Z.fnAt 561 63)
    (x_cons (s_if (t_cmp (e_cz Z (s_kind Z) (d_kind Z) (es_cons (e_var rfl) es_nil)) (e_str rfl)) (x_cons (s_for (i_val (by omega) (e_var rfl)) a_l (x_one (s_if (t_not (t_val (e_cz Z (s_is_of_kind Z) (d_is_of_kind Z) (es_cons (e_var rfl) (es_cons (e_var rfl) es_nil))))) (x_one (s_ret e_bool)) x_nil)))
    (x_one (s_ret (e_cmp (e_var rfl) (e_str rfl))))) x_nil)
    (x_cons (s_warn Z.X (okWarn C) (m_warn Z).isDef (s_warn_ Z) (by omega) rfl (es_cons (e_str rfl) (es_cons (e_bin (e_bin (e_bin (e_bin (e_str rfl) (e_var rfl)) (e_str rfl)) (e_cz Z (s_given Z) (d_given Z) (es_cons (e_var rfl) es_nil))) (e_str rfl)) es_nil)))
    (x_cons (s_if (t_cmp (e_cz Z (s_kind Z) (d_kind Z) (es_cons (e_var rfl) es_nil)) (e_str rfl)) (x_one (s_ret e_bool)) x_nil)
    (x_cons (s_if (t_chain (e_neg e_int) (e_var rfl) e_int) (x_one (s_ret (e_cz Z (s_is_of_kind Z) (d_is_of_kind Z) (es_cons (e_bz Z chr_ok (es_cons (e_bin (e_var rfl) e_int) es_nil)) (es_cons (e_var rfl) es_nil))))) x_nil)
    (x_one (s_ret (e_bo (bs_cons (e_cmp (e_var rfl) e_int) (bs_one (e_cmp (e_var rfl) (e_tup (es_cons (e_str rfl) (es_cons (e_str rfl) (es_cons (e_str rfl) es_nil))))))))))))))

noncomputable def g_php_ctype_digit : Rho → Sto → R Ou := (xRet (cCall F_all_of_kind (cCons (cVar 0) (cCons (cVal (.str [100, 105, 103, 105, 116])) (cCons (cIdx (cVar 1) (cVal (.int 0))) cNil)))))
noncomputable def F_php_ctype_digit : List PV → Sto → R PV := fnR 2 0 (g_php_ctype_digit)
theorem d_php_ctype_digit {C : Cx} (Z : CF C) : IsDef C 568 := (Z.fnAt 568 64).isDef
theorem s_php_ctype_digit {C : Cx} (Z : CF C) : SF C 10 568 (F_php_ctype_digit) :=
  fn_e (k := 9) (pn := ["host", "args"]) (ln := []) (Z.fnAt 568 64)
    (x_one (s_ret (e_cz Z (s_all_of_kind Z) (d_all_of_kind Z) (es_cons (e_var rfl) (es_cons (e_str rfl) (es_cons (e_idx (e_var rfl) e_int) es_nil))))))

noncomputable def g_php_ctype_alpha : Rho → Sto → R Ou := (xRet (cCall F_all_of_kind (cCons (cVar 0) (cCons (cVal (.str [97, 108, 112, 104, 97])) (cCons (cIdx (cVar 1) (cVal (.int 0))) cNil)))))
noncomputable def F_php_ctype_alpha : List PV → Sto → R PV := fnR 2 0 (g_php_ctype_alpha)
theorem d_php_ctype_alpha {C : Cx} (Z : CF C) : IsDef C 575 := (Z.fnAt 575 65).isDef
theorem s_php_ctype_alpha {C : Cx} (Z : CF C) : SF C 10 575 (F_php_ctype_alpha) :=
  fn_e (k := 9) (pn := ["host", "args"]) (ln := []) (Z.fnAt 575 65)
    (x_one (s_ret (e_cz Z (s_all_of_kind Z) (d_all_of_kind Z) (es_cons (e_var rfl) (es_cons (e_str rfl) (es_cons (e_idx (e_var rfl) e_int) es_nil))))))

noncomputable def g_php_ctype_alnum : Rho → Sto → R Ou := (xRet (cCall F_all_of_kind (cCons (cVar 0) (cCons (cVal (.str [97, 108, 110, 117, 109])) (cCons (cIdx (cVar 1) (cVal (.int 0))) cNil)))))
noncomputable def F_php_ctype_alnum : List PV → Sto → R PV := fnR 2 0 (g_php_ctype_alnum)
theorem d_php_ctype_alnum {C : Cx} (Z : CF C) : IsDef C 582 := (Z.fnAt 582 66).isDef
theorem s_php_ctype_alnum {C : Cx} (Z : CF C) : SF C 10 582 (F_php_ctype_alnum) :=
  fn_e (k := 9) (pn := ["host", "args"]) (ln := []) (Z.fnAt 582 66)
    (x_one (s_ret (e_cz Z (s_all_of_kind Z) (d_all_of_kind Z) (es_cons (e_var rfl) (es_cons (e_str rfl) (es_cons (e_idx (e_var rfl) e_int) es_nil))))))

noncomputable def g_php_ctype_upper : Rho → Sto → R Ou := (xRet (cCall F_all_of_kind (cCons (cVar 0) (cCons (cVal (.str [117, 112, 112, 101, 114])) (cCons (cIdx (cVar 1) (cVal (.int 0))) cNil)))))
noncomputable def F_php_ctype_upper : List PV → Sto → R PV := fnR 2 0 (g_php_ctype_upper)
theorem d_php_ctype_upper {C : Cx} (Z : CF C) : IsDef C 589 := (Z.fnAt 589 67).isDef
theorem s_php_ctype_upper {C : Cx} (Z : CF C) : SF C 10 589 (F_php_ctype_upper) :=
  fn_e (k := 9) (pn := ["host", "args"]) (ln := []) (Z.fnAt 589 67)
    (x_one (s_ret (e_cz Z (s_all_of_kind Z) (d_all_of_kind Z) (es_cons (e_var rfl) (es_cons (e_str rfl) (es_cons (e_idx (e_var rfl) e_int) es_nil))))))

noncomputable def g_php_ctype_lower : Rho → Sto → R Ou := (xRet (cCall F_all_of_kind (cCons (cVar 0) (cCons (cVal (.str [108, 111, 119, 101, 114])) (cCons (cIdx (cVar 1) (cVal (.int 0))) cNil)))))
noncomputable def F_php_ctype_lower : List PV → Sto → R PV := fnR 2 0 (g_php_ctype_lower)
theorem d_php_ctype_lower {C : Cx} (Z : CF C) : IsDef C 596 := (Z.fnAt 596 68).isDef
theorem s_php_ctype_lower {C : Cx} (Z : CF C) : SF C 10 596 (F_php_ctype_lower) :=
  fn_e (k := 9) (pn := ["host", "args"]) (ln := []) (Z.fnAt 596 68)
    (x_one (s_ret (e_cz Z (s_all_of_kind Z) (d_all_of_kind Z) (es_cons (e_var rfl) (es_cons (e_str rfl) (es_cons (e_idx (e_var rfl) e_int) es_nil))))))

noncomputable def g_php_ctype_space : Rho → Sto → R Ou := (xRet (cCall F_all_of_kind (cCons (cVar 0) (cCons (cVal (.str [115, 112, 97, 99, 101])) (cCons (cIdx (cVar 1) (cVal (.int 0))) cNil)))))
noncomputable def F_php_ctype_space : List PV → Sto → R PV := fnR 2 0 (g_php_ctype_space)
theorem d_php_ctype_space {C : Cx} (Z : CF C) : IsDef C 603 := (Z.fnAt 603 69).isDef
theorem s_php_ctype_space {C : Cx} (Z : CF C) : SF C 10 603 (F_php_ctype_space) :=
  fn_e (k := 9) (pn := ["host", "args"]) (ln := []) (Z.fnAt 603 69)
    (x_one (s_ret (e_cz Z (s_all_of_kind Z) (d_all_of_kind Z) (es_cons (e_var rfl) (es_cons (e_str rfl) (es_cons (e_idx (e_var rfl) e_int) es_nil))))))

noncomputable def g_php_ctype_punct : Rho → Sto → R Ou := (xRet (cCall F_all_of_kind (cCons (cVar 0) (cCons (cVal (.str [112, 117, 110, 99, 116])) (cCons (cIdx (cVar 1) (cVal (.int 0))) cNil)))))
noncomputable def F_php_ctype_punct : List PV → Sto → R PV := fnR 2 0 (g_php_ctype_punct)
theorem d_php_ctype_punct {C : Cx} (Z : CF C) : IsDef C 610 := (Z.fnAt 610 70).isDef
theorem s_php_ctype_punct {C : Cx} (Z : CF C) : SF C 10 610 (F_php_ctype_punct) :=
  fn_e (k := 9) (pn := ["host", "args"]) (ln := []) (Z.fnAt 610 70)
    (x_one (s_ret (e_cz Z (s_all_of_kind Z) (d_all_of_kind Z) (es_cons (e_var rfl) (es_cons (e_str rfl) (es_cons (e_idx (e_var rfl) e_int) es_nil))))))

noncomputable def g_php_ctype_xdigit : Rho → Sto → R Ou := (xRet (cCall F_all_of_kind (cCons (cVar 0) (cCons (cVal (.str [120, 100, 105, 103, 105, 116])) (cCons (cIdx (cVar 1) (cVal (.int 0))) cNil)))))
noncomputable def F_php_ctype_xdigit : List PV → Sto → R PV := fnR 2 0 (g_php_ctype_xdigit)
theorem d_php_ctype_xdigit {C : Cx} (Z : CF C) : IsDef C 617 := (Z.fnAt 617 71).isDef
theorem s_php_ctype_xdigit {C : Cx} (Z : CF C) : SF C 10 617 (F_php_ctype_xdigit) :=
  fn_e (k := 9) (pn := ["host", "args"]) (ln := []) (Z.fnAt 617 71)
    (x_one (s_ret (e_cz Z (s_all_of_kind Z) (d_all_of_kind Z) (es_cons (e_var rfl) (es_cons (e_str rfl) (es_cons (e_idx (e_var rfl) e_int) es_nil))))))

noncomputable def g_based_text : Rho → Sto → R Ou := (xSeq (xSet 2 (cBin .Mod (cVar 0) (cBin .Pow (cVal (.int 2)) (cVal (.int 64)))))
    (xSeq (xSet 3 (cVal (.str [])))
    (xSeq (xLoop (tBo .Or (tCmp .Gt (cVar 2) (cVal (.int 0))) (tCmp .Eq (cVar 3) (cVal (.str [])))) (xSeq (xSet 3 (cBin .Add (cIdx (cVal (.str [48, 49, 50, 51, 52, 53, 54, 55, 56, 57, 97, 98, 99, 100, 101, 102])) (cBin .Mod (cVar 2) (cVar 1))) (cVar 3)))
    (xSet 2 (cBin .FloorDiv (cVar 2) (cVar 1)))) 1000)
    (xRet (cVar 3)))))
noncomputable def F_based_text : List PV → Sto → R PV := fnR 2 2 (g_based_text)
theorem d_based_text {C : Cx} (Z : CF C) : IsDef C 484 := (Z.fnAt 484 52).isDef
theorem s_based_text {C : Cx} (Z : CF C) : SF C 2 484 (F_based_text) :=
  fn_e (k := 1) (pn := ["n", "base"]) (ln := ["rest", "made"]) (Z.fnAt 484 52)
    (x_cons (s_l (e_bin (e_var rfl) (e_bin e_int e_int)))
    (x_cons (s_l (e_str rfl))
    (x_cons (s_while 1000 (t_bo (ts_cons (t_cmp (e_var rfl) e_int) (ts_one (t_cmp (e_var rfl) (e_str rfl))))) (x_cons (s_l (e_bin (e_idx (e_str rfl) (e_bin (e_var rfl) (e_var rfl))) (e_var rfl)))
    (x_one (s_l (e_bin (e_var rfl) (e_var rfl))))))
    (x_one (s_ret (e_var rfl))))))

noncomputable def g_php_decbin : Rho → Sto → R Ou := (xRet (cCall F_based_text (cCons (cIdx (cVar 1) (cVal (.int 0))) (cCons (cVal (.int 2)) cNil))))
noncomputable def F_php_decbin : List PV → Sto → R PV := fnR 2 0 (g_php_decbin)
theorem d_php_decbin {C : Cx} (Z : CF C) : IsDef C 519 := (Z.fnAt 519 57).isDef
theorem s_php_decbin {C : Cx} (Z : CF C) : SF C 3 519 (F_php_decbin) :=
  fn_e (k := 2) (pn := ["host", "args"]) (ln := []) (Z.fnAt 519 57)
    (x_one (s_ret (e_cz Z (s_based_text Z) (d_based_text Z) (es_cons (e_idx (e_var rfl) e_int) (es_cons e_int es_nil)))))

noncomputable def g_blanks_behind : Rho → Sto → R Ou := (xSeq (xLoop (tBo .And (tCmp .Lt (cVar 1) (cBlt bLen (cCons (cVar 0) cNil))) (tCmp .In (cIdx (cVar 0) (cVar 1)) (cTup (cStrs [[32], [9], [10], [13], [11], [12]])))) (xAug .Add 1 (cVal (.int 1))) 1000)
    (xRet (cVar 1)))
noncomputable def F_blanks_behind : List PV → Sto → R PV := fnR 2 0 (g_blanks_behind)
theorem d_blanks_behind {C : Cx} (Z : CF C) : IsDef C 156 := (Z.fnAt 156 16).isDef
theorem s_blanks_behind {C : Cx} (Z : CF C) : SF C 2 156 (F_blanks_behind) :=
  fn_e (k := 1) (pn := ["text", "at"]) (ln := []) (Z.fnAt 156 16)
    (x_cons (s_while 1000 (t_bo (ts_cons (t_cmp (e_var rfl) (e_bz Z len_ok (es_cons (e_var rfl) es_nil))) (ts_one (t_cmp (e_idx (e_var rfl) (e_var rfl)) (e_tup (by repeat first | exact es_sn | refine es_sc ?_)))))) (x_one (s_aug e_int (by decide +kernel) rfl (.inl (by decide +kernel)))))
    (x_one (s_ret (e_var rfl))))

noncomputable def g_greatest : Rho → Sto → R Ou := (xRet (cBin .Sub (cBin .Pow (cVal (.int 2)) (cVal (.int 63))) (cVal (.int 1))))
noncomputable def F_greatest : List PV → Sto → R PV := fnR 0 0 (g_greatest)
theorem d_greatest {C : Cx} (Z : CF C) : IsDef C 107 := (Z.fnAt 107 8).isDef
theorem s_greatest {C : Cx} (Z : CF C) : SF C 2 107 (F_greatest) :=
  fn_ok (k := 1) (pn := []) (ln := []) (Z.fnAt 107 8)
    (x_one (s_ret (e_bin (e_bin e_int e_int) e_int)))
    (bind_ok (by decide +kernel) (by decide +kernel)) (by decide +kernel) (fun _ h => nomatch h)

noncomputable def g_whole : Rho → Sto → R Ou := (xSeq (xIf (tBo .Or (tCmp .Lt (cVar 0) (cCall F_least cNil)) (tCmp .Gt (cVar 0) (cCall F_greatest cNil))) xRaise xSkip)
    (xRet (cVar 0)))
noncomputable def F_whole : List PV → Sto → R PV := fnR 1 0 (g_whole)
theorem d_whole {C : Cx} (Z : CF C) : IsDef C 114 := (Z.fnAt 114 9).isDef
theorem s_whole {C : Cx} (Z : CF C) : SF C 7 114 (F_whole) :=
  fn_e (k := 6) (pn := ["n"]) (ln := []) (Z.fnAt 114 9)
    (x_cons (s_if (t_bo (ts_cons (t_cmp (e_var rfl) (e_call0 (by decide +kernel) Z.glob (s_least Z) (by omega) (d_least Z))) (ts_one (t_cmp (e_var rfl) (e_call0 (by decide +kernel) Z.glob (s_greatest Z) (by omega) (d_greatest Z)))))) (x_one (s_raise (leftOk Z) (ef_left Z) (by omega) rfl (by decide +kernel) Z.glob)) x_nil)
    (x_one (s_ret (e_var rfl))))

noncomputable def g_has_mark : Rho → Sto → R Ou := (xRet (toV (tBo .And (asB (toV (tCmp .Eq (cSl (cVar 0) (oInt (cVar 1)) (oInt (cBin .Add (cVar 1) (cVal (.int 1))))) (cVal (.str [48]))))) (asB (toV (tCmp .In (cSl (cVar 0) (oInt (cBin .Add (cVar 1) (cVal (.int 1)))) (oInt (cBin .Add (cVar 1) (cVal (.int 2))))) (cVar 2)))))))
noncomputable def F_has_mark : List PV → Sto → R PV := fnR 3 0 (g_has_mark)
theorem d_has_mark {C : Cx} (Z : CF C) : IsDef C 449 := (Z.fnAt 449 47).isDef
theorem s_has_mark {C : Cx} (Z : CF C) : SF C 2 449 (F_has_mark) :=
  fn_e (k := 1) (pn := ["text", "at", "letters"]) (ln := []) (Z.fnAt 449 47)
    (x_one (s_ret (e_bo (bs_cons (e_cmp (e_sl (e_var rfl) (p_some (e_var rfl)) (p_some (e_bin (e_var rfl) e_int))) (e_str rfl)) (bs_one (e_cmp (e_sl (e_var rfl) (p_some (e_bin (e_var rfl) e_int)) (p_some (e_bin (e_var rfl) e_int))) (e_var rfl)))))))

noncomputable def g_number_in_base : Rho → Sto → R Ou := (xSeq (xSet 4 (cCall F_blanks_behind (cCons (cVar 1) (cCons (cVal (.int 0)) cNil))))
    (xSeq (xSet 5 (cBlt bLen (cCons (cVar 1) cNil)))
    (xSeq (xLoop (tBo .And (tCmp .Gt (cVar 5) (cVar 4)) (asB (cCall F_is_blank (cCons (cIdx (cVar 1) (cBin .Sub (cVar 5) (cVal (.int 1)))) cNil)))) (xAug .Sub 5 (cVal (.int 1))) 1000)
    (xSeq (xIf (tBo .And (tCmp .GtE (cBin .Sub (cVar 5) (cVar 4)) (cVal (.int 2))) (asB (cCall F_has_mark (cCons (cVar 1) (cCons (cVar 4) (cCons (cVar 3) cNil)))))) (xAug .Add 4 (cVal (.int 2))) xSkip)
    (xSeq (xSet 6 (cVal (.int 0)))
    (xSeq (xSet 7 (cVal (.bool true)))
    (xSeq (xFor (cRange (cCons (cVar 4) (cCons (cVar 5) cNil))) (aOne 8) (xSeq (xSet 9 (cCall F_digit_value (cCons (cIdx (cVar 1) (cVar 8)) cNil)))
    (xIf (tCmp .Lt (cVar 9) (cVar 2)) (xSet 6 (cBin .Add (cBin .Mult (cVar 6) (cVar 2)) (cVar 9))) (xSet 7 (cVal (.bool false))))))
    (xSeq (xIf (tNot (asB (cVar 7))) (xWarn F_warn 0 (cCons (cVal (.str [68, 101, 112, 114, 101, 99, 97, 116, 101, 100])) (cCons (cVal (.str [73, 110, 118, 97, 108, 105, 100, 32, 99, 104, 97, 114, 97, 99, 116, 101, 114, 115, 32, 112, 97, 115, 115, 101, 100, 32, 102, 111, 114, 32, 97, 116, 116, 101, 109, 112, 116, 101, 100, 32, 99, 111, 110, 118, 101, 114, 115, 105, 111, 110, 44, 32, 116, 104, 101, 115, 101, 32, 104, 97, 118, 101, 32, 98, 101, 101, 110, 32, 105, 103, 110, 111, 114, 101, 100])) cNil))) xSkip)
    (xRet (cCall F_whole (cCons (cVar 6) cNil)))))))))))
noncomputable def F_number_in_base : List PV → Sto → R PV := fnR 4 6 (g_number_in_base)
theorem d_number_in_base {C : Cx} (Z : CF C) : IsDef C 491 := (Z.fnAt 491 53).isDef
theorem s_number_in_base {C : Cx} (Z : CF C) : SF C 8 491 (F_number_in_base) :=
  fn_e (k := 7) (pn := ["host", "text", "base", "letters"]) (ln := ["first", "behind", "value", "is_clean", "at", "digit"]) (Z.fnAt 491 53)
    (x_cons (s_l (e_cz Z (s_blanks_behind Z) (d_blanks_behind Z) (es_cons (e_var rfl) (es_cons e_int es_nil))))
    (x_cons (s_l (e_bz Z len_ok (es_cons (e_var rfl) es_nil)))
    (x_cons (s_while 1000 (t_bo (ts_cons (t_cmp (e_var rfl) (e_var rfl)) (ts_one (t_val (e_cz Z (s_is_blank Z) (d_is_blank Z) (es_cons (e_idx (e_var rfl) (e_bin (e_var rfl) e_int)) es_nil)))))) (x_one (s_aug e_int (by decide +kernel) rfl (.inl (by decide +kernel)))))
    (x_cons (s_if (t_bo (ts_cons (t_cmp (e_bin (e_var rfl) (e_var rfl)) e_int) (ts_one (t_val (e_cz Z (s_has_mark Z) (d_has_mark Z) (es_cons (e_var rfl) (es_cons (e_var rfl) (es_cons (e_var rfl) es_nil)))))))) (x_one (s_aug e_int (by decide +kernel) rfl (.inl (by decide +kernel)))) x_nil)
    (x_cons (s_l e_int)
    (x_cons (s_l e_bool)
    (x_cons (s_for (i_rz Z (es_cons (e_var rfl) (es_cons (e_var rfl) es_nil))) a_l (x_cons (s_l (e_cz Z (s_digit_value Z) (d_digit_value Z) (es_cons (e_idx (e_var rfl) (e_var rfl)) es_nil)))
    (x_one (s_if (t_cmp (e_var rfl) (e_var rfl)) (x_one (s_l (e_bin (e_bin (e_var rfl) (e_var rfl)) (e_var rfl)))) (x_one (s_l e_bool))))))
    (x_cons (s_if (t_not (t_val (e_var rfl))) (x_one (s_warn Z.X (okWarn C) (m_warn Z).isDef (s_warn_ Z) (by omega) rfl (es_cons (e_str rfl) (es_cons (e_str rfl) es_nil)))) x_nil)
    (x_one (s_ret (e_cz Z (s_whole Z) (d_whole Z) (es_cons (e_var rfl) es_nil))))))))))))

noncomputable def g_php_bindec : Rho → Sto → R Ou := (xRet (cCall F_number_in_base (cCons (cVar 0) (cCons (cIdx (cVar 1) (cVal (.int 0))) (cCons (cVal (.int 2)) (cCons (cTup (cCons (cVal (.str [98])) (cCons (cVal (.str [66])) cNil))) cNil))))))
noncomputable def F_php_bindec : List PV → Sto → R PV := fnR 2 0 (g_php_bindec)
theorem d_php_bindec {C : Cx} (Z : CF C) : IsDef C 540 := (Z.fnAt 540 60).isDef
theorem s_php_bindec {C : Cx} (Z : CF C) : SF C 9 540 (F_php_bindec) :=
  fn_e (k := 8) (pn := ["host", "args"]) (ln := []) (Z.fnAt 540 60)
    (x_one (s_ret (e_cz Z (s_number_in_base Z) (d_number_in_base Z) (es_cons (e_var rfl) (es_cons (e_idx (e_var rfl) e_int) (es_cons e_int (es_cons (e_tup (es_cons (e_str rfl) (es_cons (e_str rfl) es_nil))) es_nil)))))))

noncomputable def g_php_decoct : Rho → Sto → R Ou := (xRet (cCall F_based_text (cCons (cIdx (cVar 1) (cVal (.int 0))) (cCons (cVal (.int 8)) cNil))))
noncomputable def F_php_decoct : List PV → Sto → R PV := fnR 2 0 (g_php_decoct)
theorem d_php_decoct {C : Cx} (Z : CF C) : IsDef C 526 := (Z.fnAt 526 58).isDef
theorem s_php_decoct {C : Cx} (Z : CF C) : SF C 3 526 (F_php_decoct) :=
  fn_e (k := 2) (pn := ["host", "args"]) (ln := []) (Z.fnAt 526 58)
    (x_one (s_ret (e_cz Z (s_based_text Z) (d_based_text Z) (es_cons (e_idx (e_var rfl) e_int) (es_cons e_int es_nil)))))

noncomputable def g_php_octdec : Rho → Sto → R Ou := (xRet (cCall F_number_in_base (cCons (cVar 0) (cCons (cIdx (cVar 1) (cVal (.int 0))) (cCons (cVal (.int 8)) (cCons (cTup (cCons (cVal (.str [111])) (cCons (cVal (.str [79])) cNil))) cNil))))))
noncomputable def F_php_octdec : List PV → Sto → R PV := fnR 2 0 (g_php_octdec)
theorem d_php_octdec {C : Cx} (Z : CF C) : IsDef C 547 := (Z.fnAt 547 61).isDef
theorem s_php_octdec {C : Cx} (Z : CF C) : SF C 9 547 (F_php_octdec) :=
  fn_e (k := 8) (pn := ["host", "args"]) (ln := []) (Z.fnAt 547 61)
    (x_one (s_ret (e_cz Z (s_number_in_base Z) (d_number_in_base Z) (es_cons (e_var rfl) (es_cons (e_idx (e_var rfl) e_int) (es_cons e_int (es_cons (e_tup (es_cons (e_str rfl) (es_cons (e_str rfl) es_nil))) es_nil)))))))

noncomputable def g_php_dechex : Rho → Sto → R Ou := (xRet (cCall F_based_text (cCons (cIdx (cVar 1) (cVal (.int 0))) (cCons (cVal (.int 16)) cNil))))
noncomputable def F_php_dechex : List PV → Sto → R PV := fnR 2 0 (g_php_dechex)
theorem d_php_dechex {C : Cx} (Z : CF C) : IsDef C 512 := (Z.fnAt 512 56).isDef
theorem s_php_dechex {C : Cx} (Z : CF C) : SF C 3 512 (F_php_dechex) :=
  fn_e (k := 2) (pn := ["host", "args"]) (ln := []) (Z.fnAt 512 56)
    (x_one (s_ret (e_cz Z (s_based_text Z) (d_based_text Z) (es_cons (e_idx (e_var rfl) e_int) (es_cons e_int es_nil)))))

noncomputable def g_php_hexdec : Rho → Sto → R Ou := (xRet (cCall F_number_in_base (cCons (cVar 0) (cCons (cIdx (cVar 1) (cVal (.int 0))) (cCons (cVal (.int 16)) (cCons (cTup (cCons (cVal (.str [120])) (cCons (cVal (.str [88])) cNil))) cNil))))))
noncomputable def F_php_hexdec : List PV → Sto → R PV := fnR 2 0 (g_php_hexdec)
theorem d_php_hexdec {C : Cx} (Z : CF C) : IsDef C 533 := (Z.fnAt 533 59).isDef
theorem s_php_hexdec {C : Cx} (Z : CF C) : SF C 9 533 (F_php_hexdec) :=
  fn_e (k := 8) (pn := ["host", "args"]) (ln := []) (Z.fnAt 533 59)
    (x_one (s_ret (e_cz Z (s_number_in_base Z) (d_number_in_base Z) (es_cons (e_var rfl) (es_cons (e_idx (e_var rfl) e_int) (es_cons e_int (es_cons (e_tup (es_cons (e_str rfl) (es_cons (e_str rfl) es_nil))) es_nil)))))))

noncomputable def g_digits_behind : Rho → Sto → R Ou := (xSeq (xLoop (asB (cCall F_is_digit (cCons (cVar 0) (cCons (cVar 1) cNil)))) (xAug .Add 1 (cVal (.int 1))) 1000)
    (xRet (cVar 1)))
noncomputable def F_digits_behind : List PV → Sto → R PV := fnR 2 0 (g_digits_behind)
theorem d_digits_behind {C : Cx} (Z : CF C) : IsDef C 128 := (Z.fnAt 128 12).isDef
theorem s_digits_behind {C : Cx} (Z : CF C) : SF C 3 128 (F_digits_behind) :=
  fn_e (k := 2) (pn := ["text", "at"]) (ln := []) (Z.fnAt 128 12)
    (x_cons (s_while 1000 (t_val (e_cz Z (s_is_digit Z) (d_is_digit Z) (es_cons (e_var rfl) (es_cons (e_var rfl) es_nil)))) (x_one (s_aug e_int (by decide +kernel) rfl (.inl (by decide +kernel)))))
    (x_one (s_ret (e_var rfl))))

noncomputable def g_exponent_behind : Rho → Sto → R Ou := (xSeq (xIf (tCmp .NotIn (cSl (cVar 0) (oInt (cVar 1)) (oInt (cBin .Add (cVar 1) (cVal (.int 1))))) (cTup (cCons (cVal (.str [101])) (cCons (cVal (.str [69])) cNil)))) (xRet (cVar 1)) xSkip)
    (xSeq (xSet 2 (cBin .Add (cVar 1) (cVal (.int 1))))
    (xSeq (xIf (tCmp .In (cSl (cVar 0) (oInt (cVar 2)) (oInt (cBin .Add (cVar 2) (cVal (.int 1))))) (cTup (cCons (cVal (.str [43])) (cCons (cVal (.str [45])) cNil)))) (xAug .Add 2 (cVal (.int 1))) xSkip)
    (xSeq (xIf (asB (cCall F_is_digit (cCons (cVar 0) (cCons (cVar 2) cNil)))) (xRet (cCall F_digits_behind (cCons (cVar 0) (cCons (cVar 2) cNil)))) xSkip)
    (xRet (cVar 1))))))
noncomputable def F_exponent_behind : List PV → Sto → R PV := fnR 2 1 (g_exponent_behind)
theorem d_exponent_behind {C : Cx} (Z : CF C) : IsDef C 149 := (Z.fnAt 149 15).isDef
theorem s_exponent_behind {C : Cx} (Z : CF C) : SF C 4 149 (F_exponent_behind) :=
  fn_e (k := 3) (pn := ["text", "at"]) (ln := ["first"]) (Z.fnAt 149 15)
    (x_cons (s_if (t_cmp (e_sl (e_var rfl) (p_some (e_var rfl)) (p_some (e_bin (e_var rfl) e_int))) (e_tup (es_cons (e_str rfl) (es_cons (e_str rfl) es_nil)))) (x_one (s_ret (e_var rfl))) x_nil)
    (x_cons (s_l (e_bin (e_var rfl) e_int))
    (x_cons (s_if (t_cmp (e_sl (e_var rfl) (p_some (e_var rfl)) (p_some (e_bin (e_var rfl) e_int))) (e_tup (es_cons (e_str rfl) (es_cons (e_str rfl) es_nil)))) (x_one (s_aug e_int (by decide +kernel) rfl (.inl (by decide +kernel)))) x_nil)
    (x_cons (s_if (t_val (e_cz Z (s_is_digit Z) (d_is_digit Z) (es_cons (e_var rfl) (es_cons (e_var rfl) es_nil)))) (x_one (s_ret (e_cz Z (s_digits_behind Z) (d_digits_behind Z) (es_cons (e_var rfl) (es_cons (e_var rfl) es_nil))))) x_nil)
    (x_one (s_ret (e_var rfl)))))))

noncomputable def g_signed : Rho → Sto → R Ou := (xSeq (xSet 2 (cIf (asB (cVar 0)) (cNeg (cVar 1)) (cVar 1)))
    (xSeq (xIf (tBo .Or (tCmp .Lt (cVar 2) (cCall F_least cNil)) (tCmp .Gt (cVar 2) (cCall F_greatest cNil))) (xRet (cVal .none)) xSkip)
    (xRet (cVar 2))))
noncomputable def F_signed : List PV → Sto → R PV := fnR 2 1 (g_signed)
theorem d_signed {C : Cx} (Z : CF C) : IsDef C 142 := (Z.fnAt 142 14).isDef
theorem s_signed {C : Cx} (Z : CF C) : SF C 3 142 (F_signed) :=
  fn_e (k := 2) (pn := ["is_minus", "value"]) (ln := ["n"]) (Z.fnAt 142 14)
    (x_cons (s_l (e_if (t_val (e_var rfl)) (e_neg (e_var rfl)) (e_var rfl)))
    (x_cons (s_if (t_bo (ts_cons (t_cmp (e_var rfl) (e_call0 (by decide +kernel) Z.glob (s_least Z) (by omega) (d_least Z))) (ts_one (t_cmp (e_var rfl) (e_call0 (by decide +kernel) Z.glob (s_greatest Z) (by omega) (d_greatest Z)))))) (x_one (s_ret e_none)) x_nil)
    (x_one (s_ret (e_var rfl)))))

noncomputable def g_digits_value : Rho → Sto → R Ou := (xSeq (xSet 3 (cVal (.int 0)))
    (xSeq (xFor (cRange (cCons (cVar 1) (cCons (cVar 2) cNil))) (aOne 4) (xSeq (xSet 3 (cBin .Sub (cBin .Add (cBin .Mult (cVar 3) (cVal (.int 10))) (cBlt bOrd (cCons (cIdx (cVar 0) (cVar 4)) cNil))) (cVal (.int 48))))
    (xIf (tCmp .Gt (cVar 3) (cBin .Pow (cVal (.int 2)) (cVal (.int 63)))) (xRet (cBin .Add (cBin .Pow (cVal (.int 2)) (cVal (.int 63))) (cVal (.int 1)))) xSkip)))
    (xRet (cVar 3))))
noncomputable def F_digits_value : List PV → Sto → R PV := fnR 3 2 (g_digits_value)
theorem d_digits_value {C : Cx} (Z : CF C) : IsDef C 135 := (Z.fnAt 135 13).isDef
theorem s_digits_value {C : Cx} (Z : CF C) : SF C 2 135 (F_digits_value) :=
  fn_e (k := 1) (pn := ["text", "first", "behind"]) (ln := ["value", "at"]) (Z.fnAt 135 13)
    (x_cons (s_l e_int)
    (x_cons (s_for (i_rz Z (es_cons (e_var rfl) (es_cons (e_var rfl) es_nil))) a_l (x_cons (s_l (e_bin (e_bin (e_bin (e_var rfl) e_int) (e_bz Z ord_ok (es_cons (e_idx (e_var rfl) (e_var rfl)) es_nil))) e_int))
    (x_one (s_if (t_cmp (e_var rfl) (e_bin e_int e_int)) (x_one (s_ret (e_bin (e_bin e_int e_int) e_int))) x_nil))))
    (x_one (s_ret (e_var rfl)))))

noncomputable def g_numeric : Rho → Sto → R Ou := (xSeq (xSet 1 (cCall F_blanks_behind (cCons (cVar 0) (cCons (cVal (.int 0)) cNil))))
    (xSeq (xSet 2 (toV (tCmp .Eq (cSl (cVar 0) (oInt (cVar 1)) (oInt (cBin .Add (cVar 1) (cVal (.int 1))))) (cVal (.str [45])))))
    (xSeq (xIf (tCmp .In (cSl (cVar 0) (oInt (cVar 1)) (oInt (cBin .Add (cVar 1) (cVal (.int 1))))) (cTup (cCons (cVal (.str [43])) (cCons (cVal (.str [45])) cNil)))) (xAug .Add 1 (cVal (.int 1))) xSkip)
    (xSeq (xSet 3 (cCall F_digits_behind (cCons (cVar 0) (cCons (cVar 1) cNil))))
    (xSeq (xSet 4 (toV (tBo .And (asB (toV (tCmp .Eq (cSl (cVar 0) (oInt (cVar 3)) (oInt (cBin .Add (cVar 3) (cVal (.int 1))))) (cVal (.str [46]))))) (asB (toV (tBo .Or (asB (toV (tCmp .Gt (cVar 3) (cVar 1)))) (asB (cCall F_is_digit (cCons (cVar 0) (cCons (cBin .Add (cVar 3) (cVal (.int 1))) cNil))))))))))
    (xSeq (xIf (tBo .And (tCmp .Eq (cVar 3) (cVar 1)) (tNot (asB (cVar 4)))) (xRet (cTup (cCons (cVal (.int 0)) (cCons (cVal (.int 0)) cNil)))) xSkip)
    (xSeq (xSet 5 (cVar 3))
    (xSeq (xIf (asB (cVar 4)) (xSet 5 (cCall F_digits_behind (cCons (cVar 0) (cCons (cBin .Add (cVar 3) (cVal (.int 1))) cNil)))) xSkip)
    (xSeq (xSet 5 (cCall F_exponent_behind (cCons (cVar 0) (cCons (cVar 5) cNil))))
    (xSeq (xSet 6 (cVal .none))
    (xSeq (xIf (tCmp .Eq (cVar 5) (cVar 3)) (xSet 6 (cCall F_signed (cCons (cVar 2) (cCons (cCall F_digits_value (cCons (cVar 0) (cCons (cVar 1) (cCons (cVar 3) cNil)))) cNil)))) xSkip)
    (xSeq (xIf (tCmp .Eq (cCall F_blanks_behind (cCons (cVar 0) (cCons (cVar 5) cNil))) (cBlt bLen (cCons (cVar 0) cNil))) (xRet (cTup (cCons (cVal (.int 2)) (cCons (cVar 6) cNil)))) xSkip)
    (xRet (cTup (cCons (cVal (.int 1)) (cCons (cVar 6) cNil))))))))))))))))
noncomputable def F_numeric : List PV → Sto → R PV := fnR 1 6 (g_numeric)
theorem d_numeric {C : Cx} (Z : CF C) : IsDef C 163 := (Z.fnAt 163 17).isDef
theorem s_numeric {C : Cx} (Z : CF C) : SF C 5 163 (F_numeric) :=
  fn_e (k := 4) (pn := ["text"]) (ln := ["first", "is_minus", "behind", "is_pointed", "far", "value"]) (Z.fnAt 163 17)
    (x_cons (s_l (e_cz Z (s_blanks_behind Z) (d_blanks_behind Z) (es_cons (e_var rfl) (es_cons e_int es_nil))))
    (x_cons (s_l (e_cmp (e_sl (e_var rfl) (p_some (e_var rfl)) (p_some (e_bin (e_var rfl) e_int))) (e_str rfl)))
    (x_cons (s_if (t_cmp (e_sl (e_var rfl) (p_some (e_var rfl)) (p_some (e_bin (e_var rfl) e_int))) (e_tup (es_cons (e_str rfl) (es_cons (e_str rfl) es_nil)))) (x_one (s_aug e_int (by decide +kernel) rfl (.inl (by decide +kernel)))) x_nil)
    (x_cons (s_l (e_cz Z (s_digits_behind Z) (d_digits_behind Z) (es_cons (e_var rfl) (es_cons (e_var rfl) es_nil))))
    (x_cons (s_l (e_bo (bs_cons (e_cmp (e_sl (e_var rfl) (p_some (e_var rfl)) (p_some (e_bin (e_var rfl) e_int))) (e_str rfl)) (bs_one (e_bo (bs_cons (e_cmp (e_var rfl) (e_var rfl)) (bs_one (e_cz Z (s_is_digit Z) (d_is_digit Z) (es_cons (e_var rfl) (es_cons (e_bin (e_var rfl) e_int) es_nil))))))))))
    (x_cons (s_if (t_bo (ts_cons (t_cmp (e_var rfl) (e_var rfl)) (ts_one (t_not (t_val (e_var rfl)))))) (x_one (s_ret (e_tup (es_cons e_int (es_cons e_int es_nil))))) x_nil)
    (x_cons (s_l (e_var rfl))
    (x_cons (s_if (t_val (e_var rfl)) (x_one (s_l (e_cz Z (s_digits_behind Z) (d_digits_behind Z) (es_cons (e_var rfl) (es_cons (e_bin (e_var rfl) e_int) es_nil))))) x_nil)
    (x_cons (s_l (e_cz Z (s_exponent_behind Z) (d_exponent_behind Z) (es_cons (e_var rfl) (es_cons (e_var rfl) es_nil))))
    (x_cons (s_l e_none)
    (x_cons (s_if (t_cmp (e_var rfl) (e_var rfl)) (x_one (s_l (e_cz Z (s_signed Z) (d_signed Z) (es_cons (e_var rfl) (es_cons (e_cz Z (s_digits_value Z) (d_digits_value Z) (es_cons (e_var rfl) (es_cons (e_var rfl) (es_cons (e_var rfl) es_nil)))) es_nil))))) x_nil)
    (x_cons (s_if (t_cmp (e_cz Z (s_blanks_behind Z) (d_blanks_behind Z) (es_cons (e_var rfl) (es_cons (e_var rfl) es_nil))) (e_bz Z len_ok (es_cons (e_var rfl) es_nil))) (x_one (s_ret (e_tup (es_cons e_int (es_cons (e_var rfl) es_nil))))) x_nil)
    (x_one (s_ret (e_tup (es_cons e_int (es_cons (e_var rfl) es_nil)))))))))))))))))

noncomputable def g_php_is_numeric : Rho → Sto → R Ou := (xSeq (xIf (tCmp .Eq (cCall F_kind (cCons (cIdx (cVar 1) (cVal (.int 0))) cNil)) (cVal (.str [115, 116, 114, 105, 110, 103]))) (xRet (toV (tCmp .Eq (cIdx (cCall F_numeric (cCons (cIdx (cVar 1) (cVal (.int 0))) cNil)) (cVal (.int 0))) (cVal (.int 2))))) xSkip)
    (xRet (toV (tCmp .Eq (cCall F_kind (cCons (cIdx (cVar 1) (cVal (.int 0))) cNil)) (cVal (.str [105, 110, 116]))))))
noncomputable def F_php_is_numeric : List PV → Sto → R PV := fnR 2 0 (g_php_is_numeric)
theorem d_php_is_numeric {C : Cx} (Z : CF C) : IsDef C 498 := (Z.fnAt 498 54).isDef
theorem s_php_is_numeric {C : Cx} (Z : CF C) : SF C 8 498 (F_php_is_numeric) :=
  fn_e (k := 7) (pn := ["host", "args"]) (ln := []) (Z.fnAt 498 54)
    (x_cons (s_if (t_cmp (e_cz Z (s_kind Z) (d_kind Z) (es_cons (e_idx (e_var rfl) e_int) es_nil)) (e_str rfl)) (x_one (s_ret (e_cmp (e_idx (e_cz Z (s_numeric Z) (d_numeric Z) (es_cons (e_idx (e_var rfl) e_int) es_nil)) e_int) e_int))) x_nil)
    (x_one (s_ret (e_cmp (e_cz Z (s_kind Z) (d_kind Z) (es_cons (e_idx (e_var rfl) e_int) es_nil)) (e_str rfl)))))

noncomputable def g_php_chr : Rho → Sto → R Ou := (xRet (cBlt bChr (cCons (cBin .Mod (cIdx (cVar 1) (cVal (.int 0))) (cVal (.int 256))) cNil)))
noncomputable def F_php_chr : List PV → Sto → R PV := fnR 2 0 (g_php_chr)
theorem d_php_chr {C : Cx} (Z : CF C) : IsDef C 624 := (Z.fnAt 624 72).isDef
theorem s_php_chr {C : Cx} (Z : CF C) : SF C 2 624 (F_php_chr) :=
  fn_e (k := 1) (pn := ["host", "args"]) (ln := []) (Z.fnAt 624 72)
    (x_one (s_ret (e_bz Z chr_ok (es_cons (e_bin (e_idx (e_var rfl) e_int) e_int) es_nil))))

noncomputable def g_php_ord : Rho → Sto → R Ou := (xRet (cIf (tCmp .NotEq (cIdx (cVar 1) (cVal (.int 0))) (cVal (.str []))) (cBlt bOrd (cCons (cIdx (cIdx (cVar 1) (cVal (.int 0))) (cVal (.int 0))) cNil)) (cVal (.int 0))))
noncomputable def F_php_ord : List PV → Sto → R PV := fnR 2 0 (g_php_ord)
theorem d_php_ord {C : Cx} (Z : CF C) : IsDef C 631 := (Z.fnAt 631 73).isDef
theorem s_php_ord {C : Cx} (Z : CF C) : SF C 2 631 (F_php_ord) :=
  fn_e (k := 1) (pn := ["host", "args"]) (ln := []) (Z.fnAt 631 73)
    (x_one (s_ret (e_if (t_cmp (e_idx (e_var rfl) e_int) (e_str rfl)) (e_bz Z ord_ok (es_cons (e_idx (e_idx (e_var rfl) e_int) e_int) es_nil)) e_int)))

noncomputable def g_php_bin2hex : Rho → Sto → R Ou := (xSeq (xNewList 2)
    (xSeq (xFor (cItems (cIdx (cVar 1) (cVal (.int 0)))) (aOne 3) (xAppend (cVar 2) (cBin .Add (cIdx (cVal (.str [48, 49, 50, 51, 52, 53, 54, 55, 56, 57, 97, 98, 99, 100, 101, 102])) (cBin .FloorDiv (cBlt bOrd (cCons (cVar 3) cNil)) (cVal (.int 16)))) (cIdx (cVal (.str [48, 49, 50, 51, 52, 53, 54, 55, 56, 57, 97, 98, 99, 100, 101, 102])) (cBin .Mod (cBlt bOrd (cCons (cVar 3) cNil)) (cVal (.int 16)))))))
    (xRet (cMeth bJoin (cVal (.str [])) (cCons (cVar 2) cNil)))))
noncomputable def F_php_bin2hex : List PV → Sto → R PV := fnR 2 2 (g_php_bin2hex)
theorem d_php_bin2hex {C : Cx} (Z : CF C) : IsDef C 638 := (Z.fnAt 638 74).isDef
theorem s_php_bin2hex {C : Cx} (Z : CF C) : SF C 2 638 (F_php_bin2hex) :=
  fn_e (k := 1) (pn := ["host", "args"]) (ln := ["made", "sign"]) (Z.fnAt 638 74)
    (x_cons (s_newlist (by decide +kernel) rfl (.inl (by decide +kernel)))
    (x_cons (s_for (i_val (by omega) (e_idx (e_var rfl) e_int)) a_l (x_one (s_append (e_var rfl) (e_bin (e_idx (e_str rfl) (e_bin (e_bz Z ord_ok (es_cons (e_var rfl) es_nil)) e_int)) (e_idx (e_str rfl) (e_bin (e_bz Z ord_ok (es_cons (e_var rfl) es_nil)) e_int))))))
    (x_one (s_ret (e_meth (e_str rfl) (fun _ _ _ _ _ _ _ _ h => gm_str PySem.F.slot_str_join PySem.F.type_str_join h) join_ok (by omega) (es_cons (e_var rfl) es_nil))))))

noncomputable def g_php_hex2bin : Rho → Sto → R Ou := (xSeq (xSet 2 (cIdx (cVar 1) (cVal (.int 0))))
    (xSeq (xIf (tCmp .Eq (cBin .Mod (cBlt bLen (cCons (cVar 2) cNil)) (cVal (.int 2))) (cVal (.int 1))) (xSeq (xWarn F_warn 0 (cCons (cVal (.str [87, 97, 114, 110, 105, 110, 103])) (cCons (cVal (.str [104, 101, 120, 50, 98, 105, 110, 40, 41, 58, 32, 72, 101, 120, 97, 100, 101, 99, 105, 109, 97, 108, 32, 105, 110, 112, 117, 116, 32, 115, 116, 114, 105, 110, 103, 32, 109, 117, 115, 116, 32, 104, 97, 118, 101, 32, 97, 110, 32, 101, 118, 101, 110, 32, 108, 101, 110, 103, 116, 104])) cNil)))
    (xRet (cVal (.bool false)))) xSkip)
    (xSeq (xNewList 3)
    (xSeq (xFor (cRange (cCons (cVal (.int 0)) (cCons (cBlt bLen (cCons (cVar 2) cNil)) (cCons (cVal (.int 2)) cNil)))) (aOne 4) (xSeq (xSwap 5 6 (cCall F_digit_value (cCons (cIdx (cVar 2) (cVar 4)) cNil)) (cCall F_digit_value (cCons (cIdx (cVar 2) (cBin .Add (cVar 4) (cVal (.int 1)))) cNil)))
    (xSeq (xIf (tBo .Or (tCmp .Gt (cVar 5) (cVal (.int 15))) (tCmp .Gt (cVar 6) (cVal (.int 15)))) (xSeq (xWarn F_warn 0 (cCons (cVal (.str [87, 97, 114, 110, 105, 110, 103])) (cCons (cVal (.str [104, 101, 120, 50, 98, 105, 110, 40, 41, 58, 32, 73, 110, 112, 117, 116, 32, 115, 116, 114, 105, 110, 103, 32, 109, 117, 115, 116, 32, 98, 101, 32, 104, 101, 120, 97, 100, 101, 99, 105, 109, 97, 108, 32, 115, 116, 114, 105, 110, 103])) cNil)))
    (xRet (cVal (.bool false)))) xSkip)
    (xAppend (cVar 3) (cBlt bChr (cCons (cBin .Add (cBin .Mult (cVar 5) (cVal (.int 16))) (cVar 6)) cNil))))))
    (xRet (cMeth bJoin (cVal (.str [])) (cCons (cVar 3) cNil)))))))
noncomputable def F_php_hex2bin : List PV → Sto → R PV := fnR 2 5 (g_php_hex2bin)
theorem d_php_hex2bin {C : Cx} (Z : CF C) : IsDef C 645 := (Z.fnAt 645 75).isDef
theorem s_php_hex2bin {C : Cx} (Z : CF C) : SF C 7 645 (F_php_hex2bin) :=
  fn_e (k := 6) (pn := ["host", "args"]) (ln := ["text", "made", "at", "high", "low"]) (Z.fnAt 645 75)
    (x_cons (s_l (e_idx (e_var rfl) e_int))
    (x_cons (s_if (t_cmp (e_bin (e_bz Z len_ok (es_cons (e_var rfl) es_nil)) e_int) e_int) (x_cons (s_warn Z.X (okWarn C) (m_warn Z).isDef (s_warn_ Z) (by omega) rfl (es_cons (e_str rfl) (es_cons (e_str rfl) es_nil)))
    (x_one (s_ret e_bool))) x_nil)
    (x_cons (s_newlist (by decide +kernel) rfl (.inl (by decide +kernel)))
    (x_cons (s_for (i_rz Z (es_cons e_int (es_cons (e_bz Z len_ok (es_cons (e_var rfl) es_nil)) (es_cons e_int es_nil)))) a_l (x_cons (s_swap (by omega) (e_cz Z (s_digit_value Z) (d_digit_value Z) (es_cons (e_idx (e_var rfl) (e_var rfl)) es_nil)) (e_cz Z (s_digit_value Z) (d_digit_value Z) (es_cons (e_idx (e_var rfl) (e_bin (e_var rfl) e_int)) es_nil)) (by decide +kernel) rfl rfl (by decide +kernel) (by decide +kernel) rfl (by decide +kernel) rfl (by rfl) (by rfl))
    (x_cons (s_if (t_bo (ts_cons (t_cmp (e_var rfl) e_int) (ts_one (t_cmp (e_var rfl) e_int)))) (x_cons (s_warn Z.X (okWarn C) (m_warn Z).isDef (s_warn_ Z) (by omega) rfl (es_cons (e_str rfl) (es_cons (e_str rfl) es_nil)))
    (x_one (s_ret e_bool))) x_nil)
    (x_one (s_append (e_var rfl) (e_bz Z chr_ok (es_cons (e_bin (e_bin (e_var rfl) e_int) (e_var rfl)) es_nil)))))))
    (x_one (s_ret (e_meth (e_str rfl) (fun _ _ _ _ _ _ _ _ h => gm_str PySem.F.slot_str_join PySem.F.type_str_join h) join_ok (by omega) (es_cons (e_var rfl) es_nil))))))))

noncomputable def waysL : List (Addr × (List PV → Sto → R PV)) := [(498, F_php_is_numeric), (533, F_php_hexdec), (540, F_php_bindec), (547, F_php_octdec), (519, F_php_decbin), (526, F_php_decoct), (512, F_php_dechex), (624, F_php_chr), (631, F_php_ord), (638, F_php_bin2hex), (645, F_php_hex2bin), (568, F_php_ctype_digit), (575, F_php_ctype_alpha), (582, F_php_ctype_alnum), (589, F_php_ctype_upper), (596, F_php_ctype_lower), (603, F_php_ctype_space), (610, F_php_ctype_punct), (617, F_php_ctype_xdigit)]
noncomputable def ways : Addr → Option (List PV → Sto → R PV) := fun a => (waysL.find? (·.1 == a)).map (·.2)
theorem waysL_ok {C : Cx} (Z : CF C) : ∀ x ∈ waysL, SF C 12 x.1 x.2 ∧ IsDef C x.1 :=
  List.forall_mem_cons.mpr ⟨⟨(s_php_is_numeric Z).le (by decide), d_php_is_numeric Z⟩, List.forall_mem_cons.mpr ⟨⟨(s_php_hexdec Z).le (by decide), d_php_hexdec Z⟩, List.forall_mem_cons.mpr ⟨⟨(s_php_bindec Z).le (by decide), d_php_bindec Z⟩, List.forall_mem_cons.mpr ⟨⟨(s_php_octdec Z).le (by decide), d_php_octdec Z⟩, List.forall_mem_cons.mpr ⟨⟨(s_php_decbin Z).le (by decide), d_php_decbin Z⟩, List.forall_mem_cons.mpr ⟨⟨(s_php_decoct Z).le (by decide), d_php_decoct Z⟩, List.forall_mem_cons.mpr ⟨⟨(s_php_dechex Z).le (by decide), d_php_dechex Z⟩, List.forall_mem_cons.mpr ⟨⟨(s_php_chr Z).le (by decide), d_php_chr Z⟩, List.forall_mem_cons.mpr ⟨⟨(s_php_ord Z).le (by decide), d_php_ord Z⟩, List.forall_mem_cons.mpr ⟨⟨(s_php_bin2hex Z).le (by decide), d_php_bin2hex Z⟩, List.forall_mem_cons.mpr ⟨⟨(s_php_hex2bin Z).le (by decide), d_php_hex2bin Z⟩, List.forall_mem_cons.mpr ⟨⟨(s_php_ctype_digit Z).le (by decide), d_php_ctype_digit Z⟩, List.forall_mem_cons.mpr ⟨⟨(s_php_ctype_alpha Z).le (by decide), d_php_ctype_alpha Z⟩, List.forall_mem_cons.mpr ⟨⟨(s_php_ctype_alnum Z).le (by decide), d_php_ctype_alnum Z⟩, List.forall_mem_cons.mpr ⟨⟨(s_php_ctype_upper Z).le (by decide), d_php_ctype_upper Z⟩, List.forall_mem_cons.mpr ⟨⟨(s_php_ctype_lower Z).le (by decide), d_php_ctype_lower Z⟩, List.forall_mem_cons.mpr ⟨⟨(s_php_ctype_space Z).le (by decide), d_php_ctype_space Z⟩, List.forall_mem_cons.mpr ⟨⟨(s_php_ctype_punct Z).le (by decide), d_php_ctype_punct Z⟩, List.forall_mem_cons.mpr ⟨⟨(s_php_ctype_xdigit Z).le (by decide), d_php_ctype_xdigit Z⟩, (fun _ h => nomatch h)⟩⟩⟩⟩⟩⟩⟩⟩⟩⟩⟩⟩⟩⟩⟩⟩⟩⟩⟩
theorem ways_ok {C : Cx} (Z : CF C) : ∀ a F, ways a = some F → SF C 12 a F ∧ IsDef C a := by
  intro a F h
  obtain ⟨x, hx, rfl⟩ := Option.map_eq_some_iff.mp h
  have h1 := List.mem_of_find?_eq_some hx
  have h2 := List.find?_some hx
  rw [show a = x.1 from (eq_of_beq h2).symm]
  exact waysL_ok Z x h1

noncomputable def g__law_told : Rho → Sto → R Ou := (xSeq (xNewHost 2)
    (xTryRet (cTup (cCons (cCallV ways 0 (cCons (cVar 2) (cCons (cVar 1) cNil))) (cCons (cNotes (cVar 2)) cNil))) (xRet (cTup (cCons (cVal (.str [108, 101, 102, 116])) (cCons (cNotes (cVar 2)) cNil))))))
noncomputable def F__law_told : List PV → Sto → R PV := fnR 2 1 (g__law_told)
theorem d__law_told {C : Cx} (Z : CF C) : IsDef C 868 := (Z.fnAt 868 96).isDef
theorem s__law_told {C : Cx} (Z : CF C) : SF C 13 868 (F__law_told) :=
  fn_e (k := 12) (pn := ["way", "args"]) (ln := ["host"]) (Z.fnAt 868 96)
    (x_cons (s_newhost Z.X (okHost C) (si_Host Z) (by omega) v_Host (fun _ => rfl) (fun _ => rfl) (by rfl) (by decide +kernel) Z.glob (by decide +kernel) rfl (.inl (by decide +kernel)))
    (x_one (s_tryret (leftOk Z) (by decide +kernel) Z.glob (e_tup (es_cons (e_callv rfl (ways_ok Z) (by omega) (es_cons (e_var rfl) (es_cons (e_var rfl) es_nil))) (es_cons (e_notes Z.X (okNotes C) (e_var rfl)) es_nil))) (x_one (s_ret (e_tup (es_cons (e_str rfl) (es_cons (e_notes Z.X (okNotes C) (e_var rfl)) es_nil))))))))

noncomputable def g__law_bits : Rho → Sto → R Ou := (xSeq (xSet 2 (cComp [0] 1 (cRange (cCons (cVal (.int 64)) cNil)) (aOne 1) tTrue (cpElt (cBin .Mod (cBin .FloorDiv (cVar 0) (cBin .Pow (cVal (.int 2)) (cBin .Sub (cVal (.int 63)) (cVar 1)))) (cVal (.int 2))))))
    (xSeq (xSet 2 (cPlus (cRep (cCons (cVal (.int 0)) cNil) (cBin .Mod (cNeg (cVal (.int 64))) (cVar 1))) (cVar 2)))
    (xSeq (xSet 3 (cVal (.str [])))
    (xSeq (xFor (cRange (cCons (cVal (.int 0)) (cCons (cBlt bLen (cCons (cVar 2) cNil)) (cCons (cVar 1) cNil)))) (aOne 4) (xSeq (xSet 5 (cIdx (cVal (.str [48, 49, 50, 51, 52, 53, 54, 55, 56, 57, 97, 98, 99, 100, 101, 102])) (cBlt bSum (cCons (cComp [1, 2, 4] 1 (cRange (cCons (cVar 1) cNil)) (aOne 3) tTrue (cpElt (cBin .Mult (cIdx (cVar 1) (cBin .Add (cVar 2) (cVar 3))) (cBin .Pow (cVal (.int 2)) (cBin .Sub (cBin .Sub (cVar 0) (cVal (.int 1))) (cVar 3)))))) cNil))))
    (xSet 3 (cIf (tCmp .Eq (cVar 3) (cVal (.str [48]))) (cVar 5) (cBin .Add (cVar 3) (cVar 5))))))
    (xRet (cVar 3))))))
noncomputable def F__law_bits : List PV → Sto → R PV := fnR 2 4 (g__law_bits)
theorem d__law_bits {C : Cx} (Z : CF C) : IsDef C 849 := (Z.fnAt 849 93).isDef
theorem s__law_bits {C : Cx} (Z : CF C) : SF C 2 849 (F__law_bits) :=
  fn_e (k := 1) (pn := ["number", "size"]) (ln := ["bits", "shown", "at", "digit_now"]) (Z.fnAt 849 93)
    (x_cons (s_setcell (e_comp (cn := ["number"]) (tn := ["k"]) (caps := [0]) compOk_of (i_rz Z (es_cons e_int es_nil)) al_o ti_nil (e_bin (e_bin (e_var rfl) (e_bin e_int (e_bin e_int (e_var rfl)))) e_int)) (by decide +kernel) rfl (by decide +kernel))
    (x_cons (s_c (e_plus (e_rep (es_cons e_int es_nil) (e_bin (e_neg e_int) (e_var rfl))) (e_var rfl)))
    (x_cons (s_l (e_str rfl))
    (x_cons (s_for (i_rz Z (es_cons e_int (es_cons (e_bz Z len_ok (es_cons (e_var rfl) es_nil)) (es_cons (e_var rfl) es_nil)))) (a_one (by decide +kernel) rfl (.inr (by decide +kernel))) (x_cons (s_l (e_idx (e_str rfl) (e_bz Z sum_ok (es_cons (e_comp (cn := ["size", "bits", "at"]) (tn := ["k"]) (caps := [1, 2, 4]) compOk_of (i_rz Z (es_cons (e_var rfl) es_nil)) al_o ti_nil (e_bin (e_idx (e_var rfl) (e_bin (e_var rfl) (e_var rfl))) (e_bin e_int (e_bin (e_bin (e_var rfl) e_int) (e_var rfl))))) es_nil))))
    (x_one (s_l (e_if (t_cmp (e_var rfl) (e_str rfl)) (e_var rfl) (e_bin (e_var rfl) (e_var rfl)))))))
    (x_one (s_ret (e_var rfl)))))))

noncomputable def g__law_is_shown : Rho → Sto → R Ou := (xSeq (xFor (cItems (cTup (cCons (cTup (cCons (cVal (.raw (.ref 519))) (cCons (cVal (.raw (.ref 540))) (cCons (cVal (.int 1)) cNil)))) (cCons (cTup (cCons (cVal (.raw (.ref 526))) (cCons (cVal (.raw (.ref 547))) (cCons (cVal (.int 3)) cNil)))) (cCons (cTup (cCons (cVal (.raw (.ref 512))) (cCons (cVal (.raw (.ref 533))) (cCons (cVal (.int 4)) cNil)))) cNil))))) (aTup (aCons 1 (aCons 2 (aCons 3 aNil)))) (xSeq (xAsg (aTup (aCons 4 (aCons 5 aNil))) (cCall F__law_told (cCons (cVar 1) (cCons (cLst (cCons (cVar 0) cNil)) cNil))))
    (xSeq (xIf (tBo .Or (tCmp .NotEq (cVar 4) (cCall F__law_bits (cCons (cBin .Mod (cVar 0) (cBin .Pow (cVal (.int 2)) (cVal (.int 64)))) (cCons (cVar 3) cNil)))) (tCmp .NotEq (cVar 5) (cLst cNil))) (xRet (cVal (.bool false))) xSkip)
    (xIf (tCmp .NotEq (cCall F__law_told (cCons (cVar 2) (cCons (cLst (cCons (cVar 4) cNil)) cNil))) (cTup (cCons (cIf (tCmp .GtE (cVar 0) (cVal (.int 0))) (cVar 0) (cVal (.str [108, 101, 102, 116]))) (cCons (cLst cNil) cNil)))) (xRet (cVal (.bool false))) xSkip))))
    (xRet (toV (tBo .And (asB (toV (tCmp .Eq (cCall F__law_told (cCons (cVal (.raw (.ref 624))) (cCons (cLst (cCons (cVar 0) cNil)) cNil))) (cTup (cCons (cBlt bChr (cCons (cBin .Mod (cVar 0) (cVal (.int 256))) cNil)) (cCons (cLst cNil) cNil)))))) (asB (toV (tCmp .Eq (cCall F__law_told (cCons (cVal (.raw (.ref 631))) (cCons (cLst (cCons (cBlt bChr (cCons (cBin .Mod (cVar 0) (cVal (.int 256))) cNil)) cNil)) cNil))) (cTup (cCons (cBin .Mod (cVar 0) (cVal (.int 256))) (cCons (cLst cNil) cNil))))))))))
noncomputable def F__law_is_shown : List PV → Sto → R PV := fnR 1 5 (g__law_is_shown)
theorem d__law_is_shown {C : Cx} (Z : CF C) : IsDef C 882 := (Z.fnAt 882 98).isDef
theorem s__law_is_shown {C : Cx} (Z : CF C) : SF C 14 882 (F__law_is_shown) :=
  fn_e (k := 13) (pn := ["number"]) (ln := ["way", "back", "size", "shown", "notes"]) (Z.fnAt 882 98)
    (x_cons (s_for (i_val (by omega) (e_tup (es_cons (e_tup (es_cons (e_gz Z) (es_cons (e_gz Z) (es_cons e_int es_nil)))) (es_cons (e_tup (es_cons (e_gz Z) (es_cons (e_gz Z) (es_cons e_int es_nil)))) (es_cons (e_tup (es_cons (e_gz Z) (es_cons (e_gz Z) (es_cons e_int es_nil)))) es_nil))))) (a_tup (by omega) (a_cl (a_cl (a_cl a_nil)))) (x_cons (s_asg (a_tup (by omega) (a_cl (a_cl a_nil))) (e_cz Z (s__law_told Z) (d__law_told Z) (es_cons (e_var rfl) (es_cons (e_lst (es_cons (e_var rfl) es_nil)) es_nil))))
    (x_cons (s_if (t_bo (ts_cons (t_cmp (e_var rfl) (e_cz Z (s__law_bits Z) (d__law_bits Z) (es_cons (e_bin (e_var rfl) (e_bin e_int e_int)) (es_cons (e_var rfl) es_nil)))) (ts_one (t_cmp (e_var rfl) (e_lst es_nil))))) (x_one (s_ret e_bool)) x_nil)
    (x_one (s_if (t_cmp (e_cz Z (s__law_told Z) (d__law_told Z) (es_cons (e_var rfl) (es_cons (e_lst (es_cons (e_var rfl) es_nil)) es_nil))) (e_tup (es_cons (e_if (t_cmp (e_var rfl) e_int) (e_var rfl) (e_str rfl)) (es_cons (e_lst es_nil) es_nil)))) (x_one (s_ret e_bool)) x_nil)))))
    (x_one (s_ret (e_bo (bs_cons (e_cmp (e_cz Z (s__law_told Z) (d__law_told Z) (es_cons (e_gz Z) (es_cons (e_lst (es_cons (e_var rfl) es_nil)) es_nil))) (e_tup (es_cons (e_bz Z chr_ok (es_cons (e_bin (e_var rfl) e_int) es_nil)) (es_cons (e_lst es_nil) es_nil)))) (bs_one (e_cmp (e_cz Z (s__law_told Z) (d__law_told Z) (es_cons (e_gz Z) (es_cons (e_lst (es_cons (e_bz Z chr_ok (es_cons (e_bin (e_var rfl) e_int) es_nil)) es_nil)) es_nil))) (e_tup (es_cons (e_bin (e_var rfl) e_int) (es_cons (e_lst es_nil) es_nil))))))))))

noncomputable def g__law_is_of (D : DP) : Rho → Sto → R Ou := (xSeq (xSet 2 (cBlt bOrd (cCons (cVar 0) cNil)))
    (xSeq (xNewDict D 3 [[100, 105, 103, 105, 116], [117, 112, 112, 101, 114], [108, 111, 119, 101, 114], [115, 112, 97, 99, 101]] (cCons (toV (tChain .LtE .Lt (cVal (.int 48)) (cVar 2) (cVal (.int 58)))) (cCons (toV (tChain .LtE .Lt (cVal (.int 65)) (cVar 2) (cVal (.int 91)))) (cCons (toV (tChain .LtE .Lt (cVal (.int 97)) (cVar 2) (cVal (.int 123)))) (cCons (toV (tBo .Or (asB (toV (tCmp .Eq (cVar 2) (cVal (.int 32))))) (asB (toV (tChain .LtE .Lt (cVal (.int 9)) (cVar 2) (cVal (.int 14))))))) cNil)))))
    (xSeq (xSetItem D 3 [97, 108, 112, 104, 97] (toV (tBo .Or (asB (cGetD D (cVar 3) (cVal (.str [117, 112, 112, 101, 114])))) (asB (cGetD D (cVar 3) (cVal (.str [108, 111, 119, 101, 114])))))))
    (xSeq (xSetItem D 3 [97, 108, 110, 117, 109] (toV (tBo .Or (asB (cGetD D (cVar 3) (cVal (.str [97, 108, 112, 104, 97])))) (asB (cGetD D (cVar 3) (cVal (.str [100, 105, 103, 105, 116])))))))
    (xSeq (xSetItem D 3 [112, 117, 110, 99, 116] (toV (tBo .And (asB (toV (tChain .LtE .Lt (cVal (.int 33)) (cVar 2) (cVal (.int 127))))) (asB (toV (tNot (asB (cGetD D (cVar 3) (cVal (.str [97, 108, 110, 117, 109]))))))))))
    (xSeq (xSetItem D 3 [120, 100, 105, 103, 105, 116] (toV (tBo .Or (asB (cGetD D (cVar 3) (cVal (.str [100, 105, 103, 105, 116])))) (tBo .Or (asB (toV (tChain .LtE .Lt (cVal (.int 65)) (cVar 2) (cVal (.int 71))))) (asB (toV (tChain .LtE .Lt (cVal (.int 97)) (cVar 2) (cVal (.int 103)))))))))
    (xRet (cGetD D (cVar 3) (cVar 1)))))))))
noncomputable def F__law_is_of (D : DP) : List PV → Sto → R PV := fnR 2 2 (g__law_is_of D)
theorem d__law_is_of {C : Cx} (Z : CF C) : IsDef C 856 := (Z.fnAt 856 94).isDef
theorem s__law_is_of {C : Cx} (Z : CF C) : SF C 2 856 (F__law_is_of (dD C)) :=
  fn_e (k := 1) (pn := ["sign", "name"]) (ln := ["n", "sets"]) (Z.fnAt 856 94)
    (x_cons (s_l (e_bz Z ord_ok (es_cons (e_var rfl) es_nil)))
    (x_cons (s_newdict (sp_cons rfl (e_chain e_int (e_var rfl) e_int) (sp_cons rfl (e_chain e_int (e_var rfl) e_int) (sp_cons rfl (e_chain e_int (e_var rfl) e_int) (sp_cons rfl (e_bo (bs_cons (e_cmp (e_var rfl) e_int) (bs_one (e_chain e_int (e_var rfl) e_int)))) sp_nil)))) (by decide +kernel) rfl rfl (by intro h; cases h) (by decide) (by decide +kernel) rfl (.inl (by decide +kernel)))
    (x_cons (s_setitem (e_bo (bs_cons (e_getd (e_var rfl) (e_str rfl)) (bs_one (e_getd (e_var rfl) (e_str rfl))))) rfl rfl)
    (x_cons (s_setitem (e_bo (bs_cons (e_getd (e_var rfl) (e_str rfl)) (bs_one (e_getd (e_var rfl) (e_str rfl))))) rfl rfl)
    (x_cons (s_setitem (e_bo (bs_cons (e_chain e_int (e_var rfl) e_int) (bs_one (e_not (e_getd (e_var rfl) (e_str rfl)))))) rfl rfl)
    (x_cons (s_setitem (e_bo (bs_cons (e_getd (e_var rfl) (e_str rfl)) (bs_cons (e_chain e_int (e_var rfl) e_int) (bs_one (e_chain e_int (e_var rfl) e_int))))) rfl rfl)
    (x_one (s_ret (e_getd (e_var rfl) (e_var rfl))))))))))

noncomputable def g__law_ctype (D : DP) : Rho → Sto → R Ou := (xSeq (xIf (tCmp .Eq (cVar 2) (cVal (.str [115, 116, 114, 105, 110, 103]))) (xRet (cTup (cCons (toV (tBo .And (asB (toV (tCmp .NotEq (cVar 1) (cVal (.str []))))) (asB (cBlt bAll (cCons (cComp [0] 1 (cItems (cVar 1)) (aOne 1) tTrue (cpElt (cCall (F__law_is_of D) (cCons (cVar 1) (cCons (cVar 0) cNil))))) cNil))))) (cCons (cLst cNil) cNil)))) xSkip)
    (xSeq (xSet 3 (cBin .Add (cBin .Add (cBin .Add (cBin .Add (cVal (.str [99, 116, 121, 112, 101, 95])) (cVar 0)) (cVal (.str [40, 41, 58, 32, 65, 114, 103, 117, 109, 101, 110, 116, 32, 111, 102, 32, 116, 121, 112, 101, 32]))) (cVar 2)) (cVal (.str [32, 119, 105, 108, 108, 32, 98, 101, 32, 105, 110, 116, 101, 114, 112, 114, 101, 116, 101, 100, 32, 97, 115, 32, 115, 116, 114, 105, 110, 103, 32, 105, 110, 32, 116, 104, 101, 32, 102, 117, 116, 117, 114, 101]))))
    (xSeq (xIf (tCmp .NotEq (cVar 2) (cVal (.str [105, 110, 116]))) (xRet (cTup (cCons (cVal (.bool false)) (cCons (cLst (cCons (cTup (cCons (cVal (.str [68, 101, 112, 114, 101, 99, 97, 116, 101, 100])) (cCons (cVar 3) cNil))) cNil)) cNil)))) xSkip)
    (xSeq (xSet 4 (cIf (tChain .LtE .Lt (cNeg (cVal (.int 128))) (cVar 1) (cVal (.int 256))) (cBlt bChr (cCons (cBin .Mod (cVar 1) (cVal (.int 256))) cNil)) (cIf (tCmp .Gt (cVar 1) (cVal (.int 0))) (cVal (.str [53])) (cVal (.str [45, 53])))))
    (xRet (cTup (cCons (cBlt bAll (cCons (cComp [0] 1 (cItems (cVar 4)) (aOne 1) tTrue (cpElt (cCall (F__law_is_of D) (cCons (cVar 1) (cCons (cVar 0) cNil))))) cNil)) (cCons (cLst (cCons (cTup (cCons (cVal (.str [68, 101, 112, 114, 101, 99, 97, 116, 101, 100])) (cCons (cVar 3) cNil))) cNil)) cNil))))))))
noncomputable def F__law_ctype (D : DP) : List PV → Sto → R PV := fnR 3 2 (g__law_ctype D)
theorem d__law_ctype {C : Cx} (Z : CF C) : IsDef C 861 := (Z.fnAt 861 95).isDef
theorem s__law_ctype {C : Cx} (Z : CF C) : SF C 3 861 (F__law_ctype (dD C)) :=
  fn_e (k := 2) (pn := ["name", "value", "word"]) (ln := ["note", "shown"]) (Z.fnAt 861 95)
    (x_cons (s_if (t_cmp (e_var rfl) (e_str rfl)) (x_one (s_ret (e_tup (es_cons (e_bo (bs_cons (e_cmp (e_var rfl) (e_str rfl)) (bs_one (e_bz Z all_ok (es_cons (e_comp (cn := ["name"]) (tn := ["sign"]) (caps := [0]) compOk_of (i_val (by omega) (e_var rfl)) al_o ti_nil (e_cz Z (s__law_is_of Z) (d__law_is_of Z) (es_cons (e_var rfl) (es_cons (e_var rfl) es_nil)))) es_nil))))) (es_cons (e_lst es_nil) es_nil))))) x_nil)
    (x_cons (s_l (e_bin (e_bin (e_bin (e_bin (e_str rfl) (e_var rfl)) (e_str rfl)) (e_var rfl)) (e_str rfl)))
    (x_cons (s_if (t_cmp (e_var rfl) (e_str rfl)) (x_one (s_ret (e_tup (es_cons e_bool (es_cons (e_lst (es_cons (e_tup (es_cons (e_str rfl) (es_cons (e_var rfl) es_nil))) es_nil)) es_nil))))) x_nil)
    (x_cons (s_l (e_if (t_chain (e_neg e_int) (e_var rfl) e_int) (e_bz Z chr_ok (es_cons (e_bin (e_var rfl) e_int) es_nil)) (e_if (t_cmp (e_var rfl) e_int) (e_str rfl) (e_str rfl))))
    (x_one (s_ret (e_tup (es_cons (e_bz Z all_ok (es_cons (e_comp (cn := ["name"]) (tn := ["sign"]) (caps := [0]) compOk_of (i_val (by omega) (e_var rfl)) al_o ti_nil (e_cz Z (s__law_is_of Z) (d__law_is_of Z) (es_cons (e_var rfl) (es_cons (e_var rfl) es_nil)))) es_nil)) (es_cons (e_lst (es_cons (e_tup (es_cons (e_str rfl) (es_cons (e_var rfl) es_nil))) es_nil)) es_nil)))))))))

noncomputable def g_base_at : Rho → Sto → R Ou := (xSeq (xIf (tBo .And (tCmp .In (cVar 2) (cTup (cCons (cVal (.int 0)) (cCons (cVal (.int 16)) cNil)))) (tBo .And (asB (cCall F_has_mark (cCons (cVar 0) (cCons (cVar 1) (cCons (cTup (cCons (cVal (.str [120])) (cCons (cVal (.str [88])) cNil))) cNil))))) (tCmp .Lt (cCall F_digit_value (cCons (cSl (cVar 0) (oInt (cBin .Add (cVar 1) (cVal (.int 2)))) (oInt (cBin .Add (cVar 1) (cVal (.int 3))))) cNil)) (cVal (.int 16))))) (xRet (cTup (cCons (cVal (.int 16)) (cCons (cBin .Add (cVar 1) (cVal (.int 2))) cNil)))) xSkip)
    (xSeq (xIf (tCmp .Eq (cVar 2) (cVal (.int 0))) (xRet (cTup (cCons (cIf (tCmp .Eq (cSl (cVar 0) (oInt (cVar 1)) (oInt (cBin .Add (cVar 1) (cVal (.int 1))))) (cVal (.str [48]))) (cVal (.int 8)) (cVal (.int 10))) (cCons (cVar 1) cNil)))) xSkip)
    (xRet (cTup (cCons (cVar 2) (cCons (cVar 1) cNil))))))
noncomputable def F_base_at : List PV → Sto → R PV := fnR 3 0 (g_base_at)
theorem d_base_at {C : Cx} (Z : CF C) : IsDef C 456 := (Z.fnAt 456 48).isDef
theorem s_base_at {C : Cx} (Z : CF C) : SF C 3 456 (F_base_at) :=
  fn_e (k := 2) (pn := ["text", "at", "base"]) (ln := []) (Z.fnAt 456 48)
    (x_cons (s_if (t_bo (ts_cons (t_cmp (e_var rfl) (e_tup (es_cons e_int (es_cons e_int es_nil)))) (ts_cons (t_val (e_cz Z (s_has_mark Z) (d_has_mark Z) (es_cons (e_var rfl) (es_cons (e_var rfl) (es_cons (e_tup (es_cons (e_str rfl) (es_cons (e_str rfl) es_nil))) es_nil))))) (ts_one (t_cmp (e_cz Z (s_digit_value Z) (d_digit_value Z) (es_cons (e_sl (e_var rfl) (p_some (e_bin (e_var rfl) e_int)) (p_some (e_bin (e_var rfl) e_int))) es_nil)) e_int))))) (x_one (s_ret (e_tup (es_cons e_int (es_cons (e_bin (e_var rfl) e_int) es_nil))))) x_nil)
    (x_cons (s_if (t_cmp (e_var rfl) e_int) (x_one (s_ret (e_tup (es_cons (e_if (t_cmp (e_sl (e_var rfl) (p_some (e_var rfl)) (p_some (e_bin (e_var rfl) e_int))) (e_str rfl)) e_int e_int) (es_cons (e_var rfl) es_nil))))) x_nil)
    (x_one (s_ret (e_tup (es_cons (e_var rfl) (es_cons (e_var rfl) es_nil)))))))

noncomputable def g_strtol : Rho → Sto → R Ou := (xSeq (xIf (tBo .Or (tCmp .Lt (cVar 1) (cVal (.int 0))) (tBo .Or (tCmp .Eq (cVar 1) (cVal (.int 1))) (tCmp .Gt (cVar 1) (cVal (.int 36))))) (xRet (cVal (.int 0))) xSkip)
    (xSeq (xSet 2 (cCall F_blanks_behind (cCons (cVar 0) (cCons (cVal (.int 0)) cNil))))
    (xSeq (xSet 3 (toV (tCmp .Eq (cSl (cVar 0) (oInt (cVar 2)) (oInt (cBin .Add (cVar 2) (cVal (.int 1))))) (cVal (.str [45])))))
    (xSeq (xIf (tCmp .In (cSl (cVar 0) (oInt (cVar 2)) (oInt (cBin .Add (cVar 2) (cVal (.int 1))))) (cTup (cCons (cVal (.str [43])) (cCons (cVal (.str [45])) cNil)))) (xAug .Add 2 (cVal (.int 1))) xSkip)
    (xSeq (xAsg (aTup (aCons 1 (aCons 2 aNil))) (cCall F_base_at (cCons (cVar 0) (cCons (cVar 2) (cCons (cVar 1) cNil)))))
    (xSeq (xSet 4 (cVal (.int 0)))
    (xSeq (xLoop (tCmp .Lt (cCall F_digit_value (cCons (cSl (cVar 0) (oInt (cVar 2)) (oInt (cBin .Add (cVar 2) (cVal (.int 1))))) cNil)) (cVar 1)) (xSeq (xSet 4 (cBlt bMin (cCons (cBin .Add (cBin .Mult (cVar 4) (cVar 1)) (cCall F_digit_value (cCons (cIdx (cVar 0) (cVar 2)) cNil))) (cCons (cBin .Pow (cVal (.int 2)) (cVal (.int 63))) cNil))))
    (xAug .Add 2 (cVal (.int 1)))) 1000)
    (xRet (cIf (asB (cVar 3)) (cBlt bMax (cCons (cNeg (cVar 4)) (cCons (cCall F_least cNil) cNil))) (cBlt bMin (cCons (cVar 4) (cCons (cCall F_greatest cNil) cNil))))))))))))
noncomputable def F_strtol : List PV → Sto → R PV := fnR 2 3 (g_strtol)
theorem d_strtol {C : Cx} (Z : CF C) : IsDef C 463 := (Z.fnAt 463 49).isDef
theorem s_strtol {C : Cx} (Z : CF C) : SF C 4 463 (F_strtol) :=
  fn_e (k := 3) (pn := ["text", "base"]) (ln := ["at", "is_minus", "value"]) (Z.fnAt 463 49)
    (x_cons (s_if (t_bo (ts_cons (t_cmp (e_var rfl) e_int) (ts_cons (t_cmp (e_var rfl) e_int) (ts_one (t_cmp (e_var rfl) e_int))))) (x_one (s_ret e_int)) x_nil)
    (x_cons (s_l (e_cz Z (s_blanks_behind Z) (d_blanks_behind Z) (es_cons (e_var rfl) (es_cons e_int es_nil))))
    (x_cons (s_l (e_cmp (e_sl (e_var rfl) (p_some (e_var rfl)) (p_some (e_bin (e_var rfl) e_int))) (e_str rfl)))
    (x_cons (s_if (t_cmp (e_sl (e_var rfl) (p_some (e_var rfl)) (p_some (e_bin (e_var rfl) e_int))) (e_tup (es_cons (e_str rfl) (es_cons (e_str rfl) es_nil)))) (x_one (s_aug e_int (by decide +kernel) rfl (.inl (by decide +kernel)))) x_nil)
    (x_cons (s_asg (a_tup (by omega) (a_cl (a_cl a_nil))) (e_cz Z (s_base_at Z) (d_base_at Z) (es_cons (e_var rfl) (es_cons (e_var rfl) (es_cons (e_var rfl) es_nil)))))
    (x_cons (s_l e_int)
    (x_cons (s_while 1000 (t_cmp (e_cz Z (s_digit_value Z) (d_digit_value Z) (es_cons (e_sl (e_var rfl) (p_some (e_var rfl)) (p_some (e_bin (e_var rfl) e_int))) es_nil)) (e_var rfl)) (x_cons (s_l (e_bz Z min_ok (es_cons (e_bin (e_bin (e_var rfl) (e_var rfl)) (e_cz Z (s_digit_value Z) (d_digit_value Z) (es_cons (e_idx (e_var rfl) (e_var rfl)) es_nil))) (es_cons (e_bin e_int e_int) es_nil))))
    (x_one (s_aug e_int (by decide +kernel) rfl (.inl (by decide +kernel))))))
    (x_one (s_ret (e_if (t_val (e_var rfl)) (e_bz Z max_ok (es_cons (e_neg (e_var rfl)) (es_cons (e_call0 (by decide +kernel) Z.glob (s_least Z) (by omega) (d_least Z)) es_nil))) (e_bz Z min_ok (es_cons (e_var rfl) (es_cons (e_call0 (by decide +kernel) Z.glob (s_greatest Z) (by omega) (d_greatest Z)) es_nil)))))))))))))

noncomputable def g_without_mark : Rho → Sto → R Ou := (xSeq (xSet 2 (cCall F_blanks_behind (cCons (cVar 0) (cCons (cVal (.int 0)) cNil))))
    (xSeq (xSet 3 (cIf (tCmp .In (cSl (cVar 0) (oInt (cVar 2)) (oInt (cBin .Add (cVar 2) (cVal (.int 1))))) (cTup (cCons (cVal (.str [43])) (cCons (cVal (.str [45])) cNil)))) (cBin .Add (cVar 2) (cVal (.int 1))) (cVar 2)))
    (xSeq (xIf (tBo .And (tCmp .Gt (cBin .Sub (cBlt bLen (cCons (cVar 0) cNil)) (cVar 2)) (cVal (.int 2))) (asB (cCall F_has_mark (cCons (cVar 0) (cCons (cVar 3) (cCons (cVar 1) cNil)))))) (xRet (cBin .Add (cSl (cVar 0) (oInt (cVar 2)) (oInt (cVar 3))) (cSl (cVar 0) (oInt (cBin .Add (cVar 3) (cVal (.int 2)))) oNone))) xSkip)
    (xRet (cVar 0)))))
noncomputable def F_without_mark : List PV → Sto → R PV := fnR 2 2 (g_without_mark)
theorem d_without_mark {C : Cx} (Z : CF C) : IsDef C 470 := (Z.fnAt 470 50).isDef
theorem s_without_mark {C : Cx} (Z : CF C) : SF C 3 470 (F_without_mark) :=
  fn_e (k := 2) (pn := ["text", "letters"]) (ln := ["first", "at"]) (Z.fnAt 470 50)
    (x_cons (s_l (e_cz Z (s_blanks_behind Z) (d_blanks_behind Z) (es_cons (e_var rfl) (es_cons e_int es_nil))))
    (x_cons (s_l (e_if (t_cmp (e_sl (e_var rfl) (p_some (e_var rfl)) (p_some (e_bin (e_var rfl) e_int))) (e_tup (es_cons (e_str rfl) (es_cons (e_str rfl) es_nil)))) (e_bin (e_var rfl) e_int) (e_var rfl)))
    (x_cons (s_if (t_bo (ts_cons (t_cmp (e_bin (e_bz Z len_ok (es_cons (e_var rfl) es_nil)) (e_var rfl)) e_int) (ts_one (t_val (e_cz Z (s_has_mark Z) (d_has_mark Z) (es_cons (e_var rfl) (es_cons (e_var rfl) (es_cons (e_var rfl) es_nil)))))))) (x_one (s_ret (e_bin (e_sl (e_var rfl) (p_some (e_var rfl)) (p_some (e_var rfl))) (e_sl (e_var rfl) (p_some (e_bin (e_var rfl) e_int)) p_none)))) x_nil)
    (x_one (s_ret (e_var rfl))))))

noncomputable def g_int_in_base : Rho → Sto → R Ou := (xSeq (xFor (cItems (cTup (cCons (cTup (cCons (cTup (cCons (cVal (.str [98])) (cCons (cVal (.str [66])) cNil))) (cCons (cVal (.int 2)) cNil))) (cCons (cTup (cCons (cTup (cCons (cVal (.str [111])) (cCons (cVal (.str [79])) cNil))) (cCons (cVal (.int 8)) cNil))) cNil)))) (aTup (aCons 2 (aCons 3 aNil))) (xIf (tCmp .In (cVar 1) (cTup (cCons (cVal (.int 0)) (cCons (cVar 3) cNil)))) (xSeq (xSet 4 (cCall F_without_mark (cCons (cVar 0) (cCons (cVar 2) cNil))))
    (xIf (tCmp .NotEq (cVar 4) (cVar 0)) (xRet (cCall F_strtol (cCons (cVar 4) (cCons (cVar 3) cNil)))) xSkip)) xSkip))
    (xRet (cCall F_strtol (cCons (cVar 0) (cCons (cVar 1) cNil)))))
noncomputable def F_int_in_base : List PV → Sto → R PV := fnR 2 3 (g_int_in_base)
theorem d_int_in_base {C : Cx} (Z : CF C) : IsDef C 477 := (Z.fnAt 477 51).isDef
theorem s_int_in_base {C : Cx} (Z : CF C) : SF C 5 477 (F_int_in_base) :=
  fn_e (k := 4) (pn := ["text", "base"]) (ln := ["letters", "theirs", "rest"]) (Z.fnAt 477 51)
    (x_cons (s_for (i_val (by omega) (e_tup (es_cons (e_tup (es_cons (e_tup (es_cons (e_str rfl) (es_cons (e_str rfl) es_nil))) (es_cons e_int es_nil))) (es_cons (e_tup (es_cons (e_tup (es_cons (e_str rfl) (es_cons (e_str rfl) es_nil))) (es_cons e_int es_nil))) es_nil)))) (a_tup (by omega) (a_cl (a_cl a_nil))) (x_one (s_if (t_cmp (e_var rfl) (e_tup (es_cons e_int (es_cons (e_var rfl) es_nil)))) (x_cons (s_l (e_cz Z (s_without_mark Z) (d_without_mark Z) (es_cons (e_var rfl) (es_cons (e_var rfl) es_nil))))
    (x_one (s_if (t_cmp (e_var rfl) (e_var rfl)) (x_one (s_ret (e_cz Z (s_strtol Z) (d_strtol Z) (es_cons (e_var rfl) (es_cons (e_var rfl) es_nil))))) x_nil))) x_nil)))
    (x_one (s_ret (e_cz Z (s_strtol Z) (d_strtol Z) (es_cons (e_var rfl) (es_cons (e_var rfl) es_nil))))))

noncomputable def g_number_of : Rho → Sto → R Ou := (xSeq (xSet 1 (cIdx (cCall F_numeric (cCons (cVar 0) cNil)) (cVal (.int 1))))
    (xSeq (xIf (tCmp .Is (cVar 1) (cVal .none)) xRaise xSkip)
    (xRet (cVar 1))))
noncomputable def F_number_of : List PV → Sto → R PV := fnR 1 1 (g_number_of)
theorem d_number_of {C : Cx} (Z : CF C) : IsDef C 170 := (Z.fnAt 170 18).isDef
theorem s_number_of {C : Cx} (Z : CF C) : SF C 7 170 (F_number_of) :=
  fn_e (k := 6) (pn := ["text"]) (ln := ["n"]) (Z.fnAt 170 18)
    (x_cons (s_l (e_idx (e_cz Z (s_numeric Z) (d_numeric Z) (es_cons (e_var rfl) es_nil)) e_int))
    (x_cons (s_if (t_cmp (e_var rfl) e_none) (x_one (s_raise (leftOk Z) (ef_left Z) (by omega) rfl (by decide +kernel) Z.glob)) x_nil)
    (x_one (s_ret (e_var rfl)))))

noncomputable def g_to_int : Rho → Sto → R Ou := (xSeq (xSet 2 (cCall F_kind (cCons (cVar 1) cNil)))
    (xSeq (xIf (tCmp .Eq (cVar 2) (cVal (.str [105, 110, 116]))) (xRet (cVar 1)) xSkip)
    (xSeq (xIf (tCmp .Eq (cVar 2) (cVal (.str [110, 117, 108, 108]))) (xRet (cVal (.int 0))) xSkip)
    (xSeq (xIf (tCmp .Eq (cVar 2) (cVal (.str [98, 111, 111, 108]))) (xRet (cIf (asB (cVar 1)) (cVal (.int 1)) (cVal (.int 0)))) xSkip)
    (xSeq (xIf (tCmp .Eq (cVar 2) (cVal (.str [115, 116, 114, 105, 110, 103]))) (xRet (cCall F_number_of (cCons (cVar 1) cNil))) xSkip)
    (xSeq (xIf (tCmp .Eq (cVar 2) (cVal (.str [97, 114, 114, 97, 121]))) (xRet (cIf (tCmp .Gt cBad (cVal (.int 0))) (cVal (.int 1)) (cVal (.int 0)))) xSkip)
    (xRet cBad)))))))
noncomputable def F_to_int : List PV → Sto → R PV := fnR 2 1 (g_to_int)
theorem d_to_int {C : Cx} (Z : CF C) : IsDef C 428 := (Z.fnAt 428 43).isDef
theorem s_to_int {C : Cx} (Z : CF C) : SF C 8 428 (F_to_int) :=
  fn_e (k := 7) (pn := ["host", "value"]) (ln := ["sort"]) (Z.fnAt 428 43)
    (x_cons (s_l (e_cz Z (s_kind Z) (d_kind Z) (es_cons (e_var rfl) es_nil)))
    (x_cons (s_if (t_cmp (e_var rfl) (e_str rfl)) (x_one (s_ret (e_var rfl))) x_nil)
    (x_cons (s_if (t_cmp (e_var rfl) (e_str rfl)) (x_one (s_ret e_int)) x_nil)
    (x_cons (s_if (t_cmp (e_var rfl) (e_str rfl)) (x_one (s_ret (e_if (t_val (e_var rfl)) e_int e_int))) x_nil)
    (x_cons (s_if (t_cmp (e_var rfl) (e_str rfl)) (x_one (s_ret (e_cz Z (s_number_of Z) (d_number_of Z) (es_cons (e_var rfl) es_nil)))) x_nil)
    (x_cons (s_if (t_cmp (e_var rfl) (e_str rfl)) (x_one (s_ret (e_if (t_cmp e_bad e_int) e_int e_int))) x_nil)
    (x_one (s_ret e_bad))))))))

noncomputable def g_php_intval : Rho → Sto → R Ou := (xSeq (xIf (tBo .Or (tCmp .NotEq (cCall F_kind (cCons (cIdx (cVar 1) (cVal (.int 0))) cNil)) (cVal (.str [115, 116, 114, 105, 110, 103]))) (tCmp .Eq (cIdx (cVar 1) (cVal (.int 1))) (cVal (.int 10)))) (xRet (cCall F_to_int (cCons (cVar 0) (cCons (cIdx (cVar 1) (cVal (.int 0))) cNil)))) xSkip)
    (xRet (cCall F_int_in_base (cCons (cIdx (cVar 1) (cVal (.int 0))) (cCons (cIdx (cVar 1) (cVal (.int 1))) cNil)))))
noncomputable def F_php_intval : List PV → Sto → R PV := fnR 2 0 (g_php_intval)
theorem d_php_intval {C : Cx} (Z : CF C) : IsDef C 505 := (Z.fnAt 505 55).isDef
theorem s_php_intval {C : Cx} (Z : CF C) : SF C 9 505 (F_php_intval) :=
  fn_e (k := 8) (pn := ["host", "args"]) (ln := []) (Z.fnAt 505 55)
    (x_cons (s_if (t_bo (ts_cons (t_cmp (e_cz Z (s_kind Z) (d_kind Z) (es_cons (e_idx (e_var rfl) e_int) es_nil)) (e_str rfl)) (ts_one (t_cmp (e_idx (e_var rfl) e_int) e_int)))) (x_one (s_ret (e_cz Z (s_to_int Z) (d_to_int Z) (es_cons (e_var rfl) (es_cons (e_idx (e_var rfl) e_int) es_nil))))) x_nil)
    (x_one (s_ret (e_cz Z (s_int_in_base Z) (d_int_in_base Z) (es_cons (e_idx (e_var rfl) e_int) (es_cons (e_idx (e_var rfl) e_int) es_nil))))))

noncomputable def g__law_signed : Rho → Sto → R Ou := (xSeq (xSet 1 (cMeth bLstrip (cVar 0) (cCons (cVal (.str [32, 9, 10, 13, 11, 12])) cNil)))
    (xSeq (xIf (tCmp .In (cSl (cVar 1) oNone (oInt (cVal (.int 1)))) (cTup (cCons (cVal (.str [45])) (cCons (cVal (.str [43])) cNil)))) (xRet (cTup (cCons (cSl (cVar 1) oNone (oInt (cVal (.int 1)))) (cCons (cSl (cVar 1) (oInt (cVal (.int 1))) oNone) cNil)))) xSkip)
    (xRet (cTup (cCons (cVal (.str [])) (cCons (cVar 1) cNil))))))
noncomputable def F__law_signed : List PV → Sto → R PV := fnR 1 1 (g__law_signed)
theorem d__law_signed {C : Cx} (Z : CF C) : IsDef C 797 := (Z.fnAt 797 85).isDef
theorem s__law_signed {C : Cx} (Z : CF C) : SF C 2 797 (F__law_signed) :=
  fn_e (k := 1) (pn := ["text"]) (ln := ["rest"]) (Z.fnAt 797 85)
    (x_cons (s_l (e_meth (e_var rfl) (fun _ _ _ _ _ _ _ _ h => gm_str PySem.F.slot_str_lstrip PySem.F.type_str_lstrip h) lstrip_ok (by omega) (es_cons (e_str rfl) es_nil)))
    (x_cons (s_if (t_cmp (e_sl (e_var rfl) p_none (p_some e_int)) (e_tup (es_cons (e_str rfl) (es_cons (e_str rfl) es_nil)))) (x_one (s_ret (e_tup (es_cons (e_sl (e_var rfl) p_none (p_some e_int)) (es_cons (e_sl (e_var rfl) (p_some e_int) p_none) es_nil))))) x_nil)
    (x_one (s_ret (e_tup (es_cons (e_str rfl) (es_cons (e_var rfl) es_nil)))))))

noncomputable def g__law_worth : Rho → Sto → R Ou := (xSeq (xSet 1 (cIf (tBo .And (tCmp .Eq (cBlt bLen (cCons (cVar 0) cNil)) (cVal (.int 1))) (tCmp .Lt (cBlt bOrd (cCons (cVar 0) cNil)) (cVal (.int 128)))) (cMeth bFind (cVal (.str [48, 49, 50, 51, 52, 53, 54, 55, 56, 57, 97, 98, 99, 100, 101, 102, 103, 104, 105, 106, 107, 108, 109, 110, 111, 112, 113, 114, 115, 116, 117, 118, 119, 120, 121, 122])) (cCons (cMeth bLower (cVar 0) cNil) cNil)) (cNeg (cVal (.int 1)))))
    (xRet (cIf (tCmp .GtE (cVar 1) (cVal (.int 0))) (cVar 1) (cVal (.int 99)))))
noncomputable def F__law_worth : List PV → Sto → R PV := fnR 1 1 (g__law_worth)
theorem d__law_worth {C : Cx} (Z : CF C) : IsDef C 778 := (Z.fnAt 778 82).isDef
theorem s__law_worth {C : Cx} (Z : CF C) : SF C 2 778 (F__law_worth) :=
  fn_e (k := 1) (pn := ["sign"]) (ln := ["place"]) (Z.fnAt 778 82)
    (x_cons (s_l (e_if (t_bo (ts_cons (t_cmp (e_bz Z len_ok (es_cons (e_var rfl) es_nil)) e_int) (ts_one (t_cmp (e_bz Z ord_ok (es_cons (e_var rfl) es_nil)) e_int)))) (e_meth (e_str rfl) (fun _ _ _ _ _ _ _ _ h => gm_str PySem.F.slot_str_find PySem.F.type_str_find h) find_ok (by omega) (es_cons (e_meth0 (e_var rfl) (fun _ _ _ _ _ _ _ _ h => gm_str PySem.F.slot_str_lower PySem.F.type_str_lower h) lower_ok (by omega)) es_nil)) (e_neg e_int)))
    (x_one (s_ret (e_if (t_cmp (e_var rfl) e_int) (e_var rfl) e_int))))

noncomputable def g__law_row : Rho → Sto → R Ou := (xSeq (xSet 2 (cVal (.int 0)))
    (xSeq (xLoop (tBo .And (tCmp .Lt (cVar 2) (cBlt bLen (cCons (cVar 0) cNil))) (tCmp .Lt (cCall F__law_worth (cCons (cIdx (cVar 0) (cVar 2)) cNil)) (cVar 1))) (xSet 2 (cBin .Add (cVar 2) (cVal (.int 1)))) 1000)
    (xRet (cSl (cVar 0) oNone (oInt (cVar 2))))))
noncomputable def F__law_row : List PV → Sto → R PV := fnR 2 1 (g__law_row)
theorem d__law_row {C : Cx} (Z : CF C) : IsDef C 785 := (Z.fnAt 785 83).isDef
theorem s__law_row {C : Cx} (Z : CF C) : SF C 3 785 (F__law_row) :=
  fn_e (k := 2) (pn := ["text", "base"]) (ln := ["many"]) (Z.fnAt 785 83)
    (x_cons (s_l e_int)
    (x_cons (s_while 1000 (t_bo (ts_cons (t_cmp (e_var rfl) (e_bz Z len_ok (es_cons (e_var rfl) es_nil))) (ts_one (t_cmp (e_cz Z (s__law_worth Z) (d__law_worth Z) (es_cons (e_idx (e_var rfl) (e_var rfl)) es_nil)) (e_var rfl))))) (x_one (s_l (e_bin (e_var rfl) e_int))))
    (x_one (s_ret (e_sl (e_var rfl) p_none (p_some (e_var rfl)))))))

noncomputable def g__law_parts : Rho → Sto → R Ou := (xSeq (xAsg (aTup (aCons 1 (aCons 2 aNil))) (cCall F__law_signed (cCons (cVar 0) cNil)))
    (xSeq (xSet 3 (cCall F__law_row (cCons (cVar 2) (cCons (cVal (.int 10)) cNil))))
    (xSeq (xSet 2 (cSl (cVar 2) (oInt (cBlt bLen (cCons (cVar 3) cNil))) oNone))
    (xSeq (xSet 4 (cVal (.str [])))
    (xSeq (xIf (tBo .And (tCmp .Eq (cSl (cVar 2) oNone (oInt (cVal (.int 1)))) (cVal (.str [46]))) (tBo .Or (tCmp .NotEq (cVar 3) (cVal (.str []))) (tCmp .NotEq (cCall F__law_row (cCons (cSl (cVar 2) (oInt (cVal (.int 1))) oNone) (cCons (cVal (.int 10)) cNil))) (cVal (.str []))))) (xSeq (xSet 4 (cBin .Add (cVal (.str [46])) (cCall F__law_row (cCons (cSl (cVar 2) (oInt (cVal (.int 1))) oNone) (cCons (cVal (.int 10)) cNil)))))
    (xSet 2 (cSl (cVar 2) (oInt (cBlt bLen (cCons (cVar 4) cNil))) oNone))) xSkip)
    (xSeq (xIf (tBo .And (tBo .Or (tCmp .NotEq (cVar 3) (cVal (.str []))) (tCmp .NotEq (cVar 4) (cVal (.str [])))) (tCmp .In (cSl (cVar 2) oNone (oInt (cVal (.int 1)))) (cTup (cCons (cVal (.str [101])) (cCons (cVal (.str [69])) cNil))))) (xSeq (xSet 5 (cIf (tCmp .In (cSl (cVar 2) (oInt (cVal (.int 1))) (oInt (cVal (.int 2)))) (cTup (cCons (cVal (.str [45])) (cCons (cVal (.str [43])) cNil)))) (cSl (cVar 2) (oInt (cVal (.int 1))) (oInt (cVal (.int 2)))) (cVal (.str []))))
    (xSeq (xSet 6 (cCall F__law_row (cCons (cSl (cVar 2) (oInt (cBin .Add (cVal (.int 1)) (cBlt bLen (cCons (cVar 5) cNil)))) oNone) (cCons (cVal (.int 10)) cNil))))
    (xIf (tCmp .NotEq (cVar 6) (cVal (.str []))) (xSeq (xSet 4 (cBin .Add (cBin .Add (cBin .Add (cVar 4) (cSl (cVar 2) oNone (oInt (cVal (.int 1))))) (cVar 5)) (cVar 6)))
    (xSet 2 (cSl (cVar 2) (oInt (cBin .Add (cBin .Add (cVal (.int 1)) (cBlt bLen (cCons (cVar 5) cNil))) (cBlt bLen (cCons (cVar 6) cNil)))) oNone))) xSkip))) xSkip)
    (xRet (cTup (cCons (cVar 1) (cCons (cVar 3) (cCons (cVar 4) (cCons (cVar 2) cNil))))))))))))
noncomputable def F__law_parts : List PV → Sto → R PV := fnR 1 6 (g__law_parts)
theorem d__law_parts {C : Cx} (Z : CF C) : IsDef C 818 := (Z.fnAt 818 88).isDef
theorem s__law_parts {C : Cx} (Z : CF C) : SF C 4 818 (F__law_parts) :=
  fn_e (k := 3) (pn := ["text"]) (ln := ["sign", "rest", "whole_row", "broken", "mark", "row"]) (Z.fnAt 818 88)
    (x_cons (s_asg (a_tup (by omega) (a_cl (a_cl a_nil))) (e_cz Z (s__law_signed Z) (d__law_signed Z) (es_cons (e_var rfl) es_nil)))
    (x_cons (s_l (e_cz Z (s__law_row Z) (d__law_row Z) (es_cons (e_var rfl) (es_cons e_int es_nil))))
    (x_cons (s_l (e_sl (e_var rfl) (p_some (e_bz Z len_ok (es_cons (e_var rfl) es_nil))) p_none))
    (x_cons (s_l (e_str rfl))
    (x_cons (s_if (t_bo (ts_cons (t_cmp (e_sl (e_var rfl) p_none (p_some e_int)) (e_str rfl)) (ts_one (t_bo (ts_cons (t_cmp (e_var rfl) (e_str rfl)) (ts_one (t_cmp (e_cz Z (s__law_row Z) (d__law_row Z) (es_cons (e_sl (e_var rfl) (p_some e_int) p_none) (es_cons e_int es_nil))) (e_str rfl)))))))) (x_cons (s_l (e_bin (e_str rfl) (e_cz Z (s__law_row Z) (d__law_row Z) (es_cons (e_sl (e_var rfl) (p_some e_int) p_none) (es_cons e_int es_nil)))))
    (x_one (s_l (e_sl (e_var rfl) (p_some (e_bz Z len_ok (es_cons (e_var rfl) es_nil))) p_none)))) x_nil)
    (x_cons (s_if (t_bo (ts_cons (t_bo (ts_cons (t_cmp (e_var rfl) (e_str rfl)) (ts_one (t_cmp (e_var rfl) (e_str rfl))))) (ts_one (t_cmp (e_sl (e_var rfl) p_none (p_some e_int)) (e_tup (es_cons (e_str rfl) (es_cons (e_str rfl) es_nil))))))) (x_cons (s_l (e_if (t_cmp (e_sl (e_var rfl) (p_some e_int) (p_some e_int)) (e_tup (es_cons (e_str rfl) (es_cons (e_str rfl) es_nil)))) (e_sl (e_var rfl) (p_some e_int) (p_some e_int)) (e_str rfl)))
    (x_cons (s_l (e_cz Z (s__law_row Z) (d__law_row Z) (es_cons (e_sl (e_var rfl) (p_some (e_bin e_int (e_bz Z len_ok (es_cons (e_var rfl) es_nil)))) p_none) (es_cons e_int es_nil))))
    (x_one (s_if (t_cmp (e_var rfl) (e_str rfl)) (x_cons (s_l (e_bin (e_bin (e_bin (e_var rfl) (e_sl (e_var rfl) p_none (p_some e_int))) (e_var rfl)) (e_var rfl)))
    (x_one (s_l (e_sl (e_var rfl) (p_some (e_bin (e_bin e_int (e_bz Z len_ok (es_cons (e_var rfl) es_nil))) (e_bz Z len_ok (es_cons (e_var rfl) es_nil)))) p_none)))) x_nil)))) x_nil)
    (x_one (s_ret (e_tup (es_cons (e_var rfl) (es_cons (e_var rfl) (es_cons (e_var rfl) (es_cons (e_var rfl) es_nil)))))))))))))

noncomputable def g__law_is_number : Rho → Sto → R Ou := (xSeq (xAsg (aTup (aCons 1 (aCons 2 (aCons 3 (aCons 4 aNil))))) (cCall F__law_parts (cCons (cVar 0) cNil)))
    (xRet (toV (tBo .And (asB (toV (tBo .Or (asB (toV (tCmp .NotEq (cVar 2) (cVal (.str []))))) (asB (toV (tCmp .NotEq (cVar 3) (cVal (.str [])))))))) (asB (toV (tCmp .Eq (cMeth bStrip (cVar 4) (cCons (cVal (.str [32, 9, 10, 13, 11, 12])) cNil)) (cVal (.str [])))))))))
noncomputable def F__law_is_number : List PV → Sto → R PV := fnR 1 4 (g__law_is_number)
theorem d__law_is_number {C : Cx} (Z : CF C) : IsDef C 832 := (Z.fnAt 832 90).isDef
theorem s__law_is_number {C : Cx} (Z : CF C) : SF C 5 832 (F__law_is_number) :=
  fn_e (k := 4) (pn := ["text"]) (ln := ["sign", "whole_row", "broken", "rest"]) (Z.fnAt 832 90)
    (x_cons (s_asg (a_tup (by omega) (a_cl (a_cl (a_cl (a_cl a_nil))))) (e_cz Z (s__law_parts Z) (d__law_parts Z) (es_cons (e_var rfl) es_nil)))
    (x_one (s_ret (e_bo (bs_cons (e_bo (bs_cons (e_cmp (e_var rfl) (e_str rfl)) (bs_one (e_cmp (e_var rfl) (e_str rfl))))) (bs_one (e_cmp (e_meth (e_var rfl) (fun _ _ _ _ _ _ _ _ h => gm_str PySem.F.slot_str_strip PySem.F.type_str_strip h) strip_ok (by omega) (es_cons (e_str rfl) es_nil)) (e_str rfl))))))))

noncomputable def g__law_nearest : Rho → Sto → R Ou := (xRet (cIf (tCmp .Eq (cVar 0) (cVal (.str [45]))) (cBlt bMax (cCons (cNeg (cVar 1)) (cCons (cNeg (cBin .Pow (cVal (.int 2)) (cVal (.int 63)))) cNil))) (cBlt bMin (cCons (cVar 1) (cCons (cBin .Sub (cBin .Pow (cVal (.int 2)) (cVal (.int 63))) (cVal (.int 1))) cNil)))))
noncomputable def F__law_nearest : List PV → Sto → R PV := fnR 2 0 (g__law_nearest)
theorem d__law_nearest {C : Cx} (Z : CF C) : IsDef C 804 := (Z.fnAt 804 86).isDef
theorem s__law_nearest {C : Cx} (Z : CF C) : SF C 2 804 (F__law_nearest) :=
  fn_e (k := 1) (pn := ["sign", "number"]) (ln := []) (Z.fnAt 804 86)
    (x_one (s_ret (e_if (t_cmp (e_var rfl) (e_str rfl)) (e_bz Z max_ok (es_cons (e_neg (e_var rfl)) (es_cons (e_neg (e_bin e_int e_int)) es_nil))) (e_bz Z min_ok (es_cons (e_var rfl) (es_cons (e_bin (e_bin e_int e_int) e_int) es_nil))))))

noncomputable def g__law_sum : Rho → Sto → R Ou := (xRet (cBlt bSum (cCons (cComp [0, 1] 2 (cEnum (cVar 0)) (aTup (aCons 2 (aCons 3 aNil))) tTrue (cpElt (cBin .Mult (cCall F__law_worth (cCons (cVar 3) cNil)) (cBin .Pow (cVar 1) (cBin .Sub (cBin .Sub (cBlt bLen (cCons (cVar 0) cNil)) (cVal (.int 1))) (cVar 2)))))) cNil)))
noncomputable def F__law_sum : List PV → Sto → R PV := fnR 2 0 (g__law_sum)
theorem d__law_sum {C : Cx} (Z : CF C) : IsDef C 790 := (Z.fnAt 790 84).isDef
theorem s__law_sum {C : Cx} (Z : CF C) : SF C 3 790 (F__law_sum) :=
  fn_e (k := 2) (pn := ["row", "base"]) (ln := []) (Z.fnAt 790 84)
    (x_one (s_ret (e_bz Z sum_ok (es_cons (e_comp (cn := ["row", "base"]) (tn := ["k", "sign"]) (caps := [0, 1]) compOk_of (i_enum (by omega) (by decide +kernel) Z.blt (by rfl) (e_var rfl)) (al_tup (by omega) (al_cl (al_cl al_nil))) ti_nil (e_bin (e_cz Z (s__law_worth Z) (d__law_worth Z) (es_cons (e_var rfl) es_nil)) (e_bin (e_var rfl) (e_bin (e_bin (e_bz Z len_ok (es_cons (e_var rfl) es_nil)) e_int) (e_var rfl))))) es_nil))))

noncomputable def g__law_by_base : Rho → Sto → R Ou := (xSeq (xAsg (aTup (aCons 2 (aCons 3 aNil))) (cCall F__law_signed (cCons (cVar 0) cNil)))
    (xSeq (xSet 4 (toV (tBo .And (asB (toV (tCmp .In (cSl (cVar 3) oNone (oInt (cVal (.int 2)))) (cTup (cCons (cVal (.str [48, 120])) (cCons (cVal (.str [48, 88])) cNil)))))) (asB (toV (tCmp .Lt (cCall F__law_worth (cCons (cSl (cVar 3) (oInt (cVal (.int 2))) (oInt (cVal (.int 3)))) cNil)) (cVal (.int 16))))))))
    (xSeq (xIf (tBo .And (tCmp .In (cVar 1) (cTup (cCons (cVal (.int 0)) (cCons (cVal (.int 16)) cNil)))) (asB (cVar 4))) (xRet (cCall F__law_nearest (cCons (cVar 2) (cCons (cCall F__law_sum (cCons (cCall F__law_row (cCons (cSl (cVar 3) (oInt (cVal (.int 2))) oNone) (cCons (cVal (.int 16)) cNil))) (cCons (cVal (.int 16)) cNil))) cNil)))) xSkip)
    (xSeq (xSet 5 (cIf (tCmp .NotEq (cVar 1) (cVal (.int 0))) (cVar 1) (cIf (tCmp .Eq (cSl (cVar 3) oNone (oInt (cVal (.int 1)))) (cVal (.str [48]))) (cVal (.int 8)) (cVal (.int 10)))))
    (xRet (cCall F__law_nearest (cCons (cVar 2) (cCons (cCall F__law_sum (cCons (cCall F__law_row (cCons (cVar 3) (cCons (cVar 5) cNil))) (cCons (cVar 5) cNil))) cNil))))))))
noncomputable def F__law_by_base : List PV → Sto → R PV := fnR 2 4 (g__law_by_base)
theorem d__law_by_base {C : Cx} (Z : CF C) : IsDef C 811 := (Z.fnAt 811 87).isDef
theorem s__law_by_base {C : Cx} (Z : CF C) : SF C 4 811 (F__law_by_base) :=
  fn_e (k := 3) (pn := ["text", "base"]) (ln := ["sign", "rest", "is_marked", "own"]) (Z.fnAt 811 87)
    (x_cons (s_asg (a_tup (by omega) (a_cl (a_cl a_nil))) (e_cz Z (s__law_signed Z) (d__law_signed Z) (es_cons (e_var rfl) es_nil)))
    (x_cons (s_l (e_bo (bs_cons (e_cmp (e_sl (e_var rfl) p_none (p_some e_int)) (e_tup (es_cons (e_str rfl) (es_cons (e_str rfl) es_nil)))) (bs_one (e_cmp (e_cz Z (s__law_worth Z) (d__law_worth Z) (es_cons (e_sl (e_var rfl) (p_some e_int) (p_some e_int)) es_nil)) e_int)))))
    (x_cons (s_if (t_bo (ts_cons (t_cmp (e_var rfl) (e_tup (es_cons e_int (es_cons e_int es_nil)))) (ts_one (t_val (e_var rfl))))) (x_one (s_ret (e_cz Z (s__law_nearest Z) (d__law_nearest Z) (es_cons (e_var rfl) (es_cons (e_cz Z (s__law_sum Z) (d__law_sum Z) (es_cons (e_cz Z (s__law_row Z) (d__law_row Z) (es_cons (e_sl (e_var rfl) (p_some e_int) p_none) (es_cons e_int es_nil))) (es_cons e_int es_nil))) es_nil))))) x_nil)
    (x_cons (s_l (e_if (t_cmp (e_var rfl) e_int) (e_var rfl) (e_if (t_cmp (e_sl (e_var rfl) p_none (p_some e_int)) (e_str rfl)) e_int e_int)))
    (x_one (s_ret (e_cz Z (s__law_nearest Z) (d__law_nearest Z) (es_cons (e_var rfl) (es_cons (e_cz Z (s__law_sum Z) (d__law_sum Z) (es_cons (e_cz Z (s__law_row Z) (d__law_row Z) (es_cons (e_var rfl) (es_cons (e_var rfl) es_nil))) (es_cons (e_var rfl) es_nil))) es_nil)))))))))

noncomputable def g__law_int : Rho → Sto → R Ou := (xSeq (xAsg (aTup (aCons 1 (aCons 2 (aCons 3 (aCons 4 aNil))))) (cCall F__law_parts (cCons (cVar 0) cNil)))
    (xSeq (xSet 5 (cBin .Mult (cCall F__law_sum (cCons (cVar 2) (cCons (cVal (.int 10)) cNil))) (cIf (tCmp .Eq (cVar 1) (cVal (.str [45]))) (cNeg (cVal (.int 1))) (cVal (.int 1)))))
    (xRet (cIf (tBo .Or (tCmp .NotEq (cVar 3) (cVal (.str []))) (tNot (tChain .LtE .Lt (cNeg (cBin .Pow (cVal (.int 2)) (cVal (.int 63)))) (cVar 5) (cBin .Pow (cVal (.int 2)) (cVal (.int 63)))))) (cVal (.str [108, 101, 102, 116])) (cVar 5)))))
noncomputable def F__law_int : List PV → Sto → R PV := fnR 1 5 (g__law_int)
theorem d__law_int {C : Cx} (Z : CF C) : IsDef C 825 := (Z.fnAt 825 89).isDef
theorem s__law_int {C : Cx} (Z : CF C) : SF C 5 825 (F__law_int) :=
  fn_e (k := 4) (pn := ["text"]) (ln := ["sign", "whole_row", "broken", "rest", "number"]) (Z.fnAt 825 89)
    (x_cons (s_asg (a_tup (by omega) (a_cl (a_cl (a_cl (a_cl a_nil))))) (e_cz Z (s__law_parts Z) (d__law_parts Z) (es_cons (e_var rfl) es_nil)))
    (x_cons (s_l (e_bin (e_cz Z (s__law_sum Z) (d__law_sum Z) (es_cons (e_var rfl) (es_cons e_int es_nil))) (e_if (t_cmp (e_var rfl) (e_str rfl)) (e_neg e_int) e_int)))
    (x_one (s_ret (e_if (t_bo (ts_cons (t_cmp (e_var rfl) (e_str rfl)) (ts_one (t_not (t_chain (e_neg (e_bin e_int e_int)) (e_var rfl) (e_bin e_int e_int)))))) (e_str rfl) (e_var rfl))))))

noncomputable def g__law_intval : Rho → Sto → R Ou := (xSeq (xIf (tCmp .Eq (cVar 1) (cVal (.int 10))) (xRet (cCall F__law_int (cCons (cVar 0) cNil))) xSkip)
    (xSeq (xIf (tBo .Or (tCmp .Lt (cVar 1) (cVal (.int 0))) (tBo .Or (tCmp .Eq (cVar 1) (cVal (.int 1))) (tCmp .Gt (cVar 1) (cVal (.int 36))))) (xRet (cVal (.int 0))) xSkip)
    (xSeq (xAsg (aTup (aCons 2 (aCons 3 aNil))) (cCall F__law_signed (cCons (cVar 0) cNil)))
    (xSeq (xFor (cItems (cTup (cCons (cTup (cCons (cTup (cCons (cVal (.str [48, 98])) (cCons (cVal (.str [48, 66])) cNil))) (cCons (cVal (.int 2)) cNil))) (cCons (cTup (cCons (cTup (cCons (cVal (.str [48, 111])) (cCons (cVal (.str [48, 79])) cNil))) (cCons (cVal (.int 8)) cNil))) cNil)))) (aTup (aCons 4 (aCons 5 aNil))) (xIf (tBo .And (tCmp .In (cVar 1) (cTup (cCons (cVal (.int 0)) (cCons (cVar 5) cNil)))) (tCmp .In (cSl (cVar 3) oNone (oInt (cVal (.int 2)))) (cVar 4))) (xRet (cCall F__law_by_base (cCons (cBin .Add (cVar 2) (cSl (cVar 3) (oInt (cVal (.int 2))) oNone)) (cCons (cVar 5) cNil)))) xSkip))
    (xRet (cCall F__law_by_base (cCons (cVar 0) (cCons (cVar 1) cNil))))))))
noncomputable def F__law_intval : List PV → Sto → R PV := fnR 2 4 (g__law_intval)
theorem d__law_intval {C : Cx} (Z : CF C) : IsDef C 839 := (Z.fnAt 839 91).isDef
theorem s__law_intval {C : Cx} (Z : CF C) : SF C 6 839 (F__law_intval) :=
  fn_e (k := 5) (pn := ["text", "base"]) (ln := ["sign", "rest", "marks", "theirs"]) (Z.fnAt 839 91)
    (x_cons (s_if (t_cmp (e_var rfl) e_int) (x_one (s_ret (e_cz Z (s__law_int Z) (d__law_int Z) (es_cons (e_var rfl) es_nil)))) x_nil)
    (x_cons (s_if (t_bo (ts_cons (t_cmp (e_var rfl) e_int) (ts_cons (t_cmp (e_var rfl) e_int) (ts_one (t_cmp (e_var rfl) e_int))))) (x_one (s_ret e_int)) x_nil)
    (x_cons (s_asg (a_tup (by omega) (a_cl (a_cl a_nil))) (e_cz Z (s__law_signed Z) (d__law_signed Z) (es_cons (e_var rfl) es_nil)))
    (x_cons (s_for (i_val (by omega) (e_tup (es_cons (e_tup (es_cons (e_tup (es_cons (e_str rfl) (es_cons (e_str rfl) es_nil))) (es_cons e_int es_nil))) (es_cons (e_tup (es_cons (e_tup (es_cons (e_str rfl) (es_cons (e_str rfl) es_nil))) (es_cons e_int es_nil))) es_nil)))) (a_tup (by omega) (a_cl (a_cl a_nil))) (x_one (s_if (t_bo (ts_cons (t_cmp (e_var rfl) (e_tup (es_cons e_int (es_cons (e_var rfl) es_nil)))) (ts_one (t_cmp (e_sl (e_var rfl) p_none (p_some e_int)) (e_var rfl))))) (x_one (s_ret (e_cz Z (s__law_by_base Z) (d__law_by_base Z) (es_cons (e_bin (e_var rfl) (e_sl (e_var rfl) (p_some e_int) p_none)) (es_cons (e_var rfl) es_nil))))) x_nil)))
    (x_one (s_ret (e_cz Z (s__law_by_base Z) (d__law_by_base Z) (es_cons (e_var rfl) (es_cons (e_var rfl) es_nil)))))))))

noncomputable def g__law_decoded : Rho → Sto → R Ou := (xSeq (xSet 3 (cMeth bStrip (cVar 0) (cCons (cVal (.str [32, 9, 10, 13, 11, 12])) cNil)))
    (xSeq (xSet 3 (cIf (tCmp .In (cSl (cVar 3) oNone (oInt (cVal (.int 2)))) (cVar 2)) (cSl (cVar 3) (oInt (cVal (.int 2))) oNone) (cVar 3)))
    (xSeq (xSet 4 (cMeth bJoin (cVal (.str [])) (cCons (cComp [1] 1 (cItems (cVar 3)) (aOne 1) (tCmp .Lt (cCall F__law_worth (cCons (cVar 1) cNil)) (cVar 0)) (cpElt (cVar 1))) cNil)))
    (xSeq (xSet 5 (cTup (cCons (cVal (.str [68, 101, 112, 114, 101, 99, 97, 116, 101, 100])) (cCons (cVal (.str [73, 110, 118, 97, 108, 105, 100, 32, 99, 104, 97, 114, 97, 99, 116, 101, 114, 115, 32, 112, 97, 115, 115, 101, 100, 32, 102, 111, 114, 32, 97, 116, 116, 101, 109, 112, 116, 101, 100, 32, 99, 111, 110, 118, 101, 114, 115, 105, 111, 110, 44, 32, 116, 104, 101, 115, 101, 32, 104, 97, 118, 101, 32, 98, 101, 101, 110, 32, 105, 103, 110, 111, 114, 101, 100])) cNil))))
    (xSeq (xSet 6 (cCall F__law_sum (cCons (cVar 4) (cCons (cVar 1) cNil))))
    (xRet (cTup (cCons (cIf (tCmp .GtE (cVar 6) (cBin .Pow (cVal (.int 2)) (cVal (.int 63)))) (cVal (.str [108, 101, 102, 116])) (cVar 6)) (cCons (cIf (tCmp .NotEq (cVar 4) (cVar 3)) (cLst (cCons (cVar 5) cNil)) (cLst cNil)) cNil)))))))))
noncomputable def F__law_decoded : List PV → Sto → R PV := fnR 3 4 (g__law_decoded)
theorem d__law_decoded {C : Cx} (Z : CF C) : IsDef C 844 := (Z.fnAt 844 92).isDef
theorem s__law_decoded {C : Cx} (Z : CF C) : SF C 4 844 (F__law_decoded) :=
  fn_e (k := 3) (pn := ["text", "base", "marks"]) (ln := ["rest", "digits", "note", "number"]) (Z.fnAt 844 92)
    (x_cons (s_l (e_meth (e_var rfl) (fun _ _ _ _ _ _ _ _ h => gm_str PySem.F.slot_str_strip PySem.F.type_str_strip h) strip_ok (by omega) (es_cons (e_str rfl) es_nil)))
    (x_cons (s_l (e_if (t_cmp (e_sl (e_var rfl) p_none (p_some e_int)) (e_var rfl)) (e_sl (e_var rfl) (p_some e_int) p_none) (e_var rfl)))
    (x_cons (s_l (e_meth (e_str rfl) (fun _ _ _ _ _ _ _ _ h => gm_str PySem.F.slot_str_join PySem.F.type_str_join h) join_ok (by omega) (es_cons (e_comp (cn := ["base"]) (tn := ["sign"]) (caps := [1]) compOk_of (i_val (by omega) (e_var rfl)) al_o (ti_one (t_cmp (e_cz Z (s__law_worth Z) (d__law_worth Z) (es_cons (e_var rfl) es_nil)) (e_var rfl))) (e_var rfl)) es_nil)))
    (x_cons (s_l (e_tup (es_cons (e_str rfl) (es_cons (e_str rfl) es_nil))))
    (x_cons (s_l (e_cz Z (s__law_sum Z) (d__law_sum Z) (es_cons (e_var rfl) (es_cons (e_var rfl) es_nil))))
    (x_one (s_ret (e_tup (es_cons (e_if (t_cmp (e_var rfl) (e_bin e_int e_int)) (e_str rfl) (e_var rfl)) (es_cons (e_if (t_cmp (e_var rfl) (e_var rfl)) (e_lst (es_cons (e_var rfl) es_nil)) (e_lst es_nil)) es_nil))))))))))

noncomputable def g__law_is_read : Rho → Sto → R Ou := (xSeq (xIf (tCmp .NotEq (cCall F__law_told (cCons (cVal (.raw (.ref 498))) (cCons (cLst (cCons (cVar 0) cNil)) cNil))) (cTup (cCons (cCall F__law_is_number (cCons (cVar 0) cNil)) (cCons (cLst cNil) cNil)))) (xRet (cVal (.bool false))) xSkip)
    (xSeq (xNewHost 2)
    (xSeq (xTrySet 3 (cCall F_php_intval (cCons (cVar 2) (cCons (cLst (cCons (cVar 0) (cCons (cVar 1) cNil))) cNil))) (xSet 3 (cVal (.str [108, 101, 102, 116]))))
    (xSeq (xIf (tBo .Or (tCmp .NotEq (cVar 3) (cCall F__law_intval (cCons (cVar 0) (cCons (cVar 1) cNil)))) (tCmp .NotEq (cNotes (cVar 2)) (cLst cNil))) (xRet (cVal (.bool false))) xSkip)
    (xSeq (xFor (cItems (cTup (cCons (cTup (cCons (cVal (.raw (.ref 533))) (cCons (cVal (.int 16)) (cCons (cTup (cCons (cVal (.str [48, 120])) (cCons (cVal (.str [48, 88])) cNil))) cNil)))) (cCons (cTup (cCons (cVal (.raw (.ref 540))) (cCons (cVal (.int 2)) (cCons (cTup (cCons (cVal (.str [48, 98])) (cCons (cVal (.str [48, 66])) cNil))) cNil)))) (cCons (cTup (cCons (cVal (.raw (.ref 547))) (cCons (cVal (.int 8)) (cCons (cTup (cCons (cVal (.str [48, 111])) (cCons (cVal (.str [48, 79])) cNil))) cNil)))) cNil))))) (aTup (aCons 4 (aCons 5 (aCons 6 aNil)))) (xIf (tCmp .NotEq (cCall F__law_told (cCons (cVar 4) (cCons (cLst (cCons (cVar 0) cNil)) cNil))) (cCall F__law_decoded (cCons (cVar 0) (cCons (cVar 5) (cCons (cVar 6) cNil))))) (xRet (cVal (.bool false))) xSkip))
    (xRet (cVal (.bool true))))))))
noncomputable def F__law_is_read : List PV → Sto → R PV := fnR 2 5 (g__law_is_read)
theorem d__law_is_read {C : Cx} (Z : CF C) : IsDef C 875 := (Z.fnAt 875 97).isDef
theorem s__law_is_read {C : Cx} (Z : CF C) : SF C 14 875 (F__law_is_read) :=
  fn_e (k := 13) (pn := ["text", "base"]) (ln := ["host", "found", "way", "own", "marks"]) (Z.fnAt 875 97)
    (x_cons (s_if (t_cmp (e_cz Z (s__law_told Z) (d__law_told Z) (es_cons (e_gz Z) (es_cons (e_lst (es_cons (e_var rfl) es_nil)) es_nil))) (e_tup (es_cons (e_cz Z (s__law_is_number Z) (d__law_is_number Z) (es_cons (e_var rfl) es_nil)) (es_cons (e_lst es_nil) es_nil)))) (x_one (s_ret e_bool)) x_nil)
    (x_cons (s_newhost Z.X (okHost C) (si_Host Z) (by omega) v_Host (fun _ => rfl) (fun _ => rfl) (by rfl) (by decide +kernel) Z.glob (by decide +kernel) rfl (.inl (by decide +kernel)))
    (x_cons (s_tryset (leftOk Z) (by decide +kernel) Z.glob (e_cz Z (s_php_intval Z) (d_php_intval Z) (es_cons (e_var rfl) (es_cons (e_lst (es_cons (e_var rfl) (es_cons (e_var rfl) es_nil))) es_nil))) (x_one (s_l (e_str rfl))) (by decide +kernel) rfl (.inl (by decide +kernel)))
    (x_cons (s_if (t_bo (ts_cons (t_cmp (e_var rfl) (e_cz Z (s__law_intval Z) (d__law_intval Z) (es_cons (e_var rfl) (es_cons (e_var rfl) es_nil)))) (ts_one (t_cmp (e_notes Z.X (okNotes C) (e_var rfl)) (e_lst es_nil))))) (x_one (s_ret e_bool)) x_nil)
    (x_cons (s_for (i_val (by omega) (e_tup (es_cons (e_tup (es_cons (e_gz Z) (es_cons e_int (es_cons (e_tup (es_cons (e_str rfl) (es_cons (e_str rfl) es_nil))) es_nil)))) (es_cons (e_tup (es_cons (e_gz Z) (es_cons e_int (es_cons (e_tup (es_cons (e_str rfl) (es_cons (e_str rfl) es_nil))) es_nil)))) (es_cons (e_tup (es_cons (e_gz Z) (es_cons e_int (es_cons (e_tup (es_cons (e_str rfl) (es_cons (e_str rfl) es_nil))) es_nil)))) es_nil))))) (a_tup (by omega) (a_cl (a_cl (a_cl a_nil)))) (x_one (s_if (t_cmp (e_cz Z (s__law_told Z) (d__law_told Z) (es_cons (e_var rfl) (es_cons (e_lst (es_cons (e_var rfl) es_nil)) es_nil))) (e_cz Z (s__law_decoded Z) (d__law_decoded Z) (es_cons (e_var rfl) (es_cons (e_var rfl) (es_cons (e_var rfl) es_nil))))) (x_one (s_ret e_bool)) x_nil)))
    (x_one (s_ret e_bool)))))))

noncomputable def g__law_is_hex : Rho → Sto → R Ou := (xSeq (xAsg (aTup (aCons 1 (aCons 2 aNil))) (cCall F__law_told (cCons (cVal (.raw (.ref 638))) (cCons (cLst (cCons (cVar 0) cNil)) cNil))))
    (xSeq (xSet 3 (cMeth bJoin (cVal (.str [])) (cCons (cComp [] 1 (cItems (cVar 0)) (aOne 0) tTrue (cpElt (cBin .Add (cIdx (cVal (.str [48, 49, 50, 51, 52, 53, 54, 55, 56, 57, 97, 98, 99, 100, 101, 102])) (cBin .FloorDiv (cBlt bOrd (cCons (cVar 0) cNil)) (cVal (.int 16)))) (cIdx (cVal (.str [48, 49, 50, 51, 52, 53, 54, 55, 56, 57, 97, 98, 99, 100, 101, 102])) (cBin .Mod (cBlt bOrd (cCons (cVar 0) cNil)) (cVal (.int 16))))))) cNil)))
    (xSeq (xIf (tBo .Or (tCmp .NotEq (cTup (cCons (cVar 1) (cCons (cVar 2) cNil))) (cTup (cCons (cVar 3) (cCons (cLst cNil) cNil)))) (tCmp .NotEq (cCall F__law_told (cCons (cVal (.raw (.ref 645))) (cCons (cLst (cCons (cVar 1) cNil)) cNil))) (cTup (cCons (cVar 0) (cCons (cLst cNil) cNil))))) (xRet (cVal (.bool false))) xSkip)
    (xSeq (xSet 4 (cCall F__law_told (cCons (cVal (.raw (.ref 645))) (cCons (cLst (cCons (cVar 0) cNil)) cNil))))
    (xSeq (xIf (tCmp .Eq (cBin .Mod (cBlt bLen (cCons (cVar 0) cNil)) (cVal (.int 2))) (cVal (.int 1))) (xRet (toV (tCmp .Eq (cVar 4) (cTup (cCons (cVal (.bool false)) (cCons (cLst (cCons (cTup (cCons (cVal (.str [87, 97, 114, 110, 105, 110, 103])) (cCons (cVal (.str [104, 101, 120, 50, 98, 105, 110, 40, 41, 58, 32, 72, 101, 120, 97, 100, 101, 99, 105, 109, 97, 108, 32, 105, 110, 112, 117, 116, 32, 115, 116, 114, 105, 110, 103, 32, 109, 117, 115, 116, 32, 104, 97, 118, 101, 32, 97, 110, 32, 101, 118, 101, 110, 32, 108, 101, 110, 103, 116, 104])) cNil))) cNil)) cNil)))))) xSkip)
    (xSeq (xIf (tNot (asB (cBlt bAll (cCons (cComp [] 1 (cItems (cVar 0)) (aOne 0) tTrue (cpElt (toV (tCmp .Lt (cCall F__law_worth (cCons (cVar 0) cNil)) (cVal (.int 16)))))) cNil)))) (xRet (toV (tCmp .Eq (cVar 4) (cTup (cCons (cVal (.bool false)) (cCons (cLst (cCons (cTup (cCons (cVal (.str [87, 97, 114, 110, 105, 110, 103])) (cCons (cVal (.str [104, 101, 120, 50, 98, 105, 110, 40, 41, 58, 32, 73, 110, 112, 117, 116, 32, 115, 116, 114, 105, 110, 103, 32, 109, 117, 115, 116, 32, 98, 101, 32, 104, 101, 120, 97, 100, 101, 99, 105, 109, 97, 108, 32, 115, 116, 114, 105, 110, 103])) cNil))) cNil)) cNil)))))) xSkip)
    (xSeq (xSet 5 (cComp [0] 1 (cRange (cCons (cVal (.int 0)) (cCons (cBlt bLen (cCons (cVar 0) cNil)) (cCons (cVal (.int 2)) cNil)))) (aOne 1) tTrue (cpElt (cBin .Add (cBin .Mult (cCall F__law_worth (cCons (cIdx (cVar 0) (cVar 1)) cNil)) (cVal (.int 16))) (cCall F__law_worth (cCons (cIdx (cVar 0) (cBin .Add (cVar 1) (cVal (.int 1)))) cNil))))))
    (xRet (toV (tBo .And (asB (toV (tCmp .Eq (cVar 4) (cTup (cCons (cMeth bJoin (cVal (.str [])) (cCons (cComp [] 1 (cItems (cVar 5)) (aOne 0) tTrue (cpElt (cBlt bChr (cCons (cVar 0) cNil)))) cNil)) (cCons (cLst cNil) cNil)))))) (asB (toV (tCmp .Eq (cCall F__law_told (cCons (cVal (.raw (.ref 631))) (cCons (cLst (cCons (cVal (.str [])) cNil)) cNil))) (cTup (cCons (cVal (.int 0)) (cCons (cLst cNil) cNil))))))))))))))))
noncomputable def F__law_is_hex : List PV → Sto → R PV := fnR 1 5 (g__law_is_hex)
theorem d__law_is_hex {C : Cx} (Z : CF C) : IsDef C 887 := (Z.fnAt 887 99).isDef
theorem s__law_is_hex {C : Cx} (Z : CF C) : SF C 14 887 (F__law_is_hex) :=
  fn_e (k := 13) (pn := ["text"]) (ln := ["shown", "notes", "due", "told", "pairs"]) (Z.fnAt 887 99)
    (x_cons (s_asg (a_tup (by omega) (a_cl (a_cl a_nil))) (e_cz Z (s__law_told Z) (d__law_told Z) (es_cons (e_gz Z) (es_cons (e_lst (es_cons (e_var rfl) es_nil)) es_nil))))
    (x_cons (s_l (e_meth (e_str rfl) (fun _ _ _ _ _ _ _ _ h => gm_str PySem.F.slot_str_join PySem.F.type_str_join h) join_ok (by omega) (es_cons (e_comp (cn := []) (tn := ["sign"]) (caps := []) compOk_of (i_val (by omega) (e_var rfl)) al_o ti_nil (e_bin (e_idx (e_str rfl) (e_bin (e_bz Z ord_ok (es_cons (e_var rfl) es_nil)) e_int)) (e_idx (e_str rfl) (e_bin (e_bz Z ord_ok (es_cons (e_var rfl) es_nil)) e_int)))) es_nil)))
    (x_cons (s_if (t_bo (ts_cons (t_cmp (e_tup (es_cons (e_var rfl) (es_cons (e_var rfl) es_nil))) (e_tup (es_cons (e_var rfl) (es_cons (e_lst es_nil) es_nil)))) (ts_one (t_cmp (e_cz Z (s__law_told Z) (d__law_told Z) (es_cons (e_gz Z) (es_cons (e_lst (es_cons (e_var rfl) es_nil)) es_nil))) (e_tup (es_cons (e_var rfl) (es_cons (e_lst es_nil) es_nil))))))) (x_one (s_ret e_bool)) x_nil)
    (x_cons (s_l (e_cz Z (s__law_told Z) (d__law_told Z) (es_cons (e_gz Z) (es_cons (e_lst (es_cons (e_var rfl) es_nil)) es_nil))))
    (x_cons (s_if (t_cmp (e_bin (e_bz Z len_ok (es_cons (e_var rfl) es_nil)) e_int) e_int) (x_one (s_ret (e_cmp (e_var rfl) (e_tup (es_cons e_bool (es_cons (e_lst (es_cons (e_tup (es_cons (e_str rfl) (es_cons (e_str rfl) es_nil))) es_nil)) es_nil)))))) x_nil)
    (x_cons (s_if (t_not (t_val (e_bz Z all_ok (es_cons (e_comp (cn := []) (tn := ["sign"]) (caps := []) compOk_of (i_val (by omega) (e_var rfl)) al_o ti_nil (e_cmp (e_cz Z (s__law_worth Z) (d__law_worth Z) (es_cons (e_var rfl) es_nil)) e_int)) es_nil)))) (x_one (s_ret (e_cmp (e_var rfl) (e_tup (es_cons e_bool (es_cons (e_lst (es_cons (e_tup (es_cons (e_str rfl) (es_cons (e_str rfl) es_nil))) es_nil)) es_nil)))))) x_nil)
    (x_cons (s_setC (cn := ["text"]) (tn := ["k"]) (caps := [0]) compOk_of (i_rz Z (es_cons e_int (es_cons (e_bz Z len_ok (es_cons (e_var rfl) es_nil)) (es_cons e_int es_nil)))) al_o ti_nil (e_bin (e_bin (e_cz Z (s__law_worth Z) (d__law_worth Z) (es_cons (e_idx (e_var rfl) (e_var rfl)) es_nil)) e_int) (e_cz Z (s__law_worth Z) (d__law_worth Z) (es_cons (e_idx (e_var rfl) (e_bin (e_var rfl) e_int)) es_nil))) (by decide +kernel) rfl (by decide +kernel) rfl rfl)
    (x_one (s_ret (e_bo (bs_cons (e_cmp (e_var rfl) (e_tup (es_cons (e_meth (e_str rfl) (fun _ _ _ _ _ _ _ _ h => gm_str PySem.F.slot_str_join PySem.F.type_str_join h) join_ok (by omega) (es_cons (e_comp (cn := []) (tn := ["pair"]) (caps := []) compOk_of (i_val (by omega) (e_var rfl)) al_o ti_nil (e_bz Z chr_ok (es_cons (e_var rfl) es_nil))) es_nil)) (es_cons (e_lst es_nil) es_nil)))) (bs_one (e_cmp (e_cz Z (s__law_told Z) (d__law_told Z) (es_cons (e_gz Z) (es_cons (e_lst (es_cons (e_str rfl) es_nil)) es_nil))) (e_tup (es_cons e_int (es_cons (e_lst es_nil) es_nil))))))))))))))))

noncomputable def g_law (D : DP) : Rho → Sto → R Ou := (xSeq (xSet 0 (cSl (cVar 0) oNone (oInt (cVal (.int 63)))))
    (xSeq (xSet 1 (cLst (cCons (cBin .Add (cVal (.int 5)) (cBin .Mult (cVal (.int 8)) (cBin .Add (cVal (.int 4)) (cBin .Mult (cVal (.int 28)) (cBin .Add (cVal (.int 2)) (cBin .Mult (cVal (.int 28)) (cBin .Add (cVal (.int 0)) (cBin .Mult (cVal (.int 28)) (cBin .Add (cVal (.int 3)) (cBin .Mult (cVal (.int 28)) (cVal (.int 9)))))))))))) (cCons (cBin .Add (cVal (.int 4)) (cBin .Mult (cVal (.int 8)) (cBin .Add (cVal (.int 7)) (cBin .Mult (cVal (.int 28)) (cBin .Add (cVal (.int 1)) (cBin .Mult (cVal (.int 28)) (cBin .Add (cVal (.int 5)) (cBin .Mult (cVal (.int 28)) (cVal (.int 1)))))))))) (cCons (cVal (.int 14)) (cCons (cBin .Mult (cVal (.int 2)) (cVal (.int 77))) (cCons (cVal (.int 300)) cNil)))))))
    (xSeq (xSet 2 (cComp [0, 1] 1 (cRange (cCons (cBlt bLen (cCons (cVar 1) cNil)) cNil)) (aOne 2) tTrue (cpElt (cBin .Add (cIdx (cVar 1) (cVar 2)) (cIf (tCmp .Lt (cVar 2) (cBlt bLen (cCons (cVar 0) cNil))) (cIdx (cVar 0) (cVar 2)) (cVal (.int 0)))))))
    (xSeq (xSet 3 (cIf (tCmp .Eq (cBin .Mod (cBin .FloorDiv (cIdx (cVar 2) (cVal (.int 2))) (cVal (.int 10))) (cVal (.int 2))) (cVal (.int 1))) (cIdx (cTup (cCons (cVal (.int 0)) (cCons (cVal (.int 2)) (cCons (cVal (.int 8)) (cCons (cVal (.int 10)) (cCons (cVal (.int 16)) (cCons (cVal (.int 36)) (cCons (cVal (.int 37)) (cCons (cVal (.int 1)) (cCons (cNeg (cVal (.int 2))) (cCons (cVal (.int 3)) cNil))))))))))) (cBin .Mod (cIdx (cVar 2) (cVal (.int 2))) (cVal (.int 10)))) (cBin .Mod (cBin .FloorDiv (cIdx (cVar 2) (cVal (.int 2))) (cVal (.int 20))) (cVal (.int 37)))))
    (xSeq (xSet 4 (cIf (tCmp .Eq (cBin .Mod (cIdx (cVar 2) (cVal (.int 3))) (cVal (.int 2))) (cVal (.int 1))) (cBin .Sub (cBin .Mod (cBin .FloorDiv (cIdx (cVar 2) (cVal (.int 3))) (cVal (.int 2))) (cBin .Pow (cVal (.int 2)) (cVal (.int 64)))) (cBin .Pow (cVal (.int 2)) (cVal (.int 63)))) (cBin .FloorDiv (cIdx (cVar 2) (cVal (.int 3))) (cVal (.int 2)))))
    (xSeq (xSet 4 (cBlt bMax (cCons (cNeg (cBin .Pow (cVal (.int 2)) (cVal (.int 63)))) (cCons (cBlt bMin (cCons (cVar 4) (cCons (cBin .Sub (cBin .Pow (cVal (.int 2)) (cVal (.int 63))) (cVal (.int 1))) cNil))) cNil))))
    (xSeq (xSet 5 (cBin .Sub (cBin .Mod (cIdx (cVar 2) (cVal (.int 4))) (cVal (.int 600))) (cVal (.int 200))))
    (xSeq (xSet 6 (cLst (cCons (cCall F__law_text (cCons (cIdx (cVar 2) (cVal (.int 0))) cNil)) (cCons (cCall F__law_text (cCons (cIdx (cVar 2) (cVal (.int 1))) cNil)) cNil))))
    (xSeq (xIf (tBo .Or (tNot (asB (cBlt bAll (cCons (cComp [3] 1 (cItems (cVar 6)) (aOne 1) tTrue (cpElt (toV (tBo .And (asB (cCall F__law_is_read (cCons (cVar 1) (cCons (cVar 0) cNil)))) (asB (cCall F__law_is_hex (cCons (cVar 1) cNil))))))) cNil)))) (tNot (asB (cCall F__law_is_shown (cCons (cVar 4) cNil))))) (xRet (cVal (.bool false))) xSkip)
    (xSeq (xSet 7 (cLst (cCons (cTup (cCons (cIdx (cVar 6) (cVal (.int 0))) (cCons (cVal (.str [115, 116, 114, 105, 110, 103])) cNil))) (cCons (cTup (cCons (cIdx (cVar 6) (cVal (.int 1))) (cCons (cVal (.str [115, 116, 114, 105, 110, 103])) cNil))) (cCons (cTup (cCons (cVal (.str [65, 122])) (cCons (cVal (.str [115, 116, 114, 105, 110, 103])) cNil))) (cCons (cTup (cCons (cVal (.str [])) (cCons (cVal (.str [115, 116, 114, 105, 110, 103])) cNil))) (cCons (cTup (cCons (cVar 4) (cCons (cVal (.str [105, 110, 116])) cNil))) (cCons (cTup (cCons (cVar 5) (cCons (cVal (.str [105, 110, 116])) cNil))) cNil))))))))
    (xSeq (xSet 7 (cPlus (cVar 7) (cLst (cCons (cTup (cCons (cVal .none) (cCons (cVal (.str [110, 117, 108, 108])) cNil))) (cCons (cTup (cCons (cVal (.bool true)) (cCons (cVal (.str [98, 111, 111, 108])) cNil))) (cCons (cTup (cCons (cVal (.inst 316)) (cCons (cVal (.str [97, 114, 114, 97, 121])) cNil))) cNil))))))
    (xSeq (xSet 8 (cTup (cCons (cTup (cCons (cVal (.str [100, 105, 103, 105, 116])) (cCons (cVal (.raw (.ref 568))) cNil))) (cCons (cTup (cCons (cVal (.str [97, 108, 112, 104, 97])) (cCons (cVal (.raw (.ref 575))) cNil))) (cCons (cTup (cCons (cVal (.str [97, 108, 110, 117, 109])) (cCons (cVal (.raw (.ref 582))) cNil))) (cCons (cTup (cCons (cVal (.str [117, 112, 112, 101, 114])) (cCons (cVal (.raw (.ref 589))) cNil))) (cCons (cTup (cCons (cVal (.str [108, 111, 119, 101, 114])) (cCons (cVal (.raw (.ref 596))) cNil))) (cCons (cTup (cCons (cVal (.str [115, 112, 97, 99, 101])) (cCons (cVal (.raw (.ref 603))) cNil))) (cCons (cTup (cCons (cVal (.str [112, 117, 110, 99, 116])) (cCons (cVal (.raw (.ref 610))) cNil))) (cCons (cTup (cCons (cVal (.str [120, 100, 105, 103, 105, 116])) (cCons (cVal (.raw (.ref 617))) cNil))) cNil))))))))))
    (xRet (cBlt bAll (cCons (cComp [7] 4 (cItems (cVar 8)) (aTup (aCons 1 (aCons 2 aNil))) tTrue (cpIn (cItems (cVar 0)) (aTup (aCons 3 (aCons 4 aNil))) tTrue (cpElt (toV (tCmp .Eq (cCall F__law_told (cCons (cVar 2) (cCons (cLst (cCons (cVar 3) cNil)) cNil))) (cCall (F__law_ctype D) (cCons (cVar 1) (cCons (cVar 3) (cCons (cVar 4) cNil))))))))) cNil)))))))))))))))
noncomputable def F_law (D : DP) : List PV → Sto → R PV := fnR 1 8 (g_law D)
theorem s_law {C : Cx} (Z : CF C) : SFc C 15 892 (F_law (dD C)) :=
  fn_d (k := 14) (pn := ["script"]) (ln := ["rows", "draws", "base", "number", "small", "texts", "values", "ways"]) (Z.fnAt 892 100)
    (x_cons (s_c (e_sl (e_var rfl) p_none (p_some e_int)))
    (x_cons (s_c (e_lst (es_cons (e_bin e_int (e_bin e_int (e_bin e_int (e_bin e_int (e_bin e_int (e_bin e_int (e_bin e_int (e_bin e_int (e_bin e_int (e_bin e_int e_int)))))))))) (es_cons (e_bin e_int (e_bin e_int (e_bin e_int (e_bin e_int (e_bin e_int (e_bin e_int (e_bin e_int (e_bin e_int e_int)))))))) (es_cons e_int (es_cons (e_bin e_int e_int) (es_cons e_int es_nil)))))))
    (x_cons (s_setC (cn := ["script", "rows"]) (tn := ["k"]) (caps := [0, 1]) compOk_of (i_rz Z (es_cons (e_bz Z len_ok (es_cons (e_var rfl) es_nil)) es_nil)) al_o ti_nil (e_bin (e_idx (e_var rfl) (e_var rfl)) (e_if (t_cmp (e_var rfl) (e_bz Z len_ok (es_cons (e_var rfl) es_nil))) (e_idx (e_var rfl) (e_var rfl)) e_int)) (by decide +kernel) rfl (by decide +kernel) rfl rfl)
    (x_cons (s_c (e_if (t_cmp (e_bin (e_bin (e_idx (e_var rfl) e_int) e_int) e_int) e_int) (e_idx (e_tup (es_cons e_int (es_cons e_int (es_cons e_int (es_cons e_int (es_cons e_int (es_cons e_int (es_cons e_int (es_cons e_int (es_cons (e_neg e_int) (es_cons e_int es_nil))))))))))) (e_bin (e_idx (e_var rfl) e_int) e_int)) (e_bin (e_bin (e_idx (e_var rfl) e_int) e_int) e_int)))
    (x_cons (s_l (e_if (t_cmp (e_bin (e_idx (e_var rfl) e_int) e_int) e_int) (e_bin (e_bin (e_bin (e_idx (e_var rfl) e_int) e_int) (e_bin e_int e_int)) (e_bin e_int e_int)) (e_bin (e_idx (e_var rfl) e_int) e_int)))
    (x_cons (s_l (e_bz Z max_ok (es_cons (e_neg (e_bin e_int e_int)) (es_cons (e_bz Z min_ok (es_cons (e_var rfl) (es_cons (e_bin (e_bin e_int e_int) e_int) es_nil))) es_nil))))
    (x_cons (s_l (e_bin (e_bin (e_idx (e_var rfl) e_int) e_int) e_int))
    (x_cons (s_l (e_lst (es_cons (e_cz Z (s__law_text Z) (d__law_text Z) (es_cons (e_idx (e_var rfl) e_int) es_nil)) (es_cons (e_cz Z (s__law_text Z) (d__law_text Z) (es_cons (e_idx (e_var rfl) e_int) es_nil)) es_nil))))
    (x_cons (s_if (t_bo (ts_cons (t_not (t_val (e_bz Z all_ok (es_cons (e_comp (cn := ["base"]) (tn := ["text"]) (caps := [3]) compOk_of (i_val (by omega) (e_var rfl)) al_o ti_nil (e_bo (bs_cons (e_cz Z (s__law_is_read Z) (d__law_is_read Z) (es_cons (e_var rfl) (es_cons (e_var rfl) es_nil))) (bs_one (e_cz Z (s__law_is_hex Z) (d__law_is_hex Z) (es_cons (e_var rfl) es_nil)))))) es_nil)))) (ts_one (t_not (t_val (e_cz Z (s__law_is_shown Z) (d__law_is_shown Z) (es_cons (e_var rfl) es_nil))))))) (x_one (s_ret e_bool)) x_nil)
    (x_cons (s_c (e_lst (es_cons (e_tup (es_cons (e_idx (e_var rfl) e_int) (es_cons (e_str rfl) es_nil))) (es_cons (e_tup (es_cons (e_idx (e_var rfl) e_int) (es_cons (e_str rfl) es_nil))) (es_cons (e_tup (es_cons (e_str rfl) (es_cons (e_str rfl) es_nil))) (es_cons (e_tup (es_cons (e_str rfl) (es_cons (e_str rfl) es_nil))) (es_cons (e_tup (es_cons (e_var rfl) (es_cons (e_str rfl) es_nil))) (es_cons (e_tup (es_cons (e_var rfl) (es_cons (e_str rfl) es_nil))) es_nil))))))))
    (x_cons (s_c (e_plus (e_var rfl) (e_lst (es_cons (e_tup (es_cons e_none (es_cons (e_str rfl) es_nil))) (es_cons (e_tup (es_cons e_bool (es_cons (e_str rfl) es_nil))) (es_cons (e_tup (es_cons (e_new Z.X (okArr C) (si_Arr Z) (by omega) v_Arr (by decide +kernel) Z.glob) (es_cons (e_str rfl) es_nil))) es_nil))))))
    (x_cons (s_l (e_tup (es_cons (e_tup (es_cons (e_str rfl) (es_cons (e_gz Z) es_nil))) (es_cons (e_tup (es_cons (e_str rfl) (es_cons (e_gz Z) es_nil))) (es_cons (e_tup (es_cons (e_str rfl) (es_cons (e_gz Z) es_nil))) (es_cons (e_tup (es_cons (e_str rfl) (es_cons (e_gz Z) es_nil))) (es_cons (e_tup (es_cons (e_str rfl) (es_cons (e_gz Z) es_nil))) (es_cons (e_tup (es_cons (e_str rfl) (es_cons (e_gz Z) es_nil))) (es_cons (e_tup (es_cons (e_str rfl) (es_cons (e_gz Z) es_nil))) (es_cons (e_tup (es_cons (e_str rfl) (es_cons (e_gz Z) es_nil))) es_nil))))))))))
    (x_one (s_ret (e_bz Z all_ok (es_cons (e_comp2 (cn := ["values"]) (tn := ["name", "way", "value", "word"]) (caps := [7]) compOk_of (i_val (by omega) (e_var rfl)) (al_tup (by omega) (al_cl (al_cl al_nil))) ti_nil (i_val (by omega) (e_var rfl)) (al_tup (by omega) (al_cl (al_cl al_nil))) ti_nil (e_cmp (e_cz Z (s__law_told Z) (d__law_told Z) (es_cons (e_var rfl) (es_cons (e_lst (es_cons (e_var rfl) es_nil)) es_nil))) (e_cz Z (s__law_ctype Z) (d__law_ctype Z) (es_cons (e_var rfl) (es_cons (e_var rfl) (es_cons (e_var rfl) es_nil)))))) es_nil))))))))))))))))

end
end Mine.Internal
/- P0 -/
namespace Mine.Internal
/- ## Rules that evaluate the combinators -/
section
variable {ρ ρ₁ ρ₂ : Rho} {σ σ₁ σ₂ σ₃ : Sto} {f g h : Rho → Sto → R PV} {t u : Rho → Sto → R Bool} {gl : Rho → Sto → R (List PV)} {a b c p q : PV} {ps : List PV}
theorem v_var {i : Nat} (e : ρ[i]? = some (some p)) : cVar i ρ σ = .val p σ := by simp only [cVar, e]
theorem v_val : cVal p ρ σ = .val p σ := rfl
theorem v_bin {op : Operator} (hf : f ρ σ = .val a σ₁) (hg : g ρ σ₁ = .val b σ₂) (e : binV op a b = some c) : cBin op f g ρ σ = .val c σ₂ := by
  unfold cBin; rw [hf]; dsimp only [R.bind]; rw [hg]; dsimp only [R.bind]; rw [e]; rfl
theorem v_cmp {op : CmpOp} {r : Bool} (hf : f ρ σ = .val a σ₁) (hg : g ρ σ₁ = .val b σ₂) (e : cmpV op σ₂ a b = some r) : tCmp op f g ρ σ = .val r σ₂ := by
  unfold tCmp; rw [hf]; dsimp only [R.bind]; rw [hg]; dsimp only [R.bind]; rw [e]; rfl
theorem v_chain {op op' : CmpOp} {r r' : Bool} (hf : f ρ σ = .val a σ₁) (hg : g ρ σ₁ = .val b σ₂) (e : cmpV op σ₂ a b = some r) (hh : h ρ σ₂ = .val c σ₂) (e' : cmpV op' σ₂ b c = some r') : tChain op op' f g h ρ σ = .val (r && r') σ₂ := by
  unfold tChain; rw [hf]; dsimp only [R.bind]; rw [hg]; dsimp only [R.bind]; rw [e]; dsimp only [R.of, R.bind]
  cases r
  · rfl
  · rw [if_pos rfl, hh]; dsimp only [R.bind]; rw [e']; rfl
theorem v_neg {i : Int} (hf : f ρ σ = .val (.int i) σ₁) : cNeg f ρ σ = .val (.int (-i)) σ₁ := by unfold cNeg; rw [hf]; rfl
theorem v_not {r : Bool} (ht : t ρ σ = .val r σ₁) : tNot t ρ σ = .val (!r) σ₁ := by unfold tNot; rw [ht]; rfl
theorem v_and {r r' : Bool} (ht : t ρ σ = .val r σ₁) (hu : r = true → u ρ σ₁ = .val r' σ₁) : tBo .And t u ρ σ = .val (r && r') σ₁ := by
  unfold tBo; rw [ht]; dsimp only [R.bind]
  cases r
  · rfl
  · exact hu rfl
theorem v_or {r r' : Bool} (ht : t ρ σ = .val r σ₁) (hu : r = false → u ρ σ₁ = .val r' σ₁) : tBo .Or t u ρ σ = .val (r || r') σ₁ := by
  unfold tBo; rw [ht]; dsimp only [R.bind]
  cases r
  · exact hu rfl
  · rfl
theorem v_if {r : Bool} (ht : t ρ σ = .val r σ₁) (hf : r = true → f ρ σ₁ = .val p σ₂) (hg : r = false → g ρ σ₁ = .val q σ₂) : cIf t f g ρ σ = .val (bif r then p else q) σ₂ := by
  unfold cIf; rw [ht]; dsimp only [R.bind]
  cases r
  · exact hg rfl
  · exact hf rfl
theorem v_toV {r : Bool} (ht : t ρ σ = .val r σ₁) : toV t ρ σ = .val (.bool r) σ₁ := by unfold toV; rw [ht]; rfl
theorem v_asB {r : Bool} (hf : f ρ σ = .val (.bool r) σ₁) : asB f ρ σ = .val r σ₁ := by unfold asB; rw [hf]; rfl
theorem v_nil : cNil ρ σ = .val [] σ := rfl
theorem v_cons (hf : f ρ σ = .val a σ₁) (hg : gl ρ σ₁ = .val ps σ₂) : cCons f gl ρ σ = .val (a :: ps) σ₂ := by unfold cCons; rw [hf]; dsimp only [R.bind]; rw [hg]
theorem v_strs {ls : List (List Nat)} : cStrs ls ρ σ = .val (ls.map .str) σ := rfl
theorem v_tup (hg : gl ρ σ = .val ps σ₁) (hl : ps.length ≤ 1000) : cTup gl ρ σ = .val (.tup ps) σ₁ := by unfold cTup; rw [hg]; dsimp only [R.bind]; rw [if_pos hl]
theorem v_lst (hg : gl ρ σ = .val ps σ₁) (hl : ps.length ≤ 1000) : cLst gl ρ σ = .val (.lst ps) σ₁ := by unfold cLst; rw [hg]; dsimp only [R.bind]; rw [if_pos hl]
theorem v_call {F : List PV → Sto → R PV} (hg : gl ρ σ = .val ps σ₁) (e : F ps σ₁ = .val p σ₂) : cCall F gl ρ σ = .val p σ₂ := by unfold cCall; rw [hg]; exact e
theorem v_blt {B : Sto → List PV → Option PV} (hg : gl ρ σ = .val ps σ₁) (e : B σ₁ ps = some p) : cBlt B gl ρ σ = .val p σ₁ := by unfold cBlt; rw [hg]; dsimp only [R.bind]; rw [e]; rfl
theorem v_meth {B : Sto → List PV → Option PV} {l : List Nat} (hf : f ρ σ = .val (.str l) σ₁) (hg : gl ρ σ₁ = .val ps σ₂) (e : B σ₂ (.str l :: ps) = some p) : cMeth B f gl ρ σ = .val p σ₂ := by
  unfold cMeth; rw [hf]; dsimp only [R.bind]; rw [hg]; dsimp only [R.bind]; rw [e]; rfl
theorem v_idx (hf : f ρ σ = .val a σ₁) (hg : g ρ σ₁ = .val b σ₂) (e : idxV a b = some p) : cIdx f g ρ σ = .val p σ₂ := by
  unfold cIdx; rw [hf]; dsimp only [R.bind]; rw [hg]; dsimp only [R.bind]; rw [e]; rfl
theorem v_oint {i : Int} (hf : f ρ σ = .val (.int i) σ₁) (e : 0 ≤ i ∧ i < 1000000) : oInt f ρ σ = .val (some i) σ₁ := by unfold oInt; rw [hf]; dsimp only [R.bind]; rw [if_pos e]
theorem v_onone : oNone ρ σ = .val none σ := rfl
theorem v_sl {lo hi : Option Int} {go ho : Rho → Sto → R (Option Int)} {l : List Nat} (hf : f ρ σ = .val (.str l) σ₁) (hg : go ρ σ₁ = .val lo σ₂) (hh : ho ρ σ₂ = .val hi σ₃) (e : l.length ≤ 1000000) : cSl f go ho ρ σ = .val (.str (slL l lo hi)) σ₃ := by
  unfold cSl; rw [hf]; dsimp only [R.bind]; rw [hg]; dsimp only [R.bind]; rw [hh]; dsimp only [R.bind, slV]; rw [if_pos e]; rfl
theorem v_itup (hf : f ρ σ = .val (.tup ps) σ₁) : cItems f ρ σ = .val ps σ₁ := by unfold cItems; rw [hf]; rfl
theorem v_ilst (hf : f ρ σ = .val (.lst ps) σ₁) : cItems f ρ σ = .val ps σ₁ := by unfold cItems; rw [hf]; rfl
theorem v_istr {l : List Nat} (hf : f ρ σ = .val (.str l) σ₁) : cItems f ρ σ = .val (l.map fun c => .str [c]) σ₁ := by unfold cItems; rw [hf]; rfl
theorem v_range {xs : List PV} (hg : gl ρ σ = .val ps σ₁) (e : rngV ps = some xs) : cRange gl ρ σ = .val xs σ₁ := by unfold cRange; rw [hg]; dsimp only [R.bind]; rw [e]; rfl
variable {x y : Rho → Sto → R Ou} {r : R Ou}
theorem x_set {i : Nat} (hf : f ρ σ = .val p σ₁) : xSet i f ρ σ = .val (.nxt (ρ.set i (some p))) σ₁ := by unfold xSet; rw [hf]; rfl
theorem x_skip : xSkip ρ σ = .val (.nxt ρ) σ := rfl
theorem x_aug {op : Operator} {i : Nat} (ha : cVar i ρ σ = .val a σ) (hf : f ρ σ = .val b σ₁) (e : inpV op a b = some p) : xAug op i f ρ σ = .val (.nxt (ρ.set i (some p))) σ₁ := by
  unfold xAug; rw [ha]; dsimp only [R.bind]; rw [hf]; dsimp only [R.bind]; rw [e]; rfl
theorem x_ret (hf : f ρ σ = .val p σ₁) : xRet f ρ σ = .val (.ret p) σ₁ := by unfold xRet; rw [hf]; rfl
theorem x_seq (hx : x ρ σ = .val (.nxt ρ₁) σ₁) (hy : y ρ₁ σ₁ = r) : xSeq x y ρ σ = r := by unfold xSeq; rw [hx]; exact hy
theorem x_seq' (hx : x ρ σ = .val (.nxt ρ₁) σ₁) (e : ρ₁ = ρ₂) (hy : y ρ₂ σ₁ = r) : xSeq x y ρ σ = r := x_seq hx (e ▸ hy)
theorem x_seq_r (hx : x ρ σ = .val (.ret p) σ₁) : xSeq x y ρ σ = .val (.ret p) σ₁ := by unfold xSeq; rw [hx]; rfl
theorem x_if_t (ht : t ρ σ = .val true σ₁) (hx : x ρ σ₁ = r) : xIf t x y ρ σ = r := by unfold xIf; rw [ht]; exact hx
theorem x_if_f (ht : t ρ σ = .val false σ₁) (hy : y ρ σ₁ = r) : xIf t x y ρ σ = r := by unfold xIf; rw [ht]; exact hy
theorem x_asg {gr : PV → Rho → Option Rho} (hf : f ρ σ = .val p σ₁) (e : gr p ρ = some ρ₁) : xAsg gr f ρ σ = .val (.nxt ρ₁) σ₁ := by unfold xAsg; rw [hf]; dsimp only [R.bind]; rw [e]
theorem x_for {it : Rho → Sto → R (List PV)} {gr : PV → Rho → Option Rho} (hi : it ρ σ = .val ps σ₁) (e : xFold gr x ps ρ σ₁ = r) : xFor it gr x ρ σ = r := by unfold xFor; rw [hi]; exact e
theorem x_fold_nil {gr : PV → Rho → Option Rho} : xFold gr x [] ρ σ = .val (.nxt ρ) σ := rfl
theorem x_fold_cons {gr : PV → Rho → Option Rho} (e : gr p ρ = some ρ₁) (hx : x ρ₁ σ = .val (.nxt ρ₂) σ₁) (hr : xFold gr x ps ρ₂ σ₁ = r) : xFold gr x (p :: ps) ρ σ = r := by
  unfold xFold; rw [e]; dsimp only; rw [hx]; exact hr
theorem x_fold_ret {gr : PV → Rho → Option Rho} (e : gr p ρ = some ρ₁) (hx : x ρ₁ σ = .val (.ret q) σ₁) : xFold gr x (p :: ps) ρ σ = .val (.ret q) σ₁ := by
  unfold xFold; rw [e]; dsimp only; rw [hx]; rfl
theorem fn_ev {n m : Nat} {g : Rho → Sto → R Ou} {ps : List PV} {σ σ' τ : Sto} {p p' : PV} (hg : g (ps.map some ++ List.replicate m none) σ = .val (.ret p) σ') (hσ : σ' = σ ++ τ) (hn : ps.length = n) (hf : frz σ.length σ' 4 p = some p') : fnR n m g ps σ = .val p' σ := by
  subst hσ
  simp only [fnR, hn, if_true, hg, callR, hf, List.take_left]
/- A def that leaves the store alone and answers with a plain value. -/
theorem fn_ev0 {n m : Nat} {g : Rho → Sto → R Ou} {ps : List PV} {σ : Sto} {p : PV} (hg : g (ps.map some ++ List.replicate m none) σ = .val (.ret p) σ) (hn : ps.length = n) (hf : frz σ.length σ 4 p = some p) : fnR n m g ps σ = .val p σ :=
  fn_ev (τ := []) hg (List.append_nil σ).symm hn hf
theorem x_if_n {i : Nat} {r : Bool} {a b : Nat} (ht : t ρ σ = .val r σ) (hx : r = true → x ρ σ = .val (.nxt (ρ.set i (some (.int a)))) σ) (hs : ρ.set i (some (.int b)) = ρ) : xIf t x xSkip ρ σ = .val (.nxt (ρ.set i (some (.int (bif r then a else b : Nat))))) σ := by
  cases r
  · refine x_if_f ht ?_
    show _ = R.val (Ou.nxt (ρ.set i (some (.int b)))) σ
    rw [hs]; rfl
  · exact x_if_t ht (hx rfl)
theorem x_if_p {i : Nat} {r : Bool} (ht : t ρ σ = .val r σ) (hx : r = true → x ρ σ = .val (.nxt (ρ.set i (some a))) σ) (hs : ρ.set i (some b) = ρ) : xIf t x xSkip ρ σ = .val (.nxt (ρ.set i (some (bif r then a else b)))) σ := by
  cases r
  · refine x_if_f ht ?_
    show _ = R.val (Ou.nxt (ρ.set i (some b))) σ
    rw [hs]; rfl
  · exact x_if_t ht (hx rfl)
theorem x_ret_e (hf : f ρ σ = .exc σ₁) : xRet f ρ σ = .exc σ₁ := by unfold xRet; rw [hf]; rfl
theorem x_seq_e (hx : x ρ σ = .exc σ₁) : xSeq x y ρ σ = .exc σ₁ := by unfold xSeq; rw [hx]; rfl
theorem x_seq_t (hx : x ρ σ = .val .thr σ₁) : xSeq x y ρ σ = .val .thr σ₁ := by unfold xSeq; rw [hx]; rfl
theorem v_call_e {F : List PV → Sto → R PV} (hg : gl ρ σ = .val ps σ₁) (e : F ps σ₁ = .exc σ₂) : cCall F gl ρ σ = .exc σ₂ := by unfold cCall; rw [hg]; exact e
theorem v_cons_e (hf : f ρ σ = .exc σ₁) : cCons f gl ρ σ = .exc σ₁ := by unfold cCons; rw [hf]; rfl
theorem v_tup_e (hg : gl ρ σ = .exc σ₁) : cTup gl ρ σ = .exc σ₁ := by unfold cTup; rw [hg]; rfl
theorem fn_exc {n m : Nat} {g : Rho → Sto → R Ou} {ps : List PV} {σ σ' τ : Sto} (hg : g (ps.map some ++ List.replicate m none) σ = .exc σ') (hσ : σ' = σ ++ τ) (hn : ps.length = n) : fnR n m g ps σ = .exc σ := by
  subst hσ
  simp only [fnR, hn, if_true, hg, callR, List.take_left]
theorem fn_thr {n m : Nat} {g : Rho → Sto → R Ou} {ps : List PV} {σ σ' τ : Sto} (hg : g (ps.map some ++ List.replicate m none) σ = .val .thr σ') (hσ : σ' = σ ++ τ) (hn : ps.length = n) : fnR n m g ps σ = .exc σ := by
  subst hσ
  simp only [fnR, hn, if_true, hg, callR, List.take_left]
theorem fn_ev' {n m : Nat} {g : Rho → Sto → R Ou} {ps : List PV} {σ σ' σ₂ : Sto} {p p' : PV} (hg : g (ps.map some ++ List.replicate m none) σ = .val (.ret p) σ') (hσ : σ'.take σ.length = σ₂) (hn : ps.length = n) (hf : frz σ.length σ' 4 p = some p') : fnR n m g ps σ = .val p' σ₂ := by
  subst hσ
  simp only [fnR, hn, if_true, hg, callR, hf]
theorem fn_nxt {n m : Nat} {g : Rho → Sto → R Ou} {ps : List PV} {σ σ' σ₂ : Sto} {ρ' : Rho} (hg : g (ps.map some ++ List.replicate m none) σ = .val (.nxt ρ') σ') (hσ : σ'.take σ.length = σ₂) (hn : ps.length = n) : fnR n m g ps σ = .val .none σ₂ := by
  subst hσ
  simp only [fnR, hn, if_true, hg, callR]
theorem fn_exc' {n m : Nat} {g : Rho → Sto → R Ou} {ps : List PV} {σ σ' σ₂ : Sto} (hg : g (ps.map some ++ List.replicate m none) σ = .exc σ') (hσ : σ'.take σ.length = σ₂) (hn : ps.length = n) : fnR n m g ps σ = .exc σ₂ := by
  subst hσ
  simp only [fnR, hn, if_true, hg, callR]
theorem x_warn {F : List PV → Sto → R PV} {i j : Nat} (e : ρ[i]? = some (some (.host j))) (hg : gl ρ σ = .val ps σ₁) (hF : F (.host j :: ps) σ₁ = .val q σ₂) : xWarn F i gl ρ σ = .val (.nxt ρ) σ₂ := by
  unfold xWarn; rw [v_var e]; dsimp only [R.bind]; rw [hg]; dsimp only [R.bind]; rw [hF]
theorem x_append {j : Nat} {xs ys : List PV} (hf : f ρ σ = .val (.mref j) σ) (e : σ[j]? = some (.lst xs)) (hg : g ρ σ = .val p σ₁) (e' : σ₁[j]? = some (.lst ys)) (hc : closedN 6 p = true) (hl : ys.length < 1000000) : xAppend f g ρ σ = .val (.nxt ρ) (σ₁.set j (.lst (ys ++ [p]))) := by
  unfold xAppend; rw [hf]; dsimp only [R.bind]
  have : isLst σ j = true := by unfold isLst; rw [e]
  rw [if_pos this, hg]; dsimp only [R.bind]; rw [e']; dsimp only
  rw [if_pos (by rw [hc, decide_eq_true hl]; rfl)]
theorem x_swap {i j : Nat} (hf : f ρ σ = .val p σ₁) (hg : g ρ σ₁ = .val q σ₂) : xSwap i j f g ρ σ = .val (.nxt ((ρ.set j (some q)).set i (some p))) σ₂ := by
  unfold xSwap; rw [hf]; dsimp only [R.bind]; rw [hg]
theorem x_newlist {i : Nat} : xNewList i ρ σ = .val (.nxt (ρ.set i (some (.mref σ.length)))) (σ ++ [.lst []]) := rfl
theorem sto_get (σ : Sto) (x : MO) : (σ ++ [x])[σ.length]? = some x := by simp
theorem sto_set (σ : Sto) (x y : MO) : (σ ++ [x]).set σ.length y = σ ++ [y] := by simp
theorem sto_take (σ : Sto) (x y : MO) : (σ ++ [y]).take (σ ++ [x]).length = σ ++ [y] := List.take_of_length_le (by simp)
theorem to_eq {α : Type} {r : R α} {p q : α} {σ : Sto} (h : r = .val p σ) (e : p = q) : r = .val q σ := e ▸ h
end
/- ## Signs -/
theorem le1 (a b : Nat) : (!decide ([b] < [a])) = decide (a ≤ b) := by
  by_cases h : a ≤ b
  · have : ¬ ([b] < [a]) := by rw [List.cons_lt_cons_iff]; simp; omega
    rw [decide_eq_false this, decide_eq_true h]; rfl
  · have : [b] < [a] := by rw [List.cons_lt_cons_iff]; simp; omega
    rw [decide_eq_true this, decide_eq_false h]; rfl
theorem c_le (σ : Sto) (a b : Nat) : cmpV .LtE σ (.str [a]) (.str [b]) = some (decide (a ≤ b)) := congrArg some (le1 a b)
theorem c_lt (σ : Sto) (a b : Int) : cmpV .Lt σ (.int a) (.int b) = some (decide (a < b)) := rfl
theorem c_gt (σ : Sto) (a b : Int) : cmpV .Gt σ (.int a) (.int b) = some (decide (b < a)) := rfl
theorem c_ge (σ : Sto) (a b : Int) : cmpV .GtE σ (.int a) (.int b) = some (decide (b ≤ a)) := rfl
theorem c_lei (σ : Sto) (a b : Int) : cmpV .LtE σ (.int a) (.int b) = some (decide (a ≤ b)) := rfl
theorem c_eqs (σ : Sto) (a b : List Nat) : cmpV .Eq σ (.str a) (.str b) = some (a == b) := rfl
theorem c_nes (σ : Sto) (a b : List Nat) : cmpV .NotEq σ (.str a) (.str b) = some (!(a == b)) := rfl
theorem c_eqi (σ : Sto) (a b : Int) : cmpV .Eq σ (.int a) (.int b) = some (a == b) := rfl
theorem memS (a : List Nat) : ∀ ls : List (List Nat), memV (.str a) (ls.map .str) = some (ls.contains a)
  | [] => rfl
  | l :: ls => by
    have := memS a ls
    simp only [List.map_cons, memV, scal, ss, pvS, this, List.contains_cons]
    by_cases h : l = a
    · subst h; simp
    · have h1 : (l == a) = false := by simp [h]
      have h2 : (a == l) = false := by simp; exact fun z => h z.symm
      rw [h1, h2]
theorem c_in (σ : Sto) (a : List Nat) (ls : List (List Nat)) : cmpV .In σ (.str a) (.tup (ls.map .str)) = some (ls.contains a) := memS a ls
theorem c_nin (σ : Sto) (a : List Nat) (ls : List (List Nat)) : cmpV .NotIn σ (.str a) (.tup (ls.map .str)) = some (!ls.contains a) := by
  show (memV (.str a) (ls.map .str)).map (!·) = _
  rw [memS]; rfl
theorem bLen_s {l : List Nat} {σ : Sto} (h : l.length ≤ 1000000) : bLen σ [.str l] = some (.int l.length) := if_pos h
theorem idxV_n {p q : PV} {a : Nat} (hl : a < 1000000) (h : idxN p a = some q) : idxV p (.int a) = some q := by
  have : (0 ≤ (a : Int) ∧ (a : Int) < 1000000) := by omega
  unfold idxV
  rw [show ∀ f : Int → Option PV, pvI (.int (a : Int)) f = f a from fun _ => rfl, if_pos this, Int.toNat_natCast]
  exact h
theorem idx_s {l : List Nat} {a c : Nat} (h : l[a]? = some c) (hl : a < 1000000) : idxV (.str l) (.int a) = some (.str [c]) := idxV_n hl (congrArg (Option.map fun c => PV.str [c]) h)
theorem idx_l {l : List PV} {a : Nat} {p : PV} (h : l[a]? = some p) (hl : a < 1000000) : idxV (.lst l) (.int a) = some p := idxV_n hl h
theorem idx_t {l : List PV} {a : Nat} {p : PV} (h : l[a]? = some p) (hl : a < 1000000) : idxV (.tup l) (.int a) = some p := idxV_n hl h
theorem idx_sd {l : List Nat} {a : Nat} (h : a < l.length) (hl : l.length ≤ 1000000) : idxV (.str l) (.int a) = some (.str [l.getD a 0]) := by
  refine idx_s ?_ (by omega)
  rw [List.getElem?_eq_getElem h, List.getD_eq_getElem?_getD, List.getElem?_eq_getElem h]; rfl
theorem lt_of_dec {a b : Nat} (h : decide ((a : Int) < (b : Int)) = true) : a < b := by have := of_decide_eq_true h; omega
theorem eqi (a b : Nat) : ((a : Int) == (b : Int)) = (a == b) := by rw [Bool.eq_iff_iff, beq_iff_eq, beq_iff_eq]; omega
theorem len0 : ([] : List PV).length ≤ 1000 := by decide
theorem len1 (a : PV) : [a].length ≤ 1000 := Nat.le_of_ble_eq_true rfl
theorem len2 (a b : PV) : [a, b].length ≤ 1000 := Nat.le_of_ble_eq_true rfl
theorem len3 (a b c : PV) : [a, b, c].length ≤ 1000 := Nat.le_of_ble_eq_true rfl
theorem len4 (a b c d : PV) : [a, b, c, d].length ≤ 1000 := Nat.le_of_ble_eq_true rfl
theorem c_in2 (σ : Sto) (b x y : Int) : cmpV .In σ (.int b) (.tup [.int x, .int y]) = some (x == b || (y == b || false)) := rfl
theorem bMin_i (σ : Sto) (a b : Int) : bMin σ [.int a, .int b] = some (.int (min a b)) := rfl
theorem bMax_i (σ : Sto) (a b : Int) : bMax σ [.int a, .int b] = some (.int (max a b)) := rfl
theorem b_adds {a b : List Nat} (h : a.length + b.length ≤ 1000000) : binV .Add (.str a) (.str b) = some (.str (a ++ b)) := if_pos h
theorem dec_lt (a b : Nat) : decide ((a : Int) < (b : Int)) = decide (a < b) := by by_cases h : a < b <;> simp [h]
theorem b_add1 (a : Nat) : binV .Add (.int a) (.int 1) = some (.int ((a + 1 : Nat) : Int)) := rfl
theorem b_add2 (a : Nat) : binV .Add (.int a) (.int 2) = some (.int ((a + 2 : Nat) : Int)) := rfl
theorem b_add (a b : Int) : binV .Add (.int a) (.int b) = some (.int (a + b)) := rfl
theorem b_sub (a b : Int) : binV .Sub (.int a) (.int b) = some (.int (a - b)) := rfl
theorem b_mul (a : Int) {b : Int} (h : b.natAbs < 2 ^ 64) : binV .Mult (.int a) (.int b) = some (.int (a * b)) := if_pos (Or.inr h)
theorem b_mul' {a : Int} (b : Int) (h : a.natAbs < 2 ^ 64) : binV .Mult (.int a) (.int b) = some (.int (a * b)) := if_pos (Or.inl h)
theorem b_div (a : Int) {b : Int} (h : 0 < b ∧ b ≤ 2 ^ 64) : binV .FloorDiv (.int a) (.int b) = some (.int (a / b)) := if_pos h
theorem b_mod (a : Int) {b : Int} (h : 0 < b ∧ b ≤ 2 ^ 64) : binV .Mod (.int a) (.int b) = some (.int (a % b)) := if_pos h
theorem b_pow {a n : Int} (h : 0 ≤ n ∧ n ≤ 1000 ∧ a.natAbs < 2 ^ 64) : binV .Pow (.int a) (.int n) = some (.int (a ^ n.toNat)) := if_pos h
theorem i_add1 (a : Nat) : inpV .Add (.int a) (.int 1) = some (.int ((a + 1 : Nat) : Int)) := rfl
theorem i_add2 (a : Nat) : inpV .Add (.int a) (.int 2) = some (.int ((a + 2 : Nat) : Int)) := rfl
theorem i_sub1 (a : Nat) : inpV .Sub (.int ((a + 1 : Nat) : Int)) (.int 1) = some (.int a) := by
  show some (PV.int _) = _
  congr 2; omega
theorem bOrd_s (σ : Sto) (c : Nat) : bOrd σ [.str [c]] = some (.int c) := rfl
/- The sign at a place, or nothing. -/
noncomputable def ch (l : List Nat) (a : Nat) : List Nat := (l.take (a + 1)).drop a
theorem ch_eq (l : List Nat) (a : Nat) : ch l a = (l.drop a).take 1 := by unfold ch; rw [List.drop_take, Nat.add_sub_cancel_left]
theorem ch_lt {l : List Nat} {a : Nat} (h : a < l.length) : ch l a = [l.getD a 0] := by
  rw [ch_eq, List.drop_eq_getElem_cons h, List.getD_eq_getElem?_getD, List.getElem?_eq_getElem h]; rfl
theorem ch_ge {l : List Nat} {a : Nat} (h : ¬ a < l.length) : ch l a = [] := by rw [ch_eq, List.drop_eq_nil_of_le (by omega)]; rfl
theorem ch_len (l : List Nat) (a : Nat) : (ch l a).length ≤ 1 := by rw [ch_eq, List.length_take]; omega
theorem v_ch {f g h : Rho → Sto → R PV} {l : List Nat} {a : Nat} {ρ : Rho} {σ : Sto} (hf : f ρ σ = .val (.str l) σ) (hg : g ρ σ = .val (.int a) σ) (hh : h ρ σ = .val (.int ((a + 1 : Nat) : Int)) σ) (hl : l.length ≤ 1000000) (ha : a < 999999) :
    cSl f (oInt g) (oInt h) ρ σ = .val (.str (ch l a)) σ :=
  to_eq (v_sl hf (v_oint hg (by omega)) (v_oint hh (by omega)) hl) rfl
/- ## Loops that run along a text -/
noncomputable def scan (q : Nat → Bool) (l : List Nat) (a : Nat) : Nat := a + ((l.drop a).takeWhile q).length
theorem scan_le (q : Nat → Bool) (l : List Nat) (a : Nat) (h : a ≤ l.length) : scan q l a ≤ l.length := by
  have := (List.takeWhile_sublist (p := q) (l := l.drop a)).length_le
  rw [List.length_drop] at this
  unfold scan; omega
theorem scan_step {q : Nat → Bool} {l : List Nat} {a : Nat} (h : a < l.length) (hq : q (l.getD a 0) = true) : scan q l (a + 1) = scan q l a := by
  unfold scan
  rw [List.drop_eq_getElem_cons h]
  have : q l[a] = true := by rw [List.getD_eq_getElem?_getD, List.getElem?_eq_getElem h] at hq; exact hq
  rw [List.takeWhile_cons_of_pos this, List.length_cons]; omega
theorem scan_stop {q : Nat → Bool} {l : List Nat} {a : Nat} (h : a < l.length) (hq : q (l.getD a 0) = false) : scan q l a = a := by
  unfold scan
  rw [List.drop_eq_getElem_cons h]
  have : ¬ q l[a] = true := by rw [List.getD_eq_getElem?_getD, List.getElem?_eq_getElem h] at hq; simpa using hq
  rw [List.takeWhile_cons_of_neg this]; rfl
theorem scan_end {q : Nat → Bool} {l : List Nat} {a : Nat} (h : ¬ a < l.length) : scan q l a = a := by
  unfold scan
  rw [List.drop_eq_nil_of_le (by omega)]; rfl
theorem sub_step {l a n : Nat} (h : l - a < n + 1) (h2 : a < l) : l - (a + 1) < n := by omega
theorem mod_nat (n : Int) {k : Int} (h : 0 < k) : ((n % k).toNat : Int) = n % k := Int.toNat_of_nonneg (Int.emod_nonneg _ (Int.ne_of_gt h))
theorem sub_swap {m i : Nat} (h : i < m) : m - i = m - 1 - i + 1 := by rw [Nat.sub_sub, Nat.add_comm 1, ← Nat.sub_sub, Nat.sub_add_cancel (Nat.sub_pos_of_lt h)]
theorem x_scan {t : Rho → Sto → R Bool} {f : Rho → Sto → R Ou} {σ : Sto} {S : Nat → Rho} {q : Nat → Bool} {l : List Nat} (ht : ∀ a, a ≤ l.length → t (S a) σ = .val (decide (a < l.length) && q (l.getD a 0)) σ)
    (hf : ∀ a, a < l.length → f (S a) σ = .val (.nxt (S (a + 1))) σ) : ∀ n a, a ≤ l.length → l.length - a < n → xLoop t f n (S a) σ = .val (.nxt (S (scan q l a))) σ
  | 0, a, h, hn => absurd hn (by omega)
  | n + 1, a, h, hn => by
    unfold xLoop
    rw [ht a h]
    by_cases hlt : a < l.length
    · cases hq : q (l.getD a 0)
      · rw [decide_eq_true hlt, scan_stop hlt hq]; rfl
      · rw [decide_eq_true hlt, ← scan_step hlt hq]
        simp only [Bool.and_self, R.quiet, R.bind, if_true]
        rw [hf a hlt]
        exact x_scan ht hf n (a + 1) hlt (sub_step hn hlt)
    · rw [decide_eq_false hlt, scan_end hlt]; rfl
theorem rng1 {a b : Nat} : rngL (a : Int) (b : Int) 1 = (List.range' a (b - a)).map fun (i : Nat) => PV.int i := by
  unfold rngL
  rw [List.range'_eq_map_range, List.map_map]
  have : (if (a : Int) < (b : Int) then ((b : Int) - a - 1) / 1 + 1 else 0).toNat = b - a := by
    rw [Int.ediv_one, Int.sub_add_cancel]
    split
    · exact Int.toNat_sub b a
    · rw [Nat.sub_eq_zero_of_le (by omega)]; rfl
  rw [this]
  refine List.map_congr_left fun i _ => ?_
  show PV.int _ = PV.int _
  congr 1; simp
theorem rng1v {a b : Nat} (ha : a ≤ 1000000) (hb : b ≤ 1000000) : rngV [.int a, .int b] = some ((List.range' a (b - a)).map fun (i : Nat) => PV.int i) := by
  rw [← rng1]
  exact if_pos ⟨by omega, by omega⟩
theorem drop_cons {l : List Nat} {i : Nat} (h : i < l.length) : l.drop i = l.getD i 0 :: l.drop (i + 1) := by
  rw [List.drop_eq_getElem_cons h, List.getD_eq_getElem?_getD, List.getElem?_eq_getElem h]; rfl
theorem dt_cons {l : List Nat} {i n : Nat} (h : i < l.length) : (l.drop i).take (n + 1) = l.getD i 0 :: (l.drop (i + 1)).take n := by
  rw [drop_cons h, List.take_succ_cons]
noncomputable def isDg (c : Nat) : Bool := decide (48 ≤ c) && decide (c ≤ 57)
noncomputable def dgAt (l : List Nat) (a : Nat) : Bool := decide (a < l.length) && isDg (l.getD a 0)
theorem dgAt_lt {l : List Nat} {a : Nat} (h : dgAt l a = true) : a < l.length := by
  unfold dgAt at h; rw [Bool.and_eq_true] at h; exact of_decide_eq_true h.1
noncomputable def blL : List (List Nat) := [[32], [9], [10], [13], [11], [12]]
noncomputable def isBl (c : Nat) : Bool := c == 32 || (decide (9 ≤ c) && decide (c ≤ 13))
noncomputable def dv (l : List Nat) : Nat := match l with
  | [c] => if 48 ≤ c ∧ c ≤ 57 then c - 48 else if 97 ≤ c ∧ c ≤ 122 then c - 87 else if 65 ≤ c ∧ c ≤ 90 then c - 55 else 99
  | _ => 99
end Mine.Internal
/- P1 -/
namespace Mine.Internal
section
local macro_rules | `(tactic| trivial) => `(tactic| repeat' first | (with_reducible first | exact v_val | exact v_nil | exact v_strs | exact v_onone | apply v_cons | apply v_bin | apply v_cmp | apply v_chain | apply v_neg | apply v_not | apply v_toV | apply v_asB | apply v_tup | apply v_lst | apply v_call | apply v_blt | apply v_meth | apply v_idx | apply v_sl | apply v_oint | apply x_set | apply x_ret | apply x_aug | exact c_le .. | exact c_lt .. | exact c_gt .. | exact c_ge .. | exact c_lei .. | exact c_eqs .. | exact c_nes .. | exact c_eqi .. | exact b_add1 .. | exact b_add2 .. | exact b_add .. | exact b_sub .. | exact bOrd_s .. | exact i_add1 .. | exact i_add2 .. | exact i_sub1 .. | exact bMin_i .. | exact bMax_i .. | exact c_in2 .. | exact len1 .. | exact len2 .. | exact len3 .. | exact len4 .. | exact len0) | ((with_reducible apply v_var); exact rfl) | ((with_reducible apply bLen_s); omega))
theorem f_is_digit (l : List Nat) (a : Nat) (σ : Sto) (hl : l.length ≤ 1000000) : F_is_digit [.str l, .int a] σ = .val (.bool (dgAt l a)) σ := by
  apply fn_ev0 _ rfl rfl
  apply x_ret; apply v_toV; apply to_eq
  · apply v_and
    · trivial
      trivial
    · intro h
      have h' := lt_of_dec h
      trivial
      exact idx_sd h' hl
      trivial
      trivial
  · unfold dgAt isDg; rw [dec_lt]
theorem f_digits_behind (l : List Nat) (a : Nat) (σ : Sto) (hl : l.length ≤ 900) (ha : a ≤ l.length) : F_digits_behind [.str l, .int a] σ = .val (.int (scan isDg l a)) σ := by
  apply fn_ev0 _ rfl rfl
  unfold g_digits_behind
  apply x_seq
  · refine x_scan (S := fun a => [some (.str l), some (.int a)]) (q := isDg) (l := l) (fun b hb => ?_) (fun b hb => ?_) _ _ ha (by omega)
    · trivial
      exact f_is_digit l b σ (by omega)
    · trivial
      rfl
  · trivial
theorem bl_small : ∀ c < 33, blL.contains [c] = isBl c ∧ [[32], [9], [10], [11], [12], [13]].contains [c] = isBl c := by decide
theorem bl_big {c : Nat} (h : ¬ c < 33) {ls : List (List Nat)} (hl : ∀ l ∈ ls, ∀ x ∈ l, x < 33) : ls.contains [c] = isBl c := by
  have h1 : isBl c = false := by
    unfold isBl
    rw [beq_eq_false_iff_ne.mpr (by omega), decide_eq_false (by omega : ¬ c ≤ 13), Bool.and_false]; rfl
  rw [h1]
  cases q : ls.contains [c]
  · rfl
  · exact (h (hl _ (List.contains_iff_mem.mp q) c (.head _))).elim
theorem bl_eq (c : Nat) : blL.contains [c] = isBl c :=
  if h : c < 33 then (bl_small c h).1 else bl_big h (by decide)
theorem f_blanks_behind (l : List Nat) (a : Nat) (σ : Sto) (hl : l.length ≤ 900) (ha : a ≤ l.length) : F_blanks_behind [.str l, .int a] σ = .val (.int (scan isBl l a)) σ := by
  apply fn_ev0 _ rfl rfl
  unfold g_blanks_behind
  have hl' : l.length ≤ 1000000 := by omega
  apply x_seq
  · refine x_scan (S := fun a => [some (.str l), some (.int a)]) (q := isBl) (l := l) (fun b hb => ?_) (fun b hb => ?_) _ _ ha (by omega)
    · apply to_eq
      · apply v_and
        · trivial
          trivial
        · intro h
          have h' := lt_of_dec h
          trivial
          exact idx_sd h' hl'
          decide
          exact c_in _ _ blL
      · rw [dec_lt, bl_eq]
    · trivial
      rfl
  · trivial
theorem f_is_blank (c : Nat) (σ : Sto) : F_is_blank [.str [c]] σ = .val (.bool (isBl c)) σ := by
  apply fn_ev0 _ rfl rfl
  apply x_ret; apply v_toV; apply to_eq
  · trivial
    decide
    exact c_in _ _ [[32], [9], [10], [11], [12], [13]]
  · exact if h : c < 33 then (bl_small c h).2 else bl_big h (by decide)
/- P2 -/
theorem f_kind_s (l : List Nat) (σ : Sto) : F_kind [.str l] σ = .val (.str [115, 116, 114, 105, 110, 103]) σ := fn_ev0 (by rfl) rfl rfl
theorem f_kind_i (i : Int) (σ : Sto) : F_kind [.int i] σ = .val (.str [105, 110, 116]) σ := fn_ev0 (by rfl) rfl rfl
theorem f_kind_n (σ : Sto) : F_kind [.none] σ = .val (.str [110, 117, 108, 108]) σ := fn_ev0 (by rfl) rfl rfl
theorem f_kind_b (b : Bool) (σ : Sto) : F_kind [.bool b] σ = .val (.str [98, 111, 111, 108]) σ := fn_ev0 (by rfl) rfl rfl
theorem f_kind_a (σ : Sto) : F_kind [.inst 316] σ = .val (.str [97, 114, 114, 97, 121]) σ := fn_ev0 (by rfl) rfl rfl
theorem f_least (σ : Sto) : F_least [] σ = .val (.int (-9223372036854775808)) σ := fn_ev0 (by rfl) rfl rfl
theorem f_greatest (σ : Sto) : F_greatest [] σ = .val (.int 9223372036854775807) σ := fn_ev0 (by rfl) rfl rfl
theorem f_given_i (i : Int) (σ : Sto) : F_given [.int i] σ = .val (.str [105, 110, 116]) σ := fn_ev0 (by unfold g_given; exact x_seq (by rfl) (x_ret (v_call (by rfl) (f_kind_i i σ)))) rfl rfl
theorem f_given_n (σ : Sto) : F_given [.none] σ = .val (.str [110, 117, 108, 108]) σ := fn_ev0 (by unfold g_given; exact x_seq (by rfl) (x_ret (v_call (by rfl) (f_kind_n σ)))) rfl rfl
theorem f_given_b (b : Bool) (σ : Sto) : F_given [.bool b] σ = .val (.str [98, 111, 111, 108]) σ := fn_ev0 (by unfold g_given; exact x_seq (by rfl) (x_ret (v_call (by rfl) (f_kind_b b σ)))) rfl rfl
theorem f_given_a (σ : Sto) : F_given [.inst 316] σ = .val (.str [97, 114, 114, 97, 121]) σ := fn_ev0 (by unfold g_given; exact x_seq (by rfl) (x_ret (v_call (by rfl) (f_kind_a σ)))) rfl rfl
theorem f_digit_value_nil (σ : Sto) : F_digit_value [.str []] σ = .val (.int 99) σ := fn_ev0 (by rfl) rfl rfl
theorem f_digit_value_one (c : Nat) (σ : Sto) : F_digit_value [.str [c]] σ = .val (.int (dv [c] : Nat)) σ := by
  apply fn_ev0 _ rfl rfl
  unfold g_digit_value
  by_cases h1 : 48 ≤ c ∧ c ≤ 57
  · apply x_seq_r
    apply x_if_t
    · apply to_eq
      · trivial
        trivial
      · simp [h1]
    · apply to_eq
      · trivial
        trivial
      · simp only [dv, if_pos h1]; congr 2; omega
  apply x_seq
  · apply x_if_f
    · apply to_eq
      · trivial
        trivial
      · simp; omega
    · exact x_skip
  by_cases h2 : 97 ≤ c ∧ c ≤ 122
  · apply x_seq_r
    apply x_if_t
    · apply to_eq
      · trivial
        trivial
      · simp [h2]
    · apply to_eq
      · trivial
        trivial
      · simp only [dv, if_neg h1, if_pos h2]; congr 2; omega
  apply x_seq
  · apply x_if_f
    · apply to_eq
      · trivial
        trivial
      · simp; omega
    · exact x_skip
  by_cases h3 : 65 ≤ c ∧ c ≤ 90
  · apply x_seq_r
    apply x_if_t
    · apply to_eq
      · trivial
        trivial
      · simp [h3]
    · apply to_eq
      · trivial
        trivial
      · simp only [dv, if_neg h1, if_neg h2, if_pos h3]; congr 2; omega
  apply x_seq
  · apply x_if_f
    · apply to_eq
      · trivial
        trivial
      · simp; omega
    · exact x_skip
  simp only [dv, if_neg h1, if_neg h2, if_neg h3]
  exact x_ret rfl
theorem f_digit_value (s : List Nat) (h : s.length ≤ 1) (σ : Sto) : F_digit_value [.str s] σ = .val (.int (dv s : Nat)) σ := by
  match s, h with
  | [], _ => exact f_digit_value_nil σ
  | [c], _ => exact f_digit_value_one c σ
theorem f_has_mark (l : List Nat) (a : Nat) (ls : List (List Nat)) (σ : Sto) (hl : l.length ≤ 900) (ha : a ≤ l.length + 2) : F_has_mark [.str l, .int a, .tup (ls.map .str)] σ = .val (.bool (ch l a == [48] && ls.contains (ch l (a + 1)))) σ := by
  apply fn_ev0 _ rfl rfl
  unfold g_has_mark
  apply x_ret; apply v_toV; apply v_and
  · apply v_asB; apply v_toV; apply v_cmp
    · exact v_ch (by trivial) (by trivial) (by trivial) (by omega) (by omega)
    · trivial
    · trivial
  · intro _
    apply v_asB; apply v_toV; apply v_cmp
    · exact v_ch (a := a + 1) (by trivial) (by trivial) (by trivial) (by omega) (by omega)
    · trivial
    · exact c_in _ _ _
/- P3 -/
noncomputable def sgs : List (List Nat) := [[43], [45]]
noncomputable def sgnV (m : Bool) (n : Nat) : PV := if (bif m then -(n : Int) else n) < -9223372036854775808 ∨ 9223372036854775807 < (bif m then -(n : Int) else n) then .none else .int (bif m then -(n : Int) else n)
theorem f_signed (m : Bool) (n : Nat) (σ : Sto) : F_signed [.bool m, .int n] σ = .val (sgnV m n) σ := by
  have hset : (xSet 2 (cIf (asB (cVar 0)) (cNeg (cVar 1)) (cVar 1))) [some (.bool m), some (.int n), none] σ = .val (.nxt [some (.bool m), some (.int n), some (.int (bif m then -(n : Int) else n))]) σ := by
    cases m <;> rfl
  unfold sgnV
  by_cases h : (bif m then -(n : Int) else n) < -9223372036854775808 ∨ 9223372036854775807 < (bif m then -(n : Int) else n)
  · rw [if_pos h]
    apply fn_ev0 _ rfl rfl
    unfold g_signed
    apply x_seq hset
    apply x_seq_r
    apply x_if_t
    · apply to_eq
      · apply v_or
        · trivial
          exact f_least _
          trivial
        · intro _
          trivial
          exact f_greatest _
          trivial
      · simpa using h
    · exact x_ret rfl
  · rw [if_neg h]
    apply fn_ev0 _ rfl rfl
    unfold g_signed
    apply x_seq hset
    apply x_seq
    · apply x_if_f
      · apply to_eq
        · apply v_or
          · trivial
            exact f_least _
            trivial
          · intro _
            trivial
            exact f_greatest _
            trivial
        · simpa using h
      · exact x_skip
    · exact x_ret rfl
noncomputable def exB (l : List Nat) (a : Nat) : Nat := if [[101], [69]].contains (ch l a) = true then (let f := bif sgs.contains (ch l (a + 1)) then a + 2 else a + 1; if dgAt l f = true then scan isDg l f else a) else a
theorem f_exponent_behind (l : List Nat) (a : Nat) (σ : Sto) (hl : l.length ≤ 900) (ha : a ≤ l.length) : F_exponent_behind [.str l, .int a] σ = .val (.int (exB l a : Nat)) σ := by
  apply fn_ev0 _ rfl rfl
  unfold g_exponent_behind exB
  have e1 : ∀ b, b ≤ l.length + 2 → ∀ ρ : Rho, ρ[0]? = some (some (.str l)) → ∀ i, ρ[i]? = some (some (.int b)) → cSl (cVar 0) (oInt (cVar i)) (oInt (cBin .Add (cVar i) (cVal (.int 1)))) ρ σ = .val (.str (ch l b)) σ := fun b hb ρ h0 i hi =>
    v_ch (v_var h0) (v_var hi) (v_bin (v_var hi) v_val (b_add1 b)) (by omega) (by omega)
  by_cases h : [[101], [69]].contains (ch l a) = true
  · rw [if_pos h]
    apply x_seq
    · apply x_if_f
      · apply to_eq
        · apply v_cmp
          · exact e1 a (by omega) _ rfl 1 rfl
          · trivial
          · exact c_nin _ _ [[101], [69]]
        · rw [h]; rfl
      · exact x_skip
    apply x_seq
    · trivial
    apply x_seq
    · refine x_if_n (i := 2) (a := a + 2) (b := a + 1) (r := sgs.contains (ch l (a + 1))) ?_ (fun _ => ?_) rfl
      · apply v_cmp
        · exact e1 (a + 1) (by omega) _ rfl 2 rfl
        · trivial
        · exact c_in _ _ [[43], [45]]
      · trivial
    · show xSeq _ _ [some (.str l), some (.int a), some (.int (bif sgs.contains (ch l (a + 1)) then a + 2 else a + 1 : Nat))] σ = _
      generalize hf : (bif sgs.contains (ch l (a + 1)) then a + 2 else a + 1) = f
      dsimp only
      by_cases hd : dgAt l f = true
      · rw [if_pos hd]
        have : f < l.length := by unfold dgAt at hd; simp at hd; exact hd.1
        apply x_seq_r
        apply x_if_t
        · apply to_eq
          · trivial
            exact f_is_digit l f σ (by omega)
          · exact hd
        · trivial
          exact f_digits_behind l f σ hl (by omega)
      · rw [if_neg hd]
        apply x_seq
        · apply x_if_f
          · apply to_eq
            · trivial
              exact f_is_digit l f σ (by omega)
            · simpa using hd
          · exact x_skip
        · exact x_ret rfl
  · rw [if_neg h]
    apply x_seq_r
    apply x_if_t
    · apply to_eq
      · apply v_cmp
        · exact e1 a (by omega) _ rfl 1 rfl
        · trivial
        · exact c_nin _ _ [[101], [69]]
      · simpa using h
    · exact x_ret rfl
noncomputable def dcl : List Nat → Nat → Nat
  | [], v => v
  | c :: cs, v => if 9223372036854775808 < v * 10 + c - 48 then 9223372036854775809 else dcl cs (v * 10 + c - 48)
theorem f_digits_value (l : List Nat) (a b : Nat) (σ : Sto) (hl : l.length ≤ 900) (ha : a ≤ l.length) (hb : b ≤ l.length) (hd : ∀ c ∈ (l.take b).drop a, isDg c = true) : F_digits_value [.str l, .int a, .int b] σ = .val (.int (dcl ((l.take b).drop a) 0 : Nat)) σ := by
  have key : ∀ n i v o, i + n ≤ l.length → (∀ c ∈ (l.drop i).take n, isDg c = true) →
      ∀ w, w = dcl ((l.drop i).take n) v →
      (xFold (aOne 4) (xSeq (xSet 3 (cBin .Sub (cBin .Add (cBin .Mult (cVar 3) (cVal (.int 10))) (cBlt bOrd (cCons (cIdx (cVar 0) (cVar 4)) cNil))) (cVal (.int 48)))) (xIf (tCmp .Gt (cVar 3) (cBin .Pow (cVal (.int 2)) (cVal (.int 63)))) (xRet (cBin .Add (cBin .Pow (cVal (.int 2)) (cVal (.int 63))) (cVal (.int 1)))) xSkip)) ((List.range' i n).map fun (i : Nat) => PV.int i) [some (.str l), some (.int a), some (.int b), some (.int (v : Nat)), o] σ = .val (.ret (.int (w : Nat))) σ ∨
       ∃ o', xFold (aOne 4) (xSeq (xSet 3 (cBin .Sub (cBin .Add (cBin .Mult (cVar 3) (cVal (.int 10))) (cBlt bOrd (cCons (cIdx (cVar 0) (cVar 4)) cNil))) (cVal (.int 48)))) (xIf (tCmp .Gt (cVar 3) (cBin .Pow (cVal (.int 2)) (cVal (.int 63)))) (xRet (cBin .Add (cBin .Pow (cVal (.int 2)) (cVal (.int 63))) (cVal (.int 1)))) xSkip)) ((List.range' i n).map fun (i : Nat) => PV.int i) [some (.str l), some (.int a), some (.int b), some (.int (v : Nat)), o] σ = .val (.nxt [some (.str l), some (.int a), some (.int b), some (.int (w : Nat)), o']) σ) := by
    intro n
    induction n with
    | zero => intro i v o _ _ w hw; subst hw; exact .inr ⟨o, by simp [xFold, dcl]⟩
    | succ n ih =>
      intro i v o hi hc w hw
      have hil : i < l.length := by omega
      have hsp : (l.drop i).take (n + 1) = l.getD i 0 :: (l.drop (i + 1)).take n := by
        rw [List.drop_eq_getElem_cons hil, List.take_succ_cons, List.getD_eq_getElem?_getD, List.getElem?_eq_getElem hil]; rfl
      rw [hsp] at hc hw
      have h48 : 48 ≤ l.getD i 0 := by
        have := hc _ (List.mem_cons_self ..)
        unfold isDg at this; simp only [Bool.and_eq_true, decide_eq_true_eq] at this; exact this.1
      generalize hcd : l.getD i 0 = c at *
      have hset : (xSet 3 (cBin .Sub (cBin .Add (cBin .Mult (cVar 3) (cVal (.int 10))) (cBlt bOrd (cCons (cIdx (cVar 0) (cVar 4)) cNil))) (cVal (.int 48)))) [some (.str l), some (.int a), some (.int b), some (.int (v : Nat)), some (.int i)] σ = .val (.nxt [some (.str l), some (.int a), some (.int b), some (.int ((v * 10 + c - 48 : Nat) : Int)), some (.int i)]) σ := by
        apply to_eq
        · trivial
          · exact b_mul _ (by decide)
          · exact idx_sd hil (by omega)
          · exact bOrd_s _ _
          · trivial
          · trivial
        · rw [hcd]
          have : ((v : Int) * 10 + c - 48) = ((v * 10 + c - 48 : Nat) : Int) := by omega
          rw [← this]; rfl
      rw [List.range'_succ, List.map_cons]
      simp only [dcl] at hw
      by_cases hgt : 9223372036854775808 < v * 10 + c - 48
      · left
        rw [if_pos hgt] at hw
        subst hw
        simp only [xFold, aOne, List.set_cons_succ, List.set_cons_zero]
        rw [x_seq hset (x_if_t (to_eq (v_cmp (v_var rfl) (v_bin v_val v_val rfl) (c_gt _ _ _)) (by simp; omega)) (x_ret (v_bin (v_bin v_val v_val rfl) v_val rfl)))]
        rfl
      · rw [if_neg hgt] at hw
        have := ih (i + 1) (v * 10 + c - 48) (some (.int i)) (by omega) (fun c' hc' => hc c' (List.mem_cons_of_mem _ hc')) w hw
        simp only [xFold, aOne, List.set_cons_succ, List.set_cons_zero]
        rw [x_seq hset (x_if_f (to_eq (v_cmp (v_var rfl) (v_bin v_val v_val rfl) (c_gt _ _ _)) (by simp; omega)) x_skip)]
        exact this
  apply fn_ev0 _ rfl rfl
  unfold g_digits_value
  apply x_seq
  · trivial
  have hdt : (l.take b).drop a = (l.drop a).take (b - a) := by rw [List.drop_take]
  rw [hdt] at hd ⊢
  have hitems : cRange (cCons (cVar 1) (cCons (cVar 2) cNil)) [some (.str l), some (.int a), some (.int b), some (.int 0), none] σ = .val ((List.range' a (b - a)).map fun (i : Nat) => PV.int i) σ := by
    exact v_range (by trivial) (rng1v (by omega) (by omega))
  rcases key (b - a) a 0 none (by omega) hd _ rfl with h | ⟨o, h⟩
  · exact x_seq_r (x_for hitems h)
  · exact x_seq (x_for hitems h) (x_ret (v_var rfl))
/- P4 -/
theorem ch_some {l : List Nat} {a c : Nat} (h : ch l a = [c]) : a < l.length := by
  by_cases hh : a < l.length
  · exact hh
  · rw [ch_ge hh] at h; cases h
theorem in_some {l : List Nat} {a : Nat} {ls : List (List Nat)} (hn : ls.contains [] = false) (h : ls.contains (ch l a) = true) : a < l.length := by
  by_cases hh : a < l.length
  · exact hh
  · rw [ch_ge hh, hn] at h; cases h
theorem exB_le (l : List Nat) (a : Nat) (ha : a ≤ l.length) : exB l a ≤ l.length := by
  unfold exB
  dsimp only
  split
  · split
    · rename_i h
      exact scan_le _ _ _ (Nat.le_of_lt (dgAt_lt h))
    · exact ha
  · exact ha
noncomputable def nF (l : List Nat) : Nat := scan isBl l 0
noncomputable def nS (l : List Nat) : Nat := bif sgs.contains (ch l (nF l)) then nF l + 1 else nF l
noncomputable def nM (l : List Nat) : Bool := ch l (nF l) == [45]
noncomputable def nB (l : List Nat) : Nat := scan isDg l (nS l)
noncomputable def nP (l : List Nat) : Bool := ch l (nB l) == [46] && (decide (nS l < nB l) || dgAt l (nB l + 1))
noncomputable def nF0 (l : List Nat) : Nat := bif nP l then scan isDg l (nB l + 1) else nB l
noncomputable def nX (l : List Nat) : Nat := exB l (nF0 l)
noncomputable def nV (l : List Nat) : PV := bif nX l == nB l then sgnV (nM l) (dcl ((l.take (nB l)).drop (nS l)) 0) else .none
noncomputable def nZ (l : List Nat) : Bool := nB l == nS l && !nP l
noncomputable def nW (l : List Nat) : Bool := scan isBl l (nX l) == l.length
noncomputable def numV (l : List Nat) : PV := bif nZ l then .tup [.int 0, .int 0] else bif nW l then .tup [.int 2, nV l] else .tup [.int 1, nV l]
theorem nF_le (l : List Nat) : nF l ≤ l.length := scan_le _ _ _ (Nat.zero_le _)
theorem nS_le (l : List Nat) : nS l ≤ l.length := by
  unfold nS
  cases h : sgs.contains (ch l (nF l))
  · exact nF_le l
  · exact in_some rfl h
theorem nB_le (l : List Nat) : nB l ≤ l.length := scan_le _ _ _ (nS_le l)
theorem nF0_le (l : List Nat) : nF0 l ≤ l.length := by
  unfold nF0
  cases h : nP l
  · exact nB_le l
  · unfold nP at h
    simp only [Bool.and_eq_true, beq_iff_eq] at h
    exact scan_le _ _ _ (ch_some h.1)
theorem nX_le (l : List Nat) : nX l ≤ l.length := exB_le _ _ (nF0_le l)
theorem sgnV_frz (m : Bool) (n : Nat) (lo : Nat) (σ : Sto) : frz lo σ 3 (sgnV m n) = some (sgnV m n) := by unfold sgnV; split <;> rfl
theorem nV_frz (l : List Nat) (lo : Nat) (σ : Sto) : frz lo σ 3 (nV l) = some (nV l) := by
  unfold nV
  cases nX l == nB l
  · rfl
  · exact sgnV_frz _ _ _ _
theorem frz_tup2 {lo : Nat} {σ : Sto} {a b : PV} (ha : frz lo σ 3 a = some a) (hb : frz lo σ 3 b = some b) : frz lo σ 4 (.tup [a, b]) = some (.tup [a, b]) := by
  show ([a, b].mapM (frz lo σ 3)).map PV.tup = _
  simp only [List.mapM_cons, List.mapM_nil, ha, hb]; rfl
theorem takeWhile_all {q : Nat → Bool} : ∀ (l : List Nat), ∀ c ∈ l.takeWhile q, q c = true
  | [], c, h => by cases h
  | x :: xs, c, h => by
    by_cases hx : q x = true
    · rw [List.takeWhile_cons_of_pos hx] at h
      rcases List.mem_cons.1 h with e | e
      · exact e ▸ hx
      · exact takeWhile_all xs c e
    · rw [List.takeWhile_cons_of_neg hx] at h; cases h
theorem slice_scan (q : Nat → Bool) (l : List Nat) (a : Nat) : (l.take (scan q l a)).drop a = (l.drop a).takeWhile q := by
  unfold scan
  rw [List.drop_take, Nat.add_sub_cancel_left]
  have := List.takeWhile_prefix q (l := l.drop a)
  exact (List.prefix_iff_eq_take.1 this).symm
theorem f_numeric (l : List Nat) (σ : Sto) (hl : l.length ≤ 900) : F_numeric [.str l] σ = .val (numV l) σ := by
  have e1 : ∀ b, b ≤ l.length + 2 → ∀ ρ : Rho, ρ[0]? = some (some (.str l)) → ∀ i, ρ[i]? = some (some (.int b)) → cSl (cVar 0) (oInt (cVar i)) (oInt (cBin .Add (cVar i) (cVal (.int 1)))) ρ σ = .val (.str (ch l b)) σ := fun b hb ρ h0 i hi =>
    v_ch (v_var h0) (v_var hi) (v_bin (v_var hi) v_val (b_add1 b)) (by omega) (by omega)
  have hF := nF_le l
  have hS := nS_le l
  have hB := nB_le l
  have hX := nX_le l
  have hfr : frz σ.length σ 4 (numV l) = some (numV l) := by
    unfold numV
    have hnv := nV_frz l σ.length σ
    generalize nV l = z at hnv ⊢
    generalize nW l = w
    generalize nZ l = u
    cases u
    · cases w <;> exact frz_tup2 rfl hnv
    · rfl
  apply fn_ev0 _ rfl hfr
  unfold g_numeric
  apply x_seq' (ρ₂ := [some (.str l), some (.int (nF l)), none, none, none, none, none])
  · trivial
    exact f_blanks_behind l 0 σ hl (Nat.zero_le _)
  · rfl
  apply x_seq' (ρ₂ := [some (.str l), some (.int (nF l)), some (.bool (nM l)), none, none, none, none])
  · apply x_set; apply v_toV; apply v_cmp
    · exact e1 (nF l) (by omega) _ rfl 1 rfl
    · trivial
    · trivial
  · rfl
  apply x_seq' (ρ₂ := [some (.str l), some (.int (nS l)), some (.bool (nM l)), none, none, none, none])
  · refine x_if_n (i := 1) (a := nF l + 1) (b := nF l) (r := sgs.contains (ch l (nF l))) ?_ (fun _ => ?_) rfl
    · apply v_cmp
      · exact e1 (nF l) (by omega) _ rfl 1 rfl
      · trivial
      · exact c_in _ _ [[43], [45]]
    · trivial
  · rfl
  apply x_seq' (ρ₂ := [some (.str l), some (.int (nS l)), some (.bool (nM l)), some (.int (nB l)), none, none, none])
  · trivial
    exact f_digits_behind l (nS l) σ hl hS
  · rfl
  apply x_seq' (ρ₂ := [some (.str l), some (.int (nS l)), some (.bool (nM l)), some (.int (nB l)), some (.bool (nP l)), none, none])
  · apply x_set; apply v_toV; apply v_and
    · apply v_asB; apply v_toV; apply v_cmp
      · exact e1 (nB l) (by omega) _ rfl 3 rfl
      · trivial
      · trivial
    · intro _
      apply v_asB; apply v_toV; apply to_eq
      · apply v_or
        · trivial
          trivial
        · intro _
          trivial
          exact f_is_digit l (nB l + 1) σ (by omega)
      · rw [dec_lt]
  · rfl
  by_cases hz : nZ l = true
  · unfold numV
    rw [hz]
    apply x_seq_r
    apply x_if_t
    · apply to_eq
      · apply v_and
        · trivial
          trivial
        · intro _
          trivial
      · rw [← hz]; unfold nZ; rw [eqi]
    · refine x_ret ?_
      show _ = R.val (PV.tup [.int 0, .int 0]) σ
      trivial
  rw [Bool.not_eq_true] at hz
  have hnum : numV l = bif nW l then .tup [.int 2, nV l] else .tup [.int 1, nV l] := by unfold numV; simp only [hz, cond_false]
  rw [hnum]
  apply x_seq
  · apply x_if_f
    · apply to_eq
      · apply v_and
        · trivial
          trivial
        · intro _
          trivial
      · rw [← hz]; unfold nZ; rw [eqi]
    · exact x_skip
  apply x_seq' (ρ₂ := [some (.str l), some (.int (nS l)), some (.bool (nM l)), some (.int (nB l)), some (.bool (nP l)), some (.int (nB l)), none])
  · trivial
  · rfl
  apply x_seq' (ρ₂ := [some (.str l), some (.int (nS l)), some (.bool (nM l)), some (.int (nB l)), some (.bool (nP l)), some (.int (nF0 l)), none])
  · refine x_if_n (i := 5) (a := scan isDg l (nB l + 1)) (b := nB l) (r := nP l) ?_ (fun h => ?_) rfl
    · trivial
    · unfold nP at h
      simp only [Bool.and_eq_true, beq_iff_eq] at h
      trivial
      exact f_digits_behind l (nB l + 1) σ hl (ch_some h.1)
  · rfl
  apply x_seq' (ρ₂ := [some (.str l), some (.int (nS l)), some (.bool (nM l)), some (.int (nB l)), some (.bool (nP l)), some (.int (nX l)), none])
  · trivial
    exact f_exponent_behind l (nF0 l) σ hl (nF0_le l)
  · rfl
  apply x_seq' (ρ₂ := [some (.str l), some (.int (nS l)), some (.bool (nM l)), some (.int (nB l)), some (.bool (nP l)), some (.int (nX l)), some .none])
  · trivial
  · rfl
  apply x_seq' (ρ₂ := [some (.str l), some (.int (nS l)), some (.bool (nM l)), some (.int (nB l)), some (.bool (nP l)), some (.int (nX l)), some (nV l)])
  · refine x_if_p (i := 6) (a := sgnV (nM l) (dcl ((l.take (nB l)).drop (nS l)) 0)) (b := .none) (r := nX l == nB l) ?_ (fun h => ?_) rfl
    · apply to_eq
      · trivial
        trivial
      · exact eqi _ _
    · trivial
      · refine f_digits_value l (nS l) (nB l) σ hl hS hB ?_
        unfold nB
        rw [slice_scan]
        exact takeWhile_all _
      trivial
      exact f_signed _ _ _
  · rfl
  have hw : (tCmp .Eq (cCall F_blanks_behind (cCons (cVar 0) (cCons (cVar 5) cNil))) (cBlt bLen (cCons (cVar 0) cNil))) [some (.str l), some (.int (nS l)), some (.bool (nM l)), some (.int (nB l)), some (.bool (nP l)), some (.int (nX l)), some (nV l)] σ = .val (nW l) σ := by
    apply to_eq
    · trivial
      · exact f_blanks_behind l (nX l) σ hl hX
      trivial
    · unfold nW; exact eqi _ _
  cases hww : nW l
  · rw [hww] at hw
    apply x_seq (x_if_f hw x_skip)
    simp only [cond_false]
    trivial
  · rw [hww] at hw
    apply x_seq_r (x_if_t hw _)
    simp only [cond_true]
    trivial
theorem f_is_numeric (h : PV) (l : List Nat) (σ : Sto) (hl : l.length ≤ 900) : F_php_is_numeric [h, .lst [.str l]] σ = .val (.bool (!nZ l && nW l)) σ := by
  apply fn_ev0 _ rfl rfl
  unfold g_php_is_numeric
  apply x_seq_r
  apply x_if_t
  · apply to_eq
    · trivial
      · exact idx_l (a := 0) rfl (by decide)
      · exact f_kind_s l σ
      trivial
    · rfl
  · apply x_ret; apply to_eq
    · apply v_toV; apply v_cmp
      · apply v_idx
        · trivial
          · exact idx_l (a := 0) rfl (by decide)
          · exact f_numeric l σ hl
        · trivial
        · show idxV (numV l) (.int 0) = some (.int (bif nZ l then 0 else bif nW l then 2 else 1))
          unfold numV
          generalize nV l = z
          generalize nW l = w
          generalize nZ l = u
          cases u <;> cases w <;> rfl
      · trivial
      · trivial
    · generalize nW l = w
      generalize nZ l = u
      cases u <;> cases w <;> rfl
theorem f_number_of (l : List Nat) (σ : Sto) (hl : l.length ≤ 900) : F_number_of [.str l] σ = match (bif nZ l then .int 0 else nV l) with | .int i => .val (.int i) σ | _ => .exc σ := by
  have hs : (xSet 1 (cIdx (cCall F_numeric (cCons (cVar 0) cNil)) (cVal (.int 1)))) [some (.str l), none] σ = .val (.nxt [some (.str l), some (bif nZ l then .int 0 else nV l)]) σ := by
    apply x_set (p := bif nZ l then .int 0 else nV l)
    apply v_idx
    · trivial
      exact f_numeric l σ hl
    · trivial
    · unfold numV
      generalize nV l = z
      generalize nW l = w
      generalize nZ l = u
      cases u
      · cases w <;> rfl
      · rfl
  have hv : (∃ i, (bif nZ l then PV.int 0 else nV l) = .int i) ∨ (bif nZ l then PV.int 0 else nV l) = .none := by
    have h1 : (∃ i, nV l = .int i) ∨ nV l = .none := by
      unfold nV
      generalize (nX l == nB l) = u
      cases u
      · exact .inr rfl
      · rw [cond_true]; unfold sgnV
        split
        · exact .inr rfl
        · exact .inl ⟨_, rfl⟩
    generalize nV l = z at h1 ⊢
    generalize nZ l = u
    cases u
    · exact h1
    · exact .inl ⟨_, rfl⟩
  rcases hv with ⟨i, hi⟩ | hi
  · rw [hi] at hs ⊢
    apply fn_ev0 _ rfl rfl
    exact x_seq hs (x_seq (x_if_f (v_cmp (v_var rfl) v_val rfl) x_skip) (x_ret (v_var rfl)))
  · rw [hi] at hs ⊢
    apply fn_thr (τ := []) _ (List.append_nil σ).symm rfl
    exact x_seq hs (x_seq_t (x_if_t (v_cmp (v_var rfl) v_val rfl) rfl))
/- P5 -/
noncomputable def xX : List (List Nat) := [[120], [88]]
noncomputable def bB : List (List Nat) := [[98], [66]]
noncomputable def oO : List (List Nat) := [[111], [79]]
noncomputable def baC (l : List Nat) (a b : Nat) : Bool := ((0 : Nat) == b || ((16 : Nat) == b || false)) && ((ch l a == [48] && xX.contains (ch l (a + 1))) && decide (dv (ch l (a + 2)) < 16))
noncomputable def baB (l : List Nat) (a b : Nat) : Nat := bif baC l a b then 16 else bif b == 0 then (bif ch l a == [48] then 8 else 10) else b
noncomputable def baA (l : List Nat) (a b : Nat) : Nat := bif baC l a b then a + 2 else a
theorem f_base_at (l : List Nat) (a b : Nat) (σ : Sto) (hl : l.length ≤ 900) (ha : a ≤ l.length) : F_base_at [.str l, .int a, .int b] σ = .val (.tup [.int (baB l a b : Nat), .int (baA l a b : Nat)]) σ := by
  apply fn_ev0 _ rfl rfl
  unfold g_base_at
  have hc : (tBo .And (tCmp .In (cVar 2) (cTup (cCons (cVal (.int 0)) (cCons (cVal (.int 16)) cNil)))) (tBo .And (asB (cCall F_has_mark (cCons (cVar 0) (cCons (cVar 1) (cCons (cTup (cCons (cVal (.str [120])) (cCons (cVal (.str [88])) cNil))) cNil))))) (tCmp .Lt (cCall F_digit_value (cCons (cSl (cVar 0) (oInt (cBin .Add (cVar 1) (cVal (.int 2)))) (oInt (cBin .Add (cVar 1) (cVal (.int 3))))) cNil)) (cVal (.int 16))))) [some (.str l), some (.int a), some (.int b)] σ = .val (baC l a b) σ := by
    apply to_eq
    · apply v_and
      · trivial
      · intro _
        apply v_and
        · trivial
          exact f_has_mark l a xX σ hl (by omega)
        · intro _
          apply v_cmp
          · apply v_call
            · apply v_cons
              · exact v_ch (a := a + 2) (by trivial) (by trivial) (v_bin (v_var rfl) v_val rfl) (by omega) (by omega)
              · trivial
            · exact f_digit_value _ (ch_len _ _) σ
          · trivial
          · trivial
    · unfold baC
      congr 1
      · congr 1
        · rw [Bool.eq_iff_iff, beq_iff_eq, beq_iff_eq]; omega
        · congr 1
          rw [Bool.eq_iff_iff, beq_iff_eq, beq_iff_eq]; omega
      · congr 1
        rw [decide_eq_decide]; omega
  unfold baB baA
  cases h : baC l a b
  · rw [h] at hc
    apply x_seq (x_if_f hc x_skip)
    simp only [cond_false]
    by_cases hb : b = 0
    · subst hb
      apply x_seq_r
      apply x_if_t (v_cmp (v_var rfl) v_val rfl)
      have hcl : (cIf (tCmp .Eq (cSl (cVar 0) (oInt (cVar 1)) (oInt (cBin .Add (cVar 1) (cVal (.int 1))))) (cVal (.str [48]))) (cVal (.int 8)) (cVal (.int 10))) [some (.str l), some (.int a), some (.int 0)] σ = .val (.int (bif ch l a == [48] then 8 else 10 : Nat)) σ := by
        apply to_eq
        · apply v_if
          · apply v_cmp
            · exact v_ch (a := a) (by trivial) (by trivial) (by trivial) (by omega) (by omega)
            · trivial
            · trivial
          · intro _; trivial
          · intro _; trivial
        · cases (ch l a == [48]) <;> rfl
      exact x_ret (v_tup (v_cons hcl (v_cons (v_var rfl) v_nil)) (len2 _ _))
    · have hb0 : (b == 0) = false := by simpa using hb
      apply x_seq
      · apply x_if_f
        · apply to_eq
          · trivial
          · rw [Bool.eq_false_iff]; simp; omega
        · exact x_skip
      · rw [hb0]
        exact x_ret (v_tup (v_cons (v_var rfl) (v_cons (v_var rfl) v_nil)) (len2 _ _))
  · rw [h] at hc
    apply x_seq_r (x_if_t hc _)
    simp only [cond_true]
    exact x_ret (v_tup (v_cons v_val (v_cons (v_bin (v_var rfl) v_val (b_add2 a)) v_nil)) (len2 _ _))
noncomputable def clamp (b : Nat) : List Nat → Nat → Nat
  | [], v => v
  | c :: cs, v => bif decide (dv [c] < b) then clamp b cs (min (v * b + dv [c]) 9223372036854775808) else v
noncomputable def cut (m : Bool) (v : Nat) : Int := bif m then max (-(v : Int)) (-9223372036854775808) else min (v : Int) 9223372036854775807
noncomputable def stP (l : List Nat) (b : Nat) : Int := cut (nM l) (clamp (baB l (nS l) b) (l.drop (baA l (nS l) b)) 0)
theorem baB_lt {l : List Nat} {a b : Nat} (h : b ≤ 36) : baB l a b ≤ 36 := by
  unfold baB
  cases baC l a b
  · cases (b == 0)
    · exact h
    · cases (ch l a == [48]) <;> exact Nat.le_of_ble_eq_true rfl
  · exact Nat.le_of_ble_eq_true rfl
theorem baA_le {l : List Nat} {a b : Nat} (h : a ≤ l.length) : baA l a b ≤ l.length := by
  unfold baA
  cases hc : baC l a b
  · exact h
  · unfold baC at hc
    simp only [Bool.and_eq_true] at hc
    have := in_some (ls := xX) rfl hc.2.1.2
    show a + 2 ≤ _; omega
theorem f_strtol_bad (l : List Nat) (b : Int) (σ : Sto) (h : b < 0 ∨ b = 1 ∨ 36 < b) : F_strtol [.str l, .int b] σ = .val (.int 0) σ := by
  apply fn_ev0 _ rfl rfl
  unfold g_strtol
  apply x_seq_r
  apply x_if_t
  · apply to_eq
    · apply v_or
      · trivial
      · intro _
        apply v_or
        · trivial
        · intro _
          trivial
    · simpa using h
  · exact x_ret v_val
theorem f_strtol (l : List Nat) (b : Nat) (σ : Sto) (hl : l.length ≤ 900) (hb : b ≤ 36) (hb1 : b ≠ 1) : F_strtol [.str l, .int b] σ = .val (.int (stP l b)) σ := by
  have hF := nF_le l
  have hS := nS_le l
  have e1 : ∀ b, b ≤ l.length + 2 → ∀ ρ : Rho, ρ[0]? = some (some (.str l)) → ∀ i, ρ[i]? = some (some (.int b)) → cSl (cVar 0) (oInt (cVar i)) (oInt (cBin .Add (cVar i) (cVal (.int 1)))) ρ σ = .val (.str (ch l b)) σ := fun b hb ρ h0 i hi =>
    v_ch (v_var h0) (v_var hi) (v_bin (v_var hi) v_val (b_add1 b)) (by omega) (by omega)
  apply fn_ev0 _ rfl rfl
  unfold g_strtol
  apply x_seq
  · apply x_if_f
    · apply to_eq
      · apply v_or
        · trivial
        · intro _
          apply v_or
          · trivial
          · intro _
            trivial
      · simp; omega
    · exact x_skip
  apply x_seq' (ρ₂ := [some (.str l), some (.int b), some (.int (nF l)), none, none])
  · trivial
    exact f_blanks_behind l 0 σ hl (Nat.zero_le _)
  · rfl
  apply x_seq' (ρ₂ := [some (.str l), some (.int b), some (.int (nF l)), some (.bool (nM l)), none])
  · apply x_set; apply v_toV; apply v_cmp
    · exact e1 (nF l) (by omega) _ rfl 2 rfl
    · trivial
    · trivial
  · rfl
  apply x_seq' (ρ₂ := [some (.str l), some (.int b), some (.int (nS l)), some (.bool (nM l)), none])
  · refine x_if_n (i := 2) (a := nF l + 1) (b := nF l) (r := sgs.contains (ch l (nF l))) ?_ (fun _ => ?_) rfl
    · apply v_cmp
      · exact e1 (nF l) (by omega) _ rfl 2 rfl
      · trivial
      · exact c_in _ _ [[43], [45]]
    · trivial
  · rfl
  have hB := baB_lt (l := l) (a := nS l) hb
  have hA := baA_le (b := b) hS
  unfold stP
  generalize nM l = m
  apply x_seq' (ρ₂ := [some (.str l), some (.int (baB l (nS l) b)), some (.int (baA l (nS l) b)), some (.bool m), none])
  · exact x_asg (v_call (v_cons (v_var rfl) (v_cons (v_var rfl) (v_cons (v_var rfl) v_nil))) (f_base_at l (nS l) b σ hl hS)) rfl
  · rfl
  generalize baB l (nS l) b = B at hB ⊢
  generalize baA l (nS l) b = a at hA ⊢
  apply x_seq' (ρ₂ := [some (.str l), some (.int B), some (.int a), some (.bool m), some (.int (0 : Nat))])
  · trivial
  · rfl
  have key : ∀ n a v, a ≤ l.length → l.length - a < n → ∃ a', xLoop (tCmp .Lt (cCall F_digit_value (cCons (cSl (cVar 0) (oInt (cVar 2)) (oInt (cBin .Add (cVar 2) (cVal (.int 1))))) cNil)) (cVar 1)) (xSeq (xSet 4 (cBlt bMin (cCons (cBin .Add (cBin .Mult (cVar 4) (cVar 1)) (cCall F_digit_value (cCons (cIdx (cVar 0) (cVar 2)) cNil))) (cCons (cBin .Pow (cVal (.int 2)) (cVal (.int 63))) cNil))))
    (xAug .Add 2 (cVal (.int 1)))) n [some (.str l), some (.int B), some (.int a), some (.bool m), some (.int (v : Nat))] σ = .val (.nxt [some (.str l), some (.int B), some (.int (a' : Nat)), some (.bool m), some (.int (clamp B (l.drop a) v : Nat))]) σ := by
    intro n
    induction n with
    | zero => intro a v h hn; omega
    | succ n ih =>
      intro a v h hn
      have ht : (tCmp .Lt (cCall F_digit_value (cCons (cSl (cVar 0) (oInt (cVar 2)) (oInt (cBin .Add (cVar 2) (cVal (.int 1))))) cNil)) (cVar 1)) [some (.str l), some (.int B), some (.int a), some (.bool m), some (.int (v : Nat))] σ = .val (decide (dv (ch l a) < B)) σ := by
        apply to_eq
        · apply v_cmp
          · exact v_call (v_cons (e1 a (by omega) _ rfl 2 rfl) v_nil) (f_digit_value _ (ch_len _ _) σ)
          · trivial
          · trivial
        · exact dec_lt _ _
      unfold xLoop
      rw [ht]
      by_cases hlt : a < l.length
      · have hd : l.drop a = l.getD a 0 :: l.drop (a + 1) := by
          rw [List.drop_eq_getElem_cons hlt, List.getD_eq_getElem?_getD, List.getElem?_eq_getElem hlt]; rfl
        rw [hd, ch_lt hlt]
        unfold clamp
        cases hdv : decide (dv [l.getD a 0] < B)
        · exact ⟨a, rfl⟩
        · have hb : (xSeq (xSet 4 (cBlt bMin (cCons (cBin .Add (cBin .Mult (cVar 4) (cVar 1)) (cCall F_digit_value (cCons (cIdx (cVar 0) (cVar 2)) cNil))) (cCons (cBin .Pow (cVal (.int 2)) (cVal (.int 63))) cNil)))) (xAug .Add 2 (cVal (.int 1)))) [some (.str l), some (.int B), some (.int a), some (.bool m), some (.int (v : Nat))] σ = .val (.nxt [some (.str l), some (.int B), some (.int ((a + 1 : Nat) : Int)), some (.bool m), some (.int ((min (v * B + dv [l.getD a 0]) 9223372036854775808 : Nat) : Int))]) σ := by
            apply x_seq' (ρ₂ := [some (.str l), some (.int B), some (.int a), some (.bool m), some (.int ((min (v * B + dv [l.getD a 0]) 9223372036854775808 : Nat) : Int))])
            · trivial
              · exact b_mul _ (by omega)
              · exact idx_sd hlt (by omega)
              · exact f_digit_value_one _ σ
              trivial
              · exact b_pow (by decide)
              trivial
            · have : (min ((v : Int) * B + (dv [l.getD a 0] : Nat)) ((2 : Int) ^ (63 : Int).toNat)) = ((min (v * B + dv [l.getD a 0]) 9223372036854775808 : Nat) : Int) := by
                have : ((2 : Int) ^ (63 : Int).toNat) = 9223372036854775808 := by decide
                rw [this]; omega
              rw [← this]; rfl
            · exact x_aug (v_var rfl) v_val (i_add1 a)
          obtain ⟨a', h'⟩ := ih (a + 1) (min (v * B + dv [l.getD a 0]) 9223372036854775808) hlt (sub_step hn hlt)
          refine ⟨a', ?_⟩
          simp only [R.quiet, R.bind, if_true, cond_true]
          rw [hb]
          exact h'
      · rw [ch_ge hlt, List.drop_eq_nil_of_le (by omega)]
        have : decide (dv [] < B) = false := decide_eq_false (by show ¬ (99 < B); omega)
        rw [this]
        exact ⟨a, rfl⟩
  obtain ⟨a', h'⟩ := key 1000 a 0 hA (by omega)
  apply x_seq h'
  generalize clamp B (l.drop a) 0 = v
  unfold cut
  cases m
  · apply x_ret; apply to_eq
    · apply v_if (q := .int (min (v : Int) 9223372036854775807)) (p := .none)
      · trivial
      · intro h; cases h
      · intro _
        trivial
        exact f_greatest σ
        trivial
    · rfl
  · apply x_ret; apply to_eq
    · apply v_if (p := .int (max (-(v : Int)) (-9223372036854775808))) (q := .none)
      · trivial
      · intro _
        trivial
        exact f_least σ
        trivial
      · intro h; cases h
    · rfl
/- P6 -/
noncomputable def wmC (l : List Nat) (ls : List (List Nat)) : Bool := decide ((2 : Int) < (l.length : Int) - (nF l : Int)) && (ch l (nS l) == [48] && ls.contains (ch l (nS l + 1)))
noncomputable def wmP (l : List Nat) (ls : List (List Nat)) : List Nat := bif wmC l ls then (l.take (nS l)).drop (nF l) ++ l.drop (nS l + 2) else l
theorem wm_len (l : List Nat) (ls : List (List Nat)) : (wmP l ls).length ≤ 2 * l.length := by
  unfold wmP
  cases wmC l ls
  · show l.length ≤ _; omega
  · rw [cond_true, List.length_append, Nat.two_mul]
    exact Nat.add_le_add (Nat.le_trans (List.drop_sublist _ _).length_le (List.take_sublist _ _).length_le) (List.drop_sublist _ _).length_le
theorem f_without_mark (l : List Nat) (ls : List (List Nat)) (σ : Sto) (hl : l.length ≤ 900) : F_without_mark [.str l, .tup (ls.map .str)] σ = .val (.str (wmP l ls)) σ := by
  have hF := nF_le l
  have hS := nS_le l
  apply fn_ev0 _ rfl rfl
  unfold g_without_mark
  apply x_seq' (ρ₂ := [some (.str l), some (.tup (ls.map .str)), some (.int (nF l)), none])
  · trivial
    exact f_blanks_behind l 0 σ hl (Nat.zero_le _)
  · rfl
  apply x_seq' (ρ₂ := [some (.str l), some (.tup (ls.map .str)), some (.int (nF l)), some (.int (nS l))])
  · apply x_set; apply to_eq (q := PV.int (nS l))
    · apply v_if
      · apply v_cmp
        · exact v_ch (a := nF l) (by trivial) (by trivial) (by trivial) (by omega) (by omega)
        · trivial
        · exact c_in _ _ sgs
      · intro _; trivial
      · intro _; trivial
    · unfold nS; cases sgs.contains (ch l (nF l)) <;> rfl
  · rfl
  have hc : (tBo .And (tCmp .Gt (cBin .Sub (cBlt bLen (cCons (cVar 0) cNil)) (cVar 2)) (cVal (.int 2))) (asB (cCall F_has_mark (cCons (cVar 0) (cCons (cVar 3) (cCons (cVar 1) cNil)))))) [some (.str l), some (.tup (ls.map .str)), some (.int (nF l)), some (.int (nS l))] σ = .val (wmC l ls) σ := by
    apply v_and
    · trivial
      trivial
    · intro _
      trivial
      exact f_has_mark l (nS l) ls σ hl (by omega)
  unfold wmP
  cases h : wmC l ls
  · rw [h] at hc
    exact x_seq (x_if_f hc x_skip) (x_ret (v_var rfl))
  · rw [h] at hc
    apply x_seq_r (x_if_t hc _)
    rw [cond_true]
    apply x_ret; apply v_bin
    · apply to_eq (q := PV.str ((l.take (nS l)).drop (nF l)))
      · apply v_sl (by trivial) (v_oint (v_var rfl) (by omega)) (v_oint (v_var rfl) (by omega)) (by omega)
      · rfl
    · apply to_eq (q := PV.str (l.drop (nS l + 2)))
      · apply v_sl (by trivial) (v_oint (v_bin (v_var rfl) v_val (b_add2 (nS l))) (by omega)) v_onone (by omega)
      · show PV.str ((l.take l.length).drop (nS l + 2)) = _
        rw [List.take_length]
    · exact b_adds (Nat.le_trans (Nat.add_le_add (Nat.le_trans (List.drop_sublist _ _).length_le (List.take_sublist _ _).length_le) (List.drop_sublist _ _).length_le) (by omega))
noncomputable def stI (l : List Nat) (b : Int) : Int := if b < 0 ∨ b = 1 ∨ 36 < b then 0 else stP l b.toNat
theorem f_strtol' (l : List Nat) (b : Int) (σ : Sto) (hl : l.length ≤ 900) : F_strtol [.str l, .int b] σ = .val (.int (stI l b)) σ := by
  unfold stI
  by_cases h : b < 0 ∨ b = 1 ∨ 36 < b
  · rw [if_pos h]; exact f_strtol_bad l b σ h
  · rw [if_neg h]
    obtain ⟨n, rfl⟩ : ∃ n : Nat, b = n := ⟨b.toNat, by omega⟩
    exact f_strtol l n σ hl (by omega) (by omega)
noncomputable def ibC (l : List Nat) (b : Int) (ls : List (List Nat)) (th : Int) : Bool := ((0 : Int) == b || (th == b || false)) && !(wmP l ls == l)
noncomputable def ibP (l : List Nat) (b : Int) : Int := bif ibC l b bB 2 then stI (wmP l bB) 2 else bif ibC l b oO 8 then stI (wmP l oO) 8 else stI l b
theorem f_int_in_base (l : List Nat) (b : Int) (σ : Sto) (hl : l.length ≤ 450) : F_int_in_base [.str l, .int b] σ = .val (.int (ibP l b)) σ := by
  have body : ∀ (ls : List (List Nat)) (th : Int) (o : Option PV), ∃ o', (xIf (tCmp .In (cVar 1) (cTup (cCons (cVal (.int 0)) (cCons (cVar 3) cNil)))) (xSeq (xSet 4 (cCall F_without_mark (cCons (cVar 0) (cCons (cVar 2) cNil))))
    (xIf (tCmp .NotEq (cVar 4) (cVar 0)) (xRet (cCall F_strtol (cCons (cVar 4) (cCons (cVar 3) cNil)))) xSkip)) xSkip) [some (.str l), some (.int b), some (.tup (ls.map .str)), some (.int th), o] σ = bif ibC l b ls th then .val (.ret (.int (stI (wmP l ls) th))) σ else .val (.nxt [some (.str l), some (.int b), some (.tup (ls.map .str)), some (.int th), o']) σ := by
    intro ls th o
    have hm : (tCmp .In (cVar 1) (cTup (cCons (cVal (.int 0)) (cCons (cVar 3) cNil)))) [some (.str l), some (.int b), some (.tup (ls.map .str)), some (.int th), o] σ = .val ((0 : Int) == b || (th == b || false)) σ := by
      trivial
    unfold ibC
    cases h1 : ((0 : Int) == b || (th == b || false))
    · rw [h1] at hm
      exact ⟨o, x_if_f hm x_skip⟩
    · rw [h1] at hm
      refine ⟨some (.str (wmP l ls)), x_if_t hm (x_seq (x_set (v_call (v_cons (v_var rfl) (v_cons (v_var rfl) v_nil)) (f_without_mark l ls σ (by omega)))) ?_)⟩
      have hne : (tCmp .NotEq (cVar 4) (cVar 0)) [some (.str l), some (.int b), some (.tup (ls.map .str)), some (.int th), some (.str (wmP l ls))] σ = .val (!(wmP l ls == l)) σ := by trivial
      cases h2 : (wmP l ls == l)
      · rw [h2] at hne
        have := wm_len l ls
        exact x_if_t hne (x_ret (v_call (v_cons (v_var rfl) (v_cons (v_var rfl) v_nil)) (f_strtol' _ _ σ (by omega))))
      · rw [h2] at hne
        exact x_if_f hne x_skip
  have hit : (cItems (cTup (cCons (cTup (cCons (cTup (cCons (cVal (.str [98])) (cCons (cVal (.str [66])) cNil))) (cCons (cVal (.int 2)) cNil))) (cCons (cTup (cCons (cTup (cCons (cVal (.str [111])) (cCons (cVal (.str [79])) cNil))) (cCons (cVal (.int 8)) cNil))) cNil)))) [some (.str l), some (.int b), none, none, none] σ = .val [.tup [.tup (bB.map .str), .int 2], .tup [.tup (oO.map .str), .int 8]] σ := rfl
  apply fn_ev0 _ rfl rfl
  unfold g_int_in_base ibP
  obtain ⟨o1, h1⟩ := body bB 2 none
  cases c1 : ibC l b bB 2
  · rw [c1] at h1
    obtain ⟨o2, h2⟩ := body oO 8 o1
    cases c2 : ibC l b oO 8
    · rw [c2] at h2
      exact x_seq (x_for hit (x_fold_cons rfl h1 (x_fold_cons rfl h2 x_fold_nil))) (x_ret (v_call (v_cons (v_var rfl) (v_cons (v_var rfl) v_nil)) (f_strtol' l b σ (by omega))))
    · rw [c2] at h2
      exact x_seq_r (x_for hit (x_fold_cons rfl h1 (x_fold_ret rfl h2)))
  · rw [c1] at h1
    exact x_seq_r (x_for hit (x_fold_ret rfl h1))
noncomputable def noP (l : List Nat) : PV := bif nZ l then .int 0 else nV l
theorem noP_or (l : List Nat) : (∃ i, noP l = .int i) ∨ noP l = .none := by
  have h1 : (∃ i, nV l = .int i) ∨ nV l = .none := by
    unfold nV
    generalize (nX l == nB l) = u
    cases u
    · exact .inr rfl
    · rw [cond_true]; unfold sgnV
      split
      · exact .inr rfl
      · exact .inl ⟨_, rfl⟩
  unfold noP
  generalize nV l = z at h1 ⊢
  generalize nZ l = u
  cases u
  · exact h1
  · exact .inl ⟨_, rfl⟩
noncomputable def rOf (p : PV) (σ : Sto) : R PV := match p with
  | .int i => .val (.int i) σ
  | _ => .exc σ
theorem f_number_of' (l : List Nat) (σ : Sto) (hl : l.length ≤ 900) : F_number_of [.str l] σ = rOf (noP l) σ := f_number_of l σ hl
theorem f_to_int (h : PV) (l : List Nat) (σ : Sto) (hl : l.length ≤ 900) : F_to_int [h, .str l] σ = rOf (noP l) σ := by
  have e := f_number_of' l σ hl
  rcases noP_or l with ⟨i, hi⟩ | hi
  · rw [hi] at e ⊢
    apply fn_ev0 _ rfl rfl
    unfold g_to_int
    apply x_seq (x_set (v_call (v_cons (v_var rfl) v_nil) (f_kind_s l σ)))
    apply x_seq (x_if_f (v_cmp (v_var rfl) v_val rfl) x_skip)
    apply x_seq (x_if_f (v_cmp (v_var rfl) v_val rfl) x_skip)
    apply x_seq (x_if_f (v_cmp (v_var rfl) v_val rfl) x_skip)
    exact x_seq_r (x_if_t (v_cmp (v_var rfl) v_val rfl) (x_ret (v_call (v_cons (v_var rfl) v_nil) e)))
  · rw [hi] at e ⊢
    apply fn_exc (τ := []) _ (List.append_nil σ).symm rfl
    unfold g_to_int
    apply x_seq (x_set (v_call (v_cons (v_var rfl) v_nil) (f_kind_s l σ)))
    apply x_seq (x_if_f (v_cmp (v_var rfl) v_val rfl) x_skip)
    apply x_seq (x_if_f (v_cmp (v_var rfl) v_val rfl) x_skip)
    apply x_seq (x_if_f (v_cmp (v_var rfl) v_val rfl) x_skip)
    exact x_seq_e (x_if_t (v_cmp (v_var rfl) v_val rfl) (x_ret_e (v_call_e (v_cons (v_var rfl) v_nil) e)))
noncomputable def ivP (l : List Nat) (b : Int) : PV := bif b == 10 then noP l else .int (ibP l b)
theorem f_intval (h : PV) (l : List Nat) (b : Int) (σ : Sto) (hl : l.length ≤ 450) : F_php_intval [h, .lst [.str l, .int b]] σ = rOf (ivP l b) σ := by
  have hc : (tBo .Or (tCmp .NotEq (cCall F_kind (cCons (cIdx (cVar 1) (cVal (.int 0))) cNil)) (cVal (.str [115, 116, 114, 105, 110, 103]))) (tCmp .Eq (cIdx (cVar 1) (cVal (.int 1))) (cVal (.int 10)))) [some h, some (.lst [.str l, .int b])] σ = .val (b == 10) σ := by
    apply to_eq
    · apply v_or (r := false)
      · apply v_cmp
        · apply v_call
          · trivial
            exact idx_l (a := 0) rfl (by decide)
          · exact f_kind_s l σ
        · trivial
        · rfl
      · intro _
        trivial
        · exact idx_l (a := 1) rfl (by decide)
        trivial
    · rfl
  unfold ivP
  cases hb : (b == 10)
  · rw [hb] at hc
    apply fn_ev0 _ rfl rfl
    unfold g_php_intval
    apply x_seq (x_if_f hc x_skip)
    exact x_ret (v_call (v_cons (v_idx (v_var rfl) v_val (idx_l (a := 0) rfl (by decide))) (v_cons (v_idx (v_var rfl) v_val (idx_l (a := 1) rfl (by decide))) v_nil)) (f_int_in_base l b σ hl))
  · rw [hb] at hc
    have e := f_to_int h l σ (by omega)
    rw [cond_true]
    rcases noP_or l with ⟨i, hi⟩ | hi
    · rw [hi] at e ⊢
      apply fn_ev0 _ rfl rfl
      unfold g_php_intval
      exact x_seq_r (x_if_t hc (x_ret (v_call (v_cons (v_var rfl) (v_cons (v_idx (v_var rfl) v_val (idx_l (a := 0) rfl (by decide))) v_nil)) e)))
    · rw [hi] at e ⊢
      apply fn_exc (τ := []) _ (List.append_nil σ).symm rfl
      unfold g_php_intval
      exact x_seq_e (x_if_t hc (x_ret_e (v_call_e (v_cons (v_var rfl) (v_cons (v_idx (v_var rfl) v_val (idx_l (a := 0) rfl (by decide))) v_nil)) e)))
/- P7 -/

noncomputable def sDep : List Nat := [68, 101, 112, 114, 101, 99, 97, 116, 101, 100]
noncomputable def sInv : List Nat := [73, 110, 118, 97, 108, 105, 100, 32, 99, 104, 97, 114, 97, 99, 116, 101, 114, 115, 32, 112, 97, 115, 115, 101, 100, 32, 102, 111, 114, 32, 97, 116, 116, 101, 109, 112, 116, 101, 100, 32, 99, 111, 110, 118, 101, 114, 115, 105, 111, 110, 44, 32, 116, 104, 101, 115, 101, 32, 104, 97, 118, 101, 32, 98, 101, 101, 110, 32, 105, 103, 110, 111, 114, 101, 100]
noncomputable def sWar : List Nat := [87, 97, 114, 110, 105, 110, 103]
noncomputable def sOdd : List Nat := [104, 101, 120, 50, 98, 105, 110, 40, 41, 58, 32, 72, 101, 120, 97, 100, 101, 99, 105, 109, 97, 108, 32, 105, 110, 112, 117, 116, 32, 115, 116, 114, 105, 110, 103, 32, 109, 117, 115, 116, 32, 104, 97, 118, 101, 32, 97, 110, 32, 101, 118, 101, 110, 32, 108, 101, 110, 103, 116, 104]
noncomputable def sHex : List Nat := [104, 101, 120, 50, 98, 105, 110, 40, 41, 58, 32, 73, 110, 112, 117, 116, 32, 115, 116, 114, 105, 110, 103, 32, 109, 117, 115, 116, 32, 98, 101, 32, 104, 101, 120, 97, 100, 101, 99, 105, 109, 97, 108, 32, 115, 116, 114, 105, 110, 103]
noncomputable def hexL : List Nat := [48, 49, 50, 51, 52, 53, 54, 55, 56, 57, 97, 98, 99, 100, 101, 102]
noncomputable def hx (d : Nat) : Nat := hexL.getD d 0
theorem f_warn {θ : Sto} {j : Nat} {ns : List PV} (a b : List Nat) (e : θ[j]? = some (.lst ns)) (hn : ns.length < 1000000) : F_warn [.host j, .str a, .str b] θ = .val .none (θ.set j (.lst (ns ++ [.tup [.str a, .str b]]))) := by
  refine fn_nxt (ρ' := [some (.host j), some (.str a), some (.str b)]) (σ' := θ.set j (.lst (ns ++ [.tup [.str a, .str b]]))) ?_ (List.take_of_length_le (by rw [List.length_set]; omega)) rfl
  unfold g_warn
  refine x_if_t (σ₁ := θ) ?_ ?_
  · exact v_cmp (a := .int 0) (by rfl) v_val rfl
  · refine x_append (xs := ns) (by rfl) e (v_tup (v_cons (v_var rfl) (v_cons (v_var rfl) v_nil)) (len2 _ _)) e rfl hn
theorem f_whole (v : Nat) (σ : Sto) : F_whole [.int v] σ = if v ≤ 9223372036854775807 then .val (.int v) σ else .exc σ := by
  have hc : (tBo .Or (tCmp .Lt (cVar 0) (cCall F_least cNil)) (tCmp .Gt (cVar 0) (cCall F_greatest cNil))) [some (.int v)] σ = .val (decide (9223372036854775807 < v)) σ := by
    apply to_eq
    · apply v_or
      · trivial
        exact f_least _
        trivial
      · intro _
        trivial
        exact f_greatest _
        trivial
    · have h1 : decide ((v : Int) < -9223372036854775808) = false := decide_eq_false (by omega)
      rw [h1, Bool.false_or, decide_eq_decide]; omega
  by_cases h : v ≤ 9223372036854775807
  · rw [if_pos h]
    rw [decide_eq_false (by omega)] at hc
    apply fn_ev0 _ rfl rfl
    unfold g_whole
    exact x_seq (x_if_f hc x_skip) (x_ret (v_var rfl))
  · rw [if_neg h]
    rw [decide_eq_true (by omega)] at hc
    apply fn_thr (τ := []) _ (List.append_nil σ).symm rfl
    unfold g_whole
    exact x_seq_t (x_if_t hc rfl)
noncomputable def rbk (l : List Nat) (f : Nat) : Nat → Nat
  | 0 => 0
  | n + 1 => bif decide (f < n + 1) && isBl (l.getD n 0) then rbk l f n else n + 1
theorem rbk_le (l : List Nat) (f : Nat) : ∀ b, rbk l f b ≤ b
  | 0 => Nat.le_refl _
  | n + 1 => by
    unfold rbk
    cases decide (f < n + 1) && isBl (l.getD n 0)
    · exact Nat.le_refl _
    · exact Nat.le_succ_of_le (rbk_le l f n)
noncomputable def nbE (l : List Nat) : Nat := rbk l (nF l) l.length
noncomputable def nbK (l : List Nat) (ls : List (List Nat)) : Bool := decide ((2 : Int) ≤ (nbE l : Int) - (nF l : Int)) && (ch l (nF l) == [48] && ls.contains (ch l (nF l + 1)))
noncomputable def nbF (l : List Nat) (ls : List (List Nat)) : Nat := bif nbK l ls then nF l + 2 else nF l
noncomputable def nbL (l : List Nat) (ls : List (List Nat)) : List Nat := (l.drop (nbF l ls)).take (nbE l - nbF l ls)
noncomputable def nbV (b : Nat) : List Nat → Nat → Nat
  | [], v => v
  | c :: cs, v => nbV b cs (bif decide (dv [c] < b) then v * b + dv [c] else v)
noncomputable def nbC (b : Nat) : List Nat → Bool → Bool
  | [], q => q
  | c :: cs, q => nbC b cs (bif decide (dv [c] < b) then q else false)
noncomputable def nbN (b : Nat) (l : List Nat) (ls : List (List Nat)) : List PV := bif nbC b (nbL l ls) true then [] else [.tup [.str sDep, .str sInv]]
noncomputable def rIf (v : Nat) (σ : Sto) : R PV := if v ≤ 9223372036854775807 then .val (.int v) σ else .exc σ
theorem f_number_in_base (l : List Nat) (b : Nat) (ls : List (List Nat)) (ns : List PV) (σ : Sto) (hl : l.length ≤ 900) (hb : b ≤ 36) (hns : ns.length < 1000) :
    F_number_in_base [.host σ.length, .str l, .int b, .tup (ls.map .str)] (σ ++ [.lst ns]) = rIf (nbV b (nbL l ls) 0) (σ ++ [.lst (ns ++ nbN b l ls)]) := by
  have hF := nF_le l
  have hE : nbE l ≤ l.length := rbk_le _ _ _
  generalize hh : PV.host σ.length = H
  generalize hθ : σ ++ [MO.lst ns] = θ
  have h1 : ∀ n q, q ≤ l.length → q < n → xLoop (tBo .And (tCmp .Gt (cVar 5) (cVar 4)) (asB (cCall F_is_blank (cCons (cIdx (cVar 1) (cBin .Sub (cVar 5) (cVal (.int 1)))) cNil)))) (xAug .Sub 5 (cVal (.int 1))) n [some H, some (.str l), some (.int b), some (.tup (ls.map .str)), some (.int (nF l)), some (.int (q : Nat)), none, none, none, none] θ = .val (.nxt [some H, some (.str l), some (.int b), some (.tup (ls.map .str)), some (.int (nF l)), some (.int (rbk l (nF l) q : Nat)), none, none, none, none]) θ := by
    intro n
    induction n with
    | zero => intro q _ h; omega
    | succ n ih =>
      intro q hq hn
      unfold xLoop
      cases q with
      | zero =>
        have : (tBo .And (tCmp .Gt (cVar 5) (cVar 4)) (asB (cCall F_is_blank (cCons (cIdx (cVar 1) (cBin .Sub (cVar 5) (cVal (.int 1)))) cNil)))) [some H, some (.str l), some (.int b), some (.tup (ls.map .str)), some (.int (nF l)), some (.int ((0 : Nat) : Int)), none, none, none, none] θ = .val false θ := by
          apply to_eq
          · apply v_and (r' := false)
            · trivial
            · intro h; have := of_decide_eq_true h; omega
          · rw [decide_eq_false (by omega)]; rfl
        rw [this]; rfl
      | succ q =>
        have ht : (tBo .And (tCmp .Gt (cVar 5) (cVar 4)) (asB (cCall F_is_blank (cCons (cIdx (cVar 1) (cBin .Sub (cVar 5) (cVal (.int 1)))) cNil)))) [some H, some (.str l), some (.int b), some (.tup (ls.map .str)), some (.int (nF l)), some (.int ((q + 1 : Nat) : Int)), none, none, none, none] θ = .val (decide (nF l < q + 1) && isBl (l.getD q 0)) θ := by
          apply to_eq
          · apply v_and
            · trivial
            · intro h
              apply v_asB; apply v_call
              · apply v_cons
                · apply v_idx
                  · trivial
                  · exact to_eq (q := PV.int (q : Nat)) (v_bin (v_var rfl) v_val (b_sub _ _)) (by congr 1; omega)
                  · exact idx_sd (by omega) (by omega)
                · trivial
              · exact f_is_blank _ _
          · rw [dec_lt]
        rw [ht]
        conv => rhs; unfold rbk
        cases hc : decide (nF l < q + 1) && isBl (l.getD q 0)
        · rfl
        · simp only [R.quiet, R.bind, if_true, cond_true]
          rw [x_aug (v_var rfl) v_val (i_sub1 q)]
          exact ih q (by omega) (by omega)
  have h2 : ∀ n i v q o8 o9, i + n ≤ l.length → ∃ o8' o9', xFold (aOne 8) (xSeq (xSet 9 (cCall F_digit_value (cCons (cIdx (cVar 1) (cVar 8)) cNil)))
    (xIf (tCmp .Lt (cVar 9) (cVar 2)) (xSet 6 (cBin .Add (cBin .Mult (cVar 6) (cVar 2)) (cVar 9))) (xSet 7 (cVal (.bool false))))) ((List.range' i n).map fun (i : Nat) => PV.int i) [some H, some (.str l), some (.int b), some (.tup (ls.map .str)), some (.int (nbF l ls)), some (.int (nbE l)), some (.int (v : Nat)), some (.bool q), o8, o9] θ = .val (.nxt [some H, some (.str l), some (.int b), some (.tup (ls.map .str)), some (.int (nbF l ls)), some (.int (nbE l)), some (.int (nbV b ((l.drop i).take n) v : Nat)), some (.bool (nbC b ((l.drop i).take n) q)), o8', o9']) θ := by
    intro n
    induction n with
    | zero => intro i v q o8 o9 _; exact ⟨o8, o9, by rw [List.take_zero]; rfl⟩
    | succ n ih =>
      intro i v q o8 o9 hi
      have hil : i < l.length := by omega
      obtain ⟨o8', o9', h'⟩ := ih (i + 1) (bif decide (dv [l.getD i 0] < b) then v * b + dv [l.getD i 0] else v) (bif decide (dv [l.getD i 0] < b) then q else false) (some (.int i)) (some (.int (dv [l.getD i 0] : Nat))) (by omega)
      refine ⟨o8', o9', ?_⟩
      rw [dt_cons hil, List.range'_succ, List.map_cons]
      unfold nbV nbC
      refine x_fold_cons (by rfl) ?_ h'
      refine x_seq (x_set (v_call (v_cons (v_idx (v_var rfl) (v_var rfl) (idx_sd hil (by omega))) v_nil) (f_digit_value_one _ _))) ?_
      have hc : (tCmp .Lt (cVar 9) (cVar 2)) [some H, some (.str l), some (.int b), some (.tup (ls.map .str)), some (.int (nbF l ls)), some (.int (nbE l)), some (.int (v : Nat)), some (.bool q), some (.int i), some (.int (dv [l.getD i 0] : Nat))] θ = .val (decide (dv [l.getD i 0] < b)) θ := to_eq (v_cmp (v_var rfl) (v_var rfl) (c_lt _ _ _)) (dec_lt _ _)
      cases hd : decide (dv [l.getD i 0] < b)
      · rw [hd] at hc
        exact x_if_f hc (x_set v_val)
      · rw [hd] at hc
        refine x_if_t hc (to_eq (x_set (v_bin (v_bin (v_var rfl) (v_var rfl) (b_mul _ (by omega))) (v_var rfl) (b_add _ _))) ?_)
        have : ((v : Int) * b + (dv [l.getD i 0] : Nat)) = ((v * b + dv [l.getD i 0] : Nat) : Int) := by rw [Int.natCast_add, Int.natCast_mul]
        rw [this]; rfl
  have hW : F_whole [.int (nbV b (nbL l ls) 0 : Nat)] (σ ++ [.lst (ns ++ nbN b l ls)]) = rIf (nbV b (nbL l ls) 0) (σ ++ [.lst (ns ++ nbN b l ls)]) := f_whole _ _
  have main : ∀ r, (∀ o8 o9, (xRet (cCall F_whole (cCons (cVar 6) cNil))) [some H, some (.str l), some (.int b), some (.tup (ls.map .str)), some (.int (nbF l ls)), some (.int (nbE l)), some (.int (nbV b (nbL l ls) 0 : Nat)), some (.bool (nbC b (nbL l ls) true)), o8, o9] (σ ++ [.lst (ns ++ nbN b l ls)]) = r) → g_number_in_base [some H, some (.str l), some (.int b), some (.tup (ls.map .str)), none, none, none, none, none, none] θ = r := by
    intro r hr
    unfold g_number_in_base
    apply x_seq' (ρ₂ := [some H, some (.str l), some (.int b), some (.tup (ls.map .str)), some (.int (nF l)), none, none, none, none, none])
    · exact x_set (v_call (v_cons (v_var rfl) (v_cons v_val v_nil)) (f_blanks_behind l 0 θ hl (Nat.zero_le _)))
    · rfl
    apply x_seq' (ρ₂ := [some H, some (.str l), some (.int b), some (.tup (ls.map .str)), some (.int (nF l)), some (.int l.length), none, none, none, none])
    · exact x_set (v_blt (v_cons (v_var rfl) v_nil) (bLen_s (by omega)))
    · rfl
    apply x_seq' (ρ₂ := [some H, some (.str l), some (.int b), some (.tup (ls.map .str)), some (.int (nF l)), some (.int (nbE l)), none, none, none, none])
    · exact h1 1000 l.length (Nat.le_refl _) (by omega)
    · rfl
    apply x_seq' (ρ₂ := [some H, some (.str l), some (.int b), some (.tup (ls.map .str)), some (.int (nbF l ls)), some (.int (nbE l)), none, none, none, none])
    · refine x_if_n (i := 4) (a := nF l + 2) (b := nF l) (r := nbK l ls) ?_ (fun _ => ?_) rfl
      · unfold nbK
        apply v_and
        · trivial
        · intro _
          trivial
          exact f_has_mark l (nF l) ls θ hl (by omega)
      · exact x_aug (v_var rfl) v_val (i_add2 _)
    · rfl
    apply x_seq' (ρ₂ := [some H, some (.str l), some (.int b), some (.tup (ls.map .str)), some (.int (nbF l ls)), some (.int (nbE l)), some (.int ((0 : Nat) : Int)), none, none, none])
    · exact x_set v_val
    · rfl
    apply x_seq' (ρ₂ := [some H, some (.str l), some (.int b), some (.tup (ls.map .str)), some (.int (nbF l ls)), some (.int (nbE l)), some (.int ((0 : Nat) : Int)), some (.bool true), none, none])
    · exact x_set v_val
    · rfl
    have hfl : nbF l ls ≤ l.length := by
      unfold nbF
      cases hk : nbK l ls
      · exact hF
      · unfold nbK at hk
        rw [Bool.and_eq_true] at hk
        have := of_decide_eq_true hk.1
        show nF l + 2 ≤ _
        omega
    obtain ⟨o8, o9, h'⟩ := h2 (nbE l - nbF l ls) (nbF l ls) 0 true none none (by omega)
    apply x_seq (x_for (v_range (v_cons (v_var rfl) (v_cons (v_var rfl) v_nil)) (rng1v (by omega) (by omega))) h')
    have hr' := hr o8 o9
    change xSeq _ _ [some H, some (.str l), some (.int b), some (.tup (ls.map .str)), some (.int (nbF l ls)), some (.int (nbE l)), some (.int (nbV b (nbL l ls) 0 : Nat)), some (.bool (nbC b (nbL l ls) true)), o8, o9] θ = r
    unfold nbN at hr'
    cases hcl : nbC b (nbL l ls) true
    · rw [hcl] at hr'
      refine x_seq (x_if_t (v_not (r := false) (v_asB (v_var rfl))) ?_) hr'
      subst hh hθ
      have hw : F_warn [.host σ.length, .str sDep, .str sInv] (σ ++ [.lst ns]) = .val .none (σ ++ [.lst (ns ++ [.tup [.str sDep, .str sInv]])]) := by
        rw [f_warn (ns := ns) _ _ (sto_get _ _) (by omega), sto_set]
      exact x_warn rfl (v_cons v_val (v_cons v_val v_nil)) hw
    · rw [hcl] at hr'
      rw [cond_true, List.append_nil, hθ] at hr'
      exact x_seq (x_if_f (v_not (r := true) (v_asB (v_var rfl))) x_skip) hr'
  unfold rIf at hW ⊢
  by_cases hv : nbV b (nbL l ls) 0 ≤ 9223372036854775807
  · rw [if_pos hv] at hW ⊢
    refine fn_ev' (main _ fun o8 o9 => x_ret (v_call (v_cons (v_var rfl) v_nil) hW)) ?_ rfl rfl
    subst hθ; exact sto_take _ _ _
  · rw [if_neg hv] at hW ⊢
    refine fn_exc' (main _ fun o8 o9 => x_ret_e (v_call_e (v_cons (v_var rfl) v_nil) hW)) ?_ rfl
    subst hθ; exact sto_take _ _ _
/- P8 -/

theorem f_decoder (F : List PV → Sto → R PV) (b : Nat) (ls : List (List Nat)) (e : F = fnR 2 0 (xRet (cCall F_number_in_base (cCons (cVar 0) (cCons (cIdx (cVar 1) (cVal (.int 0))) (cCons (cVal (.int b)) (cCons (cTup (cStrs ls)) cNil))))))) (hls : (ls.map PV.str).length ≤ 1000)
    (l : List Nat) (ns : List PV) (σ : Sto) (hl : l.length ≤ 900) (hb : b ≤ 36) (hns : ns.length < 1000) :
    F [.host σ.length, .lst [.str l]] (σ ++ [.lst ns]) = rIf (nbV b (nbL l ls) 0) (σ ++ [.lst (ns ++ nbN b l ls)]) := by
  subst e
  have h := f_number_in_base l b ls ns σ hl hb hns
  unfold rIf at h ⊢
  have ha : (cCons (cVar 0) (cCons (cIdx (cVar 1) (cVal (.int 0))) (cCons (cVal (.int b)) (cCons (cTup (cStrs ls)) cNil)))) [some (.host σ.length), some (.lst [.str l])] (σ ++ [.lst ns]) = .val [.host σ.length, .str l, .int b, .tup (ls.map .str)] (σ ++ [.lst ns]) :=
    v_cons (v_var rfl) (v_cons (v_idx (v_var rfl) v_val (idx_l (a := 0) rfl (by decide))) (v_cons v_val (v_cons (v_tup v_strs hls) v_nil)))
  by_cases hv : nbV b (nbL l ls) 0 ≤ 9223372036854775807
  · rw [if_pos hv] at h ⊢
    exact fn_ev' (x_ret (v_call ha h)) (sto_take _ _ _) rfl rfl
  · rw [if_neg hv] at h ⊢
    exact fn_exc' (x_ret_e (v_call_e ha h)) (sto_take _ _ _) rfl
theorem f_bindec (l : List Nat) (ns : List PV) (σ : Sto) (hl : l.length ≤ 900) (hns : ns.length < 1000) : F_php_bindec [.host σ.length, .lst [.str l]] (σ ++ [.lst ns]) = rIf (nbV 2 (nbL l bB) 0) (σ ++ [.lst (ns ++ nbN 2 l bB)]) :=
  f_decoder _ 2 bB rfl (by decide) l ns σ hl (by decide) hns
theorem f_octdec (l : List Nat) (ns : List PV) (σ : Sto) (hl : l.length ≤ 900) (hns : ns.length < 1000) : F_php_octdec [.host σ.length, .lst [.str l]] (σ ++ [.lst ns]) = rIf (nbV 8 (nbL l oO) 0) (σ ++ [.lst (ns ++ nbN 8 l oO)]) :=
  f_decoder _ 8 oO rfl (by decide) l ns σ hl (by decide) hns
theorem f_hexdec (l : List Nat) (ns : List PV) (σ : Sto) (hl : l.length ≤ 900) (hns : ns.length < 1000) : F_php_hexdec [.host σ.length, .lst [.str l]] (σ ++ [.lst ns]) = rIf (nbV 16 (nbL l xX) 0) (σ ++ [.lst (ns ++ nbN 16 l xX)]) :=
  f_decoder _ 16 xX rfl (by decide) l ns σ hl (by decide) hns
/- digits of a number -/
noncomputable def dg (b : Nat) : Nat → Nat → List Nat
  | 0, _ => []
  | k + 1, r => if r = 0 then [] else dg b k (r / b) ++ [hx (r % b)]
noncomputable def btx (b m : Nat) : List Nat := dg b 64 (m / b) ++ [hx (m % b)]
theorem dg_len (b : Nat) : ∀ k r, (dg b k r).length ≤ k
  | 0, _ => Nat.le_refl _
  | k + 1, r => by
    unfold dg
    split
    · exact Nat.zero_le _
    · rw [List.length_append]; have := dg_len b k (r / b); simp; omega
theorem btx_len (b m : Nat) : (btx b m).length ≤ 65 := by
  unfold btx; rw [List.length_append]; have := dg_len b 64 (m / b); simp; omega
theorem idx_hex {d : Nat} (h : d < 16) : idxV (.str [48, 49, 50, 51, 52, 53, 54, 55, 56, 57, 97, 98, 99, 100, 101, 102]) (.int d) = some (.str [hx d]) := idx_sd (l := hexL) h (by decide)
theorem f_based_text (n : Int) (b : Nat) (σ : Sto) (hb : 2 ≤ b ∧ b ≤ 16) : F_based_text [.int n, .int b] σ = .val (.str (btx b (n % 18446744073709551616).toNat)) σ := by
  have step : ∀ (r : Nat) (made : List Nat) , made.length ≤ 1000 → (xSeq (xSet 3 (cBin .Add (cIdx (cVal (.str [48, 49, 50, 51, 52, 53, 54, 55, 56, 57, 97, 98, 99, 100, 101, 102])) (cBin .Mod (cVar 2) (cVar 1))) (cVar 3)))
    (xSet 2 (cBin .FloorDiv (cVar 2) (cVar 1)))) [some (.int n), some (.int b), some (.int (r : Nat)), some (.str made)] σ = .val (.nxt [some (.int n), some (.int b), some (.int (r / b : Nat)), some (.str (hx (r % b) :: made))]) σ := by
    intro r made hm
    have hlt : r % b < 16 := Nat.lt_of_lt_of_le (Nat.mod_lt _ (by omega)) hb.2
    apply x_seq' (ρ₂ := [some (.int n), some (.int b), some (.int (r : Nat)), some (.str (hx (r % b) :: made))])
    · exact x_set (v_bin (v_idx v_val (v_bin (v_var rfl) (v_var rfl) (b_mod _ (by omega))) (by rw [← Int.natCast_emod]; exact idx_hex hlt)) (v_var rfl) (b_adds (by simp; omega)))
    · rfl
    · refine to_eq (x_set (v_bin (v_var rfl) (v_var rfl) (b_div _ (by omega)))) ?_
      rw [← Int.natCast_ediv]; rfl
  have test : ∀ (r : Nat) (made : List Nat), (tBo .Or (tCmp .Gt (cVar 2) (cVal (.int 0))) (tCmp .Eq (cVar 3) (cVal (.str [])))) [some (.int n), some (.int b), some (.int (r : Nat)), some (.str made)] σ = .val (decide (0 < r) || made == []) σ := by
    intro r made
    apply to_eq
    · apply v_or
      · trivial
      · intro _
        trivial
    · congr 1
      rw [decide_eq_decide]; omega
  have loop : ∀ k r made m, made ≠ [] → made.length + k ≤ 1000 → r < 2 ^ k → k < m → xLoop (tBo .Or (tCmp .Gt (cVar 2) (cVal (.int 0))) (tCmp .Eq (cVar 3) (cVal (.str [])))) (xSeq (xSet 3 (cBin .Add (cIdx (cVal (.str [48, 49, 50, 51, 52, 53, 54, 55, 56, 57, 97, 98, 99, 100, 101, 102])) (cBin .Mod (cVar 2) (cVar 1))) (cVar 3)))
    (xSet 2 (cBin .FloorDiv (cVar 2) (cVar 1)))) m [some (.int n), some (.int b), some (.int (r : Nat)), some (.str made)] σ = .val (.nxt [some (.int n), some (.int b), some (.int (0 : Nat)), some (.str (dg b k r ++ made))]) σ := by
    intro k
    induction k with
    | zero =>
      intro r made m hne _ hr hm
      obtain ⟨m, rfl⟩ : ∃ m', m = m' + 1 := ⟨m - 1, by omega⟩
      have : r = 0 := by omega
      subst this
      unfold xLoop
      rw [test]
      have : (made == []) = false := by simpa using hne
      rw [this]; rfl
    | succ k ih =>
      intro r made m hne hl hr hm
      obtain ⟨m, rfl⟩ : ∃ m', m = m' + 1 := ⟨m - 1, by omega⟩
      unfold xLoop
      rw [test]
      unfold dg
      by_cases h0 : r = 0
      · subst h0
        have : (made == []) = false := by simpa using hne
        rw [this]; rfl
      · rw [if_neg h0, decide_eq_true (Nat.pos_of_ne_zero h0)]
        simp only [R.quiet, R.bind, if_true, Bool.true_or]
        rw [step r made (by omega)]
        have hd : r / b < 2 ^ k := by
          rw [Nat.div_lt_iff_lt_mul (by omega)]
          have : 2 ^ k * 2 ≤ 2 ^ k * b := Nat.mul_le_mul_left _ hb.1
          rw [Nat.pow_succ] at hr; omega
        have := ih (r / b) (hx (r % b) :: made) m (by simp) (by simp; omega) hd (by omega)
        simp only [List.append_assoc, List.singleton_append]
        exact this
  apply fn_ev0 _ rfl rfl
  unfold g_based_text
  have hN : (n % 18446744073709551616) = ((n % 18446744073709551616).toNat : Int) := (mod_nat n (by decide)).symm
  generalize hM : (n % 18446744073709551616).toNat = M at hN ⊢
  have hM2 : M < 18446744073709551616 := by omega
  apply x_seq' (ρ₂ := [some (.int n), some (.int b), some (.int (M : Nat)), none])
  · exact x_set (v_bin (v_var rfl) (v_bin v_val v_val (b_pow (by decide))) (b_mod _ (by decide)))
  · show [some (PV.int n), some (.int b), some (.int (n % 18446744073709551616)), none] = _
    rw [hN]
  apply x_seq' (ρ₂ := [some (.int n), some (.int b), some (.int (M : Nat)), some (.str [])])
  · exact x_set v_val
  · rfl
  have hl : xLoop (tBo .Or (tCmp .Gt (cVar 2) (cVal (.int 0))) (tCmp .Eq (cVar 3) (cVal (.str [])))) (xSeq (xSet 3 (cBin .Add (cIdx (cVal (.str [48, 49, 50, 51, 52, 53, 54, 55, 56, 57, 97, 98, 99, 100, 101, 102])) (cBin .Mod (cVar 2) (cVar 1))) (cVar 3)))
    (xSet 2 (cBin .FloorDiv (cVar 2) (cVar 1)))) 1000 [some (.int n), some (.int b), some (.int (M : Nat)), some (.str [])] σ = .val (.nxt [some (.int n), some (.int b), some (.int (0 : Nat)), some (.str (btx b M))]) σ := by
    show xLoop _ _ (999 + 1) _ _ = _
    unfold xLoop
    rw [test]
    have : (decide (0 < M) || ([] : List Nat) == []) = true := by simp
    rw [this]
    simp only [R.quiet, R.bind, if_true]
    rw [step M [] (by decide)]
    have hd : M / b < 2 ^ 64 := Nat.lt_of_le_of_lt (Nat.div_le_self _ _) hM2
    exact loop 64 (M / b) [hx (M % b)] 999 (by simp) (by simp) hd (by decide)
  exact x_seq hl (x_ret (v_var rfl))
theorem f_based (F : List PV → Sto → R PV) (b : Nat) (e : F = fnR 2 0 (xRet (cCall F_based_text (cCons (cIdx (cVar 1) (cVal (.int 0))) (cCons (cVal (.int b)) cNil))))) (h : PV) (n : Int) (σ : Sto) (hb : 2 ≤ b ∧ b ≤ 16) :
    F [h, .lst [.int n]] σ = .val (.str (btx b (n % 18446744073709551616).toNat)) σ := by
  subst e
  exact fn_ev0 (x_ret (v_call (v_cons (v_idx (v_var rfl) v_val (idx_l (a := 0) rfl (by decide))) (v_cons v_val v_nil)) (f_based_text n b σ hb))) rfl rfl
theorem f_decbin (h : PV) (n : Int) (σ : Sto) : F_php_decbin [h, .lst [.int n]] σ = .val (.str (btx 2 (n % 18446744073709551616).toNat)) σ := f_based _ 2 rfl h n σ (by decide)
theorem f_decoct (h : PV) (n : Int) (σ : Sto) : F_php_decoct [h, .lst [.int n]] σ = .val (.str (btx 8 (n % 18446744073709551616).toNat)) σ := f_based _ 8 rfl h n σ (by decide)
theorem f_dechex (h : PV) (n : Int) (σ : Sto) : F_php_dechex [h, .lst [.int n]] σ = .val (.str (btx 16 (n % 18446744073709551616).toNat)) σ := f_based _ 16 rfl h n σ (by decide)
theorem f_chr (h : PV) (n : Int) (σ : Sto) : F_php_chr [h, .lst [.int n]] σ = .val (.str [(n % 256).toNat]) σ :=
  fn_ev0 (x_ret (v_blt (v_cons (v_bin (v_idx (v_var rfl) v_val (idx_l (a := 0) rfl (by decide))) v_val (b_mod n (by decide))) v_nil) (if_pos (by omega)))) rfl rfl
theorem f_ord_nil (h : PV) (σ : Sto) : F_php_ord [h, .lst [.str []]] σ = .val (.int 0) σ := fn_ev0 (by rfl) rfl rfl
theorem f_ord (h : PV) (c : Nat) (cs : List Nat) (σ : Sto) : F_php_ord [h, .lst [.str (c :: cs)]] σ = .val (.int c) σ := fn_ev0 (by rfl) rfl rfl
/- P9 -/

noncomputable def hx2 (c : Nat) : List Nat := [hx (c / 16), hx (c % 16)]
noncomputable def b2h (l : List Nat) : List Nat := (l.map hx2).flatten
theorem strsP_map : ∀ ls : List (List Nat), strsP (ls.map .str) = some ls
  | [] => rfl
  | l :: ls => by
    show (strsP (ls.map .str)).map (l :: ·) = _
    rw [strsP_map ls]; rfl
theorem b2h_len (l : List Nat) : (b2h l).length = 2 * l.length := by
  unfold b2h
  induction l with
  | nil => rfl
  | cons c cs ih => rw [List.map_cons, List.flatten_cons, List.length_append, ih, List.length_cons]; show 2 + _ = _; omega
theorem v_join {ρ : Rho} {σ : Sto} {f : Rho → Sto → R PV} {q : PV} {ls : List (List Nat)} (hf : f ρ σ = .val q σ) (hq : lstOf σ q = some (ls.map .str)) (hl : ls.flatten.length ≤ 1000000) : cMeth bJoin (cVal (.str [])) (cCons f cNil) ρ σ = .val (.str ls.flatten) σ := by
  refine v_meth v_val (v_cons hf v_nil) ?_
  show ((lstOf σ q).bind fun xs => (strsP xs).bind fun ls => if ls.flatten.length ≤ 1000000 then some (PV.str ls.flatten) else none) = some (PV.str ls.flatten)
  rw [hq]
  show ((strsP (ls.map .str)).bind fun ls => if ls.flatten.length ≤ 1000000 then some (PV.str ls.flatten) else none) = _
  rw [strsP_map]; exact if_pos hl
theorem lstOf_mref (σ : Sto) (xs : List PV) : lstOf (σ ++ [.lst xs]) (.mref σ.length) = some xs := by
  show ((σ ++ [.lst xs])[σ.length]?).bind moL = _
  rw [sto_get]; rfl
theorem idx_hexd {c : Nat} (h : c < 256) : idxV (.str [48, 49, 50, 51, 52, 53, 54, 55, 56, 57, 97, 98, 99, 100, 101, 102]) (.int ((c : Int) / 16)) = some (.str [hx (c / 16)]) := by
  have : ((c : Int) / 16) = ((c / 16 : Nat) : Int) := by omega
  rw [this]; exact idx_hex (by omega)
theorem idx_hexm (c : Nat) : idxV (.str [48, 49, 50, 51, 52, 53, 54, 55, 56, 57, 97, 98, 99, 100, 101, 102]) (.int ((c : Int) % 16)) = some (.str [hx (c % 16)]) := by
  have : ((c : Int) % 16) = ((c % 16 : Nat) : Int) := by omega
  rw [this]; exact idx_hex (by omega)
theorem sto_get2 (σ : Sto) (x y : MO) : (σ ++ [x] ++ [y])[σ.length]? = some x := by simp
theorem sto_set2 (σ : Sto) (x y z : MO) : (σ ++ [x] ++ [y]).set σ.length z = σ ++ [z] ++ [y] := by simp
theorem f_bin2hex (h : PV) (l : List Nat) (θ : Sto) (hl : l.length ≤ 900) (hc : ∀ c ∈ l, c < 256) : F_php_bin2hex [h, .lst [.str l]] θ = .val (.str (b2h l)) θ := by
  have loop : ∀ (r acc : List Nat) (o : Option PV), (∀ c ∈ r, c < 256) → acc.length + r.length ≤ 900 → ∃ o', xFold (aOne 3) (xAppend (cVar 2) (cBin .Add (cIdx (cVal (.str [48, 49, 50, 51, 52, 53, 54, 55, 56, 57, 97, 98, 99, 100, 101, 102])) (cBin .FloorDiv (cBlt bOrd (cCons (cVar 3) cNil)) (cVal (.int 16)))) (cIdx (cVal (.str [48, 49, 50, 51, 52, 53, 54, 55, 56, 57, 97, 98, 99, 100, 101, 102])) (cBin .Mod (cBlt bOrd (cCons (cVar 3) cNil)) (cVal (.int 16)))))) (r.map fun c => .str [c]) [some h, some (.lst [.str l]), some (.mref θ.length), o] (θ ++ [.lst ((acc.map hx2).map .str)]) = .val (.nxt [some h, some (.lst [.str l]), some (.mref θ.length), o']) (θ ++ [.lst (((acc ++ r).map hx2).map .str)]) := by
    intro r
    induction r with
    | nil => intro acc o _ _; exact ⟨o, by rw [List.append_nil]; rfl⟩
    | cons c cs ih =>
      intro acc o hr hn
      have hc256 := hr c (List.mem_cons_self ..)
      obtain ⟨o', h'⟩ := ih (acc ++ [c]) (some (.str [c])) (fun x hx => hr x (List.mem_cons_of_mem _ hx)) (by simp at hn ⊢; omega)
      refine ⟨o', ?_⟩
      rw [List.append_assoc acc, List.singleton_append] at h'
      rw [List.map_cons]
      refine x_fold_cons (by rfl) (σ₁ := θ ++ [.lst (((acc ++ [c]).map hx2).map .str)]) (ρ₂ := [some h, some (.lst [.str l]), some (.mref θ.length), some (.str [c])]) ?_ h'
      have e := x_append (f := cVar 2) (g := (cBin .Add (cIdx (cVal (.str [48, 49, 50, 51, 52, 53, 54, 55, 56, 57, 97, 98, 99, 100, 101, 102])) (cBin .FloorDiv (cBlt bOrd (cCons (cVar 3) cNil)) (cVal (.int 16)))) (cIdx (cVal (.str [48, 49, 50, 51, 52, 53, 54, 55, 56, 57, 97, 98, 99, 100, 101, 102])) (cBin .Mod (cBlt bOrd (cCons (cVar 3) cNil)) (cVal (.int 16)))))) (ρ := [some h, some (.lst [.str l]), some (.mref θ.length), some (.str [c])]) (σ := θ ++ [.lst ((acc.map hx2).map .str)]) (σ₁ := θ ++ [.lst ((acc.map hx2).map .str)]) (p := .str (hx2 c)) (v_var rfl) (sto_get _ _)
        (v_bin (v_idx v_val (v_bin (v_blt (v_cons (v_var rfl) v_nil) (bOrd_s _ c)) v_val (b_div _ (by decide))) (idx_hexd hc256)) (v_idx v_val (v_bin (v_blt (v_cons (v_var rfl) v_nil) (bOrd_s _ c)) v_val (b_mod _ (by decide))) (idx_hexm c)) (b_adds (a := [hx (c / 16)]) (b := [hx (c % 16)]) (Nat.le_of_ble_eq_true rfl)))
        (sto_get _ _) rfl (by simp at hn ⊢; omega)
      rw [sto_set] at e
      refine e.trans ?_
      simp
  obtain ⟨o', h'⟩ := loop l [] none hc (by simpa using hl)
  refine fn_ev (p := .str (b2h l)) (τ := [.lst (((([] : List Nat) ++ l).map hx2).map .str)]) (g := g_php_bin2hex) ?_ rfl rfl rfl
  unfold g_php_bin2hex
  apply x_seq x_newlist
  apply x_seq (x_for (v_istr (v_idx (v_var rfl) v_val (idx_l (a := 0) rfl (by decide)))) h')
  refine x_ret (v_join (q := .mref θ.length) (ls := l.map hx2) (v_var rfl) ?_ ?_)
  · exact lstOf_mref _ _
  · have := b2h_len l; unfold b2h at this; omega
noncomputable def hbk : List Nat → Option (List Nat)
  | a :: b :: r => if 15 < dv [a] ∨ 15 < dv [b] then none else (hbk r).map ((dv [a] * 16 + dv [b]) :: ·)
  | _ => some []
noncomputable def hbN (l : List Nat) : List PV := if l.length % 2 = 1 then [.tup [.str sWar, .str sOdd]] else match hbk l with
  | some _ => []
  | none => [.tup [.str sWar, .str sHex]]
noncomputable def hbV (l : List Nat) : PV := if l.length % 2 = 1 then .bool false else match hbk l with
  | some r => .str r
  | none => .bool false
theorem hbk_len : ∀ (n : Nat) (l r : List Nat), l.length ≤ n → hbk l = some r → r.length ≤ l.length
  | _, [], r, _, e => by cases e; exact Nat.le_refl _
  | _, [a], r, _, e => by cases e; exact Nat.zero_le _
  | 0, _ :: _ :: _, _, h, _ => absurd h (by simp)
  | n + 1, a :: b :: l, r, h, e => by
    unfold hbk at e
    split at e
    · cases e
    · obtain ⟨r', h', rfl⟩ := Option.map_eq_some_iff.mp e
      have := hbk_len n l r' (by simp at h; omega) h'
      simp; omega
theorem rng2 {m : Nat} : rngL 0 ((2 * m : Nat) : Int) 2 = (List.range' 0 m).map fun (i : Nat) => PV.int ((2 * i : Nat) : Int) := by
  unfold rngL
  have : (if (0 : Int) < ((2 * m : Nat) : Int) then (((2 * m : Nat) : Int) - 0 - 1) / 2 + 1 else 0).toNat = m := by
    split <;> omega
  rw [this, List.range_eq_range']
  refine List.map_congr_left fun i _ => ?_
  show PV.int _ = PV.int _
  congr 1; omega
theorem flat1 (r : List Nat) : (r.map fun c => [c]).flatten = r := by
  induction r with
  | nil => rfl
  | cons c cs ih => rw [List.map_cons, List.flatten_cons, ih]; rfl
noncomputable def hbR (σ : Sto) (ns : List PV) (l : List Nat) (a b c : Option PV) : Rho := [some (.host σ.length), some (.lst [.str l]), some (.str l), some (.mref (σ ++ [MO.lst ns]).length), a, b, c]
theorem f_hex2bin (l : List Nat) (ns : List PV) (σ : Sto) (hl : l.length ≤ 900) (hns : ns.length < 1000) : F_php_hex2bin [.host σ.length, .lst [.str l]] (σ ++ [.lst ns]) = .val (hbV l) (σ ++ [.lst (ns ++ hbN l)]) := by
  have hset : (xSet 2 (cIdx (cVar 1) (cVal (.int 0)))) [some (.host σ.length), some (.lst [.str l]), none, none, none, none, none] (σ ++ [.lst ns]) = .val (.nxt [some (.host σ.length), some (.lst [.str l]), some (.str l), none, none, none, none]) (σ ++ [.lst ns]) :=
    x_set (v_idx (v_var rfl) v_val (idx_l (a := 0) rfl (by decide)))
  have hodd : (tCmp .Eq (cBin .Mod (cBlt bLen (cCons (cVar 2) cNil)) (cVal (.int 2))) (cVal (.int 1))) [some (.host σ.length), some (.lst [.str l]), some (.str l), none, none, none, none] (σ ++ [.lst ns]) = .val (decide (l.length % 2 = 1)) (σ ++ [.lst ns]) := by
    refine to_eq (v_cmp (v_bin (v_blt (v_cons (v_var rfl) v_nil) (bLen_s (by omega))) v_val (b_mod _ (by decide))) v_val (c_eqi _ _ _)) ?_
    rw [Bool.eq_iff_iff, beq_iff_eq, decide_eq_true_eq]; omega
  unfold hbV hbN
  by_cases ho : l.length % 2 = 1
  · rw [if_pos ho, if_pos ho]
    rw [decide_eq_true ho] at hodd
    refine fn_ev' (p := .bool false) (g := g_php_hex2bin) (σ' := σ ++ [.lst (ns ++ [.tup [.str sWar, .str sOdd]])]) ?_ (sto_take _ _ _) rfl rfl
    unfold g_php_hex2bin
    apply x_seq hset
    apply x_seq_r
    apply x_if_t hodd
    have hw : F_warn [.host σ.length, .str sWar, .str sOdd] (σ ++ [.lst ns]) = .val .none (σ ++ [.lst (ns ++ [.tup [.str sWar, .str sOdd]])]) := by
      rw [f_warn (ns := ns) _ _ (sto_get _ _) (by omega), sto_set]
    exact x_seq (x_warn rfl (v_cons v_val (v_cons v_val v_nil)) hw) (x_ret v_val)
  · rw [if_neg ho, if_neg ho]
    rw [decide_eq_false ho] at hodd
    obtain ⟨m, hm⟩ : ∃ m, l.length = 2 * m := ⟨l.length / 2, by omega⟩
    have h0 : ((σ ++ [MO.lst ns])).length = σ.length + 1 := by simp
    have loop : ∀ n k acc o4 o5 o6, k + n = m → acc.length + n ≤ 900 →
        (∃ r o4' o5' o6', hbk (l.drop (2 * k)) = some r ∧ xFold (aOne 4) (xSeq (xSwap 5 6 (cCall F_digit_value (cCons (cIdx (cVar 2) (cVar 4)) cNil)) (cCall F_digit_value (cCons (cIdx (cVar 2) (cBin .Add (cVar 4) (cVal (.int 1)))) cNil)))
    (xSeq (xIf (tBo .Or (tCmp .Gt (cVar 5) (cVal (.int 15))) (tCmp .Gt (cVar 6) (cVal (.int 15)))) (xSeq (xWarn F_warn 0 (cCons (cVal (.str [87, 97, 114, 110, 105, 110, 103])) (cCons (cVal (.str [104, 101, 120, 50, 98, 105, 110, 40, 41, 58, 32, 73, 110, 112, 117, 116, 32, 115, 116, 114, 105, 110, 103, 32, 109, 117, 115, 116, 32, 98, 101, 32, 104, 101, 120, 97, 100, 101, 99, 105, 109, 97, 108, 32, 115, 116, 114, 105, 110, 103])) cNil)))
    (xRet (cVal (.bool false)))) xSkip)
    (xAppend (cVar 3) (cBlt bChr (cCons (cBin .Add (cBin .Mult (cVar 5) (cVal (.int 16))) (cVar 6)) cNil))))) ((List.range' k n).map fun (i : Nat) => PV.int ((2 * i : Nat) : Int)) (hbR σ ns l o4 o5 o6) (σ ++ [.lst ns] ++ [.lst ((acc.map fun c => [c]).map .str)]) = .val (.nxt (hbR σ ns l o4' o5' o6')) (σ ++ [.lst ns] ++ [.lst (((acc ++ r).map fun c => [c]).map .str)])) ∨
        (∃ x, hbk (l.drop (2 * k)) = none ∧ xFold (aOne 4) (xSeq (xSwap 5 6 (cCall F_digit_value (cCons (cIdx (cVar 2) (cVar 4)) cNil)) (cCall F_digit_value (cCons (cIdx (cVar 2) (cBin .Add (cVar 4) (cVal (.int 1)))) cNil)))
    (xSeq (xIf (tBo .Or (tCmp .Gt (cVar 5) (cVal (.int 15))) (tCmp .Gt (cVar 6) (cVal (.int 15)))) (xSeq (xWarn F_warn 0 (cCons (cVal (.str [87, 97, 114, 110, 105, 110, 103])) (cCons (cVal (.str [104, 101, 120, 50, 98, 105, 110, 40, 41, 58, 32, 73, 110, 112, 117, 116, 32, 115, 116, 114, 105, 110, 103, 32, 109, 117, 115, 116, 32, 98, 101, 32, 104, 101, 120, 97, 100, 101, 99, 105, 109, 97, 108, 32, 115, 116, 114, 105, 110, 103])) cNil)))
    (xRet (cVal (.bool false)))) xSkip)
    (xAppend (cVar 3) (cBlt bChr (cCons (cBin .Add (cBin .Mult (cVar 5) (cVal (.int 16))) (cVar 6)) cNil))))) ((List.range' k n).map fun (i : Nat) => PV.int ((2 * i : Nat) : Int)) (hbR σ ns l o4 o5 o6) (σ ++ [.lst ns] ++ [.lst ((acc.map fun c => [c]).map .str)]) = .val (.ret (.bool false)) (σ ++ [.lst (ns ++ [.tup [.str sWar, .str sHex]])] ++ [x])) := by
      intro n
      induction n with
      | zero =>
        intro k acc o4 o5 o6 hk _
        refine .inl ⟨[], o4, o5, o6, ?_, by rw [List.append_nil]; rfl⟩
        rw [List.drop_eq_nil_of_le (by omega)]; rfl
      | succ n ih =>
        intro k acc o4 o5 o6 hk hn
        have hk1 : 2 * k < l.length := by omega
        have hk2 : 2 * k + 1 < l.length := by omega
        rw [drop_cons hk1, drop_cons hk2, List.range'_succ, List.map_cons]
        generalize hθ : (σ ++ [MO.lst ns] ++ [MO.lst ((acc.map fun c => [c]).map PV.str)]) = θ
        have hsw : (xSwap 5 6 (cCall F_digit_value (cCons (cIdx (cVar 2) (cVar 4)) cNil)) (cCall F_digit_value (cCons (cIdx (cVar 2) (cBin .Add (cVar 4) (cVal (.int 1)))) cNil))) (hbR σ ns l (some (.int ((2 * k : Nat) : Int))) o5 o6) θ = .val (.nxt (hbR σ ns l (some (.int ((2 * k : Nat) : Int))) (some (.int (dv [l.getD (2 * k) 0] : Nat))) (some (.int (dv [l.getD (2 * k + 1) 0] : Nat))))) θ :=
          x_swap (v_call (v_cons (v_idx (v_var rfl) (v_var rfl) (idx_sd hk1 (by omega))) v_nil) (f_digit_value_one _ _)) (v_call (v_cons (v_idx (v_var rfl) (v_bin (v_var rfl) v_val (b_add1 _)) (idx_sd hk2 (by omega))) v_nil) (f_digit_value_one _ _))
        have ht : (tBo .Or (tCmp .Gt (cVar 5) (cVal (.int 15))) (tCmp .Gt (cVar 6) (cVal (.int 15)))) (hbR σ ns l (some (.int ((2 * k : Nat) : Int))) (some (.int (dv [l.getD (2 * k) 0] : Nat))) (some (.int (dv [l.getD (2 * k + 1) 0] : Nat)))) θ = .val (decide (15 < dv [l.getD (2 * k) 0] ∨ 15 < dv [l.getD (2 * k + 1) 0])) θ := by
          apply to_eq
          · apply v_or
            · trivial
            · intro _; trivial
          · rw [Bool.decide_or]
            have q1 : ∀ z : Nat, decide ((15 : Int) < (z : Int)) = decide (15 < z) := fun z => by rw [decide_eq_decide]; omega
            rw [q1, q1]
        unfold hbk
        by_cases hbad : 15 < dv [l.getD (2 * k) 0] ∨ 15 < dv [l.getD (2 * k + 1) 0]
        · rw [if_pos hbad]
          rw [decide_eq_true hbad] at ht
          refine .inr ⟨MO.lst ((acc.map fun c => [c]).map PV.str), rfl, x_fold_ret (by rfl) (x_seq hsw (x_seq_r (x_if_t ht ?_)))⟩
          have hw : F_warn [.host σ.length, .str sWar, .str sHex] θ = .val .none (σ ++ [.lst (ns ++ [.tup [.str sWar, .str sHex]])] ++ [MO.lst ((acc.map fun c => [c]).map PV.str)]) := by
            subst hθ
            rw [f_warn (ns := ns) _ _ (sto_get2 _ _ _) (by omega), sto_set2]
          exact x_seq (x_warn rfl (v_cons v_val (v_cons v_val v_nil)) hw) (x_ret v_val)
        · rw [if_neg hbad]
          rw [decide_eq_false hbad] at ht
          have hb1 : dv [l.getD (2 * k) 0] ≤ 15 := by omega
          have hb2 : dv [l.getD (2 * k + 1) 0] ≤ 15 := by omega
          generalize dv [l.getD (2 * k) 0] = x at *
          generalize dv [l.getD (2 * k + 1) 0] = y at *
          have happ : (xAppend (cVar 3) (cBlt bChr (cCons (cBin .Add (cBin .Mult (cVar 5) (cVal (.int 16))) (cVar 6)) cNil))) (hbR σ ns l (some (.int ((2 * k : Nat) : Int))) (some (.int (x : Nat))) (some (.int (y : Nat)))) θ = .val (.nxt (hbR σ ns l (some (.int ((2 * k : Nat) : Int))) (some (.int (x : Nat))) (some (.int (y : Nat))))) (σ ++ [.lst ns] ++ [.lst (((acc ++ [x * 16 + y]).map fun c => [c]).map .str)]) := by
            subst hθ
            have hch : bChr (σ ++ [MO.lst ns] ++ [MO.lst ((acc.map fun c => [c]).map PV.str)]) [.int ((x : Int) * 16 + y)] = some (.str [x * 16 + y]) := by
              have : ((x : Int) * 16 + y) = ((x * 16 + y : Nat) : Int) := by omega
              rw [this]
              exact if_pos (by omega)
            have e := x_append (f := cVar 3) (g := (cBlt bChr (cCons (cBin .Add (cBin .Mult (cVar 5) (cVal (.int 16))) (cVar 6)) cNil))) (ρ := (hbR σ ns l (some (.int ((2 * k : Nat) : Int))) (some (.int (x : Nat))) (some (.int (y : Nat))))) (v_var rfl) (sto_get _ _)
              (v_blt (v_cons (v_bin (v_bin (v_var rfl) v_val (b_mul _ (by decide))) (v_var rfl) (b_add _ _)) v_nil) hch) (sto_get _ _) rfl (by simp; omega)
            rw [sto_set] at e
            refine e.trans ?_
            simp
          rcases ih (k + 1) (acc ++ [x * 16 + y]) (some (.int ((2 * k : Nat) : Int))) (some (.int (x : Nat))) (some (.int (y : Nat))) (by omega) (by simp; omega) with ⟨r, o4', o5', o6', hr, hx⟩ | ⟨z, hr, hx⟩
          · refine .inl ⟨(x * 16 + y) :: r, o4', o5', o6', ?_, ?_⟩
            · have : 2 * k + 1 + 1 = 2 * (k + 1) := by omega
              rw [this, hr]; rfl
            · rw [List.append_assoc acc, List.singleton_append] at hx
              exact x_fold_cons (by rfl) (x_seq hsw (x_seq (x_if_f ht x_skip) happ)) hx
          · refine .inr ⟨z, ?_, ?_⟩
            · have : 2 * k + 1 + 1 = 2 * (k + 1) := by omega
              rw [this, hr]; rfl
            · exact x_fold_cons (by rfl) (x_seq hsw (x_seq (x_if_f ht x_skip) happ)) hx
    have hrng : (cRange (cCons (cVal (.int 0)) (cCons (cBlt bLen (cCons (cVar 2) cNil)) (cCons (cVal (.int 2)) cNil)))) (hbR σ ns l none none none) (σ ++ [.lst ns] ++ [.lst []]) = .val ((List.range' 0 m).map fun (i : Nat) => PV.int ((2 * i : Nat) : Int)) (σ ++ [.lst ns] ++ [.lst []]) := by
      refine v_range (v_cons v_val (v_cons (v_blt (v_cons (v_var rfl) v_nil) (bLen_s (by omega))) (v_cons v_val v_nil))) ?_
      rw [hm, ← rng2]
      exact if_pos (by refine ⟨?_, ?_, ?_, ?_⟩ <;> omega)
    have hstart : ∀ r, (xSeq (xFor (cRange (cCons (cVal (.int 0)) (cCons (cBlt bLen (cCons (cVar 2) cNil)) (cCons (cVal (.int 2)) cNil)))) (aOne 4) (xSeq (xSwap 5 6 (cCall F_digit_value (cCons (cIdx (cVar 2) (cVar 4)) cNil)) (cCall F_digit_value (cCons (cIdx (cVar 2) (cBin .Add (cVar 4) (cVal (.int 1)))) cNil)))
    (xSeq (xIf (tBo .Or (tCmp .Gt (cVar 5) (cVal (.int 15))) (tCmp .Gt (cVar 6) (cVal (.int 15)))) (xSeq (xWarn F_warn 0 (cCons (cVal (.str [87, 97, 114, 110, 105, 110, 103])) (cCons (cVal (.str [104, 101, 120, 50, 98, 105, 110, 40, 41, 58, 32, 73, 110, 112, 117, 116, 32, 115, 116, 114, 105, 110, 103, 32, 109, 117, 115, 116, 32, 98, 101, 32, 104, 101, 120, 97, 100, 101, 99, 105, 109, 97, 108, 32, 115, 116, 114, 105, 110, 103])) cNil)))
    (xRet (cVal (.bool false)))) xSkip)
    (xAppend (cVar 3) (cBlt bChr (cCons (cBin .Add (cBin .Mult (cVar 5) (cVal (.int 16))) (cVar 6)) cNil)))))) (xRet (cMeth bJoin (cVal (.str [])) (cCons (cVar 3) cNil)))) (hbR σ ns l none none none) (σ ++ [.lst ns] ++ [.lst []]) = r → g_php_hex2bin [some (.host σ.length), some (.lst [.str l]), none, none, none, none, none] (σ ++ [.lst ns]) = r := fun r hr => x_seq hset (x_seq (x_if_f hodd x_skip) (x_seq x_newlist hr))
    rcases loop m 0 [] none none none (by omega) (by simp; omega) with ⟨r, o4', o5', o6', hr, hx⟩ | ⟨z, hr, hx⟩
    · rw [Nat.mul_zero, List.drop_zero] at hr
      rw [hr, List.append_nil]
      have hrl := hbk_len _ l r (Nat.le_refl _) hr
      refine fn_ev' (p := .str r) (g := g_php_hex2bin) (σ' := σ ++ [MO.lst ns] ++ [MO.lst ((([] ++ r : List Nat).map fun c => [c]).map PV.str)]) (hstart _ (x_seq (x_for hrng hx) (x_ret (p := .str r) ?_))) (List.take_left' rfl) rfl rfl
      have := v_join (q := .mref (σ ++ [MO.lst ns]).length) (ls := r.map fun c => [c]) (f := cVar 3) (ρ := (hbR σ ns l o4' o5' o6')) (v_var rfl) (lstOf_mref (σ ++ [MO.lst ns]) _) (by rw [flat1]; omega)
      rw [flat1] at this
      exact this
    · rw [Nat.mul_zero, List.drop_zero] at hr
      rw [hr]
      have hh := hstart _ (x_seq_r (x_for hrng hx))
      exact fn_ev' (p := .bool false) (g := g_php_hex2bin) hh (List.take_left' (by simp)) rfl rfl
/- P10 -/
noncomputable def k_digit : List Nat := [100, 105, 103, 105, 116]
noncomputable def k_upper : List Nat := [117, 112, 112, 101, 114]
noncomputable def k_lower : List Nat := [108, 111, 119, 101, 114]
noncomputable def k_alpha : List Nat := [97, 108, 112, 104, 97]
noncomputable def k_alnum : List Nat := [97, 108, 110, 117, 109]
noncomputable def k_xdigit : List Nat := [120, 100, 105, 103, 105, 116]
noncomputable def k_space : List Nat := [115, 112, 97, 99, 101]
noncomputable def k_punct : List Nat := [112, 117, 110, 99, 116]
noncomputable def t_int : List Nat := [105, 110, 116]
noncomputable def t_string : List Nat := [115, 116, 114, 105, 110, 103]
noncomputable def t_null : List Nat := [110, 117, 108, 108]
noncomputable def t_bool : List Nat := [98, 111, 111, 108]
noncomputable def t_array : List Nat := [97, 114, 114, 97, 121]
noncomputable def sCt : List Nat := [99, 116, 121, 112, 101, 95]
noncomputable def sArg : List Nat := [40, 41, 58, 32, 65, 114, 103, 117, 109, 101, 110, 116, 32, 111, 102, 32, 116, 121, 112, 101, 32]
noncomputable def sWill : List Nat := [32, 119, 105, 108, 108, 32, 98, 101, 32, 105, 110, 116, 101, 114, 112, 114, 101, 116, 101, 100, 32, 97, 115, 32, 115, 116, 114, 105, 110, 103, 32, 105, 110, 32, 116, 104, 101, 32, 102, 117, 116, 117, 114, 101]
noncomputable def isUp (c : Nat) : Bool := decide (65 ≤ c) && decide (c ≤ 90)
noncomputable def isLo (c : Nat) : Bool := decide (97 ≤ c) && decide (c ≤ 122)
noncomputable def ik (nm : List Nat) (c : Nat) : Bool :=
  bif nm == k_digit then isDg c else bif nm == k_upper then isUp c else bif nm == k_lower then isLo c else bif nm == k_alpha then isUp c || isLo c else
  bif nm == k_alnum then isDg c || (isUp c || isLo c) else bif nm == k_xdigit then decide (dv [c] < 16) else bif nm == k_space then isBl c else
  (decide (33 ≤ c) && decide (c ≤ 126)) && !(isDg c || (isUp c || isLo c))
theorem x_if_r {t : Rho → Sto → R Bool} {x : Rho → Sto → R Ou} {y : Rho → Sto → R Ou} {r : Bool} {a b : PV} {ρ : Rho} {σ : Sto} (ht : t ρ σ = .val r σ) (hx : x ρ σ = .val (.ret a) σ) (hy : r = false → y ρ σ = .val (.ret b) σ) : xSeq (xIf t x xSkip) y ρ σ = .val (.ret (bif r then a else b)) σ := by
  cases r
  · exact x_seq (x_if_f ht x_skip) (hy rfl)
  · exact x_seq_r (x_if_t ht hx)
theorem cond_bool (r a b : Bool) : (bif r then PV.bool a else PV.bool b) = PV.bool (bif r then a else b) := by cases r <;> rfl
theorem f_is_of_kind (c : Nat) (nm : List Nat) (σ : Sto) : F_is_of_kind [.str [c], .str nm] σ = .val (.bool (ik nm c)) σ := by
  refine fn_ev0 ?_ rfl rfl
  unfold g_is_of_kind
  apply x_seq' (ρ₂ := [some (.str [c]), some (.str nm), some (.bool (isDg c)), none, none])
  · exact x_set (v_toV (v_chain v_val (v_var rfl) (c_le _ _ _) v_val (c_le _ _ _)))
  · rfl
  apply x_seq' (ρ₂ := [some (.str [c]), some (.str nm), some (.bool (isDg c)), some (.bool (isUp c)), none])
  · exact x_set (v_toV (v_chain v_val (v_var rfl) (c_le _ _ _) v_val (c_le _ _ _)))
  · rfl
  apply x_seq' (ρ₂ := [some (.str [c]), some (.str nm), some (.bool (isDg c)), some (.bool (isUp c)), some (.bool (isLo c))])
  · exact x_set (v_toV (v_chain v_val (v_var rfl) (c_le _ _ _) v_val (c_le _ _ _)))
  · rfl
  unfold ik
  simp only [← cond_bool]
  apply x_if_r (v_cmp (v_var rfl) v_val (c_eqs _ _ _)) (x_ret (v_var rfl)); intro _
  apply x_if_r (v_cmp (v_var rfl) v_val (c_eqs _ _ _)) (x_ret (v_var rfl)); intro _
  apply x_if_r (v_cmp (v_var rfl) v_val (c_eqs _ _ _)) (x_ret (v_var rfl)); intro _
  apply x_if_r (v_cmp (v_var rfl) v_val (c_eqs _ _ _)) (x_ret (v_toV (v_or (v_asB (v_var rfl)) fun _ => v_asB (v_var rfl)))); intro _
  apply x_if_r (v_cmp (v_var rfl) v_val (c_eqs _ _ _)) (x_ret (v_toV (v_or (v_asB (v_var rfl)) fun _ => v_or (v_asB (v_var rfl)) fun _ => v_asB (v_var rfl)))); intro _
  apply x_if_r (v_cmp (v_var rfl) v_val (c_eqs _ _ _)) (x_ret (v_toV (to_eq (v_cmp (v_call (v_cons (v_var rfl) v_nil) (f_digit_value_one c _)) v_val (c_lt _ _ _)) (by rw [decide_eq_decide]; omega)))); intro _
  apply x_if_r (v_cmp (v_var rfl) v_val (c_eqs _ _ _)) (x_ret (v_call (v_cons (v_var rfl) v_nil) (f_is_blank c _))); intro _
  exact x_ret (v_toV (v_and (v_asB (v_toV (v_chain v_val (v_var rfl) (c_le _ _ _) v_val (c_le _ _ _)))) fun _ => v_asB (v_toV (v_not (v_asB (v_toV (v_or (v_asB (v_var rfl)) fun _ => v_or (v_asB (v_var rfl)) fun _ => v_asB (v_var rfl))))))))
/- the kinds that warn -/
noncomputable def ctNote (nm ty : List Nat) : PV := .tup [.str sDep, .str (sCt ++ nm ++ sArg ++ ty ++ sWill)]
theorem f_all_str (nm l : List Nat) (H : PV) (σ : Sto) (hl : l.length ≤ 900) : F_all_of_kind [H, .str nm, .str l] σ = .val (.bool (l.all (ik nm) && !(l == []))) σ := by
  have loop : ∀ (r : List Nat) (o : Option PV), (r.all (ik nm) = true ∧ ∃ o', xFold (aOne 3) (xIf (tNot (asB (cCall F_is_of_kind (cCons (cVar 3) (cCons (cVar 1) cNil))))) (xRet (cVal (.bool false))) xSkip) (r.map fun c => .str [c]) [some H, some (.str nm), some (.str l), o] σ = .val (.nxt [some H, some (.str nm), some (.str l), o']) σ) ∨
      (r.all (ik nm) = false ∧ xFold (aOne 3) (xIf (tNot (asB (cCall F_is_of_kind (cCons (cVar 3) (cCons (cVar 1) cNil))))) (xRet (cVal (.bool false))) xSkip) (r.map fun c => .str [c]) [some H, some (.str nm), some (.str l), o] σ = .val (.ret (.bool false)) σ) := by
    intro r
    induction r with
    | nil => intro o; exact .inl ⟨rfl, o, rfl⟩
    | cons c cs ih =>
      intro o
      have ht : (tNot (asB (cCall F_is_of_kind (cCons (cVar 3) (cCons (cVar 1) cNil))))) [some H, some (.str nm), some (.str l), some (.str [c])] σ = .val (!ik nm c) σ := v_not (v_asB (v_call (v_cons (v_var rfl) (v_cons (v_var rfl) v_nil)) (f_is_of_kind c nm σ)))
      rw [List.map_cons, List.all_cons]
      cases hk : ik nm c
      · rw [hk] at ht
        exact .inr ⟨rfl, x_fold_ret (by rfl) (x_if_t ht (x_ret v_val))⟩
      · rw [hk] at ht
        rcases ih (some (.str [c])) with ⟨h1, o', h2⟩ | ⟨h1, h2⟩
        · exact .inl ⟨by rw [h1]; rfl, o', x_fold_cons (by rfl) (x_if_f ht x_skip) h2⟩
        · exact .inr ⟨by rw [h1]; rfl, x_fold_cons (by rfl) (x_if_f ht x_skip) h2⟩
  refine fn_ev0 ?_ rfl rfl
  unfold g_all_of_kind
  apply x_seq_r
  apply x_if_t (v_cmp (v_call (v_cons (v_var rfl) v_nil) (f_kind_s l σ)) v_val rfl)
  rcases loop l none with ⟨h1, o', h2⟩ | ⟨h1, h2⟩
  · rw [h1]
    exact x_seq (x_for (v_istr (v_var rfl)) h2) (x_ret (v_toV (v_cmp (v_var rfl) v_val (c_nes _ _ _))))
  · rw [h1]
    exact x_seq_r (x_for (v_istr (v_var rfl)) h2)
theorem all_warn {nm ty : List Nat} {v : PV} {ns : List PV} {σ : Sto} {y : Rho → Sto → R Ou} {r : R Ou} (hnm : nm.length ≤ 100) (hty : ty.length ≤ 100) (hns : ns.length < 1000) (hg : F_given [v] (σ ++ [.lst ns]) = .val (.str ty) (σ ++ [.lst ns]))
    (hy : y [some (.host σ.length), some (.str nm), some v, none] (σ ++ [.lst (ns ++ [ctNote nm ty])]) = r) :
    xSeq (xWarn F_warn 0 (cCons (cVal (.str sDep)) (cCons (cBin .Add (cBin .Add (cBin .Add (cBin .Add (cVal (.str sCt)) (cVar 1)) (cVal (.str sArg))) (cCall F_given (cCons (cVar 2) cNil))) (cVal (.str sWill))) cNil))) y [some (.host σ.length), some (.str nm), some v, none] (σ ++ [.lst ns]) = r := by
  have hw : F_warn [.host σ.length, .str sDep, .str (sCt ++ nm ++ sArg ++ ty ++ sWill)] (σ ++ [.lst ns]) = .val .none (σ ++ [.lst (ns ++ [ctNote nm ty])]) := by
    rw [f_warn (ns := ns) _ _ (sto_get _ _) (by omega), sto_set]; rfl
  have l1 : sCt.length = 6 := rfl
  have l2 : sArg.length = 21 := rfl
  have l3 : sWill.length = 44 := rfl
  refine x_seq (x_warn rfl (v_cons v_val (v_cons (v_bin (v_bin (v_bin (v_bin v_val (v_var rfl) (b_adds ?_)) v_val (b_adds ?_)) (v_call (v_cons (v_var rfl) v_nil) hg) (b_adds ?_)) v_val (b_adds ?_)) v_nil)) hw) hy
  all_goals (simp only [List.length_append, l1, l2, l3]; omega)
/- P11 -/

theorem f_all_not (nm ty : List Nat) (v : PV) (ns : List PV) (σ : Sto) (hnm : nm.length ≤ 100) (hty : ty.length ≤ 100) (hns : ns.length < 1000) (hk : ∀ σ, F_kind [v] σ = .val (.str ty) σ) (hg : ∀ σ, F_given [v] σ = .val (.str ty) σ) (h1 : (ty == t_string) = false) (h2 : (ty == t_int) = false) :
    F_all_of_kind [.host σ.length, .str nm, v] (σ ++ [.lst ns]) = .val (.bool false) (σ ++ [.lst (ns ++ [ctNote nm ty])]) := by
  refine fn_ev' (g := g_all_of_kind) (p := .bool false) (σ' := σ ++ [.lst (ns ++ [ctNote nm ty])]) ?_ (sto_take _ _ _) rfl rfl
  unfold g_all_of_kind
  refine x_seq (x_if_f (to_eq (v_cmp (v_call (v_cons (v_var rfl) v_nil) (hk _)) v_val (c_eqs _ _ _)) h1) x_skip) ?_
  refine all_warn hnm hty hns (hg _) ?_
  exact x_seq_r (x_if_t (to_eq (v_cmp (v_call (v_cons (v_var rfl) v_nil) (hk _)) v_val (c_nes _ _ _)) (by show (!(ty == t_int)) = true; rw [h2]; rfl)) (x_ret v_val))
noncomputable def aiP (nm : List Nat) (n : Int) : Bool := bif decide (-128 ≤ n) && decide (n ≤ 255) then ik nm (n % 256).toNat else decide (255 < n) && [k_digit, k_alnum, k_xdigit].contains nm
theorem f_all_int (nm : List Nat) (n : Int) (ns : List PV) (σ : Sto) (hnm : nm.length ≤ 100) (hns : ns.length < 1000) :
    F_all_of_kind [.host σ.length, .str nm, .int n] (σ ++ [.lst ns]) = .val (.bool (aiP nm n)) (σ ++ [.lst (ns ++ [ctNote nm t_int])]) := by
  refine fn_ev' (g := g_all_of_kind) (p := .bool (aiP nm n)) (σ' := σ ++ [.lst (ns ++ [ctNote nm t_int])]) ?_ (sto_take _ _ _) rfl rfl
  unfold g_all_of_kind
  refine x_seq (x_if_f (to_eq (v_cmp (v_call (v_cons (v_var rfl) v_nil) (f_kind_i n _)) v_val (c_eqs _ _ _)) rfl) x_skip) ?_
  refine all_warn hnm (by decide) hns (f_given_i n _) ?_
  refine x_seq (x_if_f (to_eq (v_cmp (v_call (v_cons (v_var rfl) v_nil) (f_kind_i n _)) v_val (c_nes _ _ _)) rfl) x_skip) ?_
  unfold aiP
  have hc : (tChain .LtE .LtE (cNeg (cVal (.int 128))) (cVar 2) (cVal (.int 255))) [some (.host σ.length), some (.str nm), some (.int n), none] (σ ++ [.lst (ns ++ [ctNote nm t_int])]) = .val (decide (-128 ≤ n) && decide (n ≤ 255)) (σ ++ [.lst (ns ++ [ctNote nm t_int])]) :=
    v_chain (v_neg v_val) (v_var rfl) (c_lei _ _ _) v_val (c_lei _ _ _)
  cases hr : decide (-128 ≤ n) && decide (n ≤ 255)
  · rw [hr] at hc
    refine x_seq (x_if_f hc x_skip) ?_
    exact x_ret (v_toV (v_and (v_asB (v_toV (v_cmp (v_var rfl) v_val (c_gt _ _ _)))) fun _ => v_asB (v_toV (v_cmp (v_var rfl) (v_tup (v_cons v_val (v_cons v_val (v_cons v_val v_nil))) (len3 _ _ _)) (c_in _ _ [k_digit, k_alnum, k_xdigit])))))
  · rw [hr] at hc
    exact x_seq_r (x_if_t hc (x_ret (v_call (v_cons (v_blt (v_cons (v_bin (v_var rfl) v_val (b_mod n (by decide))) v_nil) (if_pos (by omega))) (v_cons (v_var rfl) v_nil)) (f_is_of_kind _ nm _))))
/- what a ctype way answers, and its notes -/
structure CtWay (F : List PV → Sto → R PV) (nm : List Nat) : Prop where
  eq : F = fnR 2 0 (xRet (cCall F_all_of_kind (cCons (cVar 0) (cCons (cVal (.str nm)) (cCons (cIdx (cVar 1) (cVal (.int 0))) cNil)))))
theorem ct_val {F : List PV → Sto → R PV} {nm : List Nat} (e : CtWay F nm) {v p : PV} {ns ns' : List PV} {σ : Sto} (h : F_all_of_kind [.host σ.length, .str nm, v] (σ ++ [.lst ns]) = .val p (σ ++ [.lst ns'])) (hp : frz (σ ++ [MO.lst ns]).length (σ ++ [.lst ns']) 4 p = some p) :
    F [.host σ.length, .lst [v]] (σ ++ [.lst ns]) = .val p (σ ++ [.lst ns']) := by
  cases e.eq
  exact fn_ev' (x_ret (v_call (v_cons (v_var rfl) (v_cons v_val (v_cons (v_idx (v_var rfl) v_val (idx_l (a := 0) rfl (by decide))) v_nil))) h)) (sto_take _ _ _) rfl hp
theorem w_digit : CtWay F_php_ctype_digit k_digit := ⟨rfl⟩
theorem w_alpha : CtWay F_php_ctype_alpha k_alpha := ⟨rfl⟩
theorem w_alnum : CtWay F_php_ctype_alnum k_alnum := ⟨rfl⟩
theorem w_upper : CtWay F_php_ctype_upper k_upper := ⟨rfl⟩
theorem w_lower : CtWay F_php_ctype_lower k_lower := ⟨rfl⟩
theorem w_space : CtWay F_php_ctype_space k_space := ⟨rfl⟩
theorem w_punct : CtWay F_php_ctype_punct k_punct := ⟨rfl⟩
theorem w_xdigit : CtWay F_php_ctype_xdigit k_xdigit := ⟨rfl⟩
/- P12 -/

section
variable {ρ : Rho} {σ : Sto} {f g : Rho → Sto → R PV} {l : List Nat}
theorem v_to {b : Nat} (hf : f ρ σ = .val (.str l) σ) (hg : g ρ σ = .val (.int b) σ) (hb : b < 1000000) (hl : l.length ≤ 1000000) : cSl f oNone (oInt g) ρ σ = .val (.str (l.take b)) σ :=
  to_eq (v_sl hf v_onone (v_oint hg (by omega)) hl) rfl
theorem v_from {a : Nat} (hf : f ρ σ = .val (.str l) σ) (hg : g ρ σ = .val (.int a) σ) (ha : a < 1000000) (hl : l.length ≤ 1000000) : cSl f (oInt g) oNone ρ σ = .val (.str (l.drop a)) σ :=
  to_eq (v_sl hf (v_oint hg (by omega)) v_onone hl) (by show PV.str ((l.take l.length).drop a) = _; rw [List.take_length])
end
theorem dropWhile_scan (q : Nat → Bool) (l : List Nat) : l.dropWhile q = l.drop (scan q l 0) := by
  unfold scan
  rw [List.drop_zero, Nat.zero_add]
  induction l with
  | nil => rfl
  | cons c cs ih =>
    cases h : q c
    · rw [List.dropWhile_cons_of_neg (by simp [h]), List.takeWhile_cons_of_neg (by simp [h])]; rfl
    · rw [List.dropWhile_cons_of_pos h, List.takeWhile_cons_of_pos h, List.length_cons, List.drop_succ_cons, ih]
theorem takeWhile_scan (q : Nat → Bool) (l : List Nat) : l.takeWhile q = l.take (scan q l 0) := by
  have := slice_scan q l 0
  rw [List.drop_zero, List.drop_zero] at this
  exact this.symm
noncomputable def blC : List Nat := [32, 9, 10, 13, 11, 12]
theorem blC_is : (fun c => blC.contains c) = isBl := by
  funext c
  unfold blC isBl
  simp only [List.contains_cons, List.contains_nil, Bool.or_false]
  rw [Bool.eq_iff_iff]; simp; omega
theorem lstrip_is (l : List Nat) : lstripL blC l = l.drop (nF l) := by
  unfold lstripL
  rw [blC_is, dropWhile_scan]; rfl
noncomputable def sgl : List (List Nat) := [[45], [43]]
noncomputable def lsG (l : List Nat) : List Nat := bif sgl.contains ((l.drop (nF l)).take 1) then (l.drop (nF l)).take 1 else []
noncomputable def lsR (l : List Nat) : List Nat := bif sgl.contains ((l.drop (nF l)).take 1) then (l.drop (nF l)).drop 1 else l.drop (nF l)
theorem f_law_signed (l : List Nat) (σ : Sto) (hl : l.length ≤ 900) : F__law_signed [.str l] σ = .val (.tup [.str (lsG l), .str (lsR l)]) σ := by
  refine fn_ev0 ?_ rfl rfl
  unfold g__law_signed
  have hd : (l.drop (nF l)).length ≤ 1000000 := by rw [List.length_drop]; omega
  apply x_seq' (ρ₂ := [some (.str l), some (.str (l.drop (nF l)))])
  · refine x_set (v_meth (v_var rfl) (v_cons v_val v_nil) (p := .str (l.drop (nF l))) ?_)
    show (if l.length ≤ 1000000 then some (PV.str (lstripL blC l)) else none) = _
    rw [if_pos (by omega), lstrip_is]
  · rfl
  generalize hr : l.drop (nF l) = r at hd ⊢
  have h1 : ∀ ρ : Rho, ρ[1]? = some (some (.str r)) → cSl (cVar 1) oNone (oInt (cVal (.int 1))) ρ σ = .val (.str (r.take 1)) σ := fun ρ h => v_to (b := 1) (v_var h) v_val (by decide) hd
  have hc : (tCmp .In (cSl (cVar 1) oNone (oInt (cVal (.int 1)))) (cTup (cCons (cVal (.str [45])) (cCons (cVal (.str [43])) cNil)))) [some (.str l), some (.str r)] σ = .val (sgl.contains (r.take 1)) σ :=
    v_cmp (h1 _ rfl) (v_tup (v_cons v_val (v_cons v_val v_nil)) (len2 _ _)) (c_in _ _ sgl)
  unfold lsG lsR
  rw [hr]
  cases h : sgl.contains (r.take 1)
  · rw [h] at hc
    exact x_seq (x_if_f hc x_skip) (x_ret (v_tup (v_cons v_val (v_cons (v_var rfl) v_nil)) (len2 _ _)))
  · rw [h] at hc
    exact x_seq_r (x_if_t hc (x_ret (v_tup (v_cons (h1 _ rfl) (v_cons (v_from (a := 1) (v_var rfl) v_val (by decide) hd) v_nil)) (len2 _ _))))
theorem worth_place (c : Nat) (h : c < 128) : (bif decide ((0 : Int) ≤ placeOf (lowc c)) then PV.int (placeOf (lowc c)) else PV.int 99) = PV.int (dv [c] : Nat) := by
  unfold lowc placeOf dv
  dsimp only
  by_cases h1 : 65 ≤ c ∧ c ≤ 90
  · rw [if_pos h1, if_neg (by omega), if_pos (by omega), if_neg (by omega), if_neg (by omega), if_pos h1]
    rw [decide_eq_true (by omega)]
    show PV.int _ = _
    congr 1; omega
  · rw [if_neg h1]
    by_cases h2 : 48 ≤ c ∧ c ≤ 57
    · rw [if_pos h2, if_pos h2, decide_eq_true (by omega)]
      show PV.int _ = _
      congr 1; omega
    · rw [if_neg h2, if_neg h2]
      by_cases h3 : 97 ≤ c ∧ c ≤ 122
      · rw [if_pos h3, if_pos h3, decide_eq_true (by omega)]
        show PV.int _ = _
        congr 1; omega
      · rw [if_neg h3, if_neg h3, if_neg h1, decide_eq_false (by omega)]; rfl
theorem dv_big {c : Nat} (h : 128 ≤ c) : dv [c] = 99 := by
  unfold dv; dsimp only
  rw [if_neg (by omega), if_neg (by omega), if_neg (by omega)]
theorem dv_len {l : List Nat} (h : l.length ≠ 1) : dv l = 99 := by
  match l, h with
  | [], _ => rfl
  | [_], h => exact absurd rfl h
  | _ :: _ :: _, _ => rfl
theorem f_law_worth (s : List Nat) (σ : Sto) (hl : s.length ≤ 1000000) : F__law_worth [.str s] σ = .val (.int (dv s : Nat)) σ := by
  refine fn_ev0 ?_ rfl rfl
  unfold g__law_worth
  by_cases h1 : s.length = 1
  · obtain ⟨c, rfl⟩ : ∃ c, s = [c] := List.length_eq_one_iff.mp h1
    have hc : (tBo .And (tCmp .Eq (cBlt bLen (cCons (cVar 0) cNil)) (cVal (.int 1))) (tCmp .Lt (cBlt bOrd (cCons (cVar 0) cNil)) (cVal (.int 128)))) [some (.str [c]), none] σ = .val (decide (c < 128)) σ := by
      refine to_eq (v_and (r := true) (r' := decide ((c : Int) < 128)) (v_cmp (v_blt (v_cons (v_var rfl) v_nil) (bLen_s hl)) v_val rfl) fun _ => v_cmp (v_blt (v_cons (v_var rfl) v_nil) (bOrd_s _ c)) v_val (c_lt _ _ _)) ?_
      rw [Bool.true_and, decide_eq_decide]; omega
    by_cases h : c < 128
    · rw [decide_eq_true h] at hc
      have hl36 : lowc c < 128 := by unfold lowc; split <;> omega
      apply x_seq' (ρ₂ := [some (.str [c]), some (.int (placeOf (lowc c)))])
      · refine x_set (to_eq (v_if (r := true) (p := .int (placeOf (lowc c))) (q := .none) hc (fun _ => v_meth v_val (v_cons (v_meth (v_var rfl) v_nil (p := .str [lowc c]) (if_pos h)) v_nil) ?_) (fun h => by cases h)) rfl)
        show (if (lit36 == lit36 && decide (lowc c < 128)) = true then some (PV.int (placeOf (lowc c))) else none) = _
        rw [if_pos (by rw [decide_eq_true hl36]; rfl)]
      · rfl
      · refine x_ret (to_eq (v_if (v_cmp (v_var rfl) v_val (c_ge _ _ _)) (fun _ => v_var rfl) (fun _ => v_val)) ?_)
        exact worth_place c h
    · rw [decide_eq_false h] at hc
      rw [dv_big (by omega)]
      exact x_seq (x_set (to_eq (v_if (r := false) (p := .none) (q := .int (-1)) hc (fun h => by cases h) (fun _ => v_neg v_val)) rfl)) (x_ret (by rfl))
  · rw [dv_len h1]
    have hc : (tBo .And (tCmp .Eq (cBlt bLen (cCons (cVar 0) cNil)) (cVal (.int 1))) (tCmp .Lt (cBlt bOrd (cCons (cVar 0) cNil)) (cVal (.int 128)))) [some (.str s), none] σ = .val false σ := by
      refine v_and (r := false) (r' := true) (to_eq (v_cmp (v_blt (v_cons (v_var rfl) v_nil) (bLen_s hl)) v_val (c_eqi _ _ _)) ?_) (fun h => by cases h)
      rw [Bool.eq_false_iff]; simp; omega
    exact x_seq (x_set (to_eq (v_if (r := false) (p := .none) (q := .int (-1)) hc (fun h => by cases h) (fun _ => v_neg v_val)) rfl)) (x_ret (by rfl))
noncomputable def lrow (b : Nat) (l : List Nat) : List Nat := l.takeWhile fun c => decide (dv [c] < b)
theorem f_law_row (l : List Nat) (b : Nat) (σ : Sto) (hl : l.length ≤ 900) : F__law_row [.str l, .int b] σ = .val (.str (lrow b l)) σ := by
  refine fn_ev0 ?_ rfl rfl
  unfold g__law_row
  apply x_seq' (ρ₂ := [some (.str l), some (.int b), some (.int ((0 : Nat) : Int))])
  · exact x_set v_val
  · rfl
  have := scan_le (fun c => decide (dv [c] < b)) l 0 (Nat.zero_le _)
  apply x_seq (ρ₁ := [some (.str l), some (.int b), some (.int ((scan (fun c => decide (dv [c] < b)) l 0 : Nat) : Int))])
  · refine x_scan (S := fun a => [some (.str l), some (.int b), some (.int (a : Nat))]) (q := fun c => decide (dv [c] < b)) (l := l) (fun a ha => ?_) (fun a ha => ?_) _ _ (Nat.zero_le _) (by omega)
    · refine to_eq (v_and (r' := decide (((dv [l.getD a 0] : Nat) : Int) < b)) (v_cmp (v_var rfl) (v_blt (v_cons (v_var rfl) v_nil) (bLen_s (by omega))) (c_lt _ _ _)) fun h => ?_) ?_
      · exact v_cmp (v_call (v_cons (v_idx (v_var rfl) (v_var rfl) (idx_sd (lt_of_dec h) (by omega))) v_nil) (f_law_worth _ _ (by simp))) (v_var rfl) (c_lt _ _ _)
      · rw [dec_lt, dec_lt]
    · exact x_set (v_bin (v_var rfl) v_val (b_add1 a))
  · refine x_ret (to_eq (v_to (v_var rfl) (v_var rfl) (by omega) (by omega)) ?_)
    unfold lrow
    rw [takeWhile_scan]
/- P13 -/

theorem cp_fold {α : Type} {gr : PV → Rho → Option Rho} {f : Rho → Sto → R PV} {P : Rho → Prop} {it out : α → PV} {σ : Sto} : ∀ (xs : List α) (acc : List PV) (ρ : Rho), P ρ → acc.length + xs.length ≤ 1000000 → (∀ x ∈ xs, ∀ ρ, P ρ → ∃ ρ₁, gr (it x) ρ = some ρ₁ ∧ f ρ₁ σ = .val (out x) σ ∧ P ρ₁) →
    ∃ ρ', cpFold gr tTrue (cpElt f) (xs.map it) acc ρ σ = .val (ρ', acc ++ xs.map out) σ
  | [], acc, ρ, _, _, _ => ⟨ρ, by rw [List.map_nil, List.map_nil, List.append_nil]; rfl⟩
  | x :: xs, acc, ρ, hp, hl, h => by
    obtain ⟨ρ₁, h1, h2, h3⟩ := h x (List.mem_cons_self ..) ρ hp
    obtain ⟨ρ', h'⟩ := cp_fold (gr := gr) (f := f) (P := P) (it := it) (out := out) (σ := σ) xs (acc ++ [out x]) ρ₁ h3 (by simp at hl ⊢; omega) fun y hy => h y (List.mem_cons_of_mem _ hy)
    refine ⟨ρ', ?_⟩
    rw [List.map_cons, List.map_cons]
    unfold cpFold
    rw [h1]
    dsimp only [tTrue, R.quiet, R.bind, cpElt]
    rw [h2]
    dsimp only
    rw [if_pos rfl, if_pos (by simp at hl ⊢; omega)]
    rw [List.append_assoc, List.singleton_append] at h'
    exact h'
theorem v_comp {α : Type} {it : Rho → Sto → R (List PV)} {gr : PV → Rho → Option Rho} {f : Rho → Sto → R PV} {P : Rho → Prop} {im out : α → PV} {xs : List α} {ρ : Rho} {σ : Sto} {caps : List Nat} {m : Nat} (hi : it ρ σ = .val (xs.map im) σ)
    (hp : P (caps.map (fun i => (ρ[i]?).join) ++ List.replicate m none)) (hl : xs.length ≤ 1000000) (h : ∀ x ∈ xs, ∀ ρ, P ρ → ∃ ρ₁, gr (im x) ρ = some ρ₁ ∧ f ρ₁ σ = .val (out x) σ ∧ P ρ₁) :
    cComp caps m it gr tTrue (cpElt f) ρ σ = .val (.lst (xs.map out)) σ := by
  obtain ⟨ρ', h'⟩ := cp_fold xs [] _ hp (by simpa using hl) h
  unfold cComp
  rw [hi]
  dsimp only [R.quiet, R.bind]
  rw [h']
  dsimp only
  rw [List.nil_append, if_pos (by simpa using hl)]
theorem sumP_map {α : Type} (out : α → Nat) : ∀ xs : List α, sumP (xs.map fun x => PV.int (out x : Nat)) = some (((xs.map out).sum : Nat) : Int)
  | [] => rfl
  | x :: xs => by
    show (sumP (xs.map fun x => PV.int (out x : Nat))).map ((out x : Int) + ·) = _
    rw [sumP_map out xs, List.map_cons, List.sum_cons]
    show some ((out x : Int) + _) = _
    congr 1
noncomputable def vB (b : Nat) : List Nat → Nat
  | [] => 0
  | c :: cs => dv [c] * b ^ cs.length + vB b cs
theorem vB_sum (b : Nat) : ∀ l : List Nat, ((List.range l.length).map fun i => dv [l.getD i 0] * b ^ (l.length - 1 - i)).sum = vB b l
  | [] => rfl
  | c :: cs => by
    rw [List.length_cons, List.range_succ_eq_map, List.map_cons, List.sum_cons, List.map_map]
    unfold vB
    congr 1
    rw [← vB_sum b cs]
    refine congrArg List.sum (List.map_congr_left fun i hi => ?_)
    have := List.mem_range.1 hi
    show dv [(c :: cs).getD (i + 1) 0] * b ^ (cs.length + 1 - 1 - (i + 1)) = _
    rw [List.getD_cons_succ]
    congr 2
    show cs.length - (i + 1) = cs.length - 1 - i
    rw [Nat.sub_sub, Nat.add_comm 1]
theorem dv_lt (l : List Nat) : dv l < 100 := by
  unfold dv
  split
  · split
    · omega
    · split
      · omega
      · split <;> omega
  · omega
theorem f_law_sum (l : List Nat) (b : Nat) (σ : Sto) (hl : l.length ≤ 900) (hb : b ≤ 36) : F__law_sum [.str l, .int b] σ = .val (.int (vB b l : Nat)) σ := by
  refine fn_ev0 ?_ rfl rfl
  unfold g__law_sum
  have hc : cComp [0, 1] 2 (cEnum (cVar 0)) (aTup (aCons 2 (aCons 3 aNil))) tTrue (cpElt (cBin .Mult (cCall F__law_worth (cCons (cVar 3) cNil)) (cBin .Pow (cVar 1) (cBin .Sub (cBin .Sub (cBlt bLen (cCons (cVar 0) cNil)) (cVal (.int 1))) (cVar 2))))) [some (.str l), some (.int b)] σ = .val (.lst ((List.range l.length).map fun i => PV.int ((dv [l.getD i 0] * b ^ (l.length - 1 - i) : Nat) : Int))) σ := by
    refine v_comp (P := fun ρ => ∃ x y, ρ = [some (.str l), some (.int b), x, y]) (im := fun (i : Nat) => .tup [.int (i : Int), .str [l.getD i 0]]) (by rfl) ⟨none, none, rfl⟩ (by rw [List.length_range]; omega) ?_
    intro i hi ρ ⟨x, y, hρ⟩
    subst hρ
    have hi' := List.mem_range.1 hi
    refine ⟨[some (.str l), some (.int b), some (.int (i : Int)), some (.str [l.getD i 0])], rfl, ?_, ⟨_, _, rfl⟩⟩
    have hd := dv_lt [l.getD i 0]
    have he : ((l.length : Int) - 1 - (i : Int)) = ((l.length - 1 - i : Nat) : Int) := by omega
    refine to_eq (v_bin (v_call (v_cons (v_var rfl) v_nil) (f_law_worth _ _ (by simp))) (v_bin (v_var rfl) (v_bin (v_bin (v_blt (v_cons (v_var rfl) v_nil) (bLen_s (by omega))) v_val (b_sub _ _)) (v_var rfl) (b_sub _ _)) (b_pow (by omega))) (b_mul' _ (by omega))) ?_
    rw [he]
    show PV.int ((dv [l.getD i 0] : Int) * ((b : Int) ^ (l.length - 1 - i))) = _
    rw [Int.natCast_mul, Int.natCast_pow]
  refine x_ret (v_blt (v_cons hc v_nil) ?_)
  show (sumP _).map PV.int = _
  rw [sumP_map, vB_sum]; rfl
noncomputable def cutG (g : List Nat) (v : Nat) : Int := cut (g == [45]) v
theorem f_law_nearest (g : List Nat) (v : Nat) (σ : Sto) : F__law_nearest [.str g, .int v] σ = .val (.int (cutG g v)) σ := by
  refine fn_ev0 ?_ rfl rfl
  unfold g__law_nearest cutG cut
  refine x_ret (to_eq (v_if (p := .int (max (-(v : Int)) (-9223372036854775808))) (q := .int (min (v : Int) 9223372036854775807)) (v_cmp (v_var rfl) v_val (c_eqs _ _ _)) (fun _ => ?_) (fun _ => ?_)) ?_)
  · exact v_blt (v_cons (v_neg (v_var rfl)) (v_cons (v_neg (v_bin v_val v_val (b_pow (by decide)))) v_nil)) rfl
  · exact v_blt (v_cons (v_var rfl) (v_cons (v_bin (v_bin v_val v_val (b_pow (by decide))) v_val (b_sub _ _)) v_nil)) rfl
  · cases (g == [45]) <;> rfl
/- P14 -/

section
variable {ρ : Rho} {σ : Sto} {f g h : Rho → Sto → R PV} {l : List Nat}
theorem v_mid {a b : Nat} (hf : f ρ σ = .val (.str l) σ) (hg : g ρ σ = .val (.int a) σ) (hh : h ρ σ = .val (.int b) σ) (ha : a < 1000000) (hb : b < 1000000) (hl : l.length ≤ 1000000) : cSl f (oInt g) (oInt h) ρ σ = .val (.str ((l.take b).drop a)) σ :=
  to_eq (v_sl hf (v_oint hg (by omega)) (v_oint hh (by omega)) hl) rfl
end
theorem lsG_len (l : List Nat) : (lsG l).length ≤ 1 := by
  unfold lsG
  cases sgl.contains ((l.drop (nF l)).take 1)
  · exact Nat.zero_le _
  · rw [cond_true, List.length_take]; omega
theorem lsR_len (l : List Nat) : (lsR l).length ≤ l.length := by
  unfold lsR
  cases sgl.contains ((l.drop (nF l)).take 1)
  · rw [cond_false, List.length_drop]; omega
  · rw [cond_true, List.length_drop, List.length_drop]; omega
theorem lrow_len (b : Nat) (l : List Nat) : (lrow b l).length ≤ l.length := (List.takeWhile_sublist _).length_le
noncomputable def m0x : List (List Nat) := [[48, 120], [48, 88]]
noncomputable def bmk (r : List Nat) : Bool := m0x.contains (r.take 2) && decide (dv ((r.take 3).drop 2) < 16)
noncomputable def bbO (r : List Nat) (b : Nat) : Nat := bif !(b == 0) then b else bif r.take 1 == [48] then 8 else 10
noncomputable def bbC (r : List Nat) (b : Nat) : Bool := ((0 : Nat) == b || ((16 : Nat) == b || false)) && bmk r
noncomputable def bbP (l : List Nat) (b : Nat) : Int := bif bbC (lsR l) b then cutG (lsG l) (vB 16 (lrow 16 ((lsR l).drop 2))) else cutG (lsG l) (vB (bbO (lsR l) b) (lrow (bbO (lsR l) b) (lsR l)))
theorem f_law_by_base (l : List Nat) (b : Nat) (σ : Sto) (hl : l.length ≤ 900) (hb : b ≤ 36) : F__law_by_base [.str l, .int b] σ = .val (.int (bbP l b)) σ := by
  refine fn_ev0 ?_ rfl rfl
  unfold g__law_by_base bbP
  have hG := lsG_len l
  have hR := lsR_len l
  have hs := f_law_signed l σ hl
  generalize lsG l = g at hG hs ⊢
  generalize lsR l = r at hR hs ⊢
  apply x_seq' (ρ₂ := [some (.str l), some (.int b), some (.str g), some (.str r), none, none])
  · exact x_asg (v_call (v_cons (v_var rfl) v_nil) hs) rfl
  · rfl
  apply x_seq' (ρ₂ := [some (.str l), some (.int b), some (.str g), some (.str r), some (.bool (bmk r)), none])
  · refine x_set (p := .bool (bmk r)) (v_toV (r := bmk r) (to_eq (v_and (r' := decide (((dv ((r.take 3).drop 2) : Nat) : Int) < 16)) (v_asB (v_toV (v_cmp (v_to (b := 2) (v_var rfl) v_val (by decide) (by omega)) (v_tup (v_cons v_val (v_cons v_val v_nil)) (len2 _ _)) (c_in _ _ m0x)))) fun _ => v_asB (v_toV (v_cmp (v_call (v_cons (v_mid (a := 2) (b := 3) (v_var rfl) v_val v_val (by decide) (by decide) (by omega)) v_nil) (f_law_worth _ _ (by rw [List.length_drop, List.length_take]; omega))) v_val (c_lt _ _ _)))) ?_))
    unfold bmk; congr 1; rw [decide_eq_decide]; omega
  · rfl
  have hc : (tBo .And (tCmp .In (cVar 1) (cTup (cCons (cVal (.int 0)) (cCons (cVal (.int 16)) cNil)))) (asB (cVar 4))) [some (.str l), some (.int b), some (.str g), some (.str r), some (.bool (bmk r)), none] σ = .val (bbC r b) σ := by
    refine to_eq (v_and (v_cmp (v_var rfl) (v_tup (v_cons v_val (v_cons v_val v_nil)) (len2 _ _)) (c_in2 _ _ _ _)) fun _ => v_asB (v_var rfl)) ?_
    unfold bbC
    congr 1
    congr 1
    · rw [Bool.eq_iff_iff, beq_iff_eq, beq_iff_eq]; omega
    · congr 1
      rw [Bool.eq_iff_iff, beq_iff_eq, beq_iff_eq]; omega
  have hd2 : (r.drop 2).length ≤ 900 := by rw [List.length_drop]; omega
  cases h : bbC r b
  · rw [h] at hc
    apply x_seq (x_if_f hc x_skip)
    have hO : bbO r b ≤ 36 := by
      unfold bbO
      cases (b == 0)
      · exact hb
      · cases (r.take 1 == [48]) <;> exact Nat.le_of_ble_eq_true rfl
    have ho : (cIf (tCmp .NotEq (cVar 1) (cVal (.int 0))) (cVar 1) (cIf (tCmp .Eq (cSl (cVar 3) oNone (oInt (cVal (.int 1)))) (cVal (.str [48]))) (cVal (.int 8)) (cVal (.int 10)))) [some (.str l), some (.int b), some (.str g), some (.str r), some (.bool (bmk r)), none] σ = .val (.int (bbO r b : Nat)) σ := by
      refine to_eq (v_if (p := .int b) (v_cmp (v_var rfl) v_val (r := !((b : Int) == 0)) rfl) (fun _ => v_var rfl) (fun _ => v_if (v_cmp (v_to (b := 1) (v_var rfl) v_val (by decide) (by omega)) v_val (c_eqs _ _ _)) (fun _ => v_val) (fun _ => v_val))) ?_
      unfold bbO
      have : ((b : Int) == 0) = (b == 0) := by rw [Bool.eq_iff_iff, beq_iff_eq, beq_iff_eq]; omega
      rw [this]
      cases (b == 0)
      · rfl
      · cases (r.take 1 == [48]) <;> rfl
    generalize bbO r b = o at hO ho ⊢
    apply x_seq (x_set ho)
    have := lrow_len o r
    exact x_ret (v_call (v_cons (v_var rfl) (v_cons (v_call (v_cons (v_call (v_cons (v_var rfl) (v_cons (v_var rfl) v_nil)) (f_law_row r o σ (by omega))) (v_cons (v_var rfl) v_nil)) (f_law_sum _ o σ (by omega) hO)) v_nil)) (f_law_nearest _ _ _))
  · rw [h] at hc
    have := lrow_len 16 (r.drop 2)
    exact x_seq_r (x_if_t hc (x_ret (v_call (v_cons (v_var rfl) (v_cons (v_call (v_cons (v_call (v_cons (v_from (a := 2) (v_var rfl) v_val (by decide) (by omega)) (v_cons (v_val (p := .int ((16 : Nat) : Int))) v_nil)) (f_law_row _ 16 σ hd2)) (v_cons (v_val (p := .int ((16 : Nat) : Int))) v_nil)) (f_law_sum _ 16 σ (by omega) (by decide))) v_nil)) (f_law_nearest _ _ _))))
/- the parts -/
noncomputable def pW (l : List Nat) : List Nat := lrow 10 (lsR l)
noncomputable def pR1 (l : List Nat) : List Nat := (lsR l).drop (pW l).length
noncomputable def pPt (l : List Nat) : Bool := (pR1 l).take 1 == [46] && (!(pW l == []) || !(lrow 10 ((pR1 l).drop 1) == []))
noncomputable def pB1 (l : List Nat) : List Nat := bif pPt l then [46] ++ lrow 10 ((pR1 l).drop 1) else []
noncomputable def pR2 (l : List Nat) : List Nat := bif pPt l then (pR1 l).drop (pB1 l).length else pR1 l
noncomputable def eEl : List (List Nat) := [[101], [69]]
noncomputable def pEx (l : List Nat) : Bool := (!(pW l == []) || !(pB1 l == [])) && eEl.contains ((pR2 l).take 1)
noncomputable def pMk (l : List Nat) : List Nat := bif sgl.contains (((pR2 l).take 2).drop 1) then ((pR2 l).take 2).drop 1 else []
noncomputable def pRow (l : List Nat) : List Nat := lrow 10 ((pR2 l).drop (1 + (pMk l).length))
noncomputable def pOk (l : List Nat) : Bool := pEx l && !(pRow l == [])
noncomputable def pB2 (l : List Nat) : List Nat := bif pOk l then pB1 l ++ (pR2 l).take 1 ++ pMk l ++ pRow l else pB1 l
noncomputable def pR3 (l : List Nat) : List Nat := bif pOk l then (pR2 l).drop (1 + (pMk l).length + (pRow l).length) else pR2 l
theorem f_law_parts (l : List Nat) (σ : Sto) (hl : l.length ≤ 900) : F__law_parts [.str l] σ = .val (.tup [.str (lsG l), .str (pW l), .str (pB2 l), .str (pR3 l)]) σ := by
  have hR := lsR_len l
  have hW : (pW l).length ≤ 900 := by have := lrow_len 10 (lsR l); unfold pW; omega
  have hR1 : (pR1 l).length ≤ 900 := by unfold pR1; rw [List.length_drop]; omega
  have hrow1 : (lrow 10 ((pR1 l).drop 1)).length ≤ 900 := by have := lrow_len 10 ((pR1 l).drop 1); rw [List.length_drop] at this; omega
  have hB1 : (pB1 l).length ≤ 901 := by
    unfold pB1
    cases pPt l
    · exact Nat.zero_le _
    · rw [cond_true, List.length_append]; show 1 + _ ≤ _; omega
  have hR2 : (pR2 l).length ≤ 900 := by
    unfold pR2
    cases pPt l
    · exact hR1
    · rw [cond_true, List.length_drop]; omega
  have hMk : (pMk l).length ≤ 1 := by
    unfold pMk
    cases sgl.contains (((pR2 l).take 2).drop 1)
    · exact Nat.zero_le _
    · rw [cond_true, List.length_drop, List.length_take]; omega
  have hRow : (pRow l).length ≤ 900 := by have := lrow_len 10 ((pR2 l).drop (1 + (pMk l).length)); rw [List.length_drop] at this; unfold pRow; omega
  refine fn_ev0 ?_ rfl rfl
  unfold g__law_parts
  apply x_seq' (ρ₂ := [some (.str l), some (.str (lsG l)), some (.str (lsR l)), none, none, none, none])
  · exact x_asg (v_call (v_cons (v_var rfl) v_nil) (f_law_signed l σ hl)) rfl
  · rfl
  apply x_seq' (ρ₂ := [some (.str l), some (.str (lsG l)), some (.str (lsR l)), some (.str (pW l)), none, none, none])
  · exact x_set (v_call (v_cons (v_var rfl) (v_cons (v_val (p := .int ((10 : Nat) : Int))) v_nil)) (f_law_row _ 10 σ (by omega)))
  · rfl
  apply x_seq' (ρ₂ := [some (.str l), some (.str (lsG l)), some (.str (pR1 l)), some (.str (pW l)), none, none, none])
  · exact x_set (v_from (v_var rfl) (v_blt (v_cons (v_var rfl) v_nil) (bLen_s (by omega))) (by omega) (by omega))
  · rfl
  apply x_seq' (ρ₂ := [some (.str l), some (.str (lsG l)), some (.str (pR1 l)), some (.str (pW l)), some (.str []), none, none])
  · exact x_set v_val
  · rfl
  have hrw : ∀ ρ : Rho, ρ[2]? = some (some (.str (pR1 l))) → cCall F__law_row (cCons (cSl (cVar 2) (oInt (cVal (.int 1))) oNone) (cCons (cVal (.int 10)) cNil)) ρ σ = .val (.str (lrow 10 ((pR1 l).drop 1))) σ := fun ρ h =>
    v_call (v_cons (v_from (a := 1) (v_var h) v_val (by decide) (by omega)) (v_cons (v_val (p := .int ((10 : Nat) : Int))) v_nil)) (f_law_row _ 10 σ (by rw [List.length_drop]; omega))
  apply x_seq (ρ₁ := [some (.str l), some (.str (lsG l)), some (.str (pR2 l)), some (.str (pW l)), some (.str (pB1 l)), none, none]) (σ₁ := σ)
  · have hc : (tBo .And (tCmp .Eq (cSl (cVar 2) oNone (oInt (cVal (.int 1)))) (cVal (.str [46]))) (tBo .Or (tCmp .NotEq (cVar 3) (cVal (.str []))) (tCmp .NotEq (cCall F__law_row (cCons (cSl (cVar 2) (oInt (cVal (.int 1))) oNone) (cCons (cVal (.int 10)) cNil))) (cVal (.str []))))) [some (.str l), some (.str (lsG l)), some (.str (pR1 l)), some (.str (pW l)), some (.str []), none, none] σ = .val (pPt l) σ :=
      v_and (v_cmp (v_to (b := 1) (v_var rfl) v_val (by decide) (by omega)) v_val (c_eqs _ _ _)) fun _ => v_or (v_cmp (v_var rfl) v_val (c_nes _ _ _)) fun _ => v_cmp (hrw _ rfl) v_val (c_nes _ _ _)
    have hp2 : pR2 l = bif pPt l then (pR1 l).drop (pB1 l).length else pR1 l := rfl
    rw [hp2]
    cases h : pPt l
    · rw [h] at hc
      have : pB1 l = [] := by unfold pB1; rw [h, cond_false]
      rw [this]
      exact x_if_f hc x_skip
    · rw [h] at hc
      have hb1 : pB1 l = [46] ++ lrow 10 ((pR1 l).drop 1) := by unfold pB1; rw [h, cond_true]
      refine x_if_t hc (x_seq' (ρ₂ := [some (.str l), some (.str (lsG l)), some (.str (pR1 l)), some (.str (pW l)), some (.str (pB1 l)), none, none]) (x_set (v_bin v_val (hrw _ rfl) (b_adds (by show 1 + _ ≤ _; omega)))) (by rw [hb1]; rfl) ?_)
      exact x_set (v_from (v_var rfl) (v_blt (v_cons (v_var rfl) v_nil) (bLen_s (by omega))) (by omega) (by omega))
  have hex : (tBo .And (tBo .Or (tCmp .NotEq (cVar 3) (cVal (.str []))) (tCmp .NotEq (cVar 4) (cVal (.str [])))) (tCmp .In (cSl (cVar 2) oNone (oInt (cVal (.int 1)))) (cTup (cCons (cVal (.str [101])) (cCons (cVal (.str [69])) cNil))))) [some (.str l), some (.str (lsG l)), some (.str (pR2 l)), some (.str (pW l)), some (.str (pB1 l)), none, none] σ = .val (pEx l) σ :=
    v_and (v_or (v_cmp (v_var rfl) v_val (c_nes _ _ _)) fun _ => v_cmp (v_var rfl) v_val (c_nes _ _ _)) fun _ => v_cmp (v_to (b := 1) (v_var rfl) v_val (by decide) (by omega)) (v_tup (v_cons v_val (v_cons v_val v_nil)) (len2 _ _)) (c_in _ _ eEl)
  have fin : ∀ o5 o6, (xRet (cTup (cCons (cVar 1) (cCons (cVar 3) (cCons (cVar 4) (cCons (cVar 2) cNil)))))) [some (.str l), some (.str (lsG l)), some (.str (pR3 l)), some (.str (pW l)), some (.str (pB2 l)), o5, o6] σ = .val (.ret (.tup [.str (lsG l), .str (pW l), .str (pB2 l), .str (pR3 l)])) σ := fun o5 o6 =>
    x_ret (v_tup (v_cons (v_var rfl) (v_cons (v_var rfl) (v_cons (v_var rfl) (v_cons (v_var rfl) v_nil)))) (len4 _ _ _ _))
  cases h : pEx l
  · rw [h] at hex
    have hok : pOk l = false := by unfold pOk; rw [h, Bool.false_and]
    have e1 : pB2 l = pB1 l := by unfold pB2; rw [hok, cond_false]
    have e2 : pR3 l = pR2 l := by unfold pR3; rw [hok, cond_false]
    have := fin none none
    rw [e1, e2] at this ⊢
    exact x_seq (x_if_f hex x_skip) this
  · rw [h] at hex
    have hmid : ∀ ρ : Rho, ρ[2]? = some (some (.str (pR2 l))) → cSl (cVar 2) (oInt (cVal (.int 1))) (oInt (cVal (.int 2))) ρ σ = .val (.str (((pR2 l).take 2).drop 1)) σ := fun ρ h => v_mid (a := 1) (b := 2) (v_var h) v_val v_val (by decide) (by decide) (by omega)
    have hmk : (xSet 5 (cIf (tCmp .In (cSl (cVar 2) (oInt (cVal (.int 1))) (oInt (cVal (.int 2)))) (cTup (cCons (cVal (.str [45])) (cCons (cVal (.str [43])) cNil)))) (cSl (cVar 2) (oInt (cVal (.int 1))) (oInt (cVal (.int 2)))) (cVal (.str [])))) [some (.str l), some (.str (lsG l)), some (.str (pR2 l)), some (.str (pW l)), some (.str (pB1 l)), none, none] σ = .val (.nxt [some (.str l), some (.str (lsG l)), some (.str (pR2 l)), some (.str (pW l)), some (.str (pB1 l)), some (.str (pMk l)), none]) σ := by
      refine x_set (p := .str (pMk l)) (to_eq (v_if (v_cmp (hmid _ rfl) (v_tup (v_cons v_val (v_cons v_val v_nil)) (len2 _ _)) (c_in _ _ sgl)) (fun _ => hmid _ rfl) (fun _ => v_val)) ?_)
      unfold pMk
      cases sgl.contains (((pR2 l).take 2).drop 1) <;> rfl
    have hl1 : ∀ ρ : Rho, ρ[5]? = some (some (.str (pMk l))) → cBin .Add (cVal (.int 1)) (cBlt bLen (cCons (cVar 5) cNil)) ρ σ = .val (.int ((1 + (pMk l).length : Nat) : Int)) σ := fun ρ h =>
      to_eq (v_bin v_val (v_blt (v_cons (v_var h) v_nil) (bLen_s (by omega))) (b_add _ _)) (by congr 1)
    have hro : (xSet 6 (cCall F__law_row (cCons (cSl (cVar 2) (oInt (cBin .Add (cVal (.int 1)) (cBlt bLen (cCons (cVar 5) cNil)))) oNone) (cCons (cVal (.int 10)) cNil)))) [some (.str l), some (.str (lsG l)), some (.str (pR2 l)), some (.str (pW l)), some (.str (pB1 l)), some (.str (pMk l)), none] σ = .val (.nxt [some (.str l), some (.str (lsG l)), some (.str (pR2 l)), some (.str (pW l)), some (.str (pB1 l)), some (.str (pMk l)), some (.str (pRow l))]) σ :=
      x_set (v_call (v_cons (v_from (v_var rfl) (hl1 _ rfl) (by omega) (by omega)) (v_cons (v_val (p := .int ((10 : Nat) : Int))) v_nil)) (f_law_row _ 10 σ (by rw [List.length_drop]; omega)))
    have hne : (tCmp .NotEq (cVar 6) (cVal (.str []))) [some (.str l), some (.str (lsG l)), some (.str (pR2 l)), some (.str (pW l)), some (.str (pB1 l)), some (.str (pMk l)), some (.str (pRow l))] σ = .val (!(pRow l == [])) σ := v_cmp (v_var rfl) v_val (c_nes _ _ _)
    cases hw : (pRow l == [])
    · rw [hw] at hne
      have hok : pOk l = true := by unfold pOk; rw [h, hw, Bool.true_and]; decide
      have e1 : pB2 l = pB1 l ++ (pR2 l).take 1 ++ pMk l ++ pRow l := by unfold pB2; rw [hok, cond_true]
      have e2 : pR3 l = (pR2 l).drop (1 + (pMk l).length + (pRow l).length) := by unfold pR3; rw [hok, cond_true]
      have hf := fin (some (.str (pMk l))) (some (.str (pRow l)))
      have ht1 : ((pR2 l).take 1).length ≤ 1 := by rw [List.length_take]; omega
      refine x_seq (x_if_t hex (x_seq hmk (x_seq hro (x_if_t hne (x_seq' (ρ₂ := [some (.str l), some (.str (lsG l)), some (.str (pR2 l)), some (.str (pW l)), some (.str (pB2 l)), some (.str (pMk l)), some (.str (pRow l))]) (x_set (p := .str (pB2 l)) (to_eq (v_bin (v_bin (v_bin (v_var rfl) (v_to (b := 1) (v_var rfl) v_val (by decide) (by omega)) (b_adds (by omega))) (v_var rfl) (b_adds (by rw [List.length_append]; omega))) (v_var rfl) (b_adds (by rw [List.length_append, List.length_append]; omega))) (by rw [e1]))) rfl (x_set (p := .str (pR3 l)) (to_eq (v_from (a := 1 + (pMk l).length + (pRow l).length) (v_var rfl) (to_eq (v_bin (hl1 _ rfl) (v_blt (v_cons (v_var rfl) v_nil) (bLen_s (by omega))) (b_add _ _)) (by congr 1)) (by omega) (by omega)) (by rw [e2])))))))) hf
    · rw [hw] at hne
      have hok : pOk l = false := by unfold pOk; rw [h, hw, Bool.true_and]; decide
      have e1 : pB2 l = pB1 l := by unfold pB2; rw [hok, cond_false]
      have e2 : pR3 l = pR2 l := by unfold pR3; rw [hok, cond_false]
      have hf := fin (some (.str (pMk l))) (some (.str (pRow l)))
      rw [e1, e2] at hf ⊢
      exact x_seq (x_if_t hex (x_seq hmk (x_seq hro (x_if_f hne x_skip)))) hf
/- P15 -/

theorem strip_nil (l : List Nat) : (stripL blC l == []) = l.all isBl := by
  unfold stripL lstripL
  rw [blC_is]
  have key : ∀ l : List Nat, (l.dropWhile isBl = [] ↔ l.all isBl = true) := by
    intro l
    induction l with
    | nil => simp
    | cons c cs ih =>
      cases h : isBl c
      · simp [h]
      · rw [List.dropWhile_cons_of_pos h, List.all_cons, h, Bool.true_and]; exact ih
  rw [Bool.eq_iff_iff, beq_iff_eq, List.reverse_eq_nil_iff, key, List.all_reverse]
  constructor
  · intro h
    have h2 : (l.dropWhile isBl).all isBl = true := h
    by_cases hd : l.dropWhile isBl = []
    · exact (key l).1 hd
    · exfalso
      have hh := List.head_dropWhile_not isBl hd
      have := List.all_eq_true.1 h2 _ (List.head_mem hd)
      rw [this] at hh; cases hh
  · intro h
    rw [(key l).2 h]; rfl
noncomputable def lnP (l : List Nat) : Bool := (!(pW l == []) || !(pB2 l == [])) && (pR3 l).all isBl
theorem pR3_len (l : List Nat) : (pR3 l).length ≤ l.length := by
  have h1 : (pR1 l).length ≤ l.length := by have := lsR_len l; unfold pR1; rw [List.length_drop]; omega
  have h2 : (pR2 l).length ≤ l.length := by
    unfold pR2
    cases pPt l
    · exact h1
    · rw [cond_true, List.length_drop]; omega
  unfold pR3
  cases pOk l
  · exact h2
  · rw [cond_true, List.length_drop]; omega
theorem f_law_is_number (l : List Nat) (σ : Sto) (hl : l.length ≤ 900) : F__law_is_number [.str l] σ = .val (.bool (lnP l)) σ := by
  have hp := f_law_parts l σ hl
  have h3 := pR3_len l
  unfold lnP
  generalize lsG l = a at hp ⊢
  generalize pW l = b at hp ⊢
  generalize pB2 l = c at hp ⊢
  generalize pR3 l = d at hp h3 ⊢
  refine fn_ev0 ?_ rfl rfl
  unfold g__law_is_number
  apply x_seq' (ρ₂ := [some (.str l), some (.str a), some (.str b), some (.str c), some (.str d)])
  · exact x_asg (v_call (v_cons (v_var rfl) v_nil) hp) rfl
  · rfl
  refine x_ret (v_toV (v_and (v_asB (v_toV (v_or (v_asB (v_toV (v_cmp (v_var rfl) v_val (c_nes _ _ _)))) fun _ => v_asB (v_toV (v_cmp (v_var rfl) v_val (c_nes _ _ _)))))) fun _ => v_asB (v_toV (to_eq (v_cmp (v_meth (p := .str (stripL blC d)) (v_var rfl) (v_cons v_val v_nil) ?_) v_val (c_eqs _ _ _)) (strip_nil d)))))
  exact if_pos (by omega)
noncomputable def liN (l : List Nat) : Int := (vB 10 (pW l) : Int) * (bif lsG l == [45] then -1 else 1)
noncomputable def liP (l : List Nat) : PV := bif !(pB2 l == []) || !(decide (-9223372036854775808 ≤ liN l) && decide (liN l < 9223372036854775808)) then .str [108, 101, 102, 116] else .int (liN l)
theorem pW_len (l : List Nat) : (pW l).length ≤ l.length := by have := lrow_len 10 (lsR l); have := lsR_len l; unfold pW; omega
theorem f_law_int (l : List Nat) (σ : Sto) (hl : l.length ≤ 900) : F__law_int [.str l] σ = .val (liP l) σ := by
  have hp := f_law_parts l σ hl
  have h3 := pW_len l
  unfold liP liN
  generalize lsG l = a at hp ⊢
  generalize pW l = b at hp h3 ⊢
  generalize pB2 l = c at hp ⊢
  generalize pR3 l = d at hp ⊢
  refine fn_ev0 ?_ rfl (by generalize (!(c == []) || !(decide (-9223372036854775808 ≤ (vB 10 b : Int) * (bif a == [45] then -1 else 1)) && decide ((vB 10 b : Int) * (bif a == [45] then -1 else 1) < 9223372036854775808))) = u; cases u <;> rfl)
  unfold g__law_int
  apply x_seq' (ρ₂ := [some (.str l), some (.str a), some (.str b), some (.str c), some (.str d), none])
  · exact x_asg (v_call (v_cons (v_var rfl) v_nil) hp) rfl
  · rfl
  have hsg : (cIf (tCmp .Eq (cVar 1) (cVal (.str [45]))) (cNeg (cVal (.int 1))) (cVal (.int 1))) [some (.str l), some (.str a), some (.str b), some (.str c), some (.str d), none] σ = .val (.int (bif a == [45] then -1 else 1)) σ :=
    to_eq (v_if (v_cmp (v_var rfl) v_val (c_eqs _ _ _)) (fun _ => v_neg v_val) (fun _ => v_val)) (by cases (a == [45]) <;> rfl)
  have hb : (bif a == [45] then (-1 : Int) else 1).natAbs < 2 ^ 64 := by cases (a == [45]) <;> decide
  generalize (bif a == [45] then (-1 : Int) else 1) = s at hsg hb ⊢
  apply x_seq' (ρ₂ := [some (.str l), some (.str a), some (.str b), some (.str c), some (.str d), some (.int ((vB 10 b : Int) * s))])
  · exact x_set (v_bin (v_call (v_cons (v_var rfl) (v_cons (v_val (p := .int ((10 : Nat) : Int))) v_nil)) (f_law_sum b 10 σ (by omega) (by decide))) hsg (b_mul _ hb))
  · rfl
  generalize (vB 10 b : Int) * s = n
  refine x_ret (v_if (v_or (v_cmp (v_var rfl) v_val (c_nes _ _ _)) fun _ => v_not (v_chain (v_neg (v_bin v_val v_val (b_pow (by decide)))) (v_var rfl) (r := decide (-9223372036854775808 ≤ n)) ?_ (v_bin v_val v_val (b_pow (by decide))) (r' := decide (n < 9223372036854775808)) ?_)) (fun _ => v_val) (fun _ => v_var rfl))
  · exact c_lei _ _ _
  · exact c_lt _ _ _
/- P16 -/

noncomputable def m0b : List (List Nat) := [[48, 98], [48, 66]]
noncomputable def m0o : List (List Nat) := [[48, 111], [48, 79]]
noncomputable def viC (l : List Nat) (b : Int) (ms : List (List Nat)) (th : Int) : Bool := ((0 : Int) == b || (th == b || false)) && ms.contains ((lsR l).take 2)
noncomputable def viB (b : Int) : Bool := decide (b < 0) || (b == 1 || decide (36 < b))
noncomputable def viP (l : List Nat) (b : Int) : PV := bif b == 10 then liP l else bif viB b then .int 0 else bif viC l b m0b 2 then .int (bbP (lsG l ++ (lsR l).drop 2) 2) else bif viC l b m0o 8 then .int (bbP (lsG l ++ (lsR l).drop 2) 8) else .int (bbP l b.toNat)
theorem f_law_intval (l : List Nat) (b : Int) (σ : Sto) (hl : l.length ≤ 800) : F__law_intval [.str l, .int b] σ = .val (viP l b) σ := by
  have hG := lsG_len l
  have hR := lsR_len l
  have h10 : (tCmp .Eq (cVar 1) (cVal (.int 10))) [some (.str l), some (.int b), none, none, none, none] σ = .val (b == 10) σ := v_cmp (v_var rfl) v_val (c_eqi _ _ _)
  have hbad : (tBo .Or (tCmp .Lt (cVar 1) (cVal (.int 0))) (tBo .Or (tCmp .Eq (cVar 1) (cVal (.int 1))) (tCmp .Gt (cVar 1) (cVal (.int 36))))) [some (.str l), some (.int b), none, none, none, none] σ = .val (viB b) σ :=
    v_or (v_cmp (v_var rfl) v_val (c_lt _ _ _)) fun _ => v_or (v_cmp (v_var rfl) v_val (c_eqi _ _ _)) fun _ => v_cmp (v_var rfl) v_val (c_gt _ _ _)
  have hsig : (xAsg (aTup (aCons 2 (aCons 3 aNil))) (cCall F__law_signed (cCons (cVar 0) cNil))) [some (.str l), some (.int b), none, none, none, none] σ = .val (.nxt [some (.str l), some (.int b), some (.str (lsG l)), some (.str (lsR l)), none, none]) σ :=
    x_asg (v_call (v_cons (v_var rfl) v_nil) (f_law_signed l σ (by omega))) rfl
  have body : ∀ (ms : List (List Nat)) (th : Nat), th ≤ 36 → (xIf (tBo .And (tCmp .In (cVar 1) (cTup (cCons (cVal (.int 0)) (cCons (cVar 5) cNil)))) (tCmp .In (cSl (cVar 3) oNone (oInt (cVal (.int 2)))) (cVar 4))) (xRet (cCall F__law_by_base (cCons (cBin .Add (cVar 2) (cSl (cVar 3) (oInt (cVal (.int 2))) oNone)) (cCons (cVar 5) cNil)))) xSkip) [some (.str l), some (.int b), some (.str (lsG l)), some (.str (lsR l)), some (.tup (ms.map .str)), some (.int (th : Nat))] σ = bif viC l b ms th then .val (.ret (.int (bbP (lsG l ++ (lsR l).drop 2) th))) σ else .val (.nxt [some (.str l), some (.int b), some (.str (lsG l)), some (.str (lsR l)), some (.tup (ms.map .str)), some (.int (th : Nat))]) σ := by
    intro ms th hth
    have hc : (tBo .And (tCmp .In (cVar 1) (cTup (cCons (cVal (.int 0)) (cCons (cVar 5) cNil)))) (tCmp .In (cSl (cVar 3) oNone (oInt (cVal (.int 2)))) (cVar 4))) [some (.str l), some (.int b), some (.str (lsG l)), some (.str (lsR l)), some (.tup (ms.map .str)), some (.int (th : Nat))] σ = .val (viC l b ms th) σ :=
      v_and (v_cmp (v_var rfl) (v_tup (v_cons v_val (v_cons (v_var rfl) v_nil)) (len2 _ _)) (c_in2 _ _ _ _)) fun _ => v_cmp (v_to (b := 2) (v_var rfl) v_val (by decide) (by omega)) (v_var rfl) (c_in _ _ _)
    cases h : viC l b ms th
    · rw [h] at hc
      exact x_if_f hc x_skip
    · rw [h] at hc
      have hd : ((lsR l).drop 2).length ≤ 800 := by rw [List.length_drop]; omega
      exact x_if_t hc (x_ret (v_call (v_cons (v_bin (v_var rfl) (v_from (a := 2) (v_var rfl) v_val (by decide) (by omega)) (b_adds (by omega))) (v_cons (v_var rfl) v_nil)) (f_law_by_base _ th σ (by rw [List.length_append]; omega) hth)))
  have hit : ∀ ρ, (cItems (cTup (cCons (cTup (cCons (cTup (cCons (cVal (.str [48, 98])) (cCons (cVal (.str [48, 66])) cNil))) (cCons (cVal (.int 2)) cNil))) (cCons (cTup (cCons (cTup (cCons (cVal (.str [48, 111])) (cCons (cVal (.str [48, 79])) cNil))) (cCons (cVal (.int 8)) cNil))) cNil)))) ρ σ = .val [.tup [.tup (m0b.map .str), .int ((2 : Nat) : Int)], .tup [.tup (m0o.map .str), .int ((8 : Nat) : Int)]] σ := fun _ => rfl
  unfold viP
  cases h1 : (b == 10)
  · rw [h1] at h10
    cases h2 : viB b
    · rw [h2] at hbad
      have hb0 : 0 ≤ b ∧ b ≤ 36 := by unfold viB at h2; simp at h2; omega
      obtain ⟨n, rfl⟩ : ∃ n : Nat, b = n := ⟨b.toNat, by omega⟩
      have b1 := body m0b 2 (by decide)
      have b2 := body m0o 8 (by decide)
      cases c1 : viC l n m0b 2
      · have c1' : viC l n m0b ((2 : Nat) : Int) = false := c1
        rw [c1'] at b1
        cases c2 : viC l n m0o 8
        · have c2' : viC l n m0o ((8 : Nat) : Int) = false := c2
          rw [c2'] at b2
          refine fn_ev0 (x_seq (x_if_f h10 x_skip) (x_seq (x_if_f hbad x_skip) (x_seq hsig (x_seq (x_for (hit _) (x_fold_cons (by rfl) b1 (x_fold_cons (by rfl) b2 x_fold_nil))) (x_ret (v_call (v_cons (v_var rfl) (v_cons (v_var rfl) v_nil)) (f_law_by_base l n σ (by omega) (by omega)))))))) rfl rfl
        · have c2' : viC l n m0o ((8 : Nat) : Int) = true := c2
          rw [c2'] at b2
          exact fn_ev0 (x_seq (x_if_f h10 x_skip) (x_seq (x_if_f hbad x_skip) (x_seq hsig (x_seq_r (x_for (hit _) (x_fold_cons (by rfl) b1 (x_fold_ret (by rfl) b2))))))) rfl rfl
      · have c1' : viC l n m0b ((2 : Nat) : Int) = true := c1
        rw [c1'] at b1
        exact fn_ev0 (x_seq (x_if_f h10 x_skip) (x_seq (x_if_f hbad x_skip) (x_seq hsig (x_seq_r (x_for (hit _) (x_fold_ret (by rfl) b1)))))) rfl rfl
    · rw [h2] at hbad
      exact fn_ev0 (x_seq (x_if_f h10 x_skip) (x_seq_r (x_if_t hbad (x_ret v_val)))) rfl rfl
  · rw [h1] at h10
    have hf : frz σ.length σ 4 (liP l) = some (liP l) := by
      unfold liP
      generalize (!(pB2 l == []) || !(decide (-9223372036854775808 ≤ liN l) && decide (liN l < 9223372036854775808))) = u
      cases u <;> rfl
    exact fn_ev0 (x_seq_r (x_if_t h10 (x_ret (v_call (v_cons (v_var rfl) v_nil) (f_law_int l σ (by omega)))))) rfl hf
/- P17 -/

theorem cp_filter {α : Type} {gr : PV → Rho → Option Rho} {t : Rho → Sto → R Bool} {f : Rho → Sto → R PV} {P : Rho → Prop} {it out : α → PV} {q : α → Bool} {σ : Sto} : ∀ (xs : List α) (acc : List PV) (ρ : Rho), P ρ → acc.length + xs.length ≤ 1000000 → (∀ x ∈ xs, ∀ ρ, P ρ → ∃ ρ₁, gr (it x) ρ = some ρ₁ ∧ t ρ₁ σ = .val (q x) σ ∧ f ρ₁ σ = .val (out x) σ ∧ P ρ₁) →
    ∃ ρ', cpFold gr t (cpElt f) (xs.map it) acc ρ σ = .val (ρ', acc ++ (xs.filter q).map out) σ
  | [], acc, ρ, _, _, _ => ⟨ρ, by rw [List.map_nil, List.filter_nil, List.map_nil, List.append_nil]; rfl⟩
  | x :: xs, acc, ρ, hp, hl, h => by
    obtain ⟨ρ₁, h1, h2, h3, h4⟩ := h x (List.mem_cons_self ..) ρ hp
    rw [List.map_cons]
    unfold cpFold
    rw [h1]
    dsimp only
    rw [h2]
    cases hq : q x
    · obtain ⟨ρ', h'⟩ := cp_filter (gr := gr) (t := t) (f := f) (P := P) (it := it) (out := out) (q := q) (σ := σ) xs acc ρ₁ h4 (by simp at hl ⊢; omega) fun y hy => h y (List.mem_cons_of_mem _ hy)
      refine ⟨ρ', ?_⟩
      rw [List.filter_cons_of_neg (by rw [hq]; exact Bool.false_ne_true)]
      exact h'
    · obtain ⟨ρ', h'⟩ := cp_filter (gr := gr) (t := t) (f := f) (P := P) (it := it) (out := out) (q := q) (σ := σ) xs (acc ++ [out x]) ρ₁ h4 (by simp at hl ⊢; omega) fun y hy => h y (List.mem_cons_of_mem _ hy)
      refine ⟨ρ', ?_⟩
      rw [List.filter_cons_of_pos hq, List.map_cons]
      dsimp only [R.quiet, R.bind, cpElt]
      rw [h3]
      dsimp only
      rw [if_pos rfl, if_pos (by simp at hl ⊢; omega)]
      rw [List.append_assoc, List.singleton_append] at h'
      exact h'
theorem v_comp_if {α : Type} {it : Rho → Sto → R (List PV)} {gr : PV → Rho → Option Rho} {t : Rho → Sto → R Bool} {f : Rho → Sto → R PV} {P : Rho → Prop} {im out : α → PV} {q : α → Bool} {xs : List α} {ρ : Rho} {σ : Sto} {caps : List Nat} {m : Nat} (hi : it ρ σ = .val (xs.map im) σ)
    (hp : P (caps.map (fun i => (ρ[i]?).join) ++ List.replicate m none)) (hl : xs.length ≤ 1000000) (h : ∀ x ∈ xs, ∀ ρ, P ρ → ∃ ρ₁, gr (im x) ρ = some ρ₁ ∧ t ρ₁ σ = .val (q x) σ ∧ f ρ₁ σ = .val (out x) σ ∧ P ρ₁) :
    cComp caps m it gr t (cpElt f) ρ σ = .val (.lst ((xs.filter q).map out)) σ := by
  obtain ⟨ρ', h'⟩ := cp_filter xs [] _ hp (by simpa using hl) h
  unfold cComp
  rw [hi]
  dsimp only [R.quiet, R.bind]
  rw [h']
  dsimp only
  have := List.length_filter_le q xs
  rw [List.nil_append, if_pos (by rw [List.length_map]; omega)]
noncomputable def deS (l : List Nat) : List Nat := stripL blC l
noncomputable def deR (l : List Nat) (ms : List (List Nat)) : List Nat := bif ms.contains ((deS l).take 2) then (deS l).drop 2 else deS l
noncomputable def deD (b : Nat) (r : List Nat) : List Nat := r.filter fun c => decide (dv [c] < b)
noncomputable def deV (v : Nat) : PV := bif decide (9223372036854775808 ≤ v) then .str [108, 101, 102, 116] else .int v
noncomputable def deN (b : Nat) (r : List Nat) : PV := bif !(deD b r == r) then .lst [.tup [.str sDep, .str sInv]] else .lst []
theorem deS_len (l : List Nat) : (deS l).length ≤ l.length := by
  unfold deS stripL lstripL
  rw [List.length_reverse]
  have h1 := (List.dropWhile_sublist (p := fun c => blC.contains c) (l := (l.dropWhile fun c => blC.contains c).reverse)).length_le
  have h2 := (List.dropWhile_sublist (p := fun c => blC.contains c) (l := l)).length_le
  rw [List.length_reverse] at h1; omega
theorem deR_len (l : List Nat) (ms : List (List Nat)) : (deR l ms).length ≤ l.length := by
  have := deS_len l
  unfold deR
  cases ms.contains ((deS l).take 2)
  · exact this
  · rw [cond_true, List.length_drop]; omega
theorem f_law_decoded (l : List Nat) (b : Nat) (ms : List (List Nat)) (σ : Sto) (hl : l.length ≤ 900) (hb : b ≤ 36) : F__law_decoded [.str l, .int b, .tup (ms.map .str)] σ = .val (.tup [deV (vB b (deD b (deR l ms))), deN b (deR l ms)]) σ := by
  have hS := deS_len l
  have hR := deR_len l ms
  have hD : (deD b (deR l ms)).length ≤ (deR l ms).length := List.length_filter_le _ _
  have hf : frz σ.length σ 4 (.tup [deV (vB b (deD b (deR l ms))), deN b (deR l ms)]) = some (.tup [deV (vB b (deD b (deR l ms))), deN b (deR l ms)]) := by
    apply frz_tup2
    · unfold deV
      generalize decide (9223372036854775808 ≤ vB b (deD b (deR l ms))) = u
      cases u <;> rfl
    · unfold deN
      generalize (!(deD b (deR l ms) == deR l ms)) = u
      cases u <;> rfl
  refine fn_ev0 ?_ rfl hf
  unfold g__law_decoded
  apply x_seq' (ρ₂ := [some (.str l), some (.int b), some (.tup (ms.map .str)), some (.str (deS l)), none, none, none])
  · exact x_set (v_meth (p := .str (stripL blC l)) (v_var rfl) (v_cons v_val v_nil) (if_pos (by omega)))
  · rfl
  apply x_seq' (ρ₂ := [some (.str l), some (.int b), some (.tup (ms.map .str)), some (.str (deR l ms)), none, none, none])
  · refine x_set (p := .str (deR l ms)) (to_eq (v_if (v_cmp (v_to (b := 2) (v_var rfl) v_val (by decide) (by omega)) (v_var rfl) (c_in _ _ _)) (fun _ => v_from (a := 2) (v_var rfl) v_val (by decide) (by omega)) (fun _ => v_var rfl)) ?_)
    unfold deR
    cases ms.contains ((deS l).take 2) <;> rfl
  · rfl
  generalize deR l ms = r at hR hD ⊢
  apply x_seq' (ρ₂ := [some (.str l), some (.int b), some (.tup (ms.map .str)), some (.str r), some (.str (deD b r)), none, none])
  · have hc : cComp [1] 1 (cItems (cVar 3)) (aOne 1) (tCmp .Lt (cCall F__law_worth (cCons (cVar 1) cNil)) (cVar 0)) (cpElt (cVar 1)) [some (.str l), some (.int b), some (.tup (ms.map .str)), some (.str r), none, none, none] σ = .val (.lst ((deD b r).map fun c => .str [c])) σ := by
      refine v_comp_if (P := fun ρ => ∃ x, ρ = [some (.int b), x]) (im := fun c => .str [c]) (v_istr (v_var rfl)) ⟨none, rfl⟩ (by omega) ?_
      intro c _ ρ ⟨x, hρ⟩
      subst hρ
      exact ⟨[some (.int b), some (.str [c])], rfl, to_eq (v_cmp (v_call (v_cons (v_var rfl) v_nil) (f_law_worth _ _ (by simp))) (v_var rfl) (c_lt _ _ _)) (dec_lt _ _), v_var rfl, ⟨_, rfl⟩⟩
    have := v_join (q := .lst ((deD b r).map fun c => .str [c])) (ls := (deD b r).map fun c => [c]) hc (by show some _ = some _; rw [List.map_map]; rfl) (by rw [flat1]; omega)
    rw [flat1] at this
    exact x_set this
  · rfl
  generalize hd : deD b r = d at hD ⊢
  apply x_seq' (ρ₂ := [some (.str l), some (.int b), some (.tup (ms.map .str)), some (.str r), some (.str d), some (.tup [.str sDep, .str sInv]), none])
  · exact x_set (v_tup (v_cons v_val (v_cons v_val v_nil)) (len2 _ _))
  · rfl
  apply x_seq' (ρ₂ := [some (.str l), some (.int b), some (.tup (ms.map .str)), some (.str r), some (.str d), some (.tup [.str sDep, .str sInv]), some (.int (vB b d : Nat))])
  · exact x_set (v_call (v_cons (v_var rfl) (v_cons (v_var rfl) v_nil)) (f_law_sum d b σ (by omega) hb))
  · rfl
  generalize vB b d = v
  refine x_ret (v_tup (v_cons (a := deV v) (to_eq (v_if (v_cmp (v_var rfl) (v_bin v_val v_val (b_pow (by decide))) (c_ge _ _ _)) (fun _ => v_val) (fun _ => v_var rfl)) ?_) (v_cons (a := deN b r) (to_eq (v_if (v_cmp (v_var rfl) (v_var rfl) (c_nes _ _ _)) (fun _ => v_lst (v_cons (v_var rfl) v_nil) (len1 _)) (fun _ => v_lst v_nil len0)) ?_) v_nil)) (len2 _ _))
  · unfold deV
    congr 1
    rw [decide_eq_decide]
    have : ((2 : Int) ^ (63 : Int).toNat) = 9223372036854775808 := by decide
    rw [this]; omega
  · unfold deN; rw [hd]
/- P18 -/

theorem idx_lo {l : List PV} {a : Nat} {p : PV} (h : l[a]? = some p) (hl : a < 1000000) : idxV (.lst l) (.int a) = some p := idx_l h hl
noncomputable def shw : List Nat → List Nat → List Nat
  | [], a => a
  | d :: ds, a => shw ds (bif a == [48] then [hx d] else a ++ [hx d])
noncomputable def bitsL (T M : Nat) : List PV := (List.range T).map fun j => PV.int ((M / 2 ^ (T - 1 - j) % 2 : Nat) : Int)
noncomputable def dgsL (s m M : Nat) : List Nat := (List.range m).map fun i => M / 2 ^ (s * (m - 1 - i)) % 2 ^ s
theorem bits_get {T M j : Nat} (h : j < T) : (bitsL T M)[j]? = some (.int ((M / 2 ^ (T - 1 - j) % 2 : Nat) : Int)) := by
  unfold bitsL
  rw [List.getElem?_map, List.getElem?_range h]; rfl
theorem bits_pad {M p : Nat} (h : M < 2 ^ 64) : List.replicate p (PV.int 0) ++ bitsL 64 M = bitsL (p + 64) M := by
  unfold bitsL
  rw [List.range_add, List.map_append, List.map_map]
  congr 1
  · refine (List.eq_replicate_iff.2 ⟨by simp, ?_⟩).symm
    · intro b hb
      obtain ⟨j, hj, rfl⟩ := List.mem_map.1 hb
      have hj' := List.mem_range.1 hj
      have : M < 2 ^ (p + 64 - 1 - j) := Nat.lt_of_lt_of_le h (Nat.pow_le_pow_right (by decide) (by omega))
      rw [Nat.div_eq_of_lt this]; rfl
  · refine List.map_congr_left fun j hj => ?_
    have hj' := List.mem_range.1 hj
    show PV.int _ = PV.int _
    have : 64 - 1 - j = p + 64 - 1 - (p + j) := (Nat.add_sub_add_left p 63 j).symm
    rw [this]
theorem digit_sum (s M e : Nat) (hs : s = 1 ∨ s = 3 ∨ s = 4) : ((List.range s).map fun k => (M / 2 ^ (e + (s - 1 - k)) % 2) * 2 ^ (s - 1 - k)).sum = M / 2 ^ e % 2 ^ s := by
  have h : ∀ j, M / 2 ^ (e + j) = M / 2 ^ e / 2 ^ j := fun j => by rw [Nat.pow_add, Nat.div_div_eq_div_mul]
  simp only [h]
  generalize M / 2 ^ e = N
  rcases hs with rfl | rfl | rfl
  · simp [List.range_succ]
  · rw [show (2 : Nat) ^ 3 = 2 * (2 * 2) from rfl, Nat.mod_mul, Nat.mod_mul, Nat.div_div_eq_div_mul]
    simp [List.range_succ]; omega
  · rw [show (2 : Nat) ^ 4 = 2 * (2 * (2 * 2)) from rfl, Nat.mod_mul, Nat.mod_mul, Nat.mod_mul, Nat.div_div_eq_div_mul, Nat.div_div_eq_div_mul]
    simp [List.range_succ]; omega
/- P19 -/

theorem v_rep {f : Rho → Sto → R (List PV)} {g : Rho → Sto → R PV} {ρ : Rho} {σ : Sto} {xs : List PV} {n : Int} (hf : f ρ σ = .val xs σ) (hg : g ρ σ = .val (.int n) σ) (hl : xs.length ≤ 1000) (hn : 0 ≤ n ∧ n ≤ 1000) : cRep f g ρ σ = .val (.lst (List.replicate n.toNat xs).flatten) σ := by
  unfold cRep; rw [hf]; dsimp only [R.bind]; rw [if_pos hl, hg]; dsimp only [R.bind]; rw [if_pos hn]
theorem v_plus {f g : Rho → Sto → R PV} {ρ : Rho} {σ : Sto} {xs ys : List PV} (hf : f ρ σ = .val (.lst xs) σ) (hg : g ρ σ = .val (.lst ys) σ) (hl : xs.length + ys.length ≤ 1000000) : cPlus f g ρ σ = .val (.lst (xs ++ ys)) σ := by
  unfold cPlus; rw [hf]; dsimp only [R.bind]; rw [hg]; dsimp only [R.bind]; rw [if_pos hl]
theorem range_eq' (n : Nat) : (List.range' 0 n).map (fun (i : Nat) => PV.int i) = (List.range n).map fun (i : Nat) => PV.int i := by rw [List.range_eq_range']
theorem rng0v {n : Nat} (h : n ≤ 1000000) : rngV [.int n] = some ((List.range n).map fun (i : Nat) => PV.int i) := by
  rw [← range_eq', show (List.range' 0 n).map (fun (i : Nat) => PV.int i) = rngL 0 n 1 from (by have := rng1 (a := 0) (b := n); rw [Nat.sub_zero] at this; exact this.symm)]
  exact if_pos (by omega)
theorem rngsv {s m : Nat} (hs : 0 < s) (hs2 : s ≤ 1000) (hm : s * m ≤ 1000000) : rngV [.int 0, .int ((s * m : Nat) : Int), .int s] = some ((List.range m).map fun (i : Nat) => PV.int ((s * i : Nat) : Int)) := by
  have : rngL 0 ((s * m : Nat) : Int) s = (List.range m).map fun (i : Nat) => PV.int ((s * i : Nat) : Int) := by
    unfold rngL
    have : (if (0 : Int) < ((s * m : Nat) : Int) then (((s * m : Nat) : Int) - 0 - 1) / s + 1 else 0).toNat = m := by
      cases m with
      | zero => simp
      | succ m =>
        have hp : 0 < s * (m + 1) := Nat.mul_pos hs (by omega)
        rw [if_pos (by omega)]
        have e : (((s * (m + 1) : Nat) : Int) - 0 - 1) = ((s * (m + 1) - 1 : Nat) : Int) := by omega
        rw [e, ← Int.natCast_ediv]
        have : (s * (m + 1) - 1) / s = m := by
          rw [Nat.mul_succ]
          have : s * m + s - 1 = s * m + (s - 1) := by omega
          rw [this, Nat.mul_add_div hs, Nat.div_eq_of_lt (by omega)]; omega
        rw [this]; omega
    rw [this]
    refine List.map_congr_left fun i _ => ?_
    show PV.int _ = PV.int _
    congr 1
    rw [Int.zero_add, Int.natCast_mul, Int.mul_comm]
  rw [← this]
  exact if_pos (by refine ⟨?_, ?_, ?_, ?_⟩ <;> omega)
theorem pow_cast (k : Nat) : ((2 : Int) ^ (k : Int).toNat) = ((2 ^ k : Nat) : Int) := by rw [Int.toNat_natCast, Int.natCast_pow]; rfl
theorem flat_rep (q : Nat) : (List.replicate q [PV.int 0]).flatten = List.replicate q (PV.int 0) := by
  induction q with
  | zero => rfl
  | succ q ih => rw [List.replicate_succ, List.flatten_cons, ih, List.replicate_succ]; rfl
theorem f_law_bits (M s m p : Nat) (σ : Sto) (hM : M < 2 ^ 64) (hs : (s = 1 ∧ m = 64 ∧ p = 0) ∨ (s = 3 ∧ m = 22 ∧ p = 2) ∨ (s = 4 ∧ m = 16 ∧ p = 0)) : F__law_bits [.int M, .int s] σ = .val (.str (shw (dgsL s m M) [])) σ := by
  have hs1 : s = 1 ∨ s = 3 ∨ s = 4 := hs.imp (·.1) (Or.imp (·.1) (·.1))
  have h1s : 1 ≤ s := by rcases hs1 with rfl | rfl | rfl <;> decide
  have h4s : s ≤ 4 := by rcases hs1 with rfl | rfl | rfl <;> decide
  have h2s : 2 ^ s ≤ 16 := by rcases hs1 with rfl | rfl | rfl <;> decide
  have ds := fun e => digit_sum s M e hs1
  have hm64 : m ≤ 64 := by rcases hs with ⟨rfl, rfl, rfl⟩ | ⟨rfl, rfl, rfl⟩ | ⟨rfl, rfl, rfl⟩ <;> decide
  have hT : p + 64 = s * m := by rcases hs with ⟨rfl, rfl, rfl⟩ | ⟨rfl, rfl, rfl⟩ | ⟨rfl, rfl, rfl⟩ <;> rfl
  have hT66 : s * m ≤ 66 := by rcases hs with ⟨rfl, rfl, rfl⟩ | ⟨rfl, rfl, rfl⟩ | ⟨rfl, rfl, rfl⟩ <;> decide
  have hp : (-64 : Int) % (s : Int) = p := by rcases hs with ⟨rfl, rfl, rfl⟩ | ⟨rfl, rfl, rfl⟩ | ⟨rfl, rfl, rfl⟩ <;> decide
  clear hs hs1
  refine fn_ev0 ?_ rfl rfl
  unfold g__law_bits
  apply x_seq' (ρ₂ := [some (.int M), some (.int s), some (.lst (bitsL 64 M)), none, none, none])
  · refine x_set (p := .lst (bitsL 64 M)) (v_comp (P := fun ρ => ∃ x, ρ = [some (.int M), x]) (out := fun j => PV.int ((M / 2 ^ (64 - 1 - j) % 2 : Nat) : Int)) (im := fun (i : Nat) => PV.int i) (v_range (v_cons (v_val (p := .int ((64 : Nat) : Int))) v_nil) (rng0v (by decide))) ⟨none, rfl⟩ (by decide) ?_)
    intro k hk ρ ⟨x, hρ⟩
    subst hρ
    have hk' := List.mem_range.1 hk
    refine ⟨[some (.int M), some (.int (k : Nat))], rfl, ?_, ⟨_, rfl⟩⟩
    have he : ((63 : Int) - (k : Int)) = ((64 - 1 - k : Nat) : Int) := by omega
    have hpw : (2 : Int) ^ (((64 - 1 - k : Nat) : Int)).toNat ≤ 2 ^ 64 ∧ 0 < (2 : Int) ^ (((64 - 1 - k : Nat) : Int)).toNat := by
      rw [pow_cast]
      have h1 : 2 ^ (64 - 1 - k) ≤ 2 ^ 64 := Nat.pow_le_pow_right (by decide) (by omega)
      have h2 : 0 < 2 ^ (64 - 1 - k) := Nat.two_pow_pos _
      generalize 2 ^ (64 - 1 - k) = z at h1 h2
      omega
    refine to_eq (v_bin (v_bin (v_var rfl) (v_bin v_val (to_eq (v_bin v_val (v_var rfl) (b_sub _ _)) (by rw [he])) (b_pow (by omega))) (b_div _ ⟨hpw.2, hpw.1⟩)) v_val (b_mod _ (by decide))) ?_
    rw [pow_cast, ← Int.natCast_ediv]
    generalize M / 2 ^ (64 - 1 - k) = z
    congr 1
  · rfl
  apply x_seq' (ρ₂ := [some (.int M), some (.int s), some (.lst (bitsL (s * m) M)), none, none, none])
  · refine x_set (p := .lst (bitsL (s * m) M)) (to_eq (v_plus (v_rep (n := (p : Int)) (v_cons v_val v_nil) (to_eq (v_bin (v_neg v_val) (v_var rfl) (b_mod _ (by omega))) (by rw [hp])) (by decide) (by omega)) (v_var rfl) ?_) ?_)
    · rw [Int.toNat_natCast]; unfold bitsL; simp; omega
    · rw [Int.toNat_natCast, flat_rep, bits_pad hM, hT]
  · rfl
  apply x_seq' (ρ₂ := [some (.int M), some (.int s), some (.lst (bitsL (s * m) M)), some (.str []), none, none])
  · exact x_set v_val
  · rfl
  have hbl : (bitsL (s * m) M).length = s * m := by unfold bitsL; simp
  have digit : ∀ i, i < m → ∀ (a : List Nat) (o : Option PV), (cIdx (cVal (.str [48, 49, 50, 51, 52, 53, 54, 55, 56, 57, 97, 98, 99, 100, 101, 102])) (cBlt bSum (cCons (cComp [1, 2, 4] 1 (cRange (cCons (cVar 1) cNil)) (aOne 3) tTrue (cpElt (cBin .Mult (cIdx (cVar 1) (cBin .Add (cVar 2) (cVar 3))) (cBin .Pow (cVal (.int 2)) (cBin .Sub (cBin .Sub (cVar 0) (cVal (.int 1))) (cVar 3)))))) cNil))) [some (.int M), some (.int s), some (.lst (bitsL (s * m) M)), some (.str a), some (.int ((s * i : Nat) : Int)), o] σ = .val (.str [hx (M / 2 ^ (s * (m - 1 - i)) % 2 ^ s)]) σ := by
    intro i hi a o
    have him : s * i + s ≤ s * m := by
      have := Nat.mul_le_mul_left s (show i + 1 ≤ m by omega)
      rw [Nat.mul_succ] at this; exact this
    have hc : cComp [1, 2, 4] 1 (cRange (cCons (cVar 1) cNil)) (aOne 3) tTrue (cpElt (cBin .Mult (cIdx (cVar 1) (cBin .Add (cVar 2) (cVar 3))) (cBin .Pow (cVal (.int 2)) (cBin .Sub (cBin .Sub (cVar 0) (cVal (.int 1))) (cVar 3))))) [some (.int M), some (.int s), some (.lst (bitsL (s * m) M)), some (.str a), some (.int ((s * i : Nat) : Int)), o] σ = .val (.lst ((List.range s).map fun k => PV.int (((M / 2 ^ (s * (m - 1 - i) + (s - 1 - k)) % 2) * 2 ^ (s - 1 - k) : Nat) : Int))) σ := by
      refine v_comp (P := fun ρ => ∃ x, ρ = [some (.int s), some (.lst (bitsL (s * m) M)), some (.int ((s * i : Nat) : Int)), x]) (im := fun (k : Nat) => PV.int k) (v_range (v_cons (v_var rfl) v_nil) (rng0v (by omega))) ⟨none, rfl⟩ (by rw [List.length_range]; omega) ?_
      intro k hk ρ ⟨x, hρ⟩
      subst hρ
      have hk' := List.mem_range.1 hk
      refine ⟨[some (.int s), some (.lst (bitsL (s * m) M)), some (.int ((s * i : Nat) : Int)), some (.int (k : Nat))], rfl, ?_, ⟨_, rfl⟩⟩
      have he : ((s : Int) - 1 - (k : Int)) = ((s - 1 - k : Nat) : Int) := by omega
      have hj : s * m - 1 - (s * i + k) = s * (m - 1 - i) + (s - 1 - k) := by
        obtain ⟨d, hd⟩ : ∃ d, m = i + 1 + d := ⟨m - 1 - i, by omega⟩
        subst hd
        have : i + 1 + d - 1 - i = d := by omega
        rw [this, Nat.mul_add, Nat.mul_add, Nat.mul_one]; omega
      have hadd : ((s * i : Nat) : Int) + (k : Int) = ((s * i + k : Nat) : Int) := by omega
      refine to_eq (v_bin (v_idx (v_var rfl) (to_eq (v_bin (v_var rfl) (v_var rfl) (b_add _ _)) (by rw [hadd])) (idx_lo (bits_get (by omega)) (by omega))) (v_bin v_val (to_eq (v_bin (v_bin (v_var rfl) v_val (b_sub _ _)) (v_var rfl) (b_sub _ _)) (by rw [he])) (b_pow (by omega))) (b_mul' _ ?_)) ?_
      · have : M / 2 ^ (s * m - 1 - (s * i + k)) % 2 < 2 := Nat.mod_lt _ (by decide)
        generalize M / 2 ^ (s * m - 1 - (s * i + k)) % 2 = z at this
        omega
      · rw [hj, pow_cast]
        show PV.int _ = PV.int _
        rw [Int.natCast_mul]
    have hlt : M / 2 ^ (s * (m - 1 - i)) % 2 ^ s < 16 := by
      have : M / 2 ^ (s * (m - 1 - i)) % 2 ^ s < 2 ^ s := Nat.mod_lt _ (Nat.two_pow_pos _)
      exact Nat.lt_of_lt_of_le this h2s
    refine v_idx v_val (v_blt (p := .int ((M / 2 ^ (s * (m - 1 - i)) % 2 ^ s : Nat) : Int)) (v_cons hc v_nil) ?_) (idx_hex hlt)
    show (sumP _).map PV.int = _
    rw [sumP_map, ds]; rfl
  have loop : ∀ n i a o4 o5, i + n = m → a.length + n ≤ 100 → ∃ o4' o5', xFold (aOne 4) (xSeq (xSet 5 (cIdx (cVal (.str [48, 49, 50, 51, 52, 53, 54, 55, 56, 57, 97, 98, 99, 100, 101, 102])) (cBlt bSum (cCons (cComp [1, 2, 4] 1 (cRange (cCons (cVar 1) cNil)) (aOne 3) tTrue (cpElt (cBin .Mult (cIdx (cVar 1) (cBin .Add (cVar 2) (cVar 3))) (cBin .Pow (cVal (.int 2)) (cBin .Sub (cBin .Sub (cVar 0) (cVal (.int 1))) (cVar 3)))))) cNil))))
    (xSet 3 (cIf (tCmp .Eq (cVar 3) (cVal (.str [48]))) (cVar 5) (cBin .Add (cVar 3) (cVar 5))))) ((List.range' i n).map fun (i : Nat) => PV.int ((s * i : Nat) : Int)) [some (.int M), some (.int s), some (.lst (bitsL (s * m) M)), some (.str a), o4, o5] σ = .val (.nxt [some (.int M), some (.int s), some (.lst (bitsL (s * m) M)), some (.str (shw ((List.range' i n).map fun i => M / 2 ^ (s * (m - 1 - i)) % 2 ^ s) a)), o4', o5']) σ := by
    intro n
    induction n with
    | zero => intro i a o4 o5 _ _; exact ⟨o4, o5, rfl⟩
    | succ n ih =>
      intro i a o4 o5 hi hn
      obtain ⟨o4', o5', h'⟩ := ih (i + 1) (bif a == [48] then [hx (M / 2 ^ (s * (m - 1 - i)) % 2 ^ s)] else a ++ [hx (M / 2 ^ (s * (m - 1 - i)) % 2 ^ s)]) (some (.int ((s * i : Nat) : Int))) (some (.str [hx (M / 2 ^ (s * (m - 1 - i)) % 2 ^ s)])) (by omega) (by
        cases (a == [48])
        · rw [cond_false, List.length_append]; show _ + 1 + _ ≤ _; omega
        · rw [cond_true]; show 1 + _ ≤ _; omega)
      refine ⟨o4', o5', ?_⟩
      rw [List.range'_succ, List.map_cons, List.map_cons]
      unfold shw
      refine x_fold_cons (by rfl) (x_seq (x_set (digit i (by omega) a o5)) (x_set (to_eq (v_if (v_cmp (v_var rfl) v_val (c_eqs _ _ _)) (fun _ => v_var rfl) (fun _ => v_bin (v_var rfl) (v_var rfl) (b_adds (by show _ + 1 ≤ _; omega)))) ?_))) h'
      cases (a == [48]) <;> rfl
  obtain ⟨o4', o5', h'⟩ := loop m 0 [] none none (by omega) (by show 0 + m ≤ 100; omega)
  have hr : List.range' 0 m = List.range m := (List.range_eq_range' (n := m)).symm
  rw [hr] at h'
  refine x_seq (x_for (v_range (v_cons v_val (v_cons (v_blt (v_cons (v_var rfl) v_nil) (p := .int ((s * m : Nat) : Int)) ?_) (v_cons (v_var rfl) v_nil))) (rngsv (by omega) (by omega) (by omega))) h') (x_ret (v_var rfl))
  show (if (bitsL (s * m) M).length ≤ 1000000 then some (PV.int ((bitsL (s * m) M).length : Nat)) else none) = _
  rw [if_pos (by omega), hbl]
/- P20 -/

theorem frz_told {θ : Sto} {p : PV} {ns : List PV} (hp : frz θ.length (θ ++ [.lst ns]) 3 p = some p) (hn : ns.all (closedN 6) = true) : frz θ.length (θ ++ [.lst ns]) 4 (.tup [p, .mref θ.length]) = some (.tup [p, .lst ns]) := by
  have hm : frz θ.length (θ ++ [.lst ns]) 3 (.mref θ.length) = some (.lst ns) := by
    show (if θ.length ≤ θ.length then (match (θ ++ [MO.lst ns])[θ.length]? with
      | some (.lst xs) => if xs.all (closedN 6) then some (PV.lst xs) else none
      | _ => none) else none) = _
    rw [if_pos (Nat.le_refl _), sto_get]
    dsimp only
    rw [if_pos hn]
  show ([p, .mref θ.length].mapM (frz θ.length (θ ++ [.lst ns]) 3)).map PV.tup = _
  simp only [List.mapM_cons, List.mapM_nil, hp, hm]; rfl
theorem f_told {θ : Sto} {a : Addr} {F : List PV → Sto → R PV} {v p : PV} {ns : List PV} (hw : ways a = some F) (hF : F [.host θ.length, .lst [v]] (θ ++ [.lst []]) = .val p (θ ++ [.lst ns])) (hp : frz θ.length (θ ++ [.lst ns]) 3 p = some p) (hn : ns.all (closedN 6) = true) :
    F__law_told [.raw (.ref a), .lst [v]] θ = .val (.tup [p, .lst ns]) θ := by
  refine fn_ev (τ := [.lst ns]) (p := .tup [p, .mref θ.length]) (g := g__law_told) ?_ rfl rfl (frz_told hp hn)
  unfold g__law_told
  refine x_seq (ρ₁ := [some (.raw (.ref a)), some (.lst [v]), some (.host θ.length)]) (σ₁ := θ ++ [.lst []]) rfl ?_
  have hc : (cTup (cCons (cCallV ways 0 (cCons (cVar 2) (cCons (cVar 1) cNil))) (cCons (cNotes (cVar 2)) cNil))) [some (.raw (.ref a)), some (.lst [v]), some (.host θ.length)] (θ ++ [.lst []]) = .val (.tup [p, .mref θ.length]) (θ ++ [.lst ns]) := by
    refine v_tup (v_cons (a := p) ?_ (v_cons (a := .mref θ.length) (by rfl) v_nil)) (len2 _ _)
    unfold cCallV
    rw [v_var (p := .raw (.ref a)) rfl]
    dsimp only [R.bind]
    rw [hw]
    exact hF
  unfold xTryRet
  rw [hc]
theorem f_told_e {θ : Sto} {a : Addr} {F : List PV → Sto → R PV} {v : PV} {ns : List PV} (hw : ways a = some F) (hF : F [.host θ.length, .lst [v]] (θ ++ [.lst []]) = .exc (θ ++ [.lst ns])) (hn : ns.all (closedN 6) = true) :
    F__law_told [.raw (.ref a), .lst [v]] θ = .val (.tup [.str [108, 101, 102, 116], .lst ns]) θ := by
  refine fn_ev (τ := [.lst ns]) (p := .tup [.str [108, 101, 102, 116], .mref θ.length]) (g := g__law_told) ?_ rfl rfl (frz_told rfl hn)
  unfold g__law_told
  refine x_seq (ρ₁ := [some (.raw (.ref a)), some (.lst [v]), some (.host θ.length)]) (σ₁ := θ ++ [.lst []]) rfl ?_
  have hc : (cTup (cCons (cCallV ways 0 (cCons (cVar 2) (cCons (cVar 1) cNil))) (cCons (cNotes (cVar 2)) cNil))) [some (.raw (.ref a)), some (.lst [v]), some (.host θ.length)] (θ ++ [.lst []]) = .exc (θ ++ [.lst ns]) := by
    refine v_tup_e (v_cons_e ?_)
    unfold cCallV
    rw [v_var (p := .raw (.ref a)) rfl]
    dsimp only [R.bind]
    rw [hw]
    exact hF
  unfold xTryRet
  rw [hc]
  dsimp only
  rw [x_ret (v_tup (v_cons v_val (v_cons (a := .mref θ.length) (by rfl) v_nil)) (len2 _ _))]
  rfl
/- P21 -/

section
variable {ρ : Rho} {σ : Sto} {D : DP} {ks : List (List Nat)} {vs ps : List PV} {p : PV} {i : Nat} {key : List Nat}
theorem isDic_at (D : DP) (σ : Sto) (ks : List (List Nat)) (vs : List PV) : isDic D (σ ++ [.dic D ks vs]) σ.length = some (ks, vs) := by
  unfold isDic; rw [sto_get]; dsimp only; rw [if_pos rfl]
theorem x_newdict {g : Rho → Sto → R (List PV)} (hg : g ρ (σ ++ [.dic D [] []]) = .val ps (σ ++ [.dic D [] []])) (hc : (ps.all (closedN 6) && decide (ps.length = ks.length)) = true) : xNewDict D i ks g ρ σ = .val (.nxt (ρ.set i (some (.mref σ.length)))) (σ ++ [.dic D ks ps]) := by
  unfold xNewDict; rw [hg]; dsimp only [R.bind]; rw [isDic_at]; dsimp only; rw [if_pos hc, sto_set]
theorem x_setitem {f : Rho → Sto → R PV} (hf : f ρ (σ ++ [.dic D ks vs]) = .val p (σ ++ [.dic D ks vs])) (hv : ρ[i]? = some (some (.mref σ.length))) (hc : (closedN 6 p && !ks.contains key && decide (ks.length ≤ 1000)) = true) :
    xSetItem D i key f ρ (σ ++ [.dic D ks vs]) = .val (.nxt ρ) (σ ++ [.dic D (ks ++ [key]) (vs ++ [p])]) := by
  unfold xSetItem; rw [hf]; dsimp only [R.bind]; rw [v_var hv]; dsimp only [R.bind]; rw [isDic_at]; dsimp only; rw [if_pos hc, sto_set]
theorem v_getd {f g : Rho → Sto → R PV} (hf : f ρ (σ ++ [.dic D ks vs]) = .val (.mref σ.length) (σ ++ [.dic D ks vs])) (hg : g ρ (σ ++ [.dic D ks vs]) = .val (.str key) (σ ++ [.dic D ks vs])) (e : (ks.zip vs).lookup key = some p) : cGetD D f g ρ (σ ++ [.dic D ks vs]) = .val p (σ ++ [.dic D ks vs]) := by
  unfold cGetD; rw [hf]; dsimp only [R.bind]; rw [hg]; dsimp only [R.bind]; rw [isDic_at]; dsimp only; rw [e]; rfl
end
noncomputable def bt (a b c : Nat) : Bool := decide ((a : Int) ≤ (c : Int)) && decide ((c : Int) < (b : Int))
noncomputable def oS (c : Nat) : Bool := ((c : Int) == (32 : Nat)) || bt 9 14 c
noncomputable def oA (c : Nat) : Bool := bt 65 91 c || bt 97 123 c
noncomputable def oN (c : Nat) : Bool := oA c || bt 48 58 c
noncomputable def oP (c : Nat) : Bool := bt 33 127 c && !oN c
noncomputable def oX (c : Nat) : Bool := bt 48 58 c || (bt 65 71 c || bt 97 103 c)
noncomputable def oK : List (List Nat) := [k_digit, k_upper, k_lower, k_space, k_alpha, k_alnum, k_punct, k_xdigit]
noncomputable def oV (c : Nat) : List PV := [.bool (bt 48 58 c), .bool (bt 65 91 c), .bool (bt 97 123 c), .bool (oS c), .bool (oA c), .bool (oN c), .bool (oP c), .bool (oX c)]
theorem v_bt {a b c : Nat} {i : Nat} {ρ : Rho} {σ : Sto} (e : ρ[i]? = some (some (.int c))) : toV (tChain .LtE .Lt (cVal (.int a)) (cVar i) (cVal (.int b))) ρ σ = .val (.bool (bt a b c)) σ :=
  v_toV (v_chain v_val (v_var e) (c_lei _ _ _) v_val (c_lt _ _ _))
theorem f_law_is_of (D : DP) (c : Nat) (nm : List Nat) (b : Bool) (σ : Sto) (h : (oK.zip (oV c)).lookup nm = some (.bool b)) : F__law_is_of D [.str [c], .str nm] σ = .val (.bool b) σ := by
  refine fn_ev (τ := [.dic D oK (oV c)]) (p := .bool b) (g := g__law_is_of D) ?_ rfl rfl rfl
  unfold g__law_is_of
  apply x_seq' (ρ₂ := [some (.str [c]), some (.str nm), some (.int c), none])
  · exact x_set (v_blt (v_cons (v_var rfl) v_nil) (bOrd_s _ _))
  · rfl
  apply x_seq' (ρ₂ := [some (.str [c]), some (.str nm), some (.int c), some (.mref σ.length)]) (σ₁ := σ ++ [.dic D [k_digit, k_upper, k_lower, k_space] [.bool (bt 48 58 c), .bool (bt 65 91 c), .bool (bt 97 123 c), .bool (oS c)]])
  · exact x_newdict (v_cons (v_bt rfl) (v_cons (v_bt rfl) (v_cons (v_bt rfl) (v_cons (v_toV (v_or (v_asB (v_toV (v_cmp (v_var rfl) v_val (c_eqi _ _ _)))) fun _ => v_asB (v_bt rfl))) v_nil)))) rfl
  · rfl
  apply x_seq (σ₁ := σ ++ [.dic D [k_digit, k_upper, k_lower, k_space, k_alpha] [.bool (bt 48 58 c), .bool (bt 65 91 c), .bool (bt 97 123 c), .bool (oS c), .bool (oA c)]])
  · exact x_setitem (p := .bool (oA c)) (v_toV (v_or (v_asB (v_getd (key := k_upper) (v_var rfl) v_val rfl)) fun _ => v_asB (v_getd (key := k_lower) (v_var rfl) v_val rfl))) rfl rfl
  apply x_seq (σ₁ := σ ++ [.dic D [k_digit, k_upper, k_lower, k_space, k_alpha, k_alnum] [.bool (bt 48 58 c), .bool (bt 65 91 c), .bool (bt 97 123 c), .bool (oS c), .bool (oA c), .bool (oN c)]])
  · exact x_setitem (p := .bool (oN c)) (v_toV (v_or (v_asB (v_getd (key := k_alpha) (v_var rfl) v_val rfl)) fun _ => v_asB (v_getd (key := k_digit) (v_var rfl) v_val rfl))) rfl rfl
  apply x_seq (σ₁ := σ ++ [.dic D [k_digit, k_upper, k_lower, k_space, k_alpha, k_alnum, k_punct] [.bool (bt 48 58 c), .bool (bt 65 91 c), .bool (bt 97 123 c), .bool (oS c), .bool (oA c), .bool (oN c), .bool (oP c)]])
  · exact x_setitem (p := .bool (oP c)) (v_toV (v_and (v_asB (v_bt rfl)) fun _ => v_asB (v_toV (v_not (v_asB (v_getd (key := k_alnum) (v_var rfl) v_val rfl)))))) rfl rfl
  apply x_seq (σ₁ := σ ++ [.dic D oK (oV c)])
  · exact x_setitem (p := .bool (oX c)) (v_toV (v_or (v_asB (v_getd (key := k_digit) (v_var rfl) v_val rfl)) fun _ => v_or (v_asB (v_bt rfl)) fun _ => v_asB (v_bt rfl))) rfl rfl
  exact x_ret (v_getd (key := nm) (v_var rfl) (v_var rfl) h)
/- ## The two readings of a kind agree -/
noncomputable def kNames : List (List Nat) := [k_digit, k_alpha, k_alnum, k_upper, k_lower, k_space, k_punct, k_xdigit]
theorem bt_is (a b c : Nat) : bt a b c = (decide (a ≤ c) && decide (c < b)) := by
  unfold bt; rw [dec_lt]; congr 1; rw [decide_eq_decide]; omega
theorem dv_16s : ∀ c < 128, decide (dv [c] < 16) = ((decide (48 ≤ c) && decide (c < 58)) || ((decide (65 ≤ c) && decide (c < 71)) || (decide (97 ≤ c) && decide (c < 103)))) := by decide
theorem dv_16 (c : Nat) : decide (dv [c] < 16) = (bt 48 58 c || (bt 65 71 c || bt 97 103 c)) := by
  rw [bt_is, bt_is, bt_is]
  by_cases h : c < 128
  · exact dv_16s c h
  · rw [dv_big (by omega), decide_eq_false (by omega : ¬ c < 58), decide_eq_false (by omega : ¬ c < 71), decide_eq_false (by omega : ¬ c < 103), Bool.and_false, Bool.and_false, Bool.and_false]; rfl
theorem kind_of {nm : List Nat} (h : nm ∈ kNames) (c : Nat) : (oK.zip (oV c)).lookup nm = some (.bool (ik nm c)) := by
  have hD : isDg c = bt 48 58 c := by rw [bt_is]; unfold isDg; congr 1; rw [decide_eq_decide]; omega
  have hU : isUp c = bt 65 91 c := by rw [bt_is]; unfold isUp; congr 1; rw [decide_eq_decide]; omega
  have hL : isLo c = bt 97 123 c := by rw [bt_is]; unfold isLo; congr 1; rw [decide_eq_decide]; omega
  have hB : isBl c = oS c := by
    unfold isBl oS; rw [bt_is, eqi]; congr 2; rw [decide_eq_decide]; omega
  have hx := dv_16 c
  rcases List.mem_cons.mp h with rfl | h
  · show some (PV.bool (bt 48 58 c)) = some (PV.bool (isDg c)); rw [hD]
  rcases List.mem_cons.mp h with rfl | h
  · show some (PV.bool (oA c)) = some (PV.bool (isUp c || isLo c)); rw [hU, hL]; rfl
  rcases List.mem_cons.mp h with rfl | h
  · show some (PV.bool (oN c)) = some (PV.bool (isDg c || (isUp c || isLo c))); rw [hD, hU, hL]; unfold oN oA; rw [Bool.or_comm]
  rcases List.mem_cons.mp h with rfl | h
  · show some (PV.bool (bt 65 91 c)) = some (PV.bool (isUp c)); rw [hU]
  rcases List.mem_cons.mp h with rfl | h
  · show some (PV.bool (bt 97 123 c)) = some (PV.bool (isLo c)); rw [hL]
  rcases List.mem_cons.mp h with rfl | h
  · show some (PV.bool (oS c)) = some (PV.bool (isBl c)); rw [hB]
  rcases List.mem_cons.mp h with rfl | h
  · show some (PV.bool (bt 33 127 c && !((bt 65 91 c || bt 97 123 c) || bt 48 58 c))) = some (PV.bool ((decide (33 ≤ c) && decide (c ≤ 126)) && !(isDg c || (isUp c || isLo c))))
    rw [hD, hU, hL, Bool.or_comm, bt_is 33]
    congr 4; rw [decide_eq_decide]; omega
  rcases List.mem_cons.mp h with rfl | h
  · show some (PV.bool (oX c)) = some (PV.bool (decide (dv [c] < 16))); rw [hx]; rfl
  · cases h
theorem f_law_kind (D : DP) (c : Nat) {nm : List Nat} (h : nm ∈ kNames) (σ : Sto) : F__law_is_of D [.str [c], .str nm] σ = .val (.bool (ik nm c)) σ := f_law_is_of D c nm _ σ (kind_of h c)
/- P22 -/

/- ## Equal answers -/
noncomputable def Leaf (p : PV) : Prop := ∀ (lo : Nat) (σ : Sto), frz lo σ 3 p = some p ∧ sameN 7 p p = true
theorem leaf_int (i : Int) : Leaf (.int i) := fun _ _ => ⟨rfl, by simp [sameN, scal, ii, ss, pvI, pvS]⟩
theorem leaf_str (l : List Nat) : Leaf (.str l) := fun _ _ => ⟨rfl, by simp [sameN, scal, ii, ss, pvI, pvS]⟩
theorem leaf_bool (b : Bool) : Leaf (.bool b) := fun _ _ => ⟨rfl, by simp [sameN, scal, ii, ss, pvI, pvS]⟩
theorem leaf_nil : Leaf (.lst []) := fun _ _ => ⟨rfl, rfl⟩
theorem leaf_note (a b : List Nat) : Leaf (.lst [.tup [.str a, .str b]]) := fun _ _ => ⟨rfl, by simp [sameN, scal, ii, ss, pvI, pvS]⟩
theorem c_told {a b : PV} (ha : Leaf a) (hb : Leaf b) (σ : Sto) : eqV σ (.tup [a, b]) (.tup [a, b]) = some true := by
  have hf := frz_tup2 (ha 0 σ).1 (hb 0 σ).1
  have hs : sameN 8 (.tup [a, b]) (.tup [a, b]) = true := by
    show (2 == 2 && (sameN 7 a a && (sameN 7 b b && true))) = true
    rw [(ha 0 σ).2, (hb 0 σ).2]; rfl
  show (match frz 0 σ 4 (.tup [a, b]), frz 0 σ 4 (.tup [a, b]) with | some a', some b' => if sameN 8 a' b' then some true else none | _, _ => none) = some true
  rw [hf]
  dsimp only
  rw [if_pos hs]
theorem c_told_eq {a b : PV} (ha : Leaf a) (hb : Leaf b) (σ : Sto) : cmpV .Eq σ (.tup [a, b]) (.tup [a, b]) = some true := c_told ha hb σ
theorem c_told_ne {a b : PV} (ha : Leaf a) (hb : Leaf b) (σ : Sto) : cmpV .NotEq σ (.tup [a, b]) (.tup [a, b]) = some false := congrArg (Option.map (!·)) (c_told ha hb σ)
theorem allP_map {α : Type} (q : α → Bool) : ∀ xs : List α, allP (xs.map fun x => PV.bool (q x)) = some (xs.all q)
  | [] => rfl
  | x :: xs => by
    rw [List.map_cons, List.all_cons]
    show (allP (xs.map fun x => PV.bool (q x))).map (q x && ·) = _
    rw [allP_map q xs]; rfl
/- ## What the law says of a kind -/
theorem v_all_kind (D : DP) {nm : List Nat} (h : nm ∈ kNames) {l : List Nat} {i : Nat} {ρ : Rho} {σ : Sto} (hn : ρ[0]? = some (some (.str nm))) (hv : ρ[i]? = some (some (.str l))) (hl : l.length ≤ 900) :
    cBlt bAll (cCons (cComp [0] 1 (cItems (cVar i)) (aOne 1) tTrue (cpElt (cCall (F__law_is_of D) (cCons (cVar 1) (cCons (cVar 0) cNil))))) cNil) ρ σ = .val (.bool (l.all (ik nm))) σ := by
  have hc : cComp [0] 1 (cItems (cVar i)) (aOne 1) tTrue (cpElt (cCall (F__law_is_of D) (cCons (cVar 1) (cCons (cVar 0) cNil)))) ρ σ = .val (.lst (l.map fun c => PV.bool (ik nm c))) σ := by
    refine v_comp (P := fun ρ => ∃ x, ρ = [some (.str nm), x]) (im := fun c => .str [c]) (v_istr (v_var hv)) ⟨none, by simp only [List.map_cons, List.map_nil, hn]; rfl⟩ (by omega) ?_
    intro c _ ρ ⟨x, hρ⟩
    subst hρ
    exact ⟨[some (.str nm), some (.str [c])], rfl, v_call (v_cons (v_var rfl) (v_cons (v_var rfl) v_nil)) (f_law_kind D c h _), ⟨_, rfl⟩⟩
  refine v_blt (v_cons hc v_nil) ?_
  show (allP _).map PV.bool = _
  rw [allP_map]; rfl
noncomputable def lcS (nm l : List Nat) : Bool := !(l == []) && l.all (ik nm)
theorem f_lct_str (D : DP) {nm : List Nat} (h : nm ∈ kNames) (l : List Nat) (σ : Sto) (hl : l.length ≤ 900) : F__law_ctype D [.str nm, .str l, .str t_string] σ = .val (.tup [.bool (lcS nm l), .lst []]) σ := by
  refine fn_ev0 ?_ rfl (frz_tup2 rfl rfl)
  unfold g__law_ctype
  refine x_seq_r (x_if_t (to_eq (v_cmp (v_var rfl) v_val (c_eqs _ _ _)) rfl) (x_ret (v_tup (v_cons (v_toV (v_and (v_asB (v_toV (v_cmp (v_var rfl) v_val (c_nes _ _ _)))) fun _ => v_asB ?_)) (v_cons (v_lst v_nil len0) v_nil)) (len2 _ _))))
  exact v_all_kind D h rfl rfl hl
theorem lct_note {nm ty : List Nat} {v p : PV} {σ : Sto} {y : Rho → Sto → R Ou} {r : R Ou} (hnm : nm.length ≤ 100) (hty : ty.length ≤ 100) (hy : y [some (.str nm), some v, some (.str ty), some (.str (sCt ++ nm ++ sArg ++ ty ++ sWill)), none] σ = r) :
    xSeq (xSet 3 (cBin .Add (cBin .Add (cBin .Add (cBin .Add (cVal (.str [99, 116, 121, 112, 101, 95])) (cVar 0)) (cVal (.str [40, 41, 58, 32, 65, 114, 103, 117, 109, 101, 110, 116, 32, 111, 102, 32, 116, 121, 112, 101, 32]))) (cVar 2)) (cVal (.str [32, 119, 105, 108, 108, 32, 98, 101, 32, 105, 110, 116, 101, 114, 112, 114, 101, 116, 101, 100, 32, 97, 115, 32, 115, 116, 114, 105, 110, 103, 32, 105, 110, 32, 116, 104, 101, 32, 102, 117, 116, 117, 114, 101])))) y [some (.str nm), some v, some (.str ty), none, none] σ = r := by
  refine x_seq (x_set (p := .str (sCt ++ nm ++ sArg ++ ty ++ sWill)) (v_bin (v_bin (v_bin (v_bin v_val (v_var rfl) (b_adds ?_)) v_val (b_adds ?_)) (v_var rfl) (b_adds ?_)) v_val (b_adds ?_))) hy
  · show 6 + nm.length ≤ _; omega
  · have : (sCt ++ nm).length = 6 + nm.length := List.length_append
    show (sCt ++ nm).length + 21 ≤ _; omega
  · have : (sCt ++ nm ++ sArg).length = 6 + nm.length + 21 := by rw [List.length_append, List.length_append]; rfl
    show (sCt ++ nm ++ sArg).length + ty.length ≤ _; omega
  · have : (sCt ++ nm ++ sArg ++ ty).length = 6 + nm.length + 21 + ty.length := by rw [List.length_append, List.length_append, List.length_append]; rfl
    show (sCt ++ nm ++ sArg ++ ty).length + 44 ≤ _; omega
theorem frz_note {p : PV} (lo : Nat) (σ : Sto) (nm ty : List Nat) (hp : frz lo σ 3 p = some p) : frz lo σ 4 (.tup [p, .lst [ctNote nm ty]]) = some (.tup [p, .lst [ctNote nm ty]]) := frz_tup2 hp rfl
theorem f_lct_not (D : DP) (nm ty : List Nat) (v : PV) (σ : Sto) (hnm : nm.length ≤ 100) (hty : ty.length ≤ 100) (h1 : (ty == t_string) = false) (h2 : (ty == t_int) = false) : F__law_ctype D [.str nm, v, .str ty] σ = .val (.tup [.bool false, .lst [ctNote nm ty]]) σ := by
  refine fn_ev0 ?_ rfl (frz_note _ _ _ _ rfl)
  unfold g__law_ctype
  refine x_seq (x_if_f (to_eq (v_cmp (v_var rfl) v_val (c_eqs _ _ _)) h1) x_skip) (lct_note (p := v) hnm hty ?_)
  refine x_seq_r (x_if_t (to_eq (v_cmp (v_var rfl) v_val (c_nes _ _ _)) (by show (!(ty == t_int)) = true; rw [h2]; rfl)) (x_ret (v_tup (v_cons v_val (v_cons (v_lst (v_cons (v_tup (v_cons v_val (v_cons (v_var rfl) v_nil)) (len2 _ _)) v_nil) (len1 _)) v_nil)) (len2 _ _))))
noncomputable def lcN (n : Int) : List Nat := bif decide (-128 ≤ n) && decide (n < 256) then [(n % 256).toNat] else bif decide (0 < n) then [53] else [45, 53]
theorem cond_str (r : Bool) (a b : List Nat) : (bif r then PV.str a else PV.str b) = PV.str (bif r then a else b) := by cases r <;> rfl
theorem lcN_len (n : Int) : (lcN n).length ≤ 2 := by
  unfold lcN
  cases decide (-128 ≤ n) && decide (n < 256)
  · cases decide (0 < n) <;> exact Nat.le_of_ble_eq_true rfl
  · exact Nat.le_of_ble_eq_true rfl
theorem bChr_m (σ : Sto) (n : Int) : bChr σ [.int (n % 256)] = some (.str [(n % 256).toNat]) := if_pos (by omega)
theorem f_lct_int (D : DP) {nm : List Nat} (h : nm ∈ kNames) (n : Int) (σ : Sto) (hnm : nm.length ≤ 100) : F__law_ctype D [.str nm, .int n, .str t_int] σ = .val (.tup [.bool ((lcN n).all (ik nm)), .lst [ctNote nm t_int]]) σ := by
  refine fn_ev0 ?_ rfl (frz_note _ _ _ _ rfl)
  unfold g__law_ctype
  refine x_seq (x_if_f (to_eq (v_cmp (v_var rfl) v_val (c_eqs _ _ _)) rfl) x_skip) (lct_note (p := .none) hnm (by decide) ?_)
  refine x_seq (x_if_f (to_eq (v_cmp (v_var rfl) v_val (c_nes _ _ _)) rfl) x_skip) ?_
  refine x_seq (x_set (p := .str (lcN n)) (to_eq (v_if (v_chain (v_neg v_val) (v_var rfl) (c_lei _ _ _) v_val (c_lt _ _ _)) (fun _ => v_blt (v_cons (v_bin (v_var rfl) v_val (b_mod _ (by decide))) v_nil) (bChr_m _ n)) (fun _ => v_if (v_cmp (v_var rfl) v_val (c_gt _ _ _)) (fun _ => v_val) (fun _ => v_val))) ?_)) ?_
  · rw [cond_str, cond_str]; rfl
  have := lcN_len n
  exact x_ret (v_tup (v_cons (v_all_kind D h rfl rfl (by omega)) (v_cons (v_lst (v_cons (v_tup (v_cons v_val (v_cons (v_var rfl) v_nil)) (len2 _ _)) v_nil) (len1 _)) v_nil)) (len2 _ _))
theorem ai_eq {nm : List Nat} (h : nm ∈ kNames) (n : Int) : aiP nm n = (lcN n).all (ik nm) := by
  unfold aiP lcN
  by_cases h1 : -128 ≤ n ∧ n ≤ 255
  · have e1 : (decide (-128 ≤ n) && decide (n ≤ 255)) = true := by simp; omega
    have e2 : (decide (-128 ≤ n) && decide (n < 256)) = true := by simp; omega
    rw [e1, e2, cond_true, cond_true, List.all_cons, List.all_nil, Bool.and_true]
  · have e1 : (decide (-128 ≤ n) && decide (n ≤ 255)) = false := by simp; omega
    have e2 : (decide (-128 ≤ n) && decide (n < 256)) = false := by simp; omega
    rw [e1, e2, cond_false, cond_false]
    have k : ∀ nm ∈ kNames, [k_digit, k_alnum, k_xdigit].contains nm = [53].all (ik nm) ∧ false = [45, 53].all (ik nm) := by decide
    have := k nm h
    by_cases h2 : 255 < n
    · rw [decide_eq_true h2, decide_eq_true (by omega : 0 < n), Bool.true_and, cond_true]; exact this.1
    · rw [decide_eq_false h2, decide_eq_false (by omega : ¬ 0 < n), Bool.false_and, cond_false]; exact this.2
theorem kN_len {nm : List Nat} (h : nm ∈ kNames) : nm.length ≤ 100 := by
  have : ∀ nm ∈ kNames, nm.length ≤ 100 := by decide
  exact this nm h
/- P23 -/

noncomputable def pcs : List (List Nat) := [[48, 120], [49], [45], [102], [32], [48], [55], [48, 98], [65], [122], [43], [48, 111], [46], [101], [9], [57], [120], [71], [48, 88], [66], [95], [33], [57, 50, 50, 51, 51, 55, 50, 48, 51, 54, 56, 53, 52, 55, 55, 53, 56, 48, 55], [128], [102, 102, 102, 102, 102, 102, 102, 102], [79], [48, 66], [10]]
noncomputable def pcAt (d : Int) (k : Nat) : List Nat := pcs.getD (d / 8 / 28 ^ k % 28).toNat []
noncomputable def txt (d : Int) : List Nat := ((List.range (d % 8).toNat).map (pcAt d)).flatten
theorem pcs_ok : ∀ i < 28, (pcs.getD i []).length ≤ 19 ∧ (∀ c ∈ pcs.getD i [], c < 256) ∧ pcs[i]? = some (pcs.getD i []) := by decide +kernel
theorem pc_lt (d : Int) (k : Nat) : (d / 8 / 28 ^ k % 28).toNat < 28 := by
  have := Int.emod_lt_of_pos (d / 8 / 28 ^ k) (by decide : (0 : Int) < 28)
  omega
theorem flat_len {ls : List (List Nat)} {n : Nat} (h : ∀ l ∈ ls, l.length ≤ n) : ls.flatten.length ≤ n * ls.length := by
  induction ls with
  | nil => exact Nat.zero_le _
  | cons l ls ih =>
    rw [List.flatten_cons, List.length_append, List.length_cons, Nat.mul_succ]
    have := ih fun x hx => h x (List.mem_cons_of_mem _ hx)
    have := h l (List.mem_cons_self ..)
    omega
theorem txt_len (d : Int) : (txt d).length ≤ 133 := by
  have := flat_len (ls := (List.range (d % 8).toNat).map (pcAt d)) (n := 19) fun l hl => by
    obtain ⟨k, _, rfl⟩ := List.mem_map.mp hl
    exact (pcs_ok _ (pc_lt d k)).1
  rw [List.length_map, List.length_range] at this
  have : (d % 8).toNat < 8 := by omega
  unfold txt
  omega
theorem txt_lt (d : Int) : ∀ c ∈ txt d, c < 256 := by
  intro c hc
  obtain ⟨l, hl, hc⟩ := List.mem_flatten.mp hc
  obtain ⟨k, _, rfl⟩ := List.mem_map.mp hl
  exact (pcs_ok _ (pc_lt d k)).2.1 c hc
theorem f_law_text (d : Int) (σ : Sto) : F__law_text [.int d] σ = .val (.str (txt d)) σ := by
  have hlen := txt_len d
  refine fn_ev0 ?_ rfl rfl
  unfold g__law_text
  refine x_seq (ρ₁ := [some (.int d), some (.tup (pcs.map .str))]) (x_set (v_tup v_strs (by decide))) ?_
  have h8 : (d % 8).toNat < 8 := by omega
  have hc : cComp [0, 1] 1 (cRange (cCons (cBin .Mod (cVar 0) (cVal (.int 8))) cNil)) (aOne 2) tTrue (cpElt (cIdx (cVar 1) (cBin .Mod (cBin .FloorDiv (cBin .FloorDiv (cVar 0) (cVal (.int 8))) (cBin .Pow (cVal (.int 28)) (cVar 2))) (cVal (.int 28))))) [some (.int d), some (.tup (pcs.map .str))] σ = .val (.lst ((List.range (d % 8).toNat).map fun k => PV.str (pcAt d k))) σ := by
    refine v_comp (P := fun ρ => ∃ x, ρ = [some (.int d), some (.tup (pcs.map .str)), x]) (im := fun (k : Nat) => .int (k : Int)) (v_range (v_cons (v_bin (v_var rfl) v_val (b_mod _ (by decide))) v_nil) ?_) ⟨none, rfl⟩ (by rw [List.length_range]; omega) ?_
    · rw [show d % 8 = ((d % 8).toNat : Int) by omega]
      exact rng0v (by omega)
    · intro k hk ρ ⟨x, hρ⟩
      subst hρ
      have hk := List.mem_range.1 hk
      refine ⟨[some (.int d), some (.tup (pcs.map .str)), some (.int (k : Int))], rfl, ?_, ⟨_, rfl⟩⟩
      have hp : 0 < (28 : Int) ^ (k : Int).toNat ∧ (28 : Int) ^ (k : Int).toNat ≤ 2 ^ 64 := by
        have : ∀ k : Nat, k < 8 → 0 < (28 : Int) ^ (k : Int).toNat ∧ (28 : Int) ^ (k : Int).toNat ≤ 2 ^ 64 := by decide
        exact this k (by omega)
      refine v_idx (v_var rfl) (v_bin (v_bin (v_bin (v_var rfl) v_val (b_div _ (by decide))) (v_bin v_val (v_var rfl) (b_pow (by omega))) (b_div _ hp)) v_val (b_mod _ (by decide))) ?_
      have hlt := pc_lt d k
      rw [Int.toNat_natCast, show d / 8 / 28 ^ k % 28 = ((d / 8 / 28 ^ k % 28).toNat : Int) by omega]
      exact idx_t (p := .str (pcAt d k)) (by rw [List.getElem?_map, (pcs_ok _ hlt).2.2]; rfl) (by omega)
  exact x_ret (v_join (ls := (List.range (d % 8).toNat).map (pcAt d)) hc (by show some _ = some _; rw [List.map_map]; rfl) (by show (txt d).length ≤ _; omega))
/- P24 -/

/- ## The two readings in a base agree -/
theorem ch_drop (l : List Nat) (a i : Nat) : ch l (a + i) = ((l.drop a).drop i).take 1 := by rw [ch_eq, List.drop_drop]
theorem sgs_eq (x : List Nat) : sgs.contains x = sgl.contains x := by
  unfold sgs sgl
  simp only [List.contains_cons, List.contains_nil, Bool.or_false]
  exact Bool.or_comm _ _
theorem lsR_is (l : List Nat) : lsR l = l.drop (nS l) := by
  unfold lsR nS
  rw [sgs_eq, ch_eq]
  cases sgl.contains ((l.drop (nF l)).take 1)
  · rfl
  · rw [cond_true, cond_true, List.drop_drop]
theorem lsG_is (l : List Nat) : (lsG l == [45]) = nM l := by
  unfold lsG nM
  rw [ch_eq]
  generalize (l.drop (nF l)).take 1 = x
  by_cases e : x = [45]
  · subst e; rfl
  · have h1 : (x == [45]) = false := by simpa using e
    rw [h1]
    cases h : sgl.contains x
    · rfl
    · exact h1
theorem lsG_take (l : List Nat) : (l.take (nS l)).drop (nF l) = lsG l := by
  unfold lsG nS
  rw [sgs_eq, ch_eq, List.drop_take]
  cases sgl.contains ((l.drop (nF l)).take 1)
  · rw [cond_false, Nat.sub_self]; rfl
  · rw [cond_true, Nat.add_sub_cancel_left]; rfl
theorem nS_or (l : List Nat) : nS l = nF l ∨ nS l = nF l + 1 := by
  unfold nS
  cases sgs.contains (ch l (nF l))
  · exact .inl rfl
  · exact .inr rfl
theorem cut_min (m : Bool) (v : Nat) : cut m (min v 9223372036854775808) = cut m v := by
  by_cases h : v ≤ 9223372036854775808
  · rw [Nat.min_eq_left h]
  · rw [Nat.min_eq_right (by omega)]
    unfold cut
    cases m
    · rw [cond_false, cond_false, Int.min_eq_right (by omega), Int.min_eq_right (by omega)]
    · rw [cond_true, cond_true, Int.max_eq_right (by omega), Int.max_eq_right (by omega)]
theorem cap_le {M x p w : Nat} (hp : 1 ≤ p) : min (min x M * p + w) M = min (x * p + w) M := by
  by_cases h : x ≤ M
  · rw [Nat.min_eq_left h]
  · have h' : M ≤ x := by omega
    have h1 : M ≤ M * p := Nat.le_mul_of_pos_right M hp
    have h2 : M * p ≤ x * p := Nat.mul_le_mul_right p h'
    rw [Nat.min_eq_right h', Nat.min_eq_right (by omega), Nat.min_eq_right (by omega)]
theorem clamp_is (b : Nat) (hb : 1 ≤ b) : ∀ (cs : List Nat) (v : Nat), v ≤ 9223372036854775808 → clamp b cs v = min (v * b ^ (lrow b cs).length + vB b (lrow b cs)) 9223372036854775808
  | [], v, h => by
    show v = min (v * 1 + 0) _
    rw [Nat.mul_one, Nat.add_zero, Nat.min_eq_left h]
  | c :: cs, v, h => by
    unfold clamp
    by_cases hd : dv [c] < b
    · have e : lrow b (c :: cs) = c :: lrow b cs := List.takeWhile_cons_of_pos (decide_eq_true hd)
      rw [decide_eq_true hd, cond_true, e, List.length_cons, clamp_is b hb cs _ (Nat.min_le_right _ _), cap_le (Nat.pow_pos hb)]
      show min ((v * b + dv [c]) * b ^ (lrow b cs).length + vB b (lrow b cs)) _ = min (v * b ^ ((lrow b cs).length + 1) + (dv [c] * b ^ (lrow b cs).length + vB b (lrow b cs))) _
      rw [Nat.add_mul, Nat.mul_assoc, ← Nat.pow_succ', Nat.add_assoc]
    · have e : lrow b (c :: cs) = [] := List.takeWhile_cons_of_neg (by rw [decide_eq_false hd]; exact Bool.false_ne_true)
      rw [decide_eq_false hd, cond_false, e]
      show v = min (v * 1 + 0) _
      rw [Nat.mul_one, Nat.add_zero, Nat.min_eq_left h]
theorem mark_is (R : List Nat) (a b : Nat) : [[48, a], [48, b]].contains (R.take 2) = (R.take 1 == [48] && [[a], [b]].contains ((R.drop 1).take 1)) := by
  match R with
  | [] => rfl
  | [x] => cases h : ([x] == [48]) <;> simp_all
  | x :: y :: t =>
    simp only [List.take_succ_cons, List.take_zero, List.drop_succ_cons, List.drop_zero, List.contains_cons, List.contains_nil, Bool.or_false]
    rw [Bool.eq_iff_iff]
    simp only [Bool.or_eq_true, Bool.and_eq_true, beq_iff_eq, List.cons.injEq, and_true]
    constructor
    · rintro (⟨h1, h2⟩ | ⟨h1, h2⟩)
      · exact ⟨h1, .inl h2⟩
      · exact ⟨h1, .inr h2⟩
    · rintro ⟨h1, h2 | h2⟩
      · exact .inl ⟨h1, h2⟩
      · exact .inr ⟨h1, h2⟩
theorem baC_is (l : List Nat) (b : Nat) : baC l (nS l) b = bbC (lsR l) b := by
  unfold baC bbC bmk
  have h0 : ch l (nS l) = (lsR l).take 1 := by rw [lsR_is, ch_eq]
  have h1 : ch l (nS l + 1) = ((lsR l).drop 1).take 1 := by rw [lsR_is, ch_drop]
  have h2 : ch l (nS l + 2) = ((lsR l).take 3).drop 2 := by rw [lsR_is, ch_drop, List.drop_take]
  rw [h0, h1, h2]
  show _ = (_ && (m0x.contains _ && _))
  rw [show m0x.contains ((lsR l).take 2) = _ from mark_is (lsR l) 120 88]
  rfl
theorem stP_is (l : List Nat) (b : Nat) : stP l b = bbP l b := by
  unfold stP bbP cutG baB baA
  rw [lsG_is, baC_is]
  have h0 : ch l (nS l) = (lsR l).take 1 := by rw [lsR_is, ch_eq]
  cases bbC (lsR l) b
  · rw [cond_false, cond_false, cond_false, h0, ← lsR_is]
    have hO : (bif b == 0 then (bif (lsR l).take 1 == [48] then 8 else 10) else b) = bbO (lsR l) b := by
      unfold bbO; cases (b == 0) <;> rfl
    rw [hO]
    have h1 : 1 ≤ bbO (lsR l) b := by
      unfold bbO
      cases h : (b == 0)
      · have : b ≠ 0 := by simpa using h
        exact Nat.pos_of_ne_zero this
      · cases ((lsR l).take 1 == [48]) <;> exact Nat.le_of_ble_eq_true rfl
    rw [clamp_is _ h1 _ _ (Nat.zero_le _), cut_min, Nat.zero_mul, Nat.zero_add]
  · rw [cond_true, cond_true, cond_true, clamp_is 16 (by decide) _ _ (Nat.zero_le _), cut_min, Nat.zero_mul, Nat.zero_add, lsR_is, List.drop_drop]
theorem corner {l : List Nat} (h : l.length ≤ nF l + 2) (h2 : 2 ≤ (lsR l).length) : lsG l = [] ∧ (lsR l).drop 2 = [] ∧ (lsR l).take 2 = lsR l := by
  have e := lsR_is l
  have h3 : (lsR l).length = l.length - nS l := by rw [e, List.length_drop]
  have h4 : nS l = nF l := by rcases nS_or l with h | h <;> omega
  refine ⟨?_, List.drop_eq_nil_of_le (by omega), List.take_of_length_le (by omega)⟩
  rw [← lsG_take, h4, List.drop_take, Nat.sub_self]; rfl
theorem mark_len {ms : List (List Nat)} {R : List Nat} (hm : ∀ m ∈ ms, m.length = 2) (h : ms.contains (R.take 2) = true) : 2 ≤ R.length := by
  have := hm _ (List.contains_iff_mem.mp h)
  rw [List.length_take] at this; omega
noncomputable def wmQ (l : List Nat) : Bool := decide ((2 : Int) < (l.length : Int) - (nF l : Int))
theorem wmC_is (l : List Nat) (a b : Nat) : wmC l [[a], [b]] = (wmQ l && [[48, a], [48, b]].contains ((lsR l).take 2)) := by
  rw [mark_is, lsR_is, ← ch_eq, ← ch_drop]; rfl
theorem wm_ne (l : List Nat) (a b : Nat) : (!(wmP l [[a], [b]] == l)) = (wmQ l && [[48, a], [48, b]].contains ((lsR l).take 2)) := by
  rw [← wmC_is]
  unfold wmP
  cases h : wmC l [[a], [b]]
  · rw [cond_false, beq_self_eq_true]; rfl
  · rw [cond_true]
    rw [wmC_is, Bool.and_eq_true] at h
    have h2 := mark_len (by simp) h.2
    have h3 : (lsR l).length = l.length - nS l := by rw [lsR_is, List.length_drop]
    have h4 : nF l ≤ nS l := (nS_or l).elim (fun h => Nat.le_of_eq h.symm) fun h => h ▸ Nat.le_succ _
    have : ((l.take (nS l)).drop (nF l) ++ l.drop (nS l + 2)).length < l.length := by
      rw [h3] at h2
      clear h3 h
      rw [List.length_append, List.length_drop, List.length_drop, List.length_take, Nat.min_eq_left (by omega)]; omega
    rw [Bool.not_eq_true', beq_eq_false_iff_ne]
    intro e
    rw [e] at this
    omega
theorem wm_val {l : List Nat} {a b : Nat} (h : (wmQ l && [[48, a], [48, b]].contains ((lsR l).take 2)) = true) : wmP l [[a], [b]] = lsG l ++ (lsR l).drop 2 := by
  unfold wmP
  rw [wmC_is, h, cond_true, lsG_take, lsR_is, List.drop_drop]
theorem stI_is (l : List Nat) (n : Nat) (h : n ≤ 36) (h1 : n ≠ 1) : stI l (n : Int) = bbP l n := by
  unfold stI
  rw [if_neg (by omega), Int.toNat_natCast, stP_is]
theorem bb_zero {l : List Nat} {n t x : Nat} (hn : n = 0 ∨ n = t) (hx : (t = 2 ∧ (x = 98 ∨ x = 66)) ∨ (t = 8 ∧ (x = 111 ∨ x = 79))) (hG : lsG l = []) (hR : lsR l = [48, x]) : bbP l n = 0 := by
  unfold bbP
  rw [hG, hR]
  rcases hx with ⟨rfl, rfl | rfl⟩ | ⟨rfl, rfl | rfl⟩ <;> rcases hn with rfl | rfl <;> decide
theorem mem_mark {a b : Nat} {R : List Nat} (h : [[48, a], [48, b]].contains (R.take 2) = true) : R.take 2 = [48, a] ∨ R.take 2 = [48, b] := by
  have := List.contains_iff_mem.mp h
  simpa using this
theorem two_or {n t : Nat} (h : ((0 : Int) == (n : Int) || ((t : Int) == (n : Int) || false)) = true) : n = 0 ∨ n = t := by
  simp only [Bool.or_false, Bool.or_eq_true, beq_iff_eq] at h
  omega
theorem cor_fin {l : List Nat} {n a c t : Nat} (hl : l.length ≤ nF l + 2) (h : (((0 : Int) == (n : Int) || ((t : Int) == (n : Int) || false)) && [[48, a], [48, c]].contains ((lsR l).take 2)) = true) (ht : (t = 2 ∧ a = 98 ∧ c = 66) ∨ (t = 8 ∧ a = 111 ∧ c = 79)) : bbP (lsG l ++ (lsR l).drop 2) t = bbP l n := by
  rw [Bool.and_eq_true] at h
  have hn := two_or h.1
  obtain ⟨k1, k2, k3⟩ := corner hl (mark_len (by simp) h.2)
  have k4 := mem_mark h.2
  rw [k3] at k4
  have hz : bbP l n = 0 := by
    rcases ht with ⟨rfl, rfl, rfl⟩ | ⟨rfl, rfl, rfl⟩
    · rcases k4 with k4 | k4
      · exact bb_zero hn (.inl ⟨rfl, .inl rfl⟩) k1 k4
      · exact bb_zero hn (.inl ⟨rfl, .inr rfl⟩) k1 k4
    · rcases k4 with k4 | k4
      · exact bb_zero hn (.inr ⟨rfl, .inl rfl⟩) k1 k4
      · exact bb_zero hn (.inr ⟨rfl, .inr rfl⟩) k1 k4
  rw [hz, k1, k2]
  rcases ht with ⟨rfl, _⟩ | ⟨rfl, _⟩ <;> decide
theorem viP_is (l : List Nat) (b : Int) (h : (b == 10) = false) : viP l b = .int (ibP l b) := by
  unfold viP ibP ibC viC
  rw [h, cond_false]
  rw [show wmP l bB = wmP l [[98], [66]] from rfl, show wmP l oO = wmP l [[111], [79]] from rfl, wm_ne, wm_ne]
  rw [show m0b = [[48, 98], [48, 66]] from rfl, show m0o = [[48, 111], [48, 79]] from rfl]
  by_cases hv : b < 0 ∨ b = 1 ∨ 36 < b
  · have e1 : viB b = true := by unfold viB; simp only [Bool.or_eq_true, decide_eq_true_eq, beq_iff_eq]; exact hv
    have e2 : ((0 : Int) == b || ((2 : Int) == b || false)) = false := by
      simp only [Bool.or_false, Bool.or_eq_false_iff, beq_eq_false_iff_ne, ne_eq]; omega
    have e3 : ((0 : Int) == b || ((8 : Int) == b || false)) = false := by
      simp only [Bool.or_false, Bool.or_eq_false_iff, beq_eq_false_iff_ne, ne_eq]; omega
    rw [e1, e2, e3]
    unfold stI
    rw [if_pos hv]; rfl
  · have e1 : viB b = false := by
      unfold viB; simp only [Bool.or_eq_false_iff, decide_eq_false_iff_not, beq_eq_false_iff_ne, ne_eq]; omega
    obtain ⟨n, rfl⟩ : ∃ n : Nat, b = n := ⟨b.toNat, by omega⟩
    have hn : n ≤ 36 := by omega
    have hn1 : n ≠ 1 := by omega
    rw [e1, cond_false, stI_is l n hn hn1, Int.toNat_natCast]
    cases hq : wmQ l
    · rw [Bool.false_and, Bool.false_and, Bool.and_false, Bool.and_false, cond_false, cond_false]
      have hl : l.length ≤ nF l + 2 := by
        unfold wmQ at hq
        have := of_decide_eq_false hq; omega
      cases h1 : (((0 : Int) == (n : Int) || ((2 : Int) == (n : Int) || false)) && [[48, 98], [48, 66]].contains ((lsR l).take 2))
      · rw [cond_false]
        cases h2 : (((0 : Int) == (n : Int) || ((8 : Int) == (n : Int) || false)) && [[48, 111], [48, 79]].contains ((lsR l).take 2))
        · rfl
        · rw [cond_true]
          exact congrArg PV.int (cor_fin (t := 8) hl h2 (.inr ⟨rfl, rfl, rfl⟩))
      · rw [cond_true]
        exact congrArg PV.int (cor_fin (t := 2) hl h1 (.inl ⟨rfl, rfl, rfl⟩))
    · rw [Bool.true_and, Bool.true_and]
      cases h1 : (((0 : Int) == (n : Int) || ((2 : Int) == (n : Int) || false)) && [[48, 98], [48, 66]].contains ((lsR l).take 2))
      · rw [cond_false, cond_false]
        cases h2 : (((0 : Int) == (n : Int) || ((8 : Int) == (n : Int) || false)) && [[48, 111], [48, 79]].contains ((lsR l).take 2))
        · rfl
        · rw [cond_true, cond_true, wm_val (by rw [hq, Bool.true_and]; rw [Bool.and_eq_true] at h2; exact h2.2)]
          exact congrArg PV.int (stI_is _ 8 (by decide) (by decide)).symm
      · rw [cond_true, cond_true, wm_val (by rw [hq, Bool.true_and]; rw [Bool.and_eq_true] at h1; exact h1.2)]
        exact congrArg PV.int (stI_is _ 2 (by decide) (by decide)).symm
/- P25 -/

/- ## The two readings of a number agree -/
theorem dv_dg {c : Nat} (h : isDg c = true) : dv [c] = c - 48 ∧ 48 ≤ c := by
  unfold isDg at h
  simp only [Bool.and_eq_true, decide_eq_true_eq] at h
  exact ⟨if_pos h, h.1⟩
theorem isDg_dv (c : Nat) : decide (dv [c] < 10) = isDg c := by
  cases h : isDg c
  · rw [decide_eq_false_iff_not]
    unfold isDg at h
    simp only [Bool.and_eq_false_iff, decide_eq_false_iff_not] at h
    show ¬ (if 48 ≤ c ∧ c ≤ 57 then c - 48 else if 97 ≤ c ∧ c ≤ 122 then c - 87 else if 65 ≤ c ∧ c ≤ 90 then c - 55 else 99) < 10
    rw [if_neg (by omega)]
    split
    · omega
    · split <;> omega
  · have h1 := dv_dg h
    unfold isDg at h
    simp only [Bool.and_eq_true, decide_eq_true_eq] at h
    rw [decide_eq_true_eq]; omega
theorem lrow_dg (l : List Nat) : lrow 10 l = l.takeWhile isDg := by
  unfold lrow
  rw [show (fun c => decide (dv [c] < 10)) = isDg from funext isDg_dv]
theorem dgAt_is (l : List Nat) (a : Nat) : dgAt l a = !(lrow 10 (l.drop a) == []) := by
  unfold dgAt
  rw [lrow_dg]
  by_cases h : a < l.length
  · rw [decide_eq_true h, Bool.true_and, drop_cons h]
    cases hd : isDg (l.getD a 0)
    · rw [List.takeWhile_cons_of_neg (by rw [hd]; exact Bool.false_ne_true)]; rfl
    · rw [List.takeWhile_cons_of_pos hd]; rfl
  · rw [decide_eq_false h, List.drop_eq_nil_of_le (by omega)]; rfl
theorem lt_add (a : Nat) (x : List Nat) : decide (a < a + x.length) = !(x == []) := by
  cases x with
  | nil => rw [decide_eq_false (by simp)]; rfl
  | cons c x => rw [decide_eq_true (by simp)]; rfl
theorem eq_add (a : Nat) (x : List Nat) : (a + x.length == a) = (x == []) := by
  cases x with
  | nil => simp
  | cons c x => rw [show ((c :: x) == []) = false from rfl, beq_eq_false_iff_ne]; simp
theorem nB_is (l : List Nat) : nB l = nS l + (pW l).length := by
  unfold nB scan pW
  rw [lrow_dg, lsR_is]
theorem pR1_is (l : List Nat) : pR1 l = l.drop (nB l) := by
  unfold pR1
  rw [nB_is, lsR_is, List.drop_drop]
theorem nP_is (l : List Nat) : nP l = pPt l := by
  unfold nP pPt
  rw [show ch l (nB l) = (pR1 l).take 1 by rw [pR1_is, ch_eq], dgAt_is, pR1_is, List.drop_drop, nB_is, lt_add]
theorem nF0_is (l : List Nat) : nF0 l = nB l + (pB1 l).length := by
  unfold nF0 pB1
  rw [nP_is]
  cases pPt l
  · rfl
  · rw [cond_true, cond_true]
    unfold scan
    rw [← lrow_dg, List.length_append, pR1_is, List.drop_drop, Nat.add_assoc]; rfl
theorem pB1_nil (l : List Nat) : (pB1 l == []) = !pPt l := by
  unfold pB1
  cases pPt l <;> rfl
theorem pR2_is (l : List Nat) : pR2 l = l.drop (nF0 l) := by
  rw [nF0_is, ← List.drop_drop, ← pR1_is]
  unfold pR2
  cases h : pPt l
  · have : pB1 l = [] := by unfold pB1; rw [h]; rfl
    rw [this]; rfl
  · rfl
theorem nZ_is (l : List Nat) : (!nZ l) = (!(pW l == []) || !(pB1 l == [])) := by
  unfold nZ
  rw [pB1_nil, nP_is, nB_is, eq_add, Bool.not_and]
theorem pMk_len (l : List Nat) : (bif sgl.contains (((pR2 l).take 2).drop 1) then nF0 l + 2 else nF0 l + 1) = nF0 l + (1 + (pMk l).length) := by
  unfold pMk
  cases h : sgl.contains (((pR2 l).take 2).drop 1)
  · rfl
  · have h1 := List.contains_iff_mem.mp h
    have h2 : ∀ x ∈ sgl, x.length = 1 := by decide
    rw [cond_true, cond_true, h2 _ h1]
theorem nX_is {l : List Nat} (hz : nZ l = false) : nX l = bif pOk l then nF0 l + (1 + (pMk l).length + (pRow l).length) else nF0 l := by
  have hz' := nZ_is l
  rw [hz, Bool.not_false] at hz'
  unfold nX exB pOk pEx
  rw [← hz', Bool.true_and]
  have h0 : ch l (nF0 l) = (pR2 l).take 1 := by rw [pR2_is, ch_eq]
  have h1 : ch l (nF0 l + 1) = ((pR2 l).take 2).drop 1 := by rw [pR2_is, ch_drop, List.drop_take]
  rw [h0, h1, sgs_eq, pMk_len]
  have h2 : dgAt l (nF0 l + (1 + (pMk l).length)) = !(pRow l == []) := by
    rw [dgAt_is, ← List.drop_drop, ← pR2_is]; rfl
  have h3 : scan isDg l (nF0 l + (1 + (pMk l).length)) = nF0 l + (1 + (pMk l).length + (pRow l).length) := by
    unfold scan
    rw [← lrow_dg, ← List.drop_drop, ← pR2_is, Nat.add_assoc]; rfl
  show (if eEl.contains ((pR2 l).take 1) = true then (if dgAt l (nF0 l + (1 + (pMk l).length)) = true then scan isDg l (nF0 l + (1 + (pMk l).length)) else nF0 l) else nF0 l) = _
  rw [h2, h3]
  cases eEl.contains ((pR2 l).take 1)
  · rfl
  · cases (pRow l == []) <;> rfl
theorem pR3_is {l : List Nat} (hz : nZ l = false) : pR3 l = l.drop (nX l) := by
  rw [nX_is hz]
  unfold pR3
  rw [pR2_is]
  cases pOk l
  · rfl
  · rw [cond_true, cond_true, List.drop_drop]
theorem tw_all (q : Nat → Bool) : ∀ d : List Nat, ((d.takeWhile q).length == d.length) = d.all q
  | [] => rfl
  | c :: d => by
    cases h : q c
    · rw [List.takeWhile_cons_of_neg (by rw [h]; exact Bool.false_ne_true), List.all_cons, h]; rfl
    · rw [List.takeWhile_cons_of_pos h, List.all_cons, h, Bool.true_and, ← tw_all q d, List.length_cons, List.length_cons]
      rw [Bool.eq_iff_iff, beq_iff_eq, beq_iff_eq]; omega
theorem scan_all (q : Nat → Bool) {l : List Nat} {a : Nat} (h : a ≤ l.length) : (scan q l a == l.length) = (l.drop a).all q := by
  rw [← tw_all]
  unfold scan
  rw [Bool.eq_iff_iff, beq_iff_eq, beq_iff_eq, List.length_drop]; omega
theorem pB2_z {l : List Nat} (hz : nZ l = true) : pW l = [] ∧ pB2 l = [] := by
  have hz' := nZ_is l
  rw [hz] at hz'
  have h := Bool.or_eq_false_iff.mp hz'.symm
  have h1 : pW l = [] := by simpa using h.1
  have h2 : pB1 l = [] := by simpa using h.2
  refine ⟨h1, ?_⟩
  unfold pB2 pOk pEx
  rw [h1, h2]; rfl
theorem pB2_nil (l : List Nat) : (pB2 l == []) = ((pB1 l == []) && !pOk l) := by
  unfold pB2
  cases h : pOk l
  · rw [cond_false, Bool.not_false, Bool.and_true]
  · rw [cond_true, Bool.not_true, Bool.and_false]
    unfold pOk at h
    rw [Bool.and_eq_true] at h
    cases hr : pRow l with
    | nil => rw [hr] at h; cases h.2
    | cons c r => simp
theorem lnP_is (l : List Nat) : lnP l = (!nZ l && nW l) := by
  unfold lnP
  cases hz : nZ l
  · have hz' := nZ_is l
    rw [hz, Bool.not_false] at hz'
    have : (!(pW l == []) || !(pB2 l == [])) = true := by
      rw [pB2_nil]
      cases h : (pW l == [])
      · rfl
      · rw [h] at hz'
        have : (pB1 l == []) = false := by cases h2 : (pB1 l == []) <;> rw [h2] at hz' <;> first | rfl | cases hz'
        rw [this]; rfl
    rw [this, Bool.true_and, Bool.not_false, Bool.true_and, pR3_is hz]
    exact (scan_all isBl (nX_le l)).symm
  · obtain ⟨h1, h2⟩ := pB2_z hz
    rw [h1, h2, Bool.not_true, Bool.false_and]
    exact Bool.false_and _
theorem dcl_is : ∀ (cs : List Nat) (v : Nat), v ≤ 9223372036854775808 → (∀ c ∈ cs, isDg c = true) → dcl cs v = if v * 10 ^ cs.length + vB 10 cs ≤ 9223372036854775808 then v * 10 ^ cs.length + vB 10 cs else 9223372036854775809
  | [], v, h, _ => by
    have e : v * 10 ^ ([] : List Nat).length + vB 10 [] = v := by
      show v * 1 + 0 = v
      omega
    rw [e, if_pos h]; rfl
  | c :: cs, v, h, hd => by
    obtain ⟨h1, h2⟩ := dv_dg (hd c (List.mem_cons_self ..))
    unfold dcl
    have e : v * 10 + c - 48 = v * 10 + dv [c] := by omega
    rw [e, List.length_cons]
    have hs : v * 10 ^ (cs.length + 1) + vB 10 (c :: cs) = (v * 10 + dv [c]) * 10 ^ cs.length + vB 10 cs := by
      show _ + (dv [c] * 10 ^ cs.length + vB 10 cs) = _
      rw [Nat.add_mul, Nat.mul_assoc, ← Nat.pow_succ', Nat.add_assoc]
    rw [hs]
    generalize v * 10 + dv [c] = x
    by_cases hx : 9223372036854775808 < x
    · have : x ≤ x * 10 ^ cs.length := Nat.le_mul_of_pos_right x (Nat.pow_pos (by decide))
      rw [if_pos hx, if_neg (by omega)]
    · rw [if_neg hx]
      exact dcl_is cs x (by omega) fun d hd' => hd d (List.mem_cons_of_mem _ hd')
noncomputable def lfP (p : PV) : PV := match p with
  | .int i => .int i
  | _ => .str [108, 101, 102, 116]
theorem sgn_is (m : Bool) (v : Nat) : lfP (sgnV m (if v ≤ 9223372036854775808 then v else 9223372036854775809)) = bif !(decide (-9223372036854775808 ≤ (v : Int) * (bif m then -1 else 1)) && decide ((v : Int) * (bif m then -1 else 1) < 9223372036854775808)) then PV.str [108, 101, 102, 116] else .int ((v : Int) * (bif m then -1 else 1)) := by
  have key : ∀ (w : Nat) (n : Int), (n < -9223372036854775808 ∨ 9223372036854775807 < n ↔ (bif m then -(w : Int) else w) < -9223372036854775808 ∨ 9223372036854775807 < (bif m then -(w : Int) else w)) → (¬ (n < -9223372036854775808 ∨ 9223372036854775807 < n) → (bif m then -(w : Int) else w) = n) →
      lfP (sgnV m w) = bif !(decide (-9223372036854775808 ≤ n) && decide (n < 9223372036854775808)) then PV.str [108, 101, 102, 116] else .int n := by
    intro w n h1 h2
    unfold sgnV
    by_cases h : n < -9223372036854775808 ∨ 9223372036854775807 < n
    · rw [if_pos (h1.mp h)]
      have : (decide (-9223372036854775808 ≤ n) && decide (n < 9223372036854775808)) = false := by
        rw [Bool.and_eq_false_iff, decide_eq_false_iff_not, decide_eq_false_iff_not]; omega
      rw [this]; rfl
    · rw [if_neg (fun q => h (h1.mpr q)), h2 h]
      have : (decide (-9223372036854775808 ≤ n) && decide (n < 9223372036854775808)) = true := by
        rw [Bool.and_eq_true, decide_eq_true_eq, decide_eq_true_eq]; omega
      rw [this]; rfl
  refine key _ _ ?_ ?_
  · cases m
    · rw [cond_false, cond_false]; split <;> omega
    · rw [cond_true, cond_true]; split <;> omega
  · cases m
    · rw [cond_false, cond_false]; split <;> omega
    · rw [cond_true, cond_true]; split <;> omega
theorem pW_dg (l : List Nat) : ∀ c ∈ pW l, isDg c = true := by
  unfold pW
  rw [lrow_dg]
  exact takeWhile_all _
theorem liP_is (l : List Nat) : liP l = lfP (noP l) := by
  unfold liP noP
  cases hz : nZ l
  · rw [cond_false]
    unfold nV
    have e1 : (nX l == nB l) = (pB2 l == []) := by
      rw [nX_is hz, pB2_nil]
      cases pOk l
      · rw [cond_false, nF0_is, eq_add, Bool.not_false, Bool.and_true]
      · rw [cond_true, nF0_is, Bool.not_true, Bool.and_false, beq_eq_false_iff_ne]; omega
    rw [e1]
    cases (pB2 l == [])
    · rfl
    · rw [cond_true, Bool.not_true, Bool.false_or]
      have e2 : (l.take (nB l)).drop (nS l) = pW l := by
        unfold nB pW
        rw [slice_scan, lrow_dg, lsR_is]
      rw [e2, dcl_is _ _ (Nat.zero_le _) (pW_dg l), Nat.zero_mul, Nat.zero_add, sgn_is]
      unfold liN
      rw [lsG_is]
  · obtain ⟨h1, h2⟩ := pB2_z hz
    have : liN l = 0 := by
      unfold liN
      rw [h1]
      exact Int.zero_mul _
    rw [this, h2]; rfl
/- P26 -/

/- ## The two readings of all digits there are agree -/
theorem rbk_ge (l : List Nat) (f : Nat) : ∀ n, f ≤ n → f ≤ rbk l f n
  | 0, h => h
  | n + 1, h => by
    unfold rbk
    cases hc : (decide (f < n + 1) && isBl (l.getD n 0))
    · exact h
    · rw [Bool.and_eq_true, decide_eq_true_eq] at hc
      exact rbk_ge l f n (by omega)
theorem rbk_is (l : List Nat) (f : Nat) : ∀ n, f ≤ n → n ≤ l.length → (l.drop f).take (rbk l f n - f) = (((l.drop f).take (n - f)).reverse.dropWhile isBl).reverse
  | 0, h, _ => by
    unfold rbk
    rw [Nat.zero_sub]; rfl
  | n + 1, h, hn => by
    unfold rbk
    by_cases hf : f < n + 1
    · have h1 : n - f < (l.drop f).length := by rw [List.length_drop]; omega
      have h2 : (l.drop f).take (n + 1 - f) = (l.drop f).take (n - f) ++ [l.getD n 0] := by
        rw [show n + 1 - f = n - f + 1 by omega, List.take_succ_eq_append_getElem h1, List.getElem_drop]
        congr 2
        rw [List.getD_eq_getElem?_getD, List.getElem?_eq_getElem (by omega)]
        show l[f + (n - f)] = l[n]
        congr 1; omega
      rw [decide_eq_true hf, Bool.true_and, h2, List.reverse_append]
      show _ = (List.dropWhile isBl (l.getD n 0 :: ((l.drop f).take (n - f)).reverse)).reverse
      cases hb : isBl (l.getD n 0)
      · rw [cond_false, List.dropWhile_cons_of_neg (by rw [hb]; exact Bool.false_ne_true), List.reverse_cons, List.reverse_reverse, h2]
      · rw [cond_true, List.dropWhile_cons_of_pos hb]
        exact rbk_is l f n (by omega) (by omega)
    · rw [decide_eq_false hf, Bool.false_and, cond_false, show n + 1 - f = 0 by omega]; rfl
theorem deS_is (l : List Nat) : deS l = (l.drop (nF l)).take (nbE l - nF l) := by
  unfold deS stripL nbE
  rw [lstrip_is, blC_is, rbk_is l _ _ (nF_le l) (Nat.le_refl _), List.take_of_length_le (by rw [List.length_drop]; exact Nat.le_refl _)]
theorem nbK_is (l : List Nat) (a b : Nat) : nbK l [[a], [b]] = [[48, a], [48, b]].contains ((deS l).take 2) := by
  unfold nbK
  have hF := rbk_ge l (nF l) l.length (nF_le l)
  have hS := deS_is l
  have h0 := ch_eq l (nF l)
  have h1 := ch_drop l (nF l) 1
  rw [show rbk l (nF l) l.length = nbE l from rfl] at hF
  generalize nbE l = e at hF hS ⊢
  generalize nF l = f at hF hS h0 h1 ⊢
  rw [h0, h1]
  generalize l.drop f = r at hS ⊢
  generalize deS l = S at hS ⊢
  subst hS
  by_cases hk : 2 ≤ e - f
  · rw [decide_eq_true (by omega : (2 : Int) ≤ (e : Int) - (f : Int)), Bool.true_and, mark_is]
    rw [List.take_take, List.drop_take, List.take_take, Nat.min_eq_left (by omega), Nat.min_eq_left (by omega)]
  · rw [decide_eq_false (by omega : ¬ (2 : Int) ≤ (e : Int) - (f : Int)), Bool.false_and]
    cases h : [[48, a], [48, b]].contains ((r.take (e - f)).take 2)
    · rfl
    · have := mark_len (by simp) h
      rw [List.length_take] at this; omega
theorem nbL_is (l : List Nat) (a b : Nat) : nbL l [[a], [b]] = deR l [[48, a], [48, b]] := by
  unfold nbL nbF deR
  rw [nbK_is, deS_is]
  cases [[48, a], [48, b]].contains (((l.drop (nF l)).take (nbE l - nF l)).take 2)
  · rfl
  · rw [cond_true, cond_true, List.drop_take, List.drop_drop, Nat.sub_sub]
theorem nbV_is (b : Nat) : ∀ (cs : List Nat) (v : Nat), nbV b cs v = v * b ^ (deD b cs).length + vB b (deD b cs)
  | [], v => (Nat.mul_one v).symm
  | c :: cs, v => by
    unfold nbV
    rw [nbV_is b cs]
    by_cases h : dv [c] < b
    · have e : deD b (c :: cs) = c :: deD b cs := List.filter_cons_of_pos (decide_eq_true h)
      rw [e, decide_eq_true h, cond_true]
      show _ = v * b ^ ((deD b cs).length + 1) + (dv [c] * b ^ (deD b cs).length + vB b (deD b cs))
      rw [Nat.add_mul, Nat.mul_assoc, ← Nat.pow_succ', Nat.add_assoc]
    · have e : deD b (c :: cs) = deD b cs := List.filter_cons_of_neg (by rw [decide_eq_false h]; exact Bool.false_ne_true)
      rw [e, decide_eq_false h, cond_false]
theorem nbC_all (b : Nat) : ∀ (cs : List Nat) (q : Bool), nbC b cs q = (q && cs.all fun c => decide (dv [c] < b))
  | [], q => (Bool.and_true q).symm
  | c :: cs, q => by
    unfold nbC
    rw [nbC_all b cs, List.all_cons]
    cases decide (dv [c] < b)
    · rw [cond_false, Bool.false_and, Bool.and_false]
    · rw [cond_true, Bool.true_and]
theorem deD_all (b : Nat) (cs : List Nat) : (deD b cs == cs) = cs.all fun c => decide (dv [c] < b) := by
  rw [Bool.eq_iff_iff, beq_iff_eq, List.all_eq_true]
  exact List.filter_eq_self
theorem nbN_is (b : Nat) (l : List Nat) (x y : Nat) : PV.lst (nbN b l [[x], [y]]) = deN b (deR l [[48, x], [48, y]]) := by
  unfold nbN deN
  rw [nbL_is, nbC_all, Bool.true_and, ← deD_all]
  cases (deD b (deR l [[48, x], [48, y]]) == deR l [[48, x], [48, y]]) <;> rfl
theorem nbN_closed (b : Nat) (l : List Nat) (ls : List (List Nat)) : (nbN b l ls).all (closedN 6) = true := by
  unfold nbN
  cases nbC b (nbL l ls) true <;> rfl
theorem deV_big {v : Nat} (h : ¬ v ≤ 9223372036854775807) : deV v = .str [108, 101, 102, 116] := by
  unfold deV
  rw [decide_eq_true (by omega)]; rfl
theorem deV_small {v : Nat} (h : v ≤ 9223372036854775807) : deV v = .int v := by
  unfold deV
  rw [decide_eq_false (by omega)]; rfl
theorem leaf_deV (v : Nat) : Leaf (deV v) := by
  by_cases h : v ≤ 9223372036854775807
  · rw [deV_small h]; exact leaf_int _
  · rw [deV_big h]; exact leaf_str _
theorem leaf_deN (b : Nat) (r : List Nat) : Leaf (deN b r) := by
  unfold deN
  cases (!(deD b r == r))
  · exact leaf_nil
  · exact leaf_note _ _
/- what _law_told gives of a decoder -/
theorem told_num {a : Addr} {F : List PV → Sto → R PV} {b x y : Nat} {l : List Nat} {θ : Sto} (hw : ways a = some F) (hF : F [.host θ.length, .lst [.str l]] (θ ++ [.lst []]) = rIf (nbV b (nbL l [[x], [y]]) 0) (θ ++ [.lst ([] ++ nbN b l [[x], [y]])])) :
    F__law_told [.raw (.ref a), .lst [.str l]] θ = .val (.tup [deV (vB b (deD b (deR l [[48, x], [48, y]]))), deN b (deR l [[48, x], [48, y]])]) θ := by
  rw [List.nil_append, nbV_is, Nat.zero_mul, Nat.zero_add, nbL_is] at hF
  rw [← nbN_is]
  unfold rIf at hF
  by_cases h : vB b (deD b (deR l [[48, x], [48, y]])) ≤ 9223372036854775807
  · rw [if_pos h] at hF
    rw [deV_small h]
    exact f_told hw hF rfl (nbN_closed _ _ _)
  · rw [if_neg h] at hF
    rw [deV_big h]
    exact f_told_e hw hF (nbN_closed _ _ _)
theorem told_hex (l : List Nat) (θ : Sto) (hl : l.length ≤ 900) : F__law_told [.raw (.ref 533), .lst [.str l]] θ = .val (.tup [deV (vB 16 (deD 16 (deR l m0x))), deN 16 (deR l m0x)]) θ := told_num rfl (f_hexdec l [] θ hl (by decide))
theorem told_bin (l : List Nat) (θ : Sto) (hl : l.length ≤ 900) : F__law_told [.raw (.ref 540), .lst [.str l]] θ = .val (.tup [deV (vB 2 (deD 2 (deR l m0b))), deN 2 (deR l m0b)]) θ := told_num rfl (f_bindec l [] θ hl (by decide))
theorem told_oct (l : List Nat) (θ : Sto) (hl : l.length ≤ 900) : F__law_told [.raw (.ref 547), .lst [.str l]] θ = .val (.tup [deV (vB 8 (deD 8 (deR l m0o))), deN 8 (deR l m0o)]) θ := told_num rfl (f_octdec l [] θ hl (by decide))
/- P27 -/

theorem viP_lf (l : List Nat) (b : Int) : viP l b = lfP (ivP l b) := by
  cases h : (b == 10)
  · rw [viP_is l b h]
    unfold ivP
    rw [h]; rfl
  · unfold viP ivP
    rw [h]
    exact liP_is l
theorem ivP_or (l : List Nat) (b : Int) : (∃ i, ivP l b = .int i) ∨ ivP l b = .none := by
  unfold ivP
  cases (b == 10)
  · exact .inl ⟨_, rfl⟩
  · exact noP_or l
theorem x_tryset {i : Nat} {f : Rho → Sto → R PV} {ρ : Rho} {σ : Sto} {l : List Nat} {b : Int} (h : f ρ σ = rOf (ivP l b) σ) : xTrySet i f (xSet i (cVal (.str [108, 101, 102, 116]))) ρ σ = .val (.nxt (ρ.set i (some (viP l b)))) σ := by
  rw [viP_lf]
  unfold xTrySet
  rw [h]
  rcases ivP_or l b with ⟨j, e⟩ | e <;> rw [e] <;> rfl
theorem viP_scal (l : List Nat) (b : Int) : scal (viP l b) (viP l b) = some true := by
  rw [viP_lf]
  rcases ivP_or l b with ⟨j, e⟩ | e <;> rw [e]
  · show some (j == j) = _
    rw [beq_self_eq_true]
  · rfl
theorem c_notes (σ : Sto) : cmpV .NotEq (σ ++ [.lst []]) (.mref σ.length) (.lst []) = some false := by
  have h1 : frz 0 (σ ++ [.lst []]) 4 (.mref σ.length) = some (.lst []) := by
    show (if 0 ≤ σ.length then (match (σ ++ [MO.lst []])[σ.length]? with
      | some (.lst xs) => if xs.all (closedN 6) then some (PV.lst xs) else none
      | _ => none) else none) = _
    rw [if_pos (Nat.zero_le _), sto_get]; rfl
  show (match frz 0 (σ ++ [MO.lst []]) 4 (.mref σ.length), frz 0 (σ ++ [MO.lst []]) 4 (.lst []) with | some a', some b' => if sameN 8 a' b' then some true else none | _, _ => none).map (!·) = some false
  rw [h1]; rfl
theorem told_isnum (l : List Nat) (θ : Sto) (hl : l.length ≤ 900) : F__law_told [.raw (.ref 498), .lst [.str l]] θ = .val (.tup [.bool (lnP l), .lst []]) θ := by
  rw [lnP_is]
  exact f_told (F := F_php_is_numeric) rfl (f_is_numeric _ l _ hl) rfl rfl
theorem row_dec {a : Addr} {b : Nat} {ms : List (List Nat)} {l : List Nat} {x : Int} {p q : PV} {θ : Sto} (hl : l.length ≤ 900) (hb : b ≤ 36)
    (hw : F__law_told [.raw (.ref a), .lst [.str l]] θ = .val (.tup [deV (vB b (deD b (deR l ms))), deN b (deR l ms)]) θ) :
    ((xIf (tCmp .NotEq (cCall F__law_told (cCons (cVar 4) (cCons (cLst (cCons (cVar 0) cNil)) cNil))) (cCall F__law_decoded (cCons (cVar 0) (cCons (cVar 5) (cCons (cVar 6) cNil))))) (xRet (cVal (.bool false))) xSkip)) [some (.str l), some (.int x), some p, some q, some (.raw (.ref a)), some (.int b), some (.tup (ms.map .str))] θ = .val (.nxt [some (.str l), some (.int x), some p, some q, some (.raw (.ref a)), some (.int b), some (.tup (ms.map .str))]) θ :=
  x_if_f (v_cmp (v_call (v_cons (v_var rfl) (v_cons (v_lst (v_cons (v_var rfl) v_nil) (len1 _)) v_nil)) hw) (v_call (v_cons (v_var rfl) (v_cons (v_var rfl) (v_cons (v_var rfl) v_nil))) (f_law_decoded l b ms θ hl hb)) (c_told_ne (leaf_deV _) (leaf_deN _ _) _)) x_skip
theorem f_law_is_read (l : List Nat) (b : Int) (σ : Sto) (hl : l.length ≤ 450) : F__law_is_read [.str l, .int b] σ = .val (.bool true) σ := by
  have hl9 : l.length ≤ 900 := by omega
  refine fn_ev (τ := [.lst []]) (p := .bool true) (g := g__law_is_read) ?_ rfl rfl rfl
  unfold g__law_is_read
  refine x_seq (x_if_f (v_cmp (v_call (v_cons v_val (v_cons (v_lst (v_cons (v_var rfl) v_nil) (len1 _)) v_nil)) (told_isnum l σ hl9)) (v_tup (v_cons (v_call (v_cons (v_var rfl) v_nil) (f_law_is_number l σ hl9)) (v_cons (v_lst v_nil len0) v_nil)) (len2 _ _)) (c_told_ne (leaf_bool _) leaf_nil _)) x_skip) ?_
  refine x_seq (ρ₁ := [some (.str l), some (.int b), some (.host σ.length), none, none, none, none]) (σ₁ := σ ++ [.lst []]) rfl ?_
  refine x_seq (ρ₁ := [some (.str l), some (.int b), some (.host σ.length), some (viP l b), none, none, none]) (σ₁ := σ ++ [.lst []]) ?_ ?_
  · refine x_tryset ?_
    unfold cCall
    rw [v_cons (a := .host σ.length) (v_var rfl) (v_cons (v_lst (v_cons (v_var rfl) (v_cons (v_var rfl) v_nil)) (len2 _ _)) v_nil)]
    exact f_intval _ l b _ hl
  refine x_seq (x_if_f (r := .val (.nxt [some (.str l), some (.int b), some (.host σ.length), some (viP l b), none, none, none]) (σ ++ [.lst []])) (v_or (r := false) (r' := false) (v_cmp (v_var rfl) (v_call (v_cons (v_var rfl) (v_cons (v_var rfl) v_nil)) (f_law_intval l b _ (by omega))) ?_) fun _ => v_cmp (a := .mref σ.length) (by rfl) (v_lst v_nil len0) (c_notes σ)) x_skip) ?_
  · show (eqV _ (viP l b) (viP l b)).map (!·) = some false
    unfold eqV
    rw [viP_scal]; rfl
  refine x_seq (ρ₁ := [some (.str l), some (.int b), some (.host σ.length), some (viP l b), some (.raw (.ref 547)), some (.int (8 : Nat)), some (.tup (m0o.map .str))]) (x_for (ps := [.tup [.raw (.ref 533), .int 16, .tup (m0x.map .str)], .tup [.raw (.ref 540), .int 2, .tup (m0b.map .str)], .tup [.raw (.ref 547), .int 8, .tup (m0o.map .str)]]) (by rfl) ?_) (x_ret v_val)
  · refine x_fold_cons (by rfl) (row_dec (b := 16) (ms := m0x) hl9 (by decide) (told_hex l _ hl9)) ?_
    refine x_fold_cons (by rfl) (row_dec (b := 2) (ms := m0b) hl9 (by decide) (told_bin l _ hl9)) ?_
    exact x_fold_cons (by rfl) (row_dec (b := 8) (ms := m0o) hl9 (by decide) (told_oct l _ hl9)) x_fold_nil
/- P28 -/

/- ## Numbers shown and read back -/
theorem dv_hx : ∀ d < 16, dv [hx d] = d := by decide
theorem vB_snoc (b d : Nat) : ∀ xs : List Nat, vB b (xs ++ [d]) = vB b xs * b + dv [d]
  | [] => by
    show dv [d] * b ^ 0 + 0 = 0 * b + dv [d]
    rw [Nat.pow_zero, Nat.mul_one, Nat.zero_mul, Nat.add_zero, Nat.zero_add]
  | c :: xs => by
    show dv [c] * b ^ (xs ++ [d]).length + vB b (xs ++ [d]) = (dv [c] * b ^ xs.length + vB b xs) * b + dv [d]
    rw [vB_snoc b d xs, List.length_append, List.length_singleton, Nat.pow_succ, Nat.add_mul, Nat.mul_assoc, Nat.add_assoc]
theorem dg_val {b : Nat} (h2 : 2 ≤ b) (h : b ≤ 16) : ∀ k r, r < 2 ^ k → vB b (dg b k r) = r
  | 0, r, hr => by
    have : r = 0 := by simpa using hr
    subst this; rfl
  | k + 1, r, hr => by
    unfold dg
    by_cases h0 : r = 0
    · rw [if_pos h0, h0]; rfl
    · have h1 : r / b < 2 ^ k := by
        rw [Nat.div_lt_iff_lt_mul (by omega)]
        have : 2 ^ k * 2 ≤ 2 ^ k * b := Nat.mul_le_mul_left _ h2
        rw [Nat.pow_succ] at hr; omega
      have h3 := Nat.mod_lt r (by omega : b > 0)
      rw [if_neg h0, vB_snoc, dg_val h2 h k _ h1, dv_hx _ (by omega), Nat.mul_comm]
      exact Nat.div_add_mod r b
theorem dg_all {b : Nat} (h2 : 2 ≤ b) (h : b ≤ 16) : ∀ k r, ∀ c ∈ dg b k r, dv [c] < b
  | 0, _, _, hc => nomatch hc
  | k + 1, r, c, hc => by
    unfold dg at hc
    by_cases h0 : r = 0
    · rw [if_pos h0] at hc; nomatch hc
    · rw [if_neg h0] at hc
      rcases List.mem_append.mp hc with hc | hc
      · exact dg_all h2 h k _ c hc
      · have h3 := Nat.mod_lt r (by omega : b > 0)
        rw [List.mem_singleton.mp hc, dv_hx _ (by omega)]; exact h3
theorem btx_val {b M : Nat} (h2 : 2 ≤ b) (h : b ≤ 16) (hM : M < 2 ^ 64) : vB b (btx b M) = M := by
  have h3 := Nat.mod_lt M (by omega : b > 0)
  unfold btx
  rw [vB_snoc, dg_val h2 h 64 _ (Nat.lt_of_le_of_lt (Nat.div_le_self _ _) hM), dv_hx _ (by omega), Nat.mul_comm]
  exact Nat.div_add_mod M b
theorem btx_all {b : Nat} (h2 : 2 ≤ b) (h : b ≤ 16) (M : Nat) : ∀ c ∈ btx b M, dv [c] < b := by
  intro c hc
  rcases List.mem_append.mp hc with hc | hc
  · exact dg_all h2 h _ _ c hc
  · have h3 := Nat.mod_lt M (by omega : b > 0)
    rw [List.mem_singleton.mp hc, dv_hx _ (by omega)]; exact h3
theorem dg_fuel {b : Nat} (h2 : 2 ≤ b) : ∀ k r, r < 2 ^ k → dg b (k + 1) r = dg b k r
  | 0, r, hr => by
    have : r = 0 := by simpa using hr
    subst this; rfl
  | k + 1, r, hr => by
    unfold dg
    by_cases h0 : r = 0
    · rw [if_pos h0, if_pos h0]
    · have h1 : r / b < 2 ^ k := by
        rw [Nat.div_lt_iff_lt_mul (by omega)]
        have : 2 ^ k * 2 ≤ 2 ^ k * b := Nat.mul_le_mul_left _ h2
        rw [Nat.pow_succ] at hr; omega
      rw [if_neg h0, if_neg h0, dg_fuel h2 k _ h1]
theorem shw_snoc (d : Nat) : ∀ (xs a : List Nat), shw (xs ++ [d]) a = bif shw xs a == [48] then [hx d] else shw xs a ++ [hx d]
  | [], a => rfl
  | x :: xs, a => shw_snoc d xs _
theorem dgsL_succ (s m M : Nat) : dgsL s (m + 1) M = dgsL s m (M / 2 ^ s) ++ [M % 2 ^ s] := by
  unfold dgsL
  rw [List.range_succ, List.map_append, List.map_singleton]
  congr 1
  · refine List.map_congr_left fun i hi => ?_
    have hi := List.mem_range.mp hi
    rw [Nat.div_div_eq_div_mul, ← Nat.pow_add]
    congr 3
    rw [show m + 1 - 1 - i = (m - 1 - i) + 1 from sub_swap hi, Nat.mul_succ, Nat.add_comm]
  · rw [Nat.add_sub_cancel, Nat.sub_self, Nat.mul_zero, Nat.pow_zero, Nat.div_one]
theorem shw_is {s : Nat} (h1 : 1 ≤ s) (h4 : s ≤ 4) : ∀ (m M : Nat), M < 2 ^ 64 → M < (2 ^ s) ^ (m + 1) → shw (dgsL s (m + 1) M) [] = btx (2 ^ s) M := by
  have hb2 : 2 ≤ 2 ^ s := Nat.pow_le_pow_right (n := 2) (by decide) h1
  have hb : 2 ^ s ≤ 16 := Nat.pow_le_pow_right (n := 2) (i := s) (j := 4) (by decide) h4
  generalize hB : 2 ^ s = b at hb2 hb
  intro m
  induction m with
  | zero =>
    intro M hM hm
    rw [dgsL_succ, hB]
    have : M / b = 0 := Nat.div_eq_of_lt (by simpa using hm)
    unfold btx
    rw [this]; rfl
  | succ m ih =>
    intro M hM hm
    have hq : M / b < 2 ^ 64 := Nat.lt_of_le_of_lt (Nat.div_le_self _ _) hM
    rw [dgsL_succ, shw_snoc, hB, ih (M / b) hq (by rw [Nat.div_lt_iff_lt_mul (by omega)]; exact hm)]
    by_cases h0 : M / b = 0
    · unfold btx
      rw [h0, Nat.zero_div, Nat.zero_mod]; rfl
    · have hne : (btx b (M / b) == [48]) = false := by
        rw [beq_eq_false_iff_ne]
        intro e
        have := btx_val hb2 hb hq
        rw [e] at this
        exact h0 this.symm
      have hf : dg b 64 (M / b) = btx b (M / b) := by
        have h63 : M / b / b < 2 ^ 63 := by
          rw [Nat.div_div_eq_div_mul, Nat.div_lt_iff_lt_mul (Nat.mul_pos (by omega) (by omega))]
          have : 2 * 1 ≤ b * b := Nat.mul_le_mul hb2 (by omega)
          omega
        show (if M / b = 0 then [] else dg b 63 (M / b / b) ++ [hx (M / b % b)]) = dg b 64 (M / b / b) ++ [hx (M / b % b)]
        rw [if_neg h0, dg_fuel hb2 63 _ h63]
      rw [hne, cond_false]
      show _ = dg b 64 (M / b) ++ [hx (M % b)]
      rw [hf]
theorem bl_dv {c : Nat} (h : isBl c = true) : dv [c] = 99 := by
  unfold isBl at h
  simp only [Bool.or_eq_true, Bool.and_eq_true, beq_iff_eq, decide_eq_true_eq] at h
  show (if 48 ≤ c ∧ c ≤ 57 then c - 48 else if 97 ≤ c ∧ c ≤ 122 then c - 87 else if 65 ≤ c ∧ c ≤ 90 then c - 55 else 99) = 99
  rw [if_neg (by omega), if_neg (by omega), if_neg (by omega)]
theorem dropWhile_id {q : Nat → Bool} : ∀ {l : List Nat}, (∀ c ∈ l, q c = false) → l.dropWhile q = l
  | [], _ => rfl
  | c :: l, h => List.dropWhile_cons_of_neg (by rw [h c (List.mem_cons_self ..)]; exact Bool.false_ne_true)
theorem deR_id {b x y : Nat} {l : List Nat} (h : ∀ c ∈ l, dv [c] < b) (hb : b ≤ 16) (hx : b ≤ dv [x]) (hy : b ≤ dv [y]) : deR l [[48, x], [48, y]] = l := by
  have nb : ∀ c ∈ l, isBl c = false := fun c hc => by
    cases q : isBl c
    · rfl
    · have := h c hc
      rw [bl_dv q] at this; omega
  have hS : deS l = l := by
    unfold deS stripL lstripL
    rw [blC_is, dropWhile_id nb, dropWhile_id fun c hc => nb c (List.mem_reverse.mp hc), List.reverse_reverse]
  unfold deR
  rw [hS]
  cases hc : [[48, x], [48, y]].contains (l.take 2)
  · rfl
  · have e : ∀ z, l.take 2 = [48, z] → b ≤ dv [z] → False := fun z e hz => by
      have : z ∈ l.take 2 := by rw [e]; exact .tail _ (.head _)
      have := h z (List.mem_of_mem_take this)
      omega
    rcases mem_mark hc with q | q
    · exact (e _ q hx).elim
    · exact (e _ q hy).elim
theorem de_id {b : Nat} {l : List Nat} (h : ∀ c ∈ l, dv [c] < b) : deD b l = l := List.filter_eq_self.mpr fun c hc => decide_eq_true (h c hc)
theorem back_is {b x y M : Nat} (h2 : 2 ≤ b) (h : b ≤ 16) (hx : b ≤ dv [x]) (hy : b ≤ dv [y]) (hM : M < 2 ^ 64) :
    PV.tup [deV (vB b (deD b (deR (btx b M) [[48, x], [48, y]]))), deN b (deR (btx b M) [[48, x], [48, y]])] = .tup [deV M, .lst []] := by
  have ha := btx_all h2 h M
  unfold deN
  rw [deR_id ha h hx hy, de_id ha, btx_val h2 h hM, beq_self_eq_true]; rfl
noncomputable def M64 (n : Int) : Nat := (n % 18446744073709551616).toNat
theorem M64_lt (n : Int) : M64 n < 2 ^ 64 := by unfold M64; omega
theorem deV_M64 {n : Int} (h1 : -9223372036854775808 ≤ n) (h2 : n ≤ 9223372036854775807) : deV (M64 n) = bif decide (0 ≤ n) then .int n else .str [108, 101, 102, 116] := by
  by_cases h : 0 ≤ n
  · have e : ((M64 n : Nat) : Int) = n := by unfold M64; omega
    rw [decide_eq_true h, deV_small (by omega), e]; rfl
  · rw [decide_eq_false h]
    exact deV_big (by unfold M64; omega)
theorem row_shown {a c s m p b x y : Nat} {n : Int} {o4 o5 : Option PV} {θ : Sto} (h1 : -9223372036854775808 ≤ n) (h2 : n ≤ 9223372036854775807) (hb : 2 ^ s = b) (hs : (s = 1 ∧ m = 63 ∧ p = 0) ∨ (s = 3 ∧ m = 21 ∧ p = 2) ∨ (s = 4 ∧ m = 15 ∧ p = 0)) (hx : b ≤ dv [x]) (hy : b ≤ dv [y])
    (hw : F__law_told [.raw (.ref a), .lst [.int n]] θ = .val (.tup [.str (btx b (M64 n)), .lst []]) θ)
    (hk : ∀ l : List Nat, l.length ≤ 900 → F__law_told [.raw (.ref c), .lst [.str l]] θ = .val (.tup [deV (vB b (deD b (deR l [[48, x], [48, y]]))), deN b (deR l [[48, x], [48, y]])]) θ) :
    ((xSeq (xAsg (aTup (aCons 4 (aCons 5 aNil))) (cCall F__law_told (cCons (cVar 1) (cCons (cLst (cCons (cVar 0) cNil)) cNil))))
    (xSeq (xIf (tBo .Or (tCmp .NotEq (cVar 4) (cCall F__law_bits (cCons (cBin .Mod (cVar 0) (cBin .Pow (cVal (.int 2)) (cVal (.int 64)))) (cCons (cVar 3) cNil)))) (tCmp .NotEq (cVar 5) (cLst cNil))) (xRet (cVal (.bool false))) xSkip)
    (xIf (tCmp .NotEq (cCall F__law_told (cCons (cVar 2) (cCons (cLst (cCons (cVar 4) cNil)) cNil))) (cTup (cCons (cIf (tCmp .GtE (cVar 0) (cVal (.int 0))) (cVar 0) (cVal (.str [108, 101, 102, 116]))) (cCons (cLst cNil) cNil)))) (xRet (cVal (.bool false))) xSkip)))) [some (.int n), some (.raw (.ref a)), some (.raw (.ref c)), some (.int s), o4, o5] θ = .val (.nxt [some (.int n), some (.raw (.ref a)), some (.raw (.ref c)), some (.int s), some (.str (btx b (M64 n))), some (.lst [])]) θ := by
  have hM := M64_lt n
  have hs2 : (s = 1 ∧ m + 1 = 64 ∧ p = 0) ∨ (s = 3 ∧ m + 1 = 22 ∧ p = 2) ∨ (s = 4 ∧ m + 1 = 16 ∧ p = 0) := hs.imp (fun h => ⟨h.1, by rw [h.2.1], h.2.2⟩) (Or.imp (fun h => ⟨h.1, by rw [h.2.1], h.2.2⟩) fun h => ⟨h.1, by rw [h.2.1], h.2.2⟩)
  have hs3 : 1 ≤ s ∧ s ≤ 4 := by rcases hs with ⟨rfl, _⟩ | ⟨rfl, _⟩ | ⟨rfl, _⟩ <;> decide
  have hb2 : 2 ≤ b := by rw [← hb]; rcases hs with ⟨rfl, _⟩ | ⟨rfl, _⟩ | ⟨rfl, _⟩ <;> decide
  have hb16 : b ≤ 16 := by rw [← hb]; rcases hs with ⟨rfl, _⟩ | ⟨rfl, _⟩ | ⟨rfl, _⟩ <;> decide
  have hbits : F__law_bits [.int (n % 18446744073709551616), .int s] θ = .val (.str (btx b (M64 n))) θ := by
    have e : n % 18446744073709551616 = ((M64 n : Nat) : Int) := (mod_nat n (by decide)).symm
    have hm : M64 n < (2 ^ s) ^ (m + 1) := by
      rcases hs with ⟨rfl, rfl, _⟩ | ⟨rfl, rfl, _⟩ | ⟨rfl, rfl, _⟩
      · exact Nat.lt_of_lt_of_le hM (by decide)
      · exact Nat.lt_of_lt_of_le hM (by decide)
      · exact Nat.lt_of_lt_of_le hM (by decide)
    rw [e, f_law_bits (M64 n) s (m + 1) p θ hM hs2, shw_is hs3.1 hs3.2 m _ hM hm, hb]
  have hlen := btx_len b (M64 n)
  have hback := hk (btx b (M64 n)) (by omega)
  rw [back_is hb2 hb16 hx hy hM, deV_M64 h1 h2] at hback
  generalize btx b (M64 n) = t at hw hbits hback ⊢
  refine x_seq (x_asg (v_call (v_cons (v_var rfl) (v_cons (v_lst (v_cons (v_var rfl) v_nil) (len1 _)) v_nil)) hw) (ρ₁ := [some (.int n), some (.raw (.ref a)), some (.raw (.ref c)), some (.int s), some (.str t), some (.lst [])]) (by rfl)) ?_
  refine x_seq (x_if_f (r := .val (.nxt [some (.int n), some (.raw (.ref a)), some (.raw (.ref c)), some (.int s), some (.str t), some (.lst [])]) θ) (v_or (r := false) (r' := false) ?_ fun _ => v_cmp (v_var rfl) (v_lst v_nil len0) rfl) x_skip) ?_
  · refine to_eq (v_cmp (v_var rfl) (v_call (v_cons (v_bin (v_var rfl) (v_bin v_val v_val (b_pow (by decide))) (b_mod _ (by decide))) (v_cons (v_var rfl) v_nil)) hbits) (c_nes _ _ _)) ?_
    rw [beq_self_eq_true]; rfl
  · refine x_if_f (v_cmp (v_call (v_cons (v_var rfl) (v_cons (v_lst (v_cons (v_var rfl) v_nil) (len1 _)) v_nil)) hback) (v_tup (v_cons (v_if (v_cmp (v_var rfl) v_val (c_ge _ _ _)) (fun _ => v_var rfl) (fun _ => v_val)) (v_cons (v_lst v_nil len0) v_nil)) (len2 _ _)) (c_told_ne ?_ leaf_nil _)) x_skip
    cases decide (0 ≤ n)
    · exact leaf_str _
    · exact leaf_int _
theorem f_law_is_shown (n : Int) (σ : Sto) (h1 : -9223372036854775808 ≤ n) (h2 : n ≤ 9223372036854775807) : F__law_is_shown [.int n] σ = .val (.bool true) σ := by
  refine fn_ev0 (p := .bool true) (g := g__law_is_shown) ?_ rfl rfl
  unfold g__law_is_shown
  refine x_seq (σ₁ := σ) (ρ₁ := [some (.int n), some (.raw (.ref 512)), some (.raw (.ref 533)), some (.int (4 : Nat)), some (.str (btx 16 (M64 n))), some (.lst [])]) (x_for (ps := [.tup [.raw (.ref 519), .raw (.ref 540), .int (1 : Nat)], .tup [.raw (.ref 526), .raw (.ref 547), .int (3 : Nat)], .tup [.raw (.ref 512), .raw (.ref 533), .int (4 : Nat)]]) (by rfl) ?_) ?_
  · refine x_fold_cons (by rfl) (row_shown (m := 63) (p := 0) (b := 2) (x := 98) (y := 66) h1 h2 rfl (.inl ⟨rfl, rfl, rfl⟩) (by decide) (by decide) (f_told (F := F_php_decbin) rfl (f_decbin _ n _) rfl rfl) fun l hl => told_bin l _ hl) ?_
    refine x_fold_cons (by rfl) (row_shown (m := 21) (p := 2) (b := 8) (x := 111) (y := 79) h1 h2 rfl (.inr (.inl ⟨rfl, rfl, rfl⟩)) (by decide) (by decide) (f_told (F := F_php_decoct) rfl (f_decoct _ n _) rfl rfl) fun l hl => told_oct l _ hl) ?_
    exact x_fold_cons (by rfl) (row_shown (m := 15) (p := 0) (b := 16) (x := 120) (y := 88) h1 h2 rfl (.inr (.inr ⟨rfl, rfl, rfl⟩)) (by decide) (by decide) (f_told (F := F_php_dechex) rfl (f_dechex _ n _) rfl rfl) fun l hl => told_hex l _ hl) x_fold_nil
  · have e : (((n % 256).toNat : Nat) : Int) = n % 256 := mod_nat n (by decide)
    have hc : ∀ {ρ : Rho}, ρ[0]? = some (some (.int n)) → (cBlt bChr (cCons (cBin .Mod (cVar 0) (cVal (.int 256))) cNil)) ρ σ = .val (.str [(n % 256).toNat]) σ := fun h => v_blt (v_cons (v_bin (v_var h) v_val (b_mod _ (by decide))) v_nil) (bChr_m _ n)
    have ho := f_told (θ := σ) (a := 631) (F := F_php_ord) rfl (f_ord (.host σ.length) (n % 256).toNat [] _) rfl rfl
    rw [e] at ho
    exact x_ret (v_toV (v_and (r := true) (r' := true) (v_asB (v_toV (v_cmp (v_call (v_cons v_val (v_cons (v_lst (v_cons (v_var rfl) v_nil) (len1 _)) v_nil)) (f_told (F := F_php_chr) rfl (f_chr _ n _) rfl rfl)) (v_tup (v_cons (hc rfl) (v_cons (v_lst v_nil len0) v_nil)) (len2 _ _)) (c_told_eq (leaf_str _) leaf_nil _)))) fun _ =>
      v_asB (v_toV (v_cmp (v_call (v_cons v_val (v_cons (v_lst (v_cons (hc rfl) v_nil) (len1 _)) v_nil)) ho) (v_tup (v_cons (v_bin (v_var rfl) v_val (b_mod _ (by decide))) (v_cons (v_lst v_nil len0) v_nil)) (len2 _ _)) (c_told_eq (leaf_int _) leaf_nil _)))))
/- P29 -/

/- ## Octets as hex signs, there and back -/
noncomputable def pr : List Nat → List Nat
  | a :: b :: r => (dv [a] * 16 + dv [b]) :: pr r
  | _ => []
noncomputable def all16 (l : List Nat) : Bool := l.all fun c => decide (dv [c] < 16)
theorem hbk_is : ∀ l : List Nat, l.length % 2 = 0 → hbk l = bif all16 l then some (pr l) else none
  | [], _ => rfl
  | [_], h => by cases h
  | a :: b :: r, h => by
    have ih := hbk_is r (by simp at h; omega)
    unfold hbk
    rw [ih]
    have e : all16 (a :: b :: r) = (decide (dv [a] < 16) && (decide (dv [b] < 16) && all16 r)) := rfl
    rw [e]
    by_cases ha : dv [a] < 16
    · by_cases hb : dv [b] < 16
      · rw [if_neg (by omega), decide_eq_true ha, decide_eq_true hb, Bool.true_and, Bool.true_and]
        cases all16 r <;> rfl
      · rw [if_pos (by omega), decide_eq_false hb, Bool.false_and, Bool.and_false]; rfl
    · rw [if_pos (by omega), decide_eq_false ha, Bool.false_and]; rfl
theorem pr_range : ∀ (m : Nat) (l : List Nat), l.length = 2 * m → pr l = (List.range m).map fun i => dv [l.getD (2 * i) 0] * 16 + dv [l.getD (2 * i + 1) 0]
  | 0, [], _ => rfl
  | 0, _ :: _, h => by simp at h
  | m + 1, [], h => by simp at h
  | m + 1, [_], h => by simp at h; omega
  | m + 1, a :: b :: r, h => by
    rw [List.range_succ_eq_map, List.map_cons, List.map_map]
    show _ :: pr r = _
    rw [pr_range m r (by simp at h; omega)]
    rfl
theorem pr_lt : ∀ (n : Nat) {l : List Nat}, l.length ≤ n → all16 l = true → ∀ c ∈ pr l, c < 256
  | _, [], _, _, _, hc => nomatch hc
  | _, [_], _, _, _, hc => nomatch hc
  | n + 1, a :: b :: r, hl, h, c, hc => by
    have e : all16 (a :: b :: r) = (decide (dv [a] < 16) && (decide (dv [b] < 16) && all16 r)) := rfl
    rw [e, Bool.and_eq_true, Bool.and_eq_true, decide_eq_true_eq, decide_eq_true_eq] at h
    rcases List.mem_cons.mp hc with rfl | hc
    · omega
    · exact pr_lt n (by simp at hl; omega) h.2.2 c hc
  | 0, _ :: _ :: _, hl, _, _, _ => by simp at hl
theorem hx2_all {c : Nat} (h : c < 256) : dv [hx (c / 16)] = c / 16 ∧ dv [hx (c % 16)] = c % 16 := ⟨dv_hx _ (by omega), dv_hx _ (by omega)⟩
theorem b2h_back : ∀ l : List Nat, (∀ c ∈ l, c < 256) → hbk (b2h l) = some l
  | [], _ => rfl
  | c :: l, h => by
    have ih := b2h_back l fun d hd => h d (List.mem_cons_of_mem _ hd)
    have hc := h c (List.mem_cons_self ..)
    obtain ⟨h1, h2⟩ := hx2_all hc
    show (if 15 < dv [hx (c / 16)] ∨ 15 < dv [hx (c % 16)] then none else (hbk (b2h l)).map ((dv [hx (c / 16)] * 16 + dv [hx (c % 16)]) :: ·)) = _
    rw [h1, h2, if_neg (by omega), ih, show c / 16 * 16 + c % 16 = c by omega]; rfl
theorem told_h2b (l : List Nat) (θ : Sto) (hl : l.length ≤ 900) : F__law_told [.raw (.ref 645), .lst [.str l]] θ = .val (.tup [hbV l, .lst (hbN l)]) θ := by
  refine f_told (F := F_php_hex2bin) rfl (f_hex2bin l [] θ hl (by decide)) ?_ ?_
  · unfold hbV
    split
    · rfl
    · split <;> rfl
  · unfold hbN
    split
    · rfl
    · split <;> rfl
theorem v_due {l : List Nat} {ρ : Rho} {σ : Sto} (h : ρ[0]? = some (some (.str l))) (hl : l.length ≤ 900) (hc : ∀ c ∈ l, c < 256) :
    (cMeth bJoin (cVal (.str [])) (cCons (cComp [] 1 (cItems (cVar 0)) (aOne 0) tTrue (cpElt (cBin .Add (cIdx (cVal (.str [48, 49, 50, 51, 52, 53, 54, 55, 56, 57, 97, 98, 99, 100, 101, 102])) (cBin .FloorDiv (cBlt bOrd (cCons (cVar 0) cNil)) (cVal (.int 16)))) (cIdx (cVal (.str [48, 49, 50, 51, 52, 53, 54, 55, 56, 57, 97, 98, 99, 100, 101, 102])) (cBin .Mod (cBlt bOrd (cCons (cVar 0) cNil)) (cVal (.int 16))))))) cNil)) ρ σ = .val (.str (b2h l)) σ := by
  have hb := b2h_len l
  refine v_join (ls := l.map hx2) (v_comp (P := fun ρ => ∃ x, ρ = [x]) (im := fun c => .str [c]) (out := fun c => .str (hx2 c)) (xs := l) (v_istr (v_var h)) ⟨none, rfl⟩ (by omega) ?_) (by show some _ = some _; rw [List.map_map]; rfl) (by show (b2h l).length ≤ _; omega)
  intro c hm ρ ⟨x, hρ⟩
  subst hρ
  exact ⟨[some (.str [c])], rfl, v_bin (v_idx v_val (v_bin (v_blt (v_cons (v_var rfl) v_nil) (bOrd_s _ _)) v_val (b_div _ (by decide))) (idx_hexd (hc c hm))) (v_idx v_val (v_bin (v_blt (v_cons (v_var rfl) v_nil) (bOrd_s _ _)) v_val (b_mod _ (by decide))) (idx_hexm c)) (b_adds (Nat.le_of_ble_eq_true rfl)), ⟨_, rfl⟩⟩
theorem v_all16 {l : List Nat} {ρ : Rho} {σ : Sto} (h : ρ[0]? = some (some (.str l))) (hl : l.length ≤ 900) :
    (tNot (asB (cBlt bAll (cCons (cComp [] 1 (cItems (cVar 0)) (aOne 0) tTrue (cpElt (toV (tCmp .Lt (cCall F__law_worth (cCons (cVar 0) cNil)) (cVal (.int 16)))))) cNil)))) ρ σ = .val (!all16 l) σ := by
  have hc : cComp [] 1 (cItems (cVar 0)) (aOne 0) tTrue (cpElt (toV (tCmp .Lt (cCall F__law_worth (cCons (cVar 0) cNil)) (cVal (.int 16))))) ρ σ = .val (.lst (l.map fun c => PV.bool (decide (dv [c] < 16)))) σ := by
    refine v_comp (P := fun ρ => ∃ x, ρ = [x]) (im := fun c => .str [c]) (v_istr (v_var h)) ⟨none, rfl⟩ (by omega) ?_
    intro c hm ρ ⟨x, hρ⟩
    subst hρ
    exact ⟨[some (.str [c])], rfl, v_toV (to_eq (v_cmp (v_call (v_cons (v_var rfl) v_nil) (f_law_worth _ _ (by simp))) v_val (c_lt _ _ _)) (dec_lt _ 16)), ⟨_, rfl⟩⟩
  refine v_not (v_asB (v_blt (v_cons hc v_nil) ?_))
  show (allP _).map PV.bool = _
  rw [allP_map]; rfl
theorem v_pairs {l : List Nat} {m : Nat} {ρ : Rho} {σ : Sto} (h : ρ[0]? = some (some (.str l))) (hl : l.length ≤ 900) (hm : l.length = 2 * m) :
    (cComp [0] 1 (cRange (cCons (cVal (.int 0)) (cCons (cBlt bLen (cCons (cVar 0) cNil)) (cCons (cVal (.int 2)) cNil)))) (aOne 1) tTrue (cpElt (cBin .Add (cBin .Mult (cCall F__law_worth (cCons (cIdx (cVar 0) (cVar 1)) cNil)) (cVal (.int 16))) (cCall F__law_worth (cCons (cIdx (cVar 0) (cBin .Add (cVar 1) (cVal (.int 1)))) cNil))))) ρ σ = .val (.lst ((pr l).map fun c => PV.int (c : Nat))) σ := by
  rw [pr_range m l hm, List.map_map]
  refine v_comp (P := fun ρ => ∃ x, ρ = [some (.str l), x]) (im := fun (i : Nat) => .int ((2 * i : Nat) : Int)) (v_range (v_cons v_val (v_cons (v_blt (v_cons (v_var h) v_nil) (bLen_s (by omega))) (v_cons v_val v_nil))) ?_) ⟨none, by simp only [List.map_cons, List.map_nil, h]; rfl⟩ (by rw [List.length_range]; omega) ?_
  · rw [hm]
    exact rngsv (by decide) (by decide) (by omega)
  · intro i hi ρ ⟨x, hρ⟩
    subst hρ
    have hi := List.mem_range.mp hi
    refine ⟨[some (.str l), some (.int ((2 * i : Nat) : Int))], rfl, ?_, ⟨_, rfl⟩⟩
    exact v_bin (v_bin (v_call (v_cons (v_idx (v_var rfl) (v_var rfl) (idx_sd (by omega) (by omega))) v_nil) (f_law_worth _ _ (by simp))) v_val (b_mul _ (by decide))) (v_call (v_cons (v_idx (v_var rfl) (v_bin (v_var rfl) v_val (b_add1 _)) (idx_sd (by omega) (by omega))) v_nil) (f_law_worth _ _ (by simp))) (b_add _ _)
theorem bChr_s (σ : Sto) {c : Nat} (h : c < 256) : bChr σ [.int (c : Nat)] = some (.str [c]) := by
  show (if _ then some (PV.str [(c : Int).toNat]) else none) = _
  rw [if_pos (by omega), Int.toNat_natCast]
theorem v_chrs {r : List Nat} {ρ : Rho} {σ : Sto} (h : ρ[5]? = some (some (.lst (r.map fun c => PV.int (c : Nat))))) (hl : r.length ≤ 900) (hc : ∀ c ∈ r, c < 256) :
    (cMeth bJoin (cVal (.str [])) (cCons (cComp [] 1 (cItems (cVar 5)) (aOne 0) tTrue (cpElt (cBlt bChr (cCons (cVar 0) cNil)))) cNil)) ρ σ = .val (.str r) σ := by
  have := v_join (ρ := ρ) (σ := σ) (ls := r.map fun c => [c]) (f := cComp [] 1 (cItems (cVar 5)) (aOne 0) tTrue (cpElt (cBlt bChr (cCons (cVar 0) cNil)))) (v_comp (P := fun ρ => ∃ x, ρ = [x]) (im := fun c => PV.int (c : Nat)) (out := fun c => .str [c]) (xs := r) (v_ilst (v_var h)) ⟨none, rfl⟩ (by omega) ?_) (by show some _ = some _; rw [List.map_map]; rfl) (by rw [flat1]; omega)
  · rw [flat1] at this; exact this
  · intro c hm ρ ⟨x, hρ⟩
    subst hρ
    exact ⟨[some (.int (c : Nat))], rfl, v_blt (v_cons (v_var rfl) v_nil) (bChr_s _ (hc c hm)), ⟨_, rfl⟩⟩
theorem pr_len : ∀ (n : Nat) (l : List Nat), l.length ≤ n → (pr l).length ≤ l.length
  | _, [], _ => Nat.le_refl _
  | _, [_], _ => Nat.zero_le _
  | n + 1, a :: b :: r, h => by
    have := pr_len n r (by simp at h; omega)
    show (pr r).length + 1 ≤ r.length + 2
    omega
  | 0, _ :: _ :: _, h => by simp at h
theorem mod_dec (n : Nat) : ((n : Int) % 2 == 1) = decide (n % 2 = 1) := by
  rw [Bool.eq_iff_iff, beq_iff_eq, decide_eq_true_eq]; omega
theorem f_law_is_hex (l : List Nat) (σ : Sto) (hl : l.length ≤ 450) (hc : ∀ c ∈ l, c < 256) : F__law_is_hex [.str l] σ = .val (.bool true) σ := by
  have hl9 : l.length ≤ 900 := by omega
  have hb := b2h_len l
  have hb9 : (b2h l).length ≤ 900 := by omega
  have hback := told_h2b (b2h l) σ hb9
  have hV : hbV (b2h l) = .str l := by
    unfold hbV
    rw [if_neg (by omega), b2h_back l hc]
  have hN : hbN (b2h l) = [] := by
    unfold hbN
    rw [if_neg (by omega), b2h_back l hc]
  rw [hV, hN] at hback
  refine fn_ev0 (p := .bool true) (g := g__law_is_hex) ?_ rfl rfl
  unfold g__law_is_hex
  refine x_seq (x_asg (v_call (v_cons v_val (v_cons (v_lst (v_cons (v_var rfl) v_nil) (len1 _)) v_nil)) (f_told (F := F_php_bin2hex) rfl (f_bin2hex _ l _ hl9 hc) rfl rfl)) (ρ₁ := [some (.str l), some (.str (b2h l)), some (.lst []), none, none, none]) (by rfl)) ?_
  refine x_seq (ρ₁ := [some (.str l), some (.str (b2h l)), some (.lst []), some (.str (b2h l)), none, none]) (x_set (v_due rfl hl9 hc)) ?_
  generalize b2h l = t at hback ⊢
  refine x_seq (x_if_f (r := .val (.nxt [some (.str l), some (.str t), some (.lst []), some (.str t), none, none]) σ) (v_or (r := false) (r' := false) (v_cmp (v_tup (v_cons (v_var rfl) (v_cons (v_var rfl) v_nil)) (len2 _ _)) (v_tup (v_cons (v_var rfl) (v_cons (v_lst v_nil len0) v_nil)) (len2 _ _)) (c_told_ne (leaf_str _) leaf_nil _)) fun _ =>
    v_cmp (v_call (v_cons v_val (v_cons (v_lst (v_cons (v_var rfl) v_nil) (len1 _)) v_nil)) hback) (v_tup (v_cons (v_var rfl) (v_cons (v_lst v_nil len0) v_nil)) (len2 _ _)) (c_told_ne (leaf_str _) leaf_nil _)) x_skip) ?_
  refine x_seq (ρ₁ := [some (.str l), some (.str t), some (.lst []), some (.str t), some (.tup [hbV l, .lst (hbN l)]), none]) (x_set (v_call (v_cons v_val (v_cons (v_lst (v_cons (v_var rfl) v_nil) (len1 _)) v_nil)) (told_h2b l σ hl9))) ?_
  have hodd : (tCmp .Eq (cBin .Mod (cBlt bLen (cCons (cVar 0) cNil)) (cVal (.int 2))) (cVal (.int 1))) [some (.str l), some (.str t), some (.lst []), some (.str t), some (.tup [hbV l, .lst (hbN l)]), none] σ = .val (decide (l.length % 2 = 1)) σ :=
    to_eq (v_cmp (v_bin (v_blt (v_cons (v_var rfl) v_nil) (bLen_s (by omega))) v_val (b_mod _ (by decide))) v_val (c_eqi _ _ _)) (mod_dec _)
  by_cases h2 : l.length % 2 = 1
  · rw [decide_eq_true h2] at hodd
    have e1 : hbV l = .bool false := if_pos h2
    have e2 : hbN l = [.tup [.str sWar, .str sOdd]] := if_pos h2
    rw [e1, e2] at hodd ⊢
    exact x_seq_r (x_if_t hodd (x_ret (v_toV (v_cmp (v_var rfl) (v_tup (v_cons v_val (v_cons (v_lst (v_cons (v_tup (v_cons v_val (v_cons v_val v_nil)) (len2 _ _)) v_nil) (len1 _)) v_nil)) (len2 _ _)) (c_told_eq (leaf_bool _) (leaf_note _ _) _)))))
  · rw [decide_eq_false h2] at hodd
    refine x_seq (x_if_f hodd x_skip) ?_
    have hk := hbk_is l (by omega)
    cases ha : all16 l
    · rw [ha] at hk
      have e1 : hbV l = .bool false := by unfold hbV; rw [if_neg h2, hk]; rfl
      have e2 : hbN l = [.tup [.str sWar, .str sHex]] := by unfold hbN; rw [if_neg h2, hk]; rfl
      rw [e1, e2]
      exact x_seq_r (x_if_t (to_eq (v_all16 rfl hl9) (by rw [ha]; rfl)) (x_ret (v_toV (v_cmp (v_var rfl) (v_tup (v_cons v_val (v_cons (v_lst (v_cons (v_tup (v_cons v_val (v_cons v_val v_nil)) (len2 _ _)) v_nil) (len1 _)) v_nil)) (len2 _ _)) (c_told_eq (leaf_bool _) (leaf_note _ _) _)))))
    · rw [ha] at hk
      have e1 : hbV l = .str (pr l) := by unfold hbV; rw [if_neg h2, hk]; rfl
      have e2 : hbN l = [] := by unfold hbN; rw [if_neg h2, hk]; rfl
      have hp := pr_len _ l (Nat.le_refl _)
      rw [e1, e2]
      refine x_seq (x_if_f (to_eq (v_all16 rfl hl9) (by rw [ha]; rfl)) x_skip) ?_
      refine x_seq (x_set (v_pairs (m := l.length / 2) rfl hl9 (by omega))) ?_
      refine x_ret (v_toV (v_and (r := true) (r' := true) (v_asB (v_toV (v_cmp (v_var rfl) (v_tup (v_cons (v_chrs rfl (by omega) (pr_lt _ (Nat.le_refl _) ha)) (v_cons (v_lst v_nil len0) v_nil)) (len2 _ _)) (c_told_eq (leaf_str _) leaf_nil _)))) fun _ => ?_))
      exact v_asB (v_toV (v_cmp (v_call (v_cons v_val (v_cons (v_lst (v_cons v_val v_nil) (len1 _)) v_nil)) (f_told (F := F_php_ord) rfl (f_ord_nil _ _) rfl rfl)) (v_tup (v_cons v_val (v_cons (v_lst v_nil len0) v_nil)) (len2 _ _)) (c_told_eq (leaf_int _) leaf_nil _)))
/- P30 -/

/- ## The law -/
theorem cp_fold_g {α : Type} {gr : PV → Rho → Option Rho} {f : Rho → Sto → R (Rho × List PV)} {P : Rho → Prop} {im : α → PV} {outs : α → List PV} {σ : Sto} : ∀ (xs : List α) (acc : List PV) (ρ : Rho), P ρ → acc.length + (xs.map outs).flatten.length ≤ 1000000 →
    (∀ x ∈ xs, ∀ ρ, P ρ → ∃ ρ₁ ρ₂, gr (im x) ρ = some ρ₁ ∧ f ρ₁ σ = .val (ρ₂, outs x) σ ∧ P ρ₂) → ∃ ρ', P ρ' ∧ cpFold gr tTrue f (xs.map im) acc ρ σ = .val (ρ', acc ++ (xs.map outs).flatten) σ
  | [], acc, ρ, hp, _, _ => ⟨ρ, hp, by rw [List.map_nil, List.map_nil, List.flatten_nil, List.append_nil]; rfl⟩
  | x :: xs, acc, ρ, hp, hl, h => by
    obtain ⟨ρ₁, ρ₂, h1, h2, h3⟩ := h x (List.mem_cons_self ..) ρ hp
    rw [List.map_cons, List.flatten_cons, List.length_append] at hl
    obtain ⟨ρ', h4, h'⟩ := cp_fold_g (gr := gr) (f := f) (P := P) (im := im) (outs := outs) (σ := σ) xs (acc ++ outs x) ρ₂ h3 (by rw [List.length_append]; omega) fun y hy => h y (List.mem_cons_of_mem _ hy)
    refine ⟨ρ', h4, ?_⟩
    rw [List.map_cons, List.map_cons, List.flatten_cons]
    unfold cpFold
    rw [h1]
    dsimp only [tTrue, R.quiet, R.bind]
    rw [h2]
    dsimp only
    rw [if_pos rfl, if_pos (by omega), h', List.append_assoc]
noncomputable def Agree (v : PV) (ty : List Nat) : Prop := ∀ (D : DP) (nm : List Nat) (F : List PV → Sto → R PV) (a : Addr) (θ : Sto), nm ∈ kNames → CtWay F nm → ways a = some F →
  ∃ b ns, F__law_told [.raw (.ref a), .lst [v]] θ = .val (.tup [.bool b, .lst ns]) θ ∧ F__law_ctype D [.str nm, v, .str ty] θ = .val (.tup [.bool b, .lst ns]) θ ∧ Leaf (.lst ns)
theorem agree_str (l : List Nat) (hl : l.length ≤ 900) : Agree (.str l) t_string := by
  intro D nm F a θ hk hw ha
  refine ⟨l.all (ik nm) && !(l == []), [], f_told ha (ct_val hw (f_all_str nm l _ _ hl) rfl) rfl rfl, ?_, leaf_nil⟩
  rw [Bool.and_comm]
  exact f_lct_str D hk l θ hl
theorem agree_int (n : Int) : Agree (.int n) t_int := by
  intro D nm F a θ hk hw ha
  refine ⟨aiP nm n, [ctNote nm t_int], f_told ha (ct_val hw (f_all_int nm n [] θ (kN_len hk) (by decide)) rfl) rfl rfl, ?_, leaf_note _ _⟩
  rw [ai_eq hk]
  exact f_lct_int D hk n θ (kN_len hk)
theorem agree_not (v : PV) (ty : List Nat) (hty : ty.length ≤ 100) (hk : ∀ σ, F_kind [v] σ = .val (.str ty) σ) (hg : ∀ σ, F_given [v] σ = .val (.str ty) σ) (h1 : (ty == t_string) = false) (h2 : (ty == t_int) = false) : Agree v ty := by
  intro D nm F a θ hn hw ha
  exact ⟨false, [ctNote nm ty], f_told ha (ct_val hw (f_all_not nm ty v [] θ (kN_len hn) hty (by decide) hk hg h1 h2) rfl) rfl rfl, f_lct_not D nm ty v θ (kN_len hn) hty h1 h2, leaf_note _ _⟩
noncomputable def wayR : List (List Nat × Addr) := [(k_digit, 568), (k_alpha, 575), (k_alnum, 582), (k_upper, 589), (k_lower, 596), (k_space, 603), (k_punct, 610), (k_xdigit, 617)]
theorem kin (i : Nat) {nm : List Nat} (h : kNames[i]? = some nm) : nm ∈ kNames := List.mem_of_getElem? h
theorem wayR_ok : ∀ w ∈ wayR, w.1 ∈ kNames ∧ ∃ F, CtWay F w.1 ∧ ways w.2 = some F :=
  List.forall_mem_cons.mpr ⟨⟨kin 0 rfl, _, w_digit, rfl⟩, List.forall_mem_cons.mpr ⟨⟨kin 1 rfl, _, w_alpha, rfl⟩, List.forall_mem_cons.mpr ⟨⟨kin 2 rfl, _, w_alnum, rfl⟩, List.forall_mem_cons.mpr ⟨⟨kin 3 rfl, _, w_upper, rfl⟩, List.forall_mem_cons.mpr ⟨⟨kin 4 rfl, _, w_lower, rfl⟩, List.forall_mem_cons.mpr ⟨⟨kin 5 rfl, _, w_space, rfl⟩, List.forall_mem_cons.mpr ⟨⟨kin 6 rfl, _, w_punct, rfl⟩, List.forall_mem_cons.mpr ⟨⟨kin 7 rfl, _, w_xdigit, rfl⟩, (fun _ h => nomatch h)⟩⟩⟩⟩⟩⟩⟩⟩
theorem allP_true : ∀ {xs : List PV}, (∀ p ∈ xs, p = .bool true) → allP xs = some true
  | [], _ => rfl
  | p :: xs, h => by
    rw [h p (List.mem_cons_self ..)]
    show (allP xs).map (true && ·) = _
    rw [allP_true fun q hq => h q (List.mem_cons_of_mem _ hq)]; rfl
theorem flat_const {α β : Type} (f : α → List β) (n : Nat) : ∀ xs : List α, (∀ x ∈ xs, (f x).length ≤ n) → (xs.map f).flatten.length ≤ n * xs.length
  | [], _ => Nat.zero_le _
  | x :: xs, h => by
    have := flat_const f n xs fun y hy => h y (List.mem_cons_of_mem _ hy)
    have := h x (List.mem_cons_self ..)
    rw [List.map_cons, List.flatten_cons, List.length_append, List.length_cons, Nat.mul_succ]; omega
theorem v_all_ways (D : DP) {vals : List (PV × List Nat)} (hv : ∀ x ∈ vals, Agree x.1 x.2) (hl : vals.length ≤ 100) {ρ : Rho} {σ : Sto} (h7 : ρ[7]? = some (some (.lst (vals.map fun x => .tup [x.1, .str x.2])))) (h8 : ρ[8]? = some (some (.tup (wayR.map fun w => .tup [.str w.1, .raw (.ref w.2)])))) :
    (cBlt bAll (cCons (cComp [7] 4 (cItems (cVar 8)) (aTup (aCons 1 (aCons 2 aNil))) tTrue (cpIn (cItems (cVar 0)) (aTup (aCons 3 (aCons 4 aNil))) tTrue (cpElt (toV (tCmp .Eq (cCall F__law_told (cCons (cVar 2) (cCons (cLst (cCons (cVar 3) cNil)) cNil))) (cCall (F__law_ctype D) (cCons (cVar 1) (cCons (cVar 3) (cCons (cVar 4) cNil))))))))) cNil)) ρ σ = .val (.bool true) σ := by
  generalize hV : (PV.lst (vals.map fun x => .tup [x.1, .str x.2])) = V at h7
  have key : ∃ ρ', (∃ a b c d, ρ' = [some V, a, b, c, d]) ∧ cpFold (aTup (aCons 1 (aCons 2 aNil))) tTrue (cpIn (cItems (cVar 0)) (aTup (aCons 3 (aCons 4 aNil))) tTrue (cpElt (toV (tCmp .Eq (cCall F__law_told (cCons (cVar 2) (cCons (cLst (cCons (cVar 3) cNil)) cNil))) (cCall (F__law_ctype D) (cCons (cVar 1) (cCons (cVar 3) (cCons (cVar 4) cNil)))))))) (wayR.map fun w => .tup [.str w.1, .raw (.ref w.2)]) [] [some V, none, none, none, none] σ = .val (ρ', [] ++ (wayR.map fun _ => (vals.map fun _ => [PV.bool true]).flatten).flatten) σ := by
    refine cp_fold_g (P := fun ρ => ∃ a b c d, ρ = [some V, a, b, c, d]) wayR [] _ ⟨none, none, none, none, rfl⟩ ?_ ?_
    · have h1 := flat_const (fun _ : PV × List Nat => [PV.bool true]) 1 vals fun _ _ => Nat.le_refl _
      have h2 := flat_const (fun _ : List Nat × Addr => (vals.map fun _ => [PV.bool true]).flatten) 100 wayR fun _ _ => by omega
      have h3 : wayR.length = 8 := rfl
      rw [h3] at h2
      show 0 + _ ≤ _
      omega
    · intro w hw ρ ⟨a, b, c, d, e⟩
      subst e
      obtain ⟨hk, F, hF, ha⟩ := wayR_ok w hw
      have inner : ∃ ρ', (∃ x y, ρ' = [some V, some (.str w.1), some (.raw (.ref w.2)), x, y]) ∧ cpFold (aTup (aCons 3 (aCons 4 aNil))) tTrue (cpElt (toV (tCmp .Eq (cCall F__law_told (cCons (cVar 2) (cCons (cLst (cCons (cVar 3) cNil)) cNil))) (cCall (F__law_ctype D) (cCons (cVar 1) (cCons (cVar 3) (cCons (cVar 4) cNil))))))) (vals.map fun x => .tup [x.1, .str x.2]) [] [some V, some (.str w.1), some (.raw (.ref w.2)), c, d] σ = .val (ρ', [] ++ (vals.map fun _ => [PV.bool true]).flatten) σ := by
        refine cp_fold_g (P := fun ρ => ∃ x y, ρ = [some V, some (.str w.1), some (.raw (.ref w.2)), x, y]) vals [] _ ⟨c, d, rfl⟩ ?_ ?_
        · have h1 := flat_const (fun _ : PV × List Nat => [PV.bool true]) 1 vals fun _ _ => Nat.le_refl _
          show 0 + _ ≤ _
          omega
        · intro x hx ρ ⟨y, z, e⟩
          subst e
          obtain ⟨r, ns, t1, t2, t3⟩ := hv x hx D w.1 F w.2 σ hk hF ha
          refine ⟨[some V, some (.str w.1), some (.raw (.ref w.2)), some x.1, some (.str x.2)], [some V, some (.str w.1), some (.raw (.ref w.2)), some x.1, some (.str x.2)], rfl, ?_, ⟨_, _, rfl⟩⟩
          unfold cpElt
          rw [v_toV (v_cmp (v_call (v_cons (v_var rfl) (v_cons (v_lst (v_cons (v_var rfl) v_nil) (len1 _)) v_nil)) t1) (v_call (v_cons (v_var rfl) (v_cons (v_var rfl) (v_cons (v_var rfl) v_nil))) t2) (c_told_eq (leaf_bool _) t3 _))]
          rfl
      obtain ⟨ρ', ⟨x, y, e⟩, h'⟩ := inner
      refine ⟨[some V, some (.str w.1), some (.raw (.ref w.2)), c, d], ρ', rfl, ?_, ⟨_, _, _, _, e⟩⟩
      unfold cpIn
      rw [v_ilst (ps := vals.map fun x => .tup [x.1, .str x.2]) (v_var (hV ▸ rfl))]
      exact h'
  obtain ⟨ρ', _, h'⟩ := key
  have hlen : ([] ++ (wayR.map fun _ => (vals.map fun _ => [PV.bool true]).flatten).flatten).length ≤ 1000000 := by
    have h1 := flat_const (fun _ : PV × List Nat => [PV.bool true]) 1 vals fun _ _ => Nat.le_refl _
    have h2 := flat_const (fun _ : List Nat × Addr => (vals.map fun _ => [PV.bool true]).flatten) 100 wayR fun _ _ => by omega
    have h3 : wayR.length = 8 := rfl
    rw [h3] at h2
    rw [List.nil_append]
    omega
  have hall : ∀ p ∈ [] ++ (wayR.map fun _ => (vals.map fun _ => [PV.bool true]).flatten).flatten, p = .bool true := by
    intro p hp
    rw [List.nil_append] at hp
    obtain ⟨l, hl, hp⟩ := List.mem_flatten.mp hp
    obtain ⟨_, _, rfl⟩ := List.mem_map.mp hl
    obtain ⟨l, hl, hp⟩ := List.mem_flatten.mp hp
    obtain ⟨_, _, rfl⟩ := List.mem_map.mp hl
    exact List.mem_singleton.mp hp
  generalize [] ++ (wayR.map fun _ => (vals.map fun _ => [PV.bool true]).flatten).flatten = out at h' hlen hall
  refine v_blt (v_cons (a := .lst out) ?_ v_nil) ?_
  · unfold cComp
    rw [v_itup (v_var h8)]
    dsimp only [R.quiet, R.bind]
    rw [show ([7].map (fun i => (ρ[i]?).join) ++ List.replicate 4 none) = [some V, none, none, none, none] by simp only [List.map_cons, List.map_nil, h7]; rfl, h']
    dsimp only
    rw [if_pos hlen]
  · show (allP out).map PV.bool = _
    rw [allP_true hall]; rfl
theorem cond_int (r : Bool) (a b : Int) : (bif r then PV.int a else PV.int b) = PV.int (bif r then a else b) := by cases r <;> rfl
noncomputable def rws : List Int := [5 + 8 * (4 + 28 * (2 + 28 * (0 + 28 * (3 + 28 * 9)))), 4 + 8 * (7 + 28 * (1 + 28 * (5 + 28 * 1))), 14, 2 * 77, 300]
noncomputable def dr (s : List Int) (k : Nat) : Int := rws.getD k 0 + bif decide (k < s.length) then s.getD k 0 else 0
theorem v_rows (ρ : Rho) (σ : Sto) : (cLst (cCons (cBin .Add (cVal (.int 5)) (cBin .Mult (cVal (.int 8)) (cBin .Add (cVal (.int 4)) (cBin .Mult (cVal (.int 28)) (cBin .Add (cVal (.int 2)) (cBin .Mult (cVal (.int 28)) (cBin .Add (cVal (.int 0)) (cBin .Mult (cVal (.int 28)) (cBin .Add (cVal (.int 3)) (cBin .Mult (cVal (.int 28)) (cVal (.int 9)))))))))))) (cCons (cBin .Add (cVal (.int 4)) (cBin .Mult (cVal (.int 8)) (cBin .Add (cVal (.int 7)) (cBin .Mult (cVal (.int 28)) (cBin .Add (cVal (.int 1)) (cBin .Mult (cVal (.int 28)) (cBin .Add (cVal (.int 5)) (cBin .Mult (cVal (.int 28)) (cVal (.int 1)))))))))) (cCons (cVal (.int 14)) (cCons (cBin .Mult (cVal (.int 2)) (cVal (.int 77))) (cCons (cVal (.int 300)) cNil)))))) ρ σ = .val (.lst (rws.map .int)) σ := by rfl
theorem v_draws {s : List Int} (hs : s.length ≤ 63) {ρ : Rho} {σ : Sto} (h0 : ρ[0]? = some (some (.lst (s.map .int)))) (h1 : ρ[1]? = some (some (.lst (rws.map .int)))) :
    (cComp [0, 1] 1 (cRange (cCons (cBlt bLen (cCons (cVar 1) cNil)) cNil)) (aOne 2) tTrue (cpElt (cBin .Add (cIdx (cVar 1) (cVar 2)) (cIf (tCmp .Lt (cVar 2) (cBlt bLen (cCons (cVar 0) cNil))) (cIdx (cVar 0) (cVar 2)) (cVal (.int 0)))))) ρ σ = .val (.lst ((List.range 5).map fun k => .int (dr s k))) σ := by
  refine v_comp (P := fun ρ => ∃ x, ρ = [some (.lst (s.map .int)), some (.lst (rws.map .int)), x]) (im := fun (k : Nat) => .int (k : Int)) (v_range (v_cons (v_blt (v_cons (v_var h1) v_nil) (p := .int ((5 : Nat) : Int)) rfl) v_nil) (rng0v (by decide))) ⟨none, by simp only [List.map_cons, List.map_nil, h0, h1]; rfl⟩ (by decide) ?_
  intro k hk ρ ⟨x, hρ⟩
  subst hρ
  have hk := List.mem_range.mp hk
  refine ⟨[some (.lst (s.map .int)), some (.lst (rws.map .int)), some (.int (k : Int))], rfl, ?_, ⟨_, rfl⟩⟩
  have r1 : (rws.map PV.int)[k]? = some (.int (rws.getD k 0)) := by
    have : ∀ k : Nat, k < 5 → rws[k]? = some (rws.getD k 0) := by decide
    rw [List.getElem?_map, this k hk]; rfl
  have hlen : bLen σ [.lst (s.map .int)] = some (.int (s.length : Nat)) := by
    show (if (s.map PV.int).length ≤ 1000000 then some (PV.int ((s.map PV.int).length : Nat)) else none) = _
    rw [List.length_map, if_pos (by omega)]
  have r2 : decide ((k : Int) < ((s.length : Nat) : Int)) = true → (s.map PV.int)[k]? = some (.int (s.getD k 0)) := by
    intro h
    have h := lt_of_dec h
    rw [List.getElem?_map, List.getD_eq_getElem?_getD, List.getElem?_eq_getElem h]; rfl
  refine to_eq (v_bin (v_idx (v_var rfl) (v_var rfl) (idx_l r1 (by omega))) (to_eq (v_if (v_cmp (v_var rfl) (v_blt (v_cons (v_var rfl) v_nil) hlen) (c_lt _ _ _)) (fun h => v_idx (v_var rfl) (v_var rfl) (idx_l (r2 h) (by omega))) (fun _ => v_val)) (cond_int _ _ _)) (b_add _ _)) ?_
  unfold dr
  rw [dec_lt]
noncomputable def bsT : List Int := [0, 2, 8, 10, 16, 36, 37, 1, -2, 3]
theorem v_base {d0 d1 d2 d3 d4 : Int} {ρ : Rho} {σ : Sto} (h2 : ρ[2]? = some (some (.lst [.int d0, .int d1, .int d2, .int d3, .int d4]))) : ∃ b : Int, (cIf (tCmp .Eq (cBin .Mod (cBin .FloorDiv (cIdx (cVar 2) (cVal (.int 2))) (cVal (.int 10))) (cVal (.int 2))) (cVal (.int 1))) (cIdx (cTup (cCons (cVal (.int 0)) (cCons (cVal (.int 2)) (cCons (cVal (.int 8)) (cCons (cVal (.int 10)) (cCons (cVal (.int 16)) (cCons (cVal (.int 36)) (cCons (cVal (.int 37)) (cCons (cVal (.int 1)) (cCons (cNeg (cVal (.int 2))) (cCons (cVal (.int 3)) cNil))))))))))) (cBin .Mod (cIdx (cVar 2) (cVal (.int 2))) (cVal (.int 10)))) (cBin .Mod (cBin .FloorDiv (cIdx (cVar 2) (cVal (.int 2))) (cVal (.int 20))) (cVal (.int 37)))) ρ σ = .val (.int b) σ := by
  obtain ⟨m, hm, hlt⟩ : ∃ m : Nat, d2 % 10 = m ∧ m < 10 := ⟨(d2 % 10).toNat, (mod_nat d2 (by decide)).symm, by omega⟩
  have hd : cIdx (cVar 2) (cVal (.int 2)) ρ σ = .val (.int d2) σ := v_idx (v_var h2) v_val (idx_l (a := 2) rfl (by decide))
  have hi : idxV (.tup (bsT.map .int)) (.int (d2 % 10)) = some (.int (bsT.getD m 0)) := by
    have : ∀ k : Nat, k < 10 → bsT[k]? = some (bsT.getD k 0) := by decide
    rw [hm]
    exact idx_t (by rw [List.getElem?_map, this m hlt]; rfl) (by omega)
  exact ⟨_, to_eq (v_if (v_cmp (v_bin (v_bin hd v_val (b_div _ (by decide))) v_val (b_mod _ (by decide))) v_val (c_eqi _ _ _)) (fun _ => v_idx (a := .tup (bsT.map .int)) (by rfl) (v_bin hd v_val (b_mod _ (by decide))) hi) (fun _ => v_bin (v_bin hd v_val (b_div _ (by decide))) v_val (b_mod _ (by decide)))) (cond_int _ _ _)⟩
theorem v_num0 {d0 d1 d2 d3 d4 : Int} {ρ : Rho} {σ : Sto} (h2 : ρ[2]? = some (some (.lst [.int d0, .int d1, .int d2, .int d3, .int d4]))) : ∃ n : Int, (cIf (tCmp .Eq (cBin .Mod (cIdx (cVar 2) (cVal (.int 3))) (cVal (.int 2))) (cVal (.int 1))) (cBin .Sub (cBin .Mod (cBin .FloorDiv (cIdx (cVar 2) (cVal (.int 3))) (cVal (.int 2))) (cBin .Pow (cVal (.int 2)) (cVal (.int 64)))) (cBin .Pow (cVal (.int 2)) (cVal (.int 63)))) (cBin .FloorDiv (cIdx (cVar 2) (cVal (.int 3))) (cVal (.int 2)))) ρ σ = .val (.int n) σ := by
  have hd : cIdx (cVar 2) (cVal (.int 3)) ρ σ = .val (.int d3) σ := v_idx (v_var h2) v_val (idx_l (a := 3) rfl (by decide))
  exact ⟨_, to_eq (v_if (v_cmp (v_bin hd v_val (b_mod _ (by decide))) v_val (c_eqi _ _ _)) (fun _ => v_bin (v_bin (v_bin hd v_val (b_div _ (by decide))) (v_bin v_val v_val (b_pow (by decide))) (b_mod _ (by decide))) (v_bin v_val v_val (b_pow (by decide))) (b_sub _ _)) (fun _ => v_bin hd v_val (b_div _ (by decide)))) (cond_int _ _ _)⟩
theorem v_num {n : Int} {ρ : Rho} {σ : Sto} (h4 : ρ[4]? = some (some (.int n))) : ∃ m : Int, (cBlt bMax (cCons (cNeg (cBin .Pow (cVal (.int 2)) (cVal (.int 63)))) (cCons (cBlt bMin (cCons (cVar 4) (cCons (cBin .Sub (cBin .Pow (cVal (.int 2)) (cVal (.int 63))) (cVal (.int 1))) cNil))) cNil))) ρ σ = .val (.int m) σ ∧ -9223372036854775808 ≤ m ∧ m ≤ 9223372036854775807 := by
  have e : ((2 : Int) ^ (63 : Int).toNat) = 9223372036854775808 := by decide
  refine ⟨max (-9223372036854775808) (min n 9223372036854775807), ?_, by omega, by omega⟩
  refine to_eq (v_blt (v_cons (v_neg (v_bin v_val v_val (b_pow (by decide)))) (v_cons (v_blt (v_cons (v_var h4) (v_cons (v_bin (v_bin v_val v_val (b_pow (by decide))) v_val (b_sub _ _)) v_nil)) (bMin_i _ _ _)) v_nil)) (bMax_i _ _ _)) ?_
  rw [e]; rfl
theorem v_small {d0 d1 d2 d3 d4 : Int} {ρ : Rho} {σ : Sto} (h2 : ρ[2]? = some (some (.lst [.int d0, .int d1, .int d2, .int d3, .int d4]))) : (cBin .Sub (cBin .Mod (cIdx (cVar 2) (cVal (.int 4))) (cVal (.int 600))) (cVal (.int 200))) ρ σ = .val (.int (d4 % 600 - 200)) σ :=
  v_bin (v_bin (v_idx (v_var h2) v_val (idx_l (a := 4) rfl (by decide))) v_val (b_mod _ (by decide))) v_val (b_sub _ _)
theorem v_texts {d0 d1 d2 d3 d4 : Int} {ρ : Rho} {σ : Sto} (h2 : ρ[2]? = some (some (.lst [.int d0, .int d1, .int d2, .int d3, .int d4]))) : (cLst (cCons (cCall F__law_text (cCons (cIdx (cVar 2) (cVal (.int 0))) cNil)) (cCons (cCall F__law_text (cCons (cIdx (cVar 2) (cVal (.int 1))) cNil)) cNil))) ρ σ = .val (.lst [.str (txt d0), .str (txt d1)]) σ :=
  v_lst (v_cons (v_call (v_cons (v_idx (v_var h2) v_val (idx_l (a := 0) rfl (by decide))) v_nil) (f_law_text _ _)) (v_cons (v_call (v_cons (v_idx (v_var h2) v_val (idx_l (a := 1) rfl (by decide))) v_nil) (f_law_text _ _)) v_nil)) (len2 _ _)
theorem v_test {t0 t1 : List Nat} {b n : Int} {ρ : Rho} {σ : Sto} (h3 : ρ[3]? = some (some (.int b))) (h4 : ρ[4]? = some (some (.int n))) (h6 : ρ[6]? = some (some (.lst [.str t0, .str t1]))) (k0 : t0.length ≤ 133) (k1 : t1.length ≤ 133) (c0 : ∀ c ∈ t0, c < 256) (c1 : ∀ c ∈ t1, c < 256) (n1 : -9223372036854775808 ≤ n) (n2 : n ≤ 9223372036854775807) :
    (tBo .Or (tNot (asB (cBlt bAll (cCons (cComp [3] 1 (cItems (cVar 6)) (aOne 1) tTrue (cpElt (toV (tBo .And (asB (cCall F__law_is_read (cCons (cVar 1) (cCons (cVar 0) cNil)))) (asB (cCall F__law_is_hex (cCons (cVar 1) cNil))))))) cNil)))) (tNot (asB (cCall F__law_is_shown (cCons (cVar 4) cNil))))) ρ σ = .val false σ := by
  have hc : (cComp [3] 1 (cItems (cVar 6)) (aOne 1) tTrue (cpElt (toV (tBo .And (asB (cCall F__law_is_read (cCons (cVar 1) (cCons (cVar 0) cNil)))) (asB (cCall F__law_is_hex (cCons (cVar 1) cNil))))))) ρ σ = .val (.lst ([t0, t1].map fun _ => .bool true)) σ := by
    refine v_comp (P := fun ρ => ∃ x, ρ = [some (.int b), x]) (im := fun t => .str t) (v_ilst (v_var h6)) ⟨none, by simp only [List.map_cons, List.map_nil, h3]; rfl⟩ (Nat.le_of_ble_eq_true rfl) ?_
    intro t ht ρ ⟨x, hρ⟩
    subst hρ
    have ok : t.length ≤ 450 ∧ ∀ c ∈ t, c < 256 := by
      rcases List.mem_cons.mp ht with rfl | ht
      · exact ⟨by omega, c0⟩
      · rw [List.mem_singleton.mp ht]; exact ⟨by omega, c1⟩
    exact ⟨[some (.int b), some (.str t)], rfl, v_toV (v_and (r := true) (r' := true) (v_asB (v_call (v_cons (v_var rfl) (v_cons (v_var rfl) v_nil)) (f_law_is_read t b σ ok.1))) fun _ => v_asB (v_call (v_cons (v_var rfl) v_nil) (f_law_is_hex t σ ok.1 ok.2))), ⟨_, rfl⟩⟩
  exact v_or (r := false) (r' := false) (v_not (r := true) (v_asB (v_blt (v_cons hc v_nil) rfl))) fun _ => v_not (r := true) (v_asB (v_call (v_cons (v_var h4) v_nil) (f_law_is_shown n σ n1 n2)))
noncomputable def lvs (t0 t1 : List Nat) (n m : Int) : List (PV × List Nat) := [(.str t0, t_string), (.str t1, t_string), (.str [65, 122], t_string), (.str [], t_string), (.int n, t_int), (.int m, t_int), (.none, t_null), (.bool true, t_bool), (.inst 316, t_array)]
theorem lvs_ok {t0 t1 : List Nat} (n m : Int) (k0 : t0.length ≤ 133) (k1 : t1.length ≤ 133) : ∀ x ∈ lvs t0 t1 n m, Agree x.1 x.2 :=
  List.forall_mem_cons.mpr ⟨agree_str _ (by omega), List.forall_mem_cons.mpr ⟨agree_str _ (by omega), List.forall_mem_cons.mpr ⟨agree_str _ (by decide), List.forall_mem_cons.mpr ⟨agree_str _ (by decide), List.forall_mem_cons.mpr ⟨agree_int n, List.forall_mem_cons.mpr ⟨agree_int m,
    List.forall_mem_cons.mpr ⟨agree_not _ _ (by decide) f_kind_n f_given_n rfl rfl, List.forall_mem_cons.mpr ⟨agree_not _ _ (by decide) (f_kind_b true) (f_given_b true) rfl rfl, List.forall_mem_cons.mpr ⟨agree_not _ _ (by decide) f_kind_a f_given_a rfl rfl, (fun _ h => nomatch h)⟩⟩⟩⟩⟩⟩⟩⟩⟩
theorem v_vals1 {t0 t1 : List Nat} {n m : Int} {ρ : Rho} {σ : Sto} (h4 : ρ[4]? = some (some (.int n))) (h5 : ρ[5]? = some (some (.int m))) (h6 : ρ[6]? = some (some (.lst [.str t0, .str t1]))) : (cLst (cCons (cTup (cCons (cIdx (cVar 6) (cVal (.int 0))) (cCons (cVal (.str [115, 116, 114, 105, 110, 103])) cNil))) (cCons (cTup (cCons (cIdx (cVar 6) (cVal (.int 1))) (cCons (cVal (.str [115, 116, 114, 105, 110, 103])) cNil))) (cCons (cTup (cCons (cVal (.str [65, 122])) (cCons (cVal (.str [115, 116, 114, 105, 110, 103])) cNil))) (cCons (cTup (cCons (cVal (.str [])) (cCons (cVal (.str [115, 116, 114, 105, 110, 103])) cNil))) (cCons (cTup (cCons (cVar 4) (cCons (cVal (.str [105, 110, 116])) cNil))) (cCons (cTup (cCons (cVar 5) (cCons (cVal (.str [105, 110, 116])) cNil))) cNil))))))) ρ σ = .val (.lst (((lvs t0 t1 n m).take 6).map fun x => .tup [x.1, .str x.2])) σ :=
  v_lst (v_cons (v_tup (v_cons (v_idx (v_var h6) v_val (idx_l (a := 0) rfl (by decide))) (v_cons v_val v_nil)) (len2 _ _)) (v_cons (v_tup (v_cons (v_idx (v_var h6) v_val (idx_l (a := 1) rfl (by decide))) (v_cons v_val v_nil)) (len2 _ _)) (v_cons (v_tup (v_cons v_val (v_cons v_val v_nil)) (len2 _ _)) (v_cons (v_tup (v_cons v_val (v_cons v_val v_nil)) (len2 _ _)) (v_cons (v_tup (v_cons (v_var h4) (v_cons v_val v_nil)) (len2 _ _)) (v_cons (v_tup (v_cons (v_var h5) (v_cons v_val v_nil)) (len2 _ _)) v_nil)))))) (Nat.le_of_ble_eq_true rfl)
theorem v_vals2 {t0 t1 : List Nat} {n m : Int} {ρ : Rho} {σ : Sto} (h7 : ρ[7]? = some (some (.lst (((lvs t0 t1 n m).take 6).map fun x => .tup [x.1, .str x.2])))) : (cPlus (cVar 7) (cLst (cCons (cTup (cCons (cVal .none) (cCons (cVal (.str [110, 117, 108, 108])) cNil))) (cCons (cTup (cCons (cVal (.bool true)) (cCons (cVal (.str [98, 111, 111, 108])) cNil))) (cCons (cTup (cCons (cVal (.inst 316)) (cCons (cVal (.str [97, 114, 114, 97, 121])) cNil))) cNil))))) ρ σ = .val (.lst ((lvs t0 t1 n m).map fun x => .tup [x.1, .str x.2])) σ :=
  v_plus (v_var h7) (v_lst (v_cons (v_tup (v_cons v_val (v_cons v_val v_nil)) (len2 _ _)) (v_cons (v_tup (v_cons v_val (v_cons v_val v_nil)) (len2 _ _)) (v_cons (v_tup (v_cons v_val (v_cons v_val v_nil)) (len2 _ _)) v_nil))) (len3 _ _ _)) (Nat.le_of_ble_eq_true rfl)
theorem v_ways (ρ : Rho) (σ : Sto) : (cTup (cCons (cTup (cCons (cVal (.str [100, 105, 103, 105, 116])) (cCons (cVal (.raw (.ref 568))) cNil))) (cCons (cTup (cCons (cVal (.str [97, 108, 112, 104, 97])) (cCons (cVal (.raw (.ref 575))) cNil))) (cCons (cTup (cCons (cVal (.str [97, 108, 110, 117, 109])) (cCons (cVal (.raw (.ref 582))) cNil))) (cCons (cTup (cCons (cVal (.str [117, 112, 112, 101, 114])) (cCons (cVal (.raw (.ref 589))) cNil))) (cCons (cTup (cCons (cVal (.str [108, 111, 119, 101, 114])) (cCons (cVal (.raw (.ref 596))) cNil))) (cCons (cTup (cCons (cVal (.str [115, 112, 97, 99, 101])) (cCons (cVal (.raw (.ref 603))) cNil))) (cCons (cTup (cCons (cVal (.str [112, 117, 110, 99, 116])) (cCons (cVal (.raw (.ref 610))) cNil))) (cCons (cTup (cCons (cVal (.str [120, 100, 105, 103, 105, 116])) (cCons (cVal (.raw (.ref 617))) cNil))) cNil))))))))) ρ σ = .val (.tup (wayR.map fun w => .tup [.str w.1, .raw (.ref w.2)])) σ := by rfl
theorem v_sll {f : Rho → Sto → R PV} {l : List PV} {ρ : Rho} {σ : Sto} (hf : f ρ σ = .val (.lst l) σ) (h : l.length ≤ 63) : cSl f oNone (oInt (cVal (.int 63))) ρ σ = .val (.lst l) σ := by
  unfold cSl
  rw [hf]
  dsimp only [R.bind]
  rw [v_onone]
  dsimp only [R.bind]
  rw [v_oint v_val (by decide)]
  dsimp only [R.bind, slV]
  rw [if_pos (by omega)]
  show R.val (PV.lst (l.take 63)) σ = _
  rw [List.take_of_length_le h]
theorem f_law (D : DP) (s : List Int) (hs : s.length ≤ 63) (σ : Sto) : F_law D [.lst (s.map .int)] σ = .val (.bool true) σ := by
  refine fn_ev0 (p := .bool true) (g := g_law D) ?_ rfl rfl
  unfold g_law
  refine x_seq (ρ₁ := [some (.lst (s.map .int)), none, none, none, none, none, none, none, none]) (x_set (v_sll (v_var rfl) (by rw [List.length_map]; exact hs))) ?_
  refine x_seq (ρ₁ := [some (.lst (s.map .int)), some (.lst (rws.map .int)), none, none, none, none, none, none, none]) (x_set (v_rows _ _)) ?_
  refine x_seq (x_set (v_draws hs rfl rfl)) ?_
  show xSeq _ _ [some (.lst (s.map .int)), some (.lst (rws.map .int)), some (.lst [.int (dr s 0), .int (dr s 1), .int (dr s 2), .int (dr s 3), .int (dr s 4)]), none, none, none, none, none, none] σ = _
  generalize dr s 0 = d0
  generalize dr s 1 = d1
  generalize dr s 2 = d2
  generalize dr s 3 = d3
  generalize dr s 4 = d4
  generalize PV.lst (s.map .int) = S
  generalize PV.lst (rws.map .int) = W
  obtain ⟨b, hb⟩ := v_base (d0 := d0) (d1 := d1) (d2 := d2) (d3 := d3) (d4 := d4) (ρ := [some S, some W, some (.lst [.int d0, .int d1, .int d2, .int d3, .int d4]), none, none, none, none, none, none]) (σ := σ) rfl
  refine x_seq (ρ₁ := [some S, some W, some (.lst [.int d0, .int d1, .int d2, .int d3, .int d4]), some (.int b), none, none, none, none, none]) (x_set hb) ?_
  obtain ⟨n0, hn0⟩ := v_num0 (d0 := d0) (d1 := d1) (d2 := d2) (d3 := d3) (d4 := d4) (ρ := [some S, some W, some (.lst [.int d0, .int d1, .int d2, .int d3, .int d4]), some (.int b), none, none, none, none, none]) (σ := σ) rfl
  refine x_seq (ρ₁ := [some S, some W, some (.lst [.int d0, .int d1, .int d2, .int d3, .int d4]), some (.int b), some (.int n0), none, none, none, none]) (x_set hn0) ?_
  obtain ⟨n, hn, n1, n2⟩ := v_num (n := n0) (ρ := [some S, some W, some (.lst [.int d0, .int d1, .int d2, .int d3, .int d4]), some (.int b), some (.int n0), none, none, none, none]) (σ := σ) rfl
  refine x_seq (ρ₁ := [some S, some W, some (.lst [.int d0, .int d1, .int d2, .int d3, .int d4]), some (.int b), some (.int n), none, none, none, none]) (x_set hn) ?_
  refine x_seq (ρ₁ := [some S, some W, some (.lst [.int d0, .int d1, .int d2, .int d3, .int d4]), some (.int b), some (.int n), some (.int (d4 % 600 - 200)), none, none, none]) (x_set (v_small rfl)) ?_
  refine x_seq (ρ₁ := [some S, some W, some (.lst [.int d0, .int d1, .int d2, .int d3, .int d4]), some (.int b), some (.int n), some (.int (d4 % 600 - 200)), some (.lst [.str (txt d0), .str (txt d1)]), none, none]) (x_set (v_texts rfl)) ?_
  generalize PV.lst [.int d0, .int d1, .int d2, .int d3, .int d4] = DD
  generalize d4 % 600 - 200 = m
  have k0 := txt_len d0
  have k1 := txt_len d1
  have c0 := txt_lt d0
  have c1 := txt_lt d1
  generalize txt d0 = t0 at k0 c0 ⊢
  generalize txt d1 = t1 at k1 c1 ⊢
  refine x_seq (x_if_f (r := .val (.nxt [some S, some W, some DD, some (.int b), some (.int n), some (.int m), some (.lst [.str t0, .str t1]), none, none]) σ) (v_test rfl rfl rfl k0 k1 c0 c1 n1 n2) x_skip) ?_
  refine x_seq (ρ₁ := [some S, some W, some DD, some (.int b), some (.int n), some (.int m), some (.lst [.str t0, .str t1]), some (.lst (((lvs t0 t1 n m).take 6).map fun x => .tup [x.1, .str x.2])), none]) (x_set (v_vals1 rfl rfl rfl)) ?_
  refine x_seq (ρ₁ := [some S, some W, some DD, some (.int b), some (.int n), some (.int m), some (.lst [.str t0, .str t1]), some (.lst ((lvs t0 t1 n m).map fun x => .tup [x.1, .str x.2])), none]) (x_set (v_vals2 rfl)) ?_
  refine x_seq (ρ₁ := [some S, some W, some DD, some (.int b), some (.int n), some (.int m), some (.lst [.str t0, .str t1]), some (.lst ((lvs t0 t1 n m).map fun x => .tup [x.1, .str x.2])), some (.tup (wayR.map fun w => .tup [.str w.1, .raw (.ref w.2)]))]) (x_set (v_ways _ _)) ?_
  exact x_ret (v_all_ways D (lvs_ok n m k0 k1) (Nat.le_of_ble_eq_true rfl) rfl rfl)
end
end Mine.Internal
end
namespace Mine.Internal
theorem reps_ints {R : WRecords} {cl : Str → Option Addr} {h : Heap} : ∀ {ns : List Int} {vs : List Value} {as : List Addr}, ReadsAllW R cl h vs (ns.map .int) as → Reps h [] [] vs (ns.map .int)
  | [], _, _, x => by cases x; exact .nil
  | n :: ns, _, _, x => by
    cases x with
    | cons a b =>
      obtain ⟨_, rfl, _⟩ := readsW_int_inv a
      exact .cons (.int _ _) (reps_ints b)
theorem most_of {ns : List Int} (h : PySem.Challenge.rw_pc0264_01.row.toRowW.pre.holds PySem.Challenge.rw_pc0264_01.row.toRowW.records { args := [.list (ns.map .int)] } = true) : ns.length ≤ 63 := by
  have e : WTm.value [] (.not (.lt (.lit (.int 63)) (.len (.arg 0)))) { args := [.list (ns.map .int)] } = some (.bool (!decide ((63 : Int) < ((ns.map WData.int).length : Int)))) := rfl
  rcases Nat.lt_or_ge 63 ns.length with q | q
  · exfalso
    have e2 : decide ((63 : Int) < ((ns.map WData.int).length : Int)) = true := by
      rw [decide_eq_true_eq, List.length_map]; omega
    have : WTm.value [] (OpenLaw.pre PySem.Challenge.rw_pc0264_01) { args := [.list (ns.map .int)] } = some (.bool false) := by
      show (match WTm.value [] (.not (.lt (.lit (.int 63)) (.len (.arg 0)))) { args := [.list (ns.map .int)] } with
        | some (.bool false) => some (WData.bool false)
        | some (.bool true) => (match WTm.value [] (.lit (.bool true)) { args := [.list (ns.map .int)] } with
          | some (.bool x) => some (.bool x)
          | _ => none)
        | _ => none) = _
      rw [e, e2]; rfl
    unfold WTm.holds at h
    rw [show WTm.value PySem.Challenge.rw_pc0264_01.row.toRowW.records PySem.Challenge.rw_pc0264_01.row.toRowW.pre { args := [.list (ns.map .int)] } = some (.bool false) from this] at h
    cases h
  · exact q
theorem post_ok (args ds : List WData) : (WShape.has [] (.bool true) .bool && WTm.holds [] (.eq .res (.lit (.bool true))) { args := args, res := some (.bool true), after := ds }) = true := by
  rw [show WShape.has [] (.bool true) .bool = true from rfl, Bool.true_and]
  simp [WTm.holds, WTm.value, W.same]
theorem args_of {R : WRecords} {cl : Str → Option Addr} {h : Heap} {ns : List Int} {vals : List Value} {as : List Addr} (hrd : ReadsAllW R cl h vals [.list (ns.map .int)] as) : ∃ L, vals = [.ref L] ∧ Rep h [] [] (.ref L) (.lst (ns.map .int)) := by
  cases hrd with
  | cons hv hrest =>
    cases hrest
    obtain ⟨L, vs, _, rfl, g, g4, _⟩ := readsW_list_inv hv
    exact ⟨L, rfl, .lst (vs := vs.toList) g (fun h => nomatch h) (reps_ints g4)⟩
theorem hypb {C : Cx} {s₁ : Shared} (h : C.base = s₁.heap) : HypB C 15 [] callerA s₁ [] [] :=
  ⟨fun b o e => by rw [← h]; exact e, (fun _ h => nomatch h), (fun _ h => nomatch h), List.nodup_nil, ⟨[], rfl, (fun _ h => nomatch h)⟩, ⟨rfl, fun i a m h => by cases h⟩, fun _ => rfl, by decide +kernel, by decide +kernel⟩
theorem good_fin {cl : Str → Option Addr} {mean : ExcName → Option Value} {args : List WData} {s₁ s' : Shared} (n : Nxt [] [] s₁ [] s') (hg : s₁.gens = #[]) : GoodWG PySem.Challenge.rw_pc0264_01.row.toRowW.claim cl mean args s₁ (.ok (.ret (.bool true))) s' := by
  obtain ⟨h', tk, rfl⟩ := n.sh
  exact ⟨.inl ⟨.bool true, .bool true, [], rfl, fun _ => rfl, .bool true, post_ok _ _, fun _ => ⟨List.nodup_nil, (fun _ h => nomatch h)⟩⟩, .of_keep fun b o e => n.kp.kp b o (fun h => nomatch h) e, rfl, .of_eq hg⟩
theorem run_law {C : Cx} (Z : CF C) {s₁ : Shared} (hb : C.base = s₁.heap) {ns : List Int} (hlen : ns.length ≤ 63) {L : Addr} (hrep : Rep s₁.heap [] [] (.ref L) (.lst (ns.map .int))) {Q E : Value → Shared → Prop} (h : ∀ s', Nxt [] [] s₁ [] s' → Q (.bool true) s') :
    wpAny C.M callerA (PySem.call (.ref 892) [.ref L]) Q E s₁ := by
  have hval := f_law (dD C) ns hlen []
  refine wpAny_call (s_law Z [] callerA s₁ [] [] [.ref L] [.lst (ns.map .int)] (hypb hb) (.cons hrep .nil) (by rw [hval]; intro e; cases e) _ ⟨fun v s' p σ' e rp n => ?_, fun x s' σ' e _ => by rw [hval] at e; cases e⟩)
  rw [hval] at e
  cases e
  obtain rfl := rp.bool_inv
  exact h _ n
theorem walk : ∀ (d : DefRec) (kwd : List (Str × Expr)), defOf (qOf thePw) PySem.Challenge.rw_pc0264_01.row.name = some (d, kwd) → WalkO (qOf thePw) (looseOf thePw) (fun _ _ => True) (Facts thePw) PySem.Challenge.rw_pc0264_01.row.toRowW d kwd fun f vs => PySem.call f vs := by
  intro d kwd hdef w s₀ s₁ mg mb G Y a o pm cd doc dV kV ho hod hcd hdf hmg hgens args vals as hpre hlay hrd hwell hlow
  have hn : d.name = Str.ofString "law" := defOf_name hdef
  obtain ⟨m, hm, hm'⟩ := Y.names
  have hmm : m = mg := hm.eq_nsMap.trans G.T.g.eq_nsMap.symm
  subst hmm
  obtain ⟨C, hC1, hC2, hC3, hC4, hC5⟩ : ∃ C : Cx, C.prog = thePw ∧ C.w = w ∧ C.base = s₁.heap ∧ C.mg = m ∧ C.tab = nameTab :=
    ⟨{ prog := thePw, w := w, base := s₁.heap, mg := m, mb := mb, tab := nameTab, g := G.T.g, b := G.T.b, nolimit := G.T.nolimit, builtins := G.T.builtins, names := hm' }, rfl, rfl, rfl, rfl, rfl⟩
  have Z : CF C := ⟨hC5, by rw [hC3]; exact Y.fn, by rw [hC3, hC2]; exact Y.objs⟩
  have ha : a = 892 := by
    have h := Z.glob (x := Str.ofString "law") (v := .ref 892) (by decide +kernel)
    rw [hC4] at h
    rw [hn, h] at hmg
    cases hmg; rfl
  subst ha
  obtain ⟨h1, h2⟩ := pre_splitW hpre
  obtain ⟨x, r, rfl, hx, hr⟩ := hasAllW_cons h1
  obtain rfl := hasAllW_nil hr
  obtain ⟨ds, rfl, hd⟩ := hasW_list hx
  obtain ⟨ns, rfl⟩ := items_int hd
  have hlen := most_of h2
  obtain ⟨L, rfl, hrep⟩ := args_of hrd
  have hgo := run_law Z hC3 hlen hrep (Q := fun v s' => GoodWG PySem.Challenge.rw_pc0264_01.row.toRowW.claim (classAt s₀.heap) (ExcName.means s₀.heap) [.list (ns.map .int)] s₁ (.ok (.ret v)) s') (E := fun e s' => GoodWG PySem.Challenge.rw_pc0264_01.row.toRowW.claim (classAt s₀.heap) (ExcName.means s₀.heap) [.list (ns.map .int)] s₁ (.error e) s') fun s' n => good_fin (cl := classAt s₀.heap) (mean := ExcName.means s₀.heap) (args := [.list (ns.map .int)]) n hgens
  unfold Cx.M at hgo
  rw [hC1, hC2] at hgo
  exact hgo
end Mine.Internal
theorem PySem.Challenge.cw_pc0264_01_holds : PySem.Challenge.rw_pc0264_01.Holds :=
  Mine.Internal.head Mine.Internal.walk
