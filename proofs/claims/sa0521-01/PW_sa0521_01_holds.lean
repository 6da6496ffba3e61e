import PyProof.Rows.All
import Wide.All
import OpenK.AllK
import Wide.FinOn
import PySem.Challenge.RW_sa0521_01
set_option Elab.async false
set_option maxRecDepth 1000000
set_option maxHeartbeats 0
set_option linter.unusedVariables false
namespace MineH
open PySem PySem.W PyProof.Rows PySem.Calls
theorem said : OpenLaw.wellSaid PySem.Challenge.rw_sa0521_01 = true := by
  rw [PySem.W.Fast.te9446332074065402090]
  kernel_rfl
end MineH

namespace MineH
open PySem PySem.W PyProof.Rows PySem.Calls
/-- the top's run over a tree of objects -/
noncomputable def topRunT (st : SharedT → Thread → Option (SharedT × Thread)) (ok : Thread → Bool) : Nat → SharedT → Thread → Option SharedT
  | 0, _, _ => none
  | n + 1, s, t => match through t with
    | true => some s
    | false => match ok t with
      | false => none
      | true => match st s t with
        | some (s', t') => topRunT st ok n s' t'
        | none => none
theorem topRun_of {tb : String → Option Builtin} {p : Program} {w : World} {n₀ : Nat} {ann : Option Value} : ∀ {n : Nat} {s s' : SharedT} {t : Thread}, topRunT (stepT (denote tb) p w) (stepOk n₀ ann) n s t = some s' → topRun tb p w n₀ ann n s.abs t = some s'.abs
  | 0, s, s', t, h => by cases h
  | n + 1, s, s', t, h => by
    unfold topRunT at h
    unfold topRun
    cases ht : through t with
    | true => rw [ht] at h; cases h; rfl
    | false =>
      rw [ht] at h
      cases hk : stepOk n₀ ann t with
      | false => rw [hk] at h; cases h
      | true =>
        rw [hk] at h
        cases hs : stepT (denote tb) p w s t with
        | none => rw [hs] at h; cases h
        | some r => obtain ⟨s₂, t₂⟩ := r; rw [hs] at h; rw [stepT_spec hs]; exact topRun_of h
/-- a tree of a list's items -/
noncomputable def treeOf : Nat → List Obj → BT → BT
  | _, [], t => t
  | i, o :: r, t => treeOf (i + 1) r (t.ins i o)
noncomputable abbrev pr : Program := PySem.Challenge.rw_sa0521_01.row.toRowW.prog
noncomputable def s0 (P : Params) (os : OsState) : SharedT := ⟨treeOf 0 (boot_heap P).objs.toList .nil, 11, (boot_heap P).life, #[], boot_drawn, boot_toks, os⟩
theorem s0_abs (P : Params) (os : OsState) : (s0 P os).abs = ⟨boot_heap P, #[], boot_drawn, boot_toks, os⟩ := by kernel_rfl
theorem quick (w : World) : topRunT (stepT (denote treeTable) pr w) (stepOk 11 (some (.ref 6))) = topRunT (PySem.W.Fast.tw10156331382660048174 (PySem.W.Fast.tw11892475500146522536 PySem.W.Fast.tw14364793385576792824) pr w) (PySem.W.Fast.tw6613529449190102663 11 (some (.ref 6))) := by
  rw [← PySem.W.Fast.te10156331382660048174, ← PySem.W.Fast.te11892475500146522536, ← PySem.W.Fast.te14364793385576792824, ← PySem.W.Fast.te6613529449190102663]
theorem boots (w : World) : (fencedOpening treeTable pr w 10486).map (fun s => (s.heap, s.gens, s.drawn, s.toks)) = some (boot_heap w.params, #[], boot_drawn, boot_toks) :=
  boot_open (by kernel_rfl) (by decide) (fun s => by kernel_rfl) w
/-- what is looked at behind the top -/
noncomputable def lk (p q : Program) (loose : List Str) {α : Type} (Xt : Shared → Bool) (Yf : Shared → α) (h₀ : Heap) (s : Shared) := ((staticsOk (importedModules p.main.body) h₀ s.heap && namesBound p s.heap && gensDone s && laidKept h₀ s.heap), openSeen q loose (importedModules p.main.body) Xt true s, Yf s)
theorem left_gen {p q : Program} {loose : List Str} {Xt : Shared → Bool} {α : Type} {Yf : Shared → α} {Ya : World → α} {N M m₀ k₀ : Nat} {H₀ : Params → Heap} {gs₀ : Array GenState} {d₀ : Drawn} {ann : Option Value} {S : Params → OsState → SharedT}
    (hS : ∀ P os, (S P os).abs = ⟨H₀ P, gs₀, d₀, k₀, os⟩)
    (open_ : ∀ w : World, (fencedOpening treeTable p w N).map (fun s => (s.heap, s.gens, s.drawn, s.toks)) = some (H₀ w.params, gs₀, d₀, k₀))
    (size : ∀ w : World, ((H₀ w.params).isNs mainGlobals && gs₀.size == 0, (H₀ w.params).objs.size, (H₀ w.params).nsMap mainGlobals "__annotations__") = (true, m₀, ann)) (le : Nat.ble M N = true)
    (run : ∀ (w : World) (os : OsState), (topRunT (stepT (denote treeTable) p w) (stepOk m₀ ann) M (S w.params os) (topStub p)).map (fun s => lk p q loose Xt Yf (H₀ w.params) s.abs) = some (true, openGood q loose, Ya w)) : LeftO p q loose Xt Yf Ya N := fun w => by
  obtain ⟨⟨h, gs, d, k, os⟩, e, e'⟩ := Option.map_eq_some_iff.mp (open_ w)
  obtain ⟨rfl, rfl, rfl, rfl⟩ : h = H₀ w.params ∧ gs = gs₀ ∧ d = d₀ ∧ k = k₀ := by simpa using e'
  obtain ⟨z1, z2, z3⟩ : _ ∧ _ ∧ _ := by simpa only [Prod.mk.injEq] using size w
  obtain ⟨sT, r, l⟩ := Option.map_eq_some_iff.mp (run w os)
  have r := topRun_mono (N - M) _ _ _ _ (topRun_of r)
  rw [hS, show M + (N - M) = N by have := Nat.le_of_ble_eq_true le; omega] at r
  have l1 : _ = true := congrArg Prod.fst l
  have l2 := congrArg Prod.snd l
  have t : topFrom treeTable p w N ⟨H₀ w.params, gs, d, k, os⟩ = some sT.abs := by
    unfold topFrom
    dsimp only
    rw [z1, z2, z3, r]
    show (match staticsOk (importedModules p.main.body) (H₀ w.params) sT.abs.heap && namesBound p sT.abs.heap && gensDone sT.abs && laidKept (H₀ w.params) sT.abs.heap with | true => _ | false => _) = _
    unfold lk at l1
    dsimp only at l1
    rw [l1]
  unfold openEnds
  rw [e]
  show (topFrom treeTable p w N _).map _ = _
  rw [t]
  exact congrArg some l2
end MineH

namespace MineH
open PySem PySem.W PyProof.Rows PySem.Calls
noncomputable def top (i : Nat) : Stmt := (PySem.Challenge.pw_sa0521_01.main.body[i]?).getD (.Pass default)
noncomputable def inn (i j : Nat) : Stmt := match top i with
  | .ClassDef _ _ _ b _ _ _ _ _ _ _ => (b[j]?).getD (.Pass default)
  | s => s
noncomputable def fnO (s : Stmt) (qual : Str) (dfl md code : Value) : Obj := match s with
  | .FunctionDef name params body _ _ _ scope _ _ _ => { cls := .type "function", data := .func { name := name, qualname := qual, params := params, body := .stmts body, scope := scope, globals := 3, closure := [], defaults := dfl, kwdefaults := .none, pyModule := md, code := code } }
  | _ => default
noncomputable def I (i : Int) (t : Nat) : Value := .int i t
noncomputable def S (x : Str) (t : Nat) : Value := .str x t
noncomputable def dO (P : Params) (l : List (String × Nat × Value)) (n : Nat) : Obj := ⟨.type "dict", none, .dict (l.map fun e => ⟨PyData.keyHash P (Str.ofString e.1), .str (Str.ofString e.1) e.2.1, e.2.2⟩).toArray n, #[]⟩
noncomputable def Kf (P : Params) : Frag := [
  (3, dO P [("__name__", 165, S "law_sa0521_01" 1153), ("__doc__", 166, .none), ("__package__", 167, .none), ("__loader__", 168, .builtin "__main__.__loader__#opaque"), ("__spec__", 169, .none), ("__annotations__", 170, .ref 6), ("__builtins__", 171, .ref 4), ("__file__", 173, S "/claim/cut.py" 172), ("__cached__", 174, .none), ("_wall", 193, .ref 21), ("PaperError", 235, .ref 46), ("TreeFault", 251, .ref 59), ("Decimal", 368, .ref 155), ("sign_text", 375, .ref 166), ("decimal_of", 382, .ref 173), ("MOST_HOPS", 386, I (30) 385), ("Name", 415, .ref 190), ("String", 446, .ref 212), ("Stream", 477, .ref 233), ("Reference", 515, .ref 261), ("kind_of", 522, .ref 272), ("told_plain", 530, .ref 279), ("told", 536, .ref 284), ("told_objects", 537, .ref 284), ("copied", 543, .ref 289), ("Lookup", 595, .ref 321), ("Shelf", 659, .ref 375), ("INHERITED", 666, .ref 378), ("Page", 697, .ref 395), ("Spot", 734, .ref 416), ("turned", 744, .ref 427), ("home_of", 756, .ref 434), ("is_node", 765, .ref 441), ("kids_of", 774, .ref 448), ("met", 788, .ref 455), ("spots", 803, .ref 462), ("fields_of", 813, .ref 469), ("page_spots", 819, .ref 474), ("pages", 825, .ref 479), ("is_count", 832, .ref 486), ("counts_of", 842, .ref 493), ("is_parent", 851, .ref 500), ("is_right_count", 861, .ref 507), ("settle", 872, .ref 514), ("lay", 881, .ref 521), ("grouped", 887, .ref 526), ("build_pages", 893, .ref 531), ("MOST_DEEP", 897, I (40) 896), ("MOST_PLACES", 899, I (16) 898), ("key_of", 907, .ref 538), ("node_of", 916, .ref 545), ("row_of", 926, .ref 552), ("node_pairs", 932, .ref 557), ("node_limits", 942, .ref 564), ("longer_way", 952, .ref 571), ("tree_pairs", 958, .ref 576), ("first_at_least", 969, .ref 583), ("kid_for", 982, .ref 590), ("tree_find", 988, .ref 596), ("VIEWS", 1015, .ref 597), ("Target", 1048, .ref 614), ("is_view_number", 1056, .ref 625), ("target_of", 1062, .ref 630), ("names_root", 1070, .ref 637), ("old_names", 1078, .ref 644), ("named_value", 1087, .ref 651), ("destination_of", 1096, .ref 658), ("page_index_of", 1102, .ref 663), ("named", 1108, .ref 668), ("broken_names", 1118, .ref 675), ("octets_line", 1126, .ref 680), ("NOTHING", 1130, S "none" 1129), ("rows_text", 1137, .ref 687), ("target_told", 1146, .ref 694), ("names_text", 1152, .ref 699), ("_law_draw", 1164, .ref 706), ("_law_row", 1173, .ref 713), ("_law_laid", 1186, .ref 720), ("_law_named", 1193, .ref 727), ("law", 1199, .ref 732)] 80),
  (45, dO P [("__module__", 203, S "paperhold.errors" 194), ("__firstlineno__", 207, I (5) 206), ("__init__", 218, .ref 36), ("told", 225, .ref 43), ("__static_attributes__", 228, .ref 44), ("__weakref__", 230, .ref 47), ("__doc__", 231, .none)] 3),
  (46, ⟨.type "type", none, .cls ⟨"PaperError", [.type "Exception"], [.ref 46, .type "Exception", .type "BaseException", .type "object"], 45, "PaperError", true, [], [.ref 59], false, none, false⟩, ([some (.ref 22), none, some (S "PaperError" 196), some (S "PaperError" 204), some (.builtin "Exception.__new__"), some (.bool true)]).toArray⟩),
  (58, dO P [("__module__", 243, S "paperhold.errors" 194), ("__firstlineno__", 247, I (14) 246), ("__static_attributes__", 248, .ref 57), ("__doc__", 249, .none)] 2),
  (59, ⟨.type "type", none, .cls ⟨"TreeFault", [.ref 46], [.ref 59, .ref 46, .type "Exception", .type "BaseException", .type "object"], 58, "TreeFault", true, [], [], false, none, false⟩, ([some (.ref 50), none, some (S "TreeFault" 236), some (S "TreeFault" 244), some (.builtin "Exception.__new__"), some (.bool true)]).toArray⟩),
  (154, dO P [("__module__", 261, S "paperhold.decimals" 252), ("__firstlineno__", 265, I (17) 264), ("__init__", 274, .ref 75), ("plus", 282, .ref 82), ("minus", 290, .ref 89), ("times", 299, .ref 96), ("negated", 306, .ref 103), ("compared", 314, .ref 110), ("is_whole", 321, .ref 117), ("floor", 328, .ref 124), ("rounded", 336, .ref 131), ("told", 343, .ref 138), ("text", 351, .ref 145), ("least_text", 358, .ref 152), ("__static_attributes__", 361, .ref 153), ("__dict__", 363, .ref 156), ("__weakref__", 365, .ref 157), ("__doc__", 366, .none)] 4),
  (155, ⟨.type "type", none, .cls ⟨"Decimal", [.type "object"], [.ref 155, .type "object"], 154, "Decimal", true, [], [], false, none, false⟩, ([none, none, some (S "Decimal" 254), some (S "Decimal" 262), some (.builtin "object.__new__"), some (.bool true)]).toArray⟩),
  (186, ⟨.type "code", none, .fields ([S "__init__" 399, S "Name.__init__" 400, S "/claim/cut.py" 401, I (75) 0, I (2) 0, I (0) 0, I (0) 0, I (3) 0, .ref 181, .bool true, I (181) 0, .ref 182, .none, .ref 183, .ref 184, .ref 185, I (404) 0, I (75) 0, S "/claim/cut.py" 405]).toArray, #[]⟩),
  (187, fnO (inn 10 0) "Name.__init__" (.none) (S "paperhold.objects" 383) (.ref 186)),
  (189, dO P [("__module__", 394, S "paperhold.objects" 383), ("__firstlineno__", 398, I (73) 397), ("__init__", 406, .ref 187), ("__static_attributes__", 408, .ref 188), ("__dict__", 410, .ref 191), ("__weakref__", 412, .ref 192), ("__doc__", 413, .none)] 4),
  (190, ⟨.type "type", none, .cls ⟨"Name", [.type "object"], [.ref 190, .type "object"], 189, "Name", true, [], [], false, none, false⟩, ([none, none, some (S "Name" 387), some (S "Name" 395), some (.builtin "object.__new__"), some (.bool true)]).toArray⟩),
  (202, ⟨.type "tuple", none, .seq ([.bool false]).toArray 0, #[]⟩),
  (208, ⟨.type "code", none, .fields ([S "__init__" 428, S "String.__init__" 429, S "/claim/cut.py" 430, I (79) 0, I (3) 0, I (0) 0, I (0) 0, I (3) 0, .ref 203, .bool true, I (181) 0, .ref 204, .none, .ref 205, .ref 206, .ref 207, I (434) 0, I (79) 0, S "/claim/cut.py" 435]).toArray, #[]⟩),
  (209, fnO (inn 11 0) "String.__init__" (.ref 202) (S "paperhold.objects" 383) (.ref 208)),
  (211, dO P [("__module__", 423, S "paperhold.objects" 383), ("__firstlineno__", 427, I (77) 426), ("__init__", 436, .ref 209), ("__static_attributes__", 439, .ref 210), ("__dict__", 441, .ref 213), ("__weakref__", 443, .ref 214), ("__doc__", 444, .none)] 4),
  (212, ⟨.type "type", none, .cls ⟨"String", [.type "object"], [.ref 212, .type "object"], 211, "String", true, [], [], false, none, false⟩, ([none, none, some (S "String" 416), some (S "String" 424), some (.builtin "object.__new__"), some (.bool true)]).toArray⟩),
  (229, ⟨.type "code", none, .fields ([S "__init__" 459, S "Stream.__init__" 460, S "/claim/cut.py" 461, I (84) 0, I (3) 0, I (0) 0, I (0) 0, I (3) 0, .ref 224, .bool true, I (181) 0, .ref 225, .none, .ref 226, .ref 227, .ref 228, I (465) 0, I (84) 0, S "/claim/cut.py" 466]).toArray, #[]⟩),
  (230, fnO (inn 12 0) "Stream.__init__" (.none) (S "paperhold.objects" 383) (.ref 229)),
  (232, dO P [("__module__", 454, S "paperhold.objects" 383), ("__firstlineno__", 458, I (82) 457), ("__init__", 467, .ref 230), ("__static_attributes__", 470, .ref 231), ("__dict__", 472, .ref 234), ("__weakref__", 474, .ref 235), ("__doc__", 475, .none)] 4),
  (233, ⟨.type "type", none, .cls ⟨"Stream", [.type "object"], [.ref 233, .type "object"], 232, "Stream", true, [], [], false, none, false⟩, ([none, none, some (S "Stream" 447), some (S "Stream" 455), some (.builtin "object.__new__"), some (.bool true)]).toArray⟩),
  (250, ⟨.type "code", none, .fields ([S "__init__" 490, S "Reference.__init__" 491, S "/claim/cut.py" 492, I (89) 0, I (3) 0, I (0) 0, I (0) 0, I (3) 0, .ref 245, .bool true, I (181) 0, .ref 246, .none, .ref 247, .ref 248, .ref 249, I (496) 0, I (89) 0, S "/claim/cut.py" 497]).toArray, #[]⟩),
  (251, fnO (inn 13 0) "Reference.__init__" (.none) (S "paperhold.objects" 383) (.ref 250)),
  (257, ⟨.type "code", none, .fields ([S "pair" 499, S "Reference.pair" 500, S "/claim/cut.py" 501, I (93) 0, I (1) 0, I (0) 0, I (0) 0, I (3) 0, .ref 252, .bool true, I (181) 0, .ref 253, .none, .ref 254, .ref 255, .ref 256, I (503) 0, I (93) 0, S "/claim/cut.py" 504]).toArray, #[]⟩),
  (258, fnO (inn 13 1) "Reference.pair" (.none) (S "paperhold.objects" 383) (.ref 257)),
  (260, dO P [("__module__", 485, S "paperhold.objects" 383), ("__firstlineno__", 489, I (87) 488), ("__init__", 498, .ref 251), ("pair", 505, .ref 258), ("__static_attributes__", 508, .ref 259), ("__dict__", 510, .ref 262), ("__weakref__", 512, .ref 263), ("__doc__", 513, .none)] 4),
  (261, ⟨.type "type", none, .cls ⟨"Reference", [.type "object"], [.ref 261, .type "object"], 260, "Reference", true, [], [], false, none, false⟩, ([none, none, some (S "Reference" 478), some (S "Reference" 486), some (.builtin "object.__new__"), some (.bool true)]).toArray⟩),
  (271, ⟨.type "code", none, .fields ([S "kind_of" 516, S "kind_of" 517, S "/claim/cut.py" 518, I (95) 0, I (1) 0, I (0) 0, I (0) 0, I (3) 0, .ref 266, .bool true, I (181) 0, .ref 267, .none, .ref 268, .ref 269, .ref 270, I (520) 0, I (95) 0, S "/claim/cut.py" 521]).toArray, #[]⟩),
  (272, fnO (top 14) "kind_of" (.none) (S "paperhold.objects" 383) (.ref 271)),
  (278, ⟨.type "code", none, .fields ([S "told_plain" 523, S "told_plain" 524, S "/claim/cut.py" 525, I (117) 0, I (2) 0, I (0) 0, I (0) 0, I (3) 0, .ref 273, .bool true, I (181) 0, .ref 274, .none, .ref 275, .ref 276, .ref 277, I (528) 0, I (117) 0, S "/claim/cut.py" 529]).toArray, #[]⟩),
  (279, fnO (top 15) "told_plain" (.none) (S "paperhold.objects" 383) (.ref 278)),
  (283, ⟨.type "code", none, .fields ([S "told" 531, S "told" 532, S "/claim/cut.py" 533, I (131) 0, I (1) 0, I (0) 0, I (0) 0, I (3) 0, .ref 280, .bool true, I (181) 0, .ref 281, .none, .none, .none, .ref 282, I (534) 0, I (131) 0, S "/claim/cut.py" 535]).toArray, #[]⟩),
  (284, fnO (top 16) "told" (.none) (S "paperhold.objects" 383) (.ref 283)),
  (288, ⟨.type "code", none, .fields ([S "copied" 538, S "copied" 539, S "/claim/cut.py" 540, I (141) 0, I (1) 0, I (0) 0, I (0) 0, I (3) 0, .ref 285, .bool true, I (181) 0, .ref 286, .none, .none, .none, .ref 287, I (541) 0, I (141) 0, S "/claim/cut.py" 542]).toArray, #[]⟩),
  (289, fnO (top 18) "copied" (.none) (S "paperhold.objects" 383) (.ref 288)),
  (297, ⟨.type "tuple", none, .seq ([.none, .none]).toArray 0, #[]⟩),
  (303, ⟨.type "code", none, .fields ([S "__init__" 556, S "Lookup.__init__" 557, S "/claim/cut.py" 558, I (152) 0, I (3) 0, I (0) 0, I (0) 0, I (3) 0, .ref 298, .bool true, I (181) 0, .ref 299, .none, .ref 300, .ref 301, .ref 302, I (562) 0, I (152) 0, S "/claim/cut.py" 563]).toArray, #[]⟩),
  (304, fnO (inn 19 0) "Lookup.__init__" (.ref 297) (S "paperhold.objects" 383) (.ref 303)),
  (310, ⟨.type "code", none, .fields ([S "fetch" 565, S "Lookup.fetch" 566, S "/claim/cut.py" 567, I (156) 0, I (2) 0, I (0) 0, I (0) 0, I (3) 0, .ref 305, .bool true, I (181) 0, .ref 306, .none, .ref 307, .ref 308, .ref 309, I (574) 0, I (156) 0, S "/claim/cut.py" 575]).toArray, #[]⟩),
  (311, fnO (inn 19 1) "Lookup.fetch" (.none) (S "paperhold.objects" 383) (.ref 310)),
  (317, ⟨.type "code", none, .fields ([S "get" 577, S "Lookup.get" 578, S "/claim/cut.py" 579, I (167) 0, I (3) 0, I (0) 0, I (0) 0, I (3) 0, .ref 312, .bool true, I (181) 0, .ref 313, .none, .ref 314, .ref 315, .ref 316, I (583) 0, I (167) 0, S "/claim/cut.py" 584]).toArray, #[]⟩),
  (318, fnO (inn 19 2) "Lookup.get" (.none) (S "paperhold.objects" 383) (.ref 317)),
  (320, dO P [("__module__", 551, S "paperhold.objects" 383), ("__firstlineno__", 555, I (150) 554), ("__init__", 564, .ref 304), ("fetch", 576, .ref 311), ("get", 585, .ref 318), ("__static_attributes__", 588, .ref 319), ("__dict__", 590, .ref 322), ("__weakref__", 592, .ref 323), ("__doc__", 593, .none)] 4),
  (321, ⟨.type "type", none, .cls ⟨"Lookup", [.type "object"], [.ref 321, .type "object"], 320, "Lookup", true, [], [.ref 375], false, none, false⟩, ([none, none, some (S "Lookup" 544), some (S "Lookup" 552), some (.builtin "object.__new__"), some (.bool true)]).toArray⟩),
  (338, ⟨.type "code", none, .fields ([S "put" 608, S "Shelf.put" 609, S "/claim/cut.py" 610, I (171) 0, I (4) 0, I (0) 0, I (0) 0, I (3) 0, .ref 333, .bool true, I (181) 0, .ref 334, .none, .ref 335, .ref 336, .ref 337, I (615) 0, I (171) 0, S "/claim/cut.py" 616]).toArray, #[]⟩),
  (339, fnO (inn 20 0) "Shelf.put" (.none) (S "paperhold.objects" 383) (.ref 338)),
  (345, ⟨.type "code", none, .fields ([S "add" 618, S "Shelf.add" 619, S "/claim/cut.py" 620, I (174) 0, I (2) 0, I (0) 0, I (0) 0, I (3) 0, .ref 340, .bool true, I (181) 0, .ref 341, .none, .ref 342, .ref 343, .ref 344, I (624) 0, I (174) 0, S "/claim/cut.py" 625]).toArray, #[]⟩),
  (346, fnO (inn 20 1) "Shelf.add" (.none) (S "paperhold.objects" 383) (.ref 345)),
  (359, ⟨.type "code", none, .fields ([S "numbers" 635, S "Shelf.numbers" 636, S "/claim/cut.py" 637, I (184) 0, I (1) 0, I (0) 0, I (0) 0, I (3) 0, .ref 354, .bool true, I (181) 0, .ref 355, .none, .ref 356, .ref 357, .ref 358, I (639) 0, I (184) 0, S "/claim/cut.py" 640]).toArray, #[]⟩),
  (360, fnO (inn 20 3) "Shelf.numbers" (.none) (S "paperhold.objects" 383) (.ref 359)),
  (366, ⟨.type "code", none, .fields ([S "root" 642, S "Shelf.root" 643, S "/claim/cut.py" 644, I (187) 0, I (1) 0, I (0) 0, I (0) 0, I (3) 0, .ref 361, .bool true, I (181) 0, .ref 362, .none, .ref 363, .ref 364, .ref 365, I (647) 0, I (187) 0, S "/claim/cut.py" 648]).toArray, #[]⟩),
  (367, fnO (inn 20 4) "Shelf.root" (.none) (S "paperhold.objects" 383) (.ref 366)),
  (371, ⟨.type "code", none, .fields ([S "told" 650, S "Shelf.told" 651, S "/claim/cut.py" 652, I (191) 0, I (1) 0, I (0) 0, I (0) 0, I (3) 0, .ref 368, .bool true, I (181) 0, .ref 369, .none, .none, .none, .ref 370, I (653) 0, I (191) 0, S "/claim/cut.py" 654]).toArray, #[]⟩),
  (372, fnO (inn 20 5) "Shelf.told" (.none) (S "paperhold.objects" 383) (.ref 371)),
  (374, dO P [("__module__", 603, S "paperhold.objects" 383), ("__firstlineno__", 607, I (169) 606), ("put", 617, .ref 339), ("add", 626, .ref 346), ("drop", 634, .ref 353), ("numbers", 641, .ref 360), ("root", 649, .ref 367), ("told", 655, .ref 372), ("__static_attributes__", 656, .ref 373), ("__doc__", 657, .none)] 2),
  (375, ⟨.type "type", none, .cls ⟨"Shelf", [.ref 321], [.ref 375, .ref 321, .type "object"], 374, "Shelf", true, [], [], false, none, false⟩, ([some (.ref 326), none, some (S "Shelf" 596), some (S "Shelf" 604), some (.builtin "object.__new__"), some (.bool true)]).toArray⟩),
  (378, ⟨.type "tuple", none, .seq ([S "Resources" 662, S "MediaBox" 663, S "CropBox" 664, S "Rotate" 665]).toArray 0, #[]⟩),
  (391, ⟨.type "code", none, .fields ([S "__init__" 679, S "Page.__init__" 680, S "/claim/cut.py" 681, I (198) 0, I (3) 0, I (0) 0, I (0) 0, I (3) 0, .ref 386, .bool true, I (181) 0, .ref 387, .none, .ref 388, .ref 389, .ref 390, I (685) 0, I (198) 0, S "/claim/cut.py" 686]).toArray, #[]⟩),
  (392, fnO (inn 23 0) "Page.__init__" (.none) (S "paperhold.pagetree" 660) (.ref 391)),
  (394, dO P [("__module__", 674, S "paperhold.pagetree" 660), ("__firstlineno__", 678, I (196) 677), ("__init__", 687, .ref 392), ("__static_attributes__", 690, .ref 393), ("__dict__", 692, .ref 396), ("__weakref__", 694, .ref 397), ("__doc__", 695, .none)] 4),
  (395, ⟨.type "type", none, .cls ⟨"Page", [.type "object"], [.ref 395, .type "object"], 394, "Page", true, [], [], false, none, false⟩, ([none, none, some (S "Page" 667), some (S "Page" 675), some (.builtin "object.__new__"), some (.bool true)]).toArray⟩),
  (412, ⟨.type "code", none, .fields ([S "__init__" 710, S "Spot.__init__" 711, S "/claim/cut.py" 712, I (203) 0, I (6) 0, I (0) 0, I (0) 0, I (3) 0, .ref 407, .bool true, I (181) 0, .ref 408, .none, .ref 409, .ref 410, .ref 411, I (719) 0, I (203) 0, S "/claim/cut.py" 720]).toArray, #[]⟩),
  (413, fnO (inn 24 0) "Spot.__init__" (.none) (S "paperhold.pagetree" 660) (.ref 412)),
  (415, dO P [("__module__", 705, S "paperhold.pagetree" 660), ("__firstlineno__", 709, I (201) 708), ("__init__", 721, .ref 413), ("__static_attributes__", 727, .ref 414), ("__dict__", 729, .ref 417), ("__weakref__", 731, .ref 418), ("__doc__", 732, .none)] 4),
  (416, ⟨.type "type", none, .cls ⟨"Spot", [.type "object"], [.ref 416, .type "object"], 415, "Spot", true, [], [], false, none, false⟩, ([none, none, some (S "Spot" 698), some (S "Spot" 706), some (.builtin "object.__new__"), some (.bool true)]).toArray⟩),
  (426, ⟨.type "code", none, .fields ([S "turned" 735, S "turned" 736, S "/claim/cut.py" 737, I (209) 0, I (2) 0, I (0) 0, I (0) 0, I (3) 0, .ref 421, .bool true, I (181) 0, .ref 422, .none, .ref 423, .ref 424, .ref 425, I (742) 0, I (209) 0, S "/claim/cut.py" 743]).toArray, #[]⟩),
  (427, fnO (top 25) "turned" (.none) (S "paperhold.pagetree" 660) (.ref 426)),
  (433, ⟨.type "code", none, .fields ([S "home_of" 745, S "home_of" 746, S "/claim/cut.py" 747, I (217) 0, I (2) 0, I (0) 0, I (0) 0, I (3) 0, .ref 428, .bool true, I (181) 0, .ref 429, .none, .ref 430, .ref 431, .ref 432, I (754) 0, I (217) 0, S "/claim/cut.py" 755]).toArray, #[]⟩),
  (434, fnO (top 26) "home_of" (.none) (S "paperhold.pagetree" 660) (.ref 433)),
  (440, ⟨.type "code", none, .fields ([S "is_node" 757, S "is_node" 758, S "/claim/cut.py" 759, I (229) 0, I (2) 0, I (0) 0, I (0) 0, I (3) 0, .ref 435, .bool true, I (181) 0, .ref 436, .none, .ref 437, .ref 438, .ref 439, I (763) 0, I (229) 0, S "/claim/cut.py" 764]).toArray, #[]⟩),
  (441, fnO (top 27) "is_node" (.none) (S "paperhold.pagetree" 660) (.ref 440)),
  (447, ⟨.type "code", none, .fields ([S "kids_of" 766, S "kids_of" 767, S "/claim/cut.py" 768, I (234) 0, I (2) 0, I (0) 0, I (0) 0, I (3) 0, .ref 442, .bool true, I (181) 0, .ref 443, .none, .ref 444, .ref 445, .ref 446, I (772) 0, I (234) 0, S "/claim/cut.py" 773]).toArray, #[]⟩),
  (448, fnO (top 28) "kids_of" (.none) (S "paperhold.pagetree" 660) (.ref 447)),
  (454, ⟨.type "code", none, .fields ([S "met" 775, S "met" 776, S "/claim/cut.py" 777, I (239) 0, I (4) 0, I (0) 0, I (0) 0, I (3) 0, .ref 449, .bool true, I (181) 0, .ref 450, .none, .ref 451, .ref 452, .ref 453, I (786) 0, I (239) 0, S "/claim/cut.py" 787]).toArray, #[]⟩),
  (455, fnO (top 29) "met" (.none) (S "paperhold.pagetree" 660) (.ref 454)),
  (461, ⟨.type "code", none, .fields ([S "spots" 789, S "spots" 790, S "/claim/cut.py" 791, I (249) 0, I (1) 0, I (0) 0, I (0) 0, I (3) 0, .ref 456, .bool true, I (181) 0, .ref 457, .none, .ref 458, .ref 459, .ref 460, I (801) 0, I (249) 0, S "/claim/cut.py" 802]).toArray, #[]⟩),
  (462, fnO (top 30) "spots" (.none) (S "paperhold.pagetree" 660) (.ref 461)),
  (468, ⟨.type "code", none, .fields ([S "fields_of" 804, S "fields_of" 805, S "/claim/cut.py" 806, I (264) 0, I (2) 0, I (0) 0, I (0) 0, I (3) 0, .ref 463, .bool true, I (181) 0, .ref 464, .none, .ref 465, .ref 466, .ref 467, I (811) 0, I (264) 0, S "/claim/cut.py" 812]).toArray, #[]⟩),
  (469, fnO (top 31) "fields_of" (.none) (S "paperhold.pagetree" 660) (.ref 468)),
  (473, ⟨.type "code", none, .fields ([S "page_spots" 814, S "page_spots" 815, S "/claim/cut.py" 816, I (270) 0, I (1) 0, I (0) 0, I (0) 0, I (3) 0, .ref 470, .bool true, I (181) 0, .ref 471, .none, .none, .none, .ref 472, I (817) 0, I (270) 0, S "/claim/cut.py" 818]).toArray, #[]⟩),
  (474, fnO (top 32) "page_spots" (.none) (S "paperhold.pagetree" 660) (.ref 473)),
  (478, ⟨.type "code", none, .fields ([S "pages" 820, S "pages" 821, S "/claim/cut.py" 822, I (272) 0, I (1) 0, I (0) 0, I (0) 0, I (3) 0, .ref 475, .bool true, I (181) 0, .ref 476, .none, .none, .none, .ref 477, I (823) 0, I (272) 0, S "/claim/cut.py" 824]).toArray, #[]⟩),
  (479, fnO (top 33) "pages" (.none) (S "paperhold.pagetree" 660) (.ref 478)),
  (485, ⟨.type "code", none, .fields ([S "is_count" 826, S "is_count" 827, S "/claim/cut.py" 828, I (274) 0, I (1) 0, I (0) 0, I (0) 0, I (3) 0, .ref 480, .bool true, I (181) 0, .ref 481, .none, .ref 482, .ref 483, .ref 484, I (830) 0, I (274) 0, S "/claim/cut.py" 831]).toArray, #[]⟩),
  (486, fnO (top 34) "is_count" (.none) (S "paperhold.pagetree" 660) (.ref 485)),
  (492, ⟨.type "code", none, .fields ([S "counts_of" 833, S "counts_of" 834, S "/claim/cut.py" 835, I (276) 0, I (1) 0, I (0) 0, I (0) 0, I (3) 0, .ref 487, .bool true, I (181) 0, .ref 488, .none, .ref 489, .ref 490, .ref 491, I (840) 0, I (276) 0, S "/claim/cut.py" 841]).toArray, #[]⟩),
  (493, fnO (top 35) "counts_of" (.none) (S "paperhold.pagetree" 660) (.ref 492)),
  (499, ⟨.type "code", none, .fields ([S "is_parent" 843, S "is_parent" 844, S "/claim/cut.py" 845, I (285) 0, I (2) 0, I (0) 0, I (0) 0, I (3) 0, .ref 494, .bool true, I (181) 0, .ref 495, .none, .ref 496, .ref 497, .ref 498, I (849) 0, I (285) 0, S "/claim/cut.py" 850]).toArray, #[]⟩),
  (500, fnO (top 36) "is_parent" (.none) (S "paperhold.pagetree" 660) (.ref 499)),
  (506, ⟨.type "code", none, .fields ([S "is_right_count" 852, S "is_right_count" 853, S "/claim/cut.py" 854, I (290) 0, I (3) 0, I (0) 0, I (0) 0, I (3) 0, .ref 501, .bool true, I (181) 0, .ref 502, .none, .ref 503, .ref 504, .ref 505, I (859) 0, I (290) 0, S "/claim/cut.py" 860]).toArray, #[]⟩),
  (507, fnO (top 37) "is_right_count" (.none) (S "paperhold.pagetree" 660) (.ref 506)),
  (513, ⟨.type "code", none, .fields ([S "settle" 862, S "settle" 863, S "/claim/cut.py" 864, I (293) 0, I (1) 0, I (0) 0, I (0) 0, I (3) 0, .ref 508, .bool true, I (181) 0, .ref 509, .none, .ref 510, .ref 511, .ref 512, I (870) 0, I (293) 0, S "/claim/cut.py" 871]).toArray, #[]⟩),
  (514, fnO (top 38) "settle" (.none) (S "paperhold.pagetree" 660) (.ref 513)),
  (520, ⟨.type "code", none, .fields ([S "lay" 873, S "lay" 874, S "/claim/cut.py" 875, I (304) 0, I (3) 0, I (0) 0, I (0) 0, I (3) 0, .ref 515, .bool true, I (181) 0, .ref 516, .none, .ref 517, .ref 518, .ref 519, I (879) 0, I (304) 0, S "/claim/cut.py" 880]).toArray, #[]⟩),
  (521, fnO (top 39) "lay" (.none) (S "paperhold.pagetree" 660) (.ref 520)),
  (530, ⟨.type "code", none, .fields ([S "build_pages" 888, S "build_pages" 889, S "/claim/cut.py" 890, I (309) 0, I (3) 0, I (0) 0, I (0) 0, I (3) 0, .ref 527, .bool true, I (181) 0, .ref 528, .none, .none, .none, .ref 529, I (891) 0, I (309) 0, S "/claim/cut.py" 892]).toArray, #[]⟩),
  (531, fnO (top 41) "build_pages" (.none) (S "paperhold.pagetree" 660) (.ref 530)),
  (537, ⟨.type "code", none, .fields ([S "key_of" 900, S "key_of" 901, S "/claim/cut.py" 902, I (327) 0, I (2) 0, I (0) 0, I (0) 0, I (3) 0, .ref 532, .bool true, I (181) 0, .ref 533, .none, .ref 534, .ref 535, .ref 536, I (905) 0, I (327) 0, S "/claim/cut.py" 906]).toArray, #[]⟩),
  (538, fnO (top 45) "key_of" (.none) (S "paperhold.trees" 894) (.ref 537)),
  (544, ⟨.type "code", none, .fields ([S "node_of" 908, S "node_of" 909, S "/claim/cut.py" 910, I (333) 0, I (2) 0, I (0) 0, I (0) 0, I (3) 0, .ref 539, .bool true, I (181) 0, .ref 540, .none, .ref 541, .ref 542, .ref 543, I (914) 0, I (333) 0, S "/claim/cut.py" 915]).toArray, #[]⟩),
  (545, fnO (top 46) "node_of" (.none) (S "paperhold.trees" 894) (.ref 544)),
  (551, ⟨.type "code", none, .fields ([S "row_of" 917, S "row_of" 918, S "/claim/cut.py" 919, I (338) 0, I (3) 0, I (0) 0, I (0) 0, I (3) 0, .ref 546, .bool true, I (181) 0, .ref 547, .none, .ref 548, .ref 549, .ref 550, I (924) 0, I (338) 0, S "/claim/cut.py" 925]).toArray, #[]⟩),
  (552, fnO (top 47) "row_of" (.none) (S "paperhold.trees" 894) (.ref 551)),
  (556, ⟨.type "code", none, .fields ([S "node_pairs" 927, S "node_pairs" 928, S "/claim/cut.py" 929, I (343) 0, I (3) 0, I (0) 0, I (0) 0, I (3) 0, .ref 553, .bool true, I (181) 0, .ref 554, .none, .none, .none, .ref 555, I (930) 0, I (343) 0, S "/claim/cut.py" 931]).toArray, #[]⟩),
  (557, fnO (top 48) "node_pairs" (.none) (S "paperhold.trees" 894) (.ref 556)),
  (570, ⟨.type "code", none, .fields ([S "longer_way" 943, S "longer_way" 944, S "/claim/cut.py" 945, I (355) 0, I (3) 0, I (0) 0, I (0) 0, I (3) 0, .ref 565, .bool true, I (181) 0, .ref 566, .none, .ref 567, .ref 568, .ref 569, I (950) 0, I (355) 0, S "/claim/cut.py" 951]).toArray, #[]⟩),
  (571, fnO (top 50) "longer_way" (.none) (S "paperhold.trees" 894) (.ref 570)),
  (575, ⟨.type "code", none, .fields ([S "tree_pairs" 953, S "tree_pairs" 954, S "/claim/cut.py" 955, I (367) 0, I (3) 0, I (0) 0, I (0) 0, I (3) 0, .ref 572, .bool true, I (181) 0, .ref 573, .none, .none, .none, .ref 574, I (956) 0, I (367) 0, S "/claim/cut.py" 957]).toArray, #[]⟩),
  (576, fnO (top 51) "tree_pairs" (.none) (S "paperhold.trees" 894) (.ref 575)),
  (582, ⟨.type "code", none, .fields ([S "first_at_least" 959, S "first_at_least" 960, S "/claim/cut.py" 961, I (380) 0, I (2) 0, I (0) 0, I (0) 0, I (3) 0, .ref 577, .bool true, I (181) 0, .ref 578, .none, .ref 579, .ref 580, .ref 581, I (967) 0, I (380) 0, S "/claim/cut.py" 968]).toArray, #[]⟩),
  (583, fnO (top 52) "first_at_least" (.none) (S "paperhold.trees" 894) (.ref 582)),
  (591, ⟨.type "tuple", none, .seq ([.none]).toArray 0, #[]⟩),
  (595, ⟨.type "code", none, .fields ([S "tree_find" 983, S "tree_find" 984, S "/claim/cut.py" 985, I (400) 0, I (5) 0, I (0) 0, I (0) 0, I (3) 0, .ref 592, .bool true, I (181) 0, .ref 593, .none, .none, .none, .ref 594, I (986) 0, I (400) 0, S "/claim/cut.py" 987]).toArray, #[]⟩),
  (596, fnO (top 54) "tree_find" (.ref 591) (S "paperhold.trees" 894) (.ref 595)),
  (597, dO P [("XYZ", 991, I (3) 992), ("Fit", 993, I (0) 994), ("FitH", 995, I (1) 996), ("FitV", 997, I (1) 998), ("FitR", 999, I (4) 1000), ("FitB", 1001, I (0) 1002), ("FitBH", 1003, I (1) 1004), ("FitBV", 1005, I (1) 1006)] 8),
  (610, ⟨.type "code", none, .fields ([S "__init__" 1028, S "Target.__init__" 1029, S "/claim/cut.py" 1030, I (418) 0, I (4) 0, I (0) 0, I (0) 0, I (3) 0, .ref 605, .bool true, I (181) 0, .ref 606, .none, .ref 607, .ref 608, .ref 609, I (1035) 0, I (418) 0, S "/claim/cut.py" 1036]).toArray, #[]⟩),
  (611, fnO (inn 57 0) "Target.__init__" (.none) (S "paperhold.dests" 989) (.ref 610)),
  (613, dO P [("__module__", 1023, S "paperhold.dests" 989), ("__firstlineno__", 1027, I (416) 1026), ("__init__", 1037, .ref 611), ("__static_attributes__", 1041, .ref 612), ("__dict__", 1043, .ref 615), ("__weakref__", 1045, .ref 616), ("__doc__", 1046, .none)] 4),
  (614, ⟨.type "type", none, .cls ⟨"Target", [.type "object"], [.ref 614, .type "object"], 613, "Target", true, [], [], false, none, false⟩, ([none, none, some (S "Target" 1016), some (S "Target" 1024), some (.builtin "object.__new__"), some (.bool true)]).toArray⟩),
  (629, ⟨.type "code", none, .fields ([S "target_of" 1057, S "target_of" 1058, S "/claim/cut.py" 1059, I (424) 0, I (2) 0, I (0) 0, I (0) 0, I (3) 0, .ref 626, .bool true, I (181) 0, .ref 627, .none, .none, .none, .ref 628, I (1060) 0, I (424) 0, S "/claim/cut.py" 1061]).toArray, #[]⟩),
  (630, fnO (top 59) "target_of" (.none) (S "paperhold.dests" 989) (.ref 629)),
  (636, ⟨.type "code", none, .fields ([S "names_root" 1063, S "names_root" 1064, S "/claim/cut.py" 1065, I (436) 0, I (1) 0, I (0) 0, I (0) 0, I (3) 0, .ref 631, .bool true, I (181) 0, .ref 632, .none, .ref 633, .ref 634, .ref 635, I (1068) 0, I (436) 0, S "/claim/cut.py" 1069]).toArray, #[]⟩),
  (637, fnO (top 60) "names_root" (.none) (S "paperhold.dests" 989) (.ref 636)),
  (643, ⟨.type "code", none, .fields ([S "old_names" 1071, S "old_names" 1072, S "/claim/cut.py" 1073, I (439) 0, I (1) 0, I (0) 0, I (0) 0, I (3) 0, .ref 638, .bool true, I (181) 0, .ref 639, .none, .ref 640, .ref 641, .ref 642, I (1076) 0, I (439) 0, S "/claim/cut.py" 1077]).toArray, #[]⟩),
  (644, fnO (top 61) "old_names" (.none) (S "paperhold.dests" 989) (.ref 643)),
  (650, ⟨.type "code", none, .fields ([S "named_value" 1079, S "named_value" 1080, S "/claim/cut.py" 1081, I (442) 0, I (2) 0, I (0) 0, I (0) 0, I (3) 0, .ref 645, .bool true, I (181) 0, .ref 646, .none, .ref 647, .ref 648, .ref 649, I (1085) 0, I (442) 0, S "/claim/cut.py" 1086]).toArray, #[]⟩),
  (651, fnO (top 62) "named_value" (.none) (S "paperhold.dests" 989) (.ref 650)),
  (657, ⟨.type "code", none, .fields ([S "destination_of" 1088, S "destination_of" 1089, S "/claim/cut.py" 1090, I (447) 0, I (2) 0, I (0) 0, I (0) 0, I (3) 0, .ref 652, .bool true, I (181) 0, .ref 653, .none, .ref 654, .ref 655, .ref 656, I (1094) 0, I (447) 0, S "/claim/cut.py" 1095]).toArray, #[]⟩),
  (658, fnO (top 63) "destination_of" (.none) (S "paperhold.dests" 989) (.ref 657)),
  (662, ⟨.type "code", none, .fields ([S "page_index_of" 1097, S "page_index_of" 1098, S "/claim/cut.py" 1099, I (454) 0, I (2) 0, I (0) 0, I (0) 0, I (3) 0, .ref 659, .bool true, I (181) 0, .ref 660, .none, .none, .none, .ref 661, I (1100) 0, I (454) 0, S "/claim/cut.py" 1101]).toArray, #[]⟩),
  (663, fnO (top 64) "page_index_of" (.none) (S "paperhold.dests" 989) (.ref 662)),
  (667, ⟨.type "code", none, .fields ([S "named" 1103, S "named" 1104, S "/claim/cut.py" 1105, I (459) 0, I (1) 0, I (0) 0, I (0) 0, I (3) 0, .ref 664, .bool true, I (181) 0, .ref 665, .none, .none, .none, .ref 666, I (1106) 0, I (459) 0, S "/claim/cut.py" 1107]).toArray, #[]⟩),
  (668, fnO (top 65) "named" (.none) (S "paperhold.dests" 989) (.ref 667)),
  (674, ⟨.type "code", none, .fields ([S "broken_names" 1109, S "broken_names" 1110, S "/claim/cut.py" 1111, I (469) 0, I (1) 0, I (0) 0, I (0) 0, I (3) 0, .ref 669, .bool true, I (181) 0, .ref 670, .none, .ref 671, .ref 672, .ref 673, I (1116) 0, I (469) 0, S "/claim/cut.py" 1117]).toArray, #[]⟩),
  (675, fnO (top 66) "broken_names" (.none) (S "paperhold.dests" 989) (.ref 674)),
  (679, ⟨.type "code", none, .fields ([S "octets_line" 1121, S "octets_line" 1122, S "/claim/cut.py" 1123, I (477) 0, I (1) 0, I (0) 0, I (0) 0, I (3) 0, .ref 676, .bool true, I (181) 0, .ref 677, .none, .none, .none, .ref 678, I (1124) 0, I (477) 0, S "/claim/cut.py" 1125]).toArray, #[]⟩),
  (680, fnO (top 68) "octets_line" (.none) (S "paperhold.desk" 1119) (.ref 679)),
  (686, ⟨.type "code", none, .fields ([S "rows_text" 1131, S "rows_text" 1132, S "/claim/cut.py" 1133, I (481) 0, I (1) 0, I (0) 0, I (0) 0, I (3) 0, .ref 681, .bool true, I (181) 0, .ref 682, .none, .ref 683, .ref 684, .ref 685, I (1135) 0, I (481) 0, S "/claim/cut.py" 1136]).toArray, #[]⟩),
  (687, fnO (top 71) "rows_text" (.none) (S "paperhold.bureau" 1127) (.ref 686)),
  (693, ⟨.type "code", none, .fields ([S "target_told" 1138, S "target_told" 1139, S "/claim/cut.py" 1140, I (483) 0, I (2) 0, I (0) 0, I (0) 0, I (3) 0, .ref 688, .bool true, I (181) 0, .ref 689, .none, .ref 690, .ref 691, .ref 692, I (1144) 0, I (483) 0, S "/claim/cut.py" 1145]).toArray, #[]⟩),
  (694, fnO (top 72) "target_told" (.none) (S "paperhold.bureau" 1127) (.ref 693)),
  (698, ⟨.type "code", none, .fields ([S "names_text" 1147, S "names_text" 1148, S "/claim/cut.py" 1149, I (488) 0, I (1) 0, I (0) 0, I (0) 0, I (3) 0, .ref 695, .bool true, I (181) 0, .ref 696, .none, .none, .none, .ref 697, I (1150) 0, I (488) 0, S "/claim/cut.py" 1151]).toArray, #[]⟩),
  (699, fnO (top 73) "names_text" (.none) (S "paperhold.bureau" 1127) (.ref 698)),
  (705, ⟨.type "code", none, .fields ([S "_law_draw" 1155, S "_law_draw" 1156, S "/claim/cut.py" 1157, I (492) 0, I (2) 0, I (0) 0, I (0) 0, I (3) 0, .ref 700, .bool true, I (181) 0, .ref 701, .none, .ref 702, .ref 703, .ref 704, I (1162) 0, I (492) 0, S "/claim/cut.py" 1163]).toArray, #[]⟩),
  (706, fnO (top 75) "_law_draw" (.none) (S "law_sa0521_01" 1153) (.ref 705)),
  (712, ⟨.type "code", none, .fields ([S "_law_row" 1165, S "_law_row" 1166, S "/claim/cut.py" 1167, I (496) 0, I (2) 0, I (0) 0, I (0) 0, I (3) 0, .ref 707, .bool true, I (181) 0, .ref 708, .none, .ref 709, .ref 710, .ref 711, I (1171) 0, I (496) 0, S "/claim/cut.py" 1172]).toArray, #[]⟩),
  (713, fnO (top 76) "_law_row" (.none) (S "law_sa0521_01" 1153) (.ref 712)),
  (719, ⟨.type "code", none, .fields ([S "_law_laid" 1174, S "_law_laid" 1175, S "/claim/cut.py" 1176, I (499) 0, I (3) 0, I (0) 0, I (0) 0, I (3) 0, .ref 714, .bool true, I (181) 0, .ref 715, .none, .ref 716, .ref 717, .ref 718, I (1184) 0, I (499) 0, S "/claim/cut.py" 1185]).toArray, #[]⟩),
  (720, fnO (top 77) "_law_laid" (.none) (S "law_sa0521_01" 1153) (.ref 719)),
  (726, ⟨.type "code", none, .fields ([S "_law_named" 1187, S "_law_named" 1188, S "/claim/cut.py" 1189, I (511) 0, I (1) 0, I (0) 0, I (0) 0, I (3) 0, .ref 721, .bool true, I (181) 0, .ref 722, .none, .ref 723, .ref 724, .ref 725, I (1191) 0, I (511) 0, S "/claim/cut.py" 1192]).toArray, #[]⟩),
  (727, fnO (top 78) "_law_named" (.none) (S "law_sa0521_01" 1153) (.ref 726)),
  (731, ⟨.type "code", none, .fields ([S "law" 1194, S "law" 1195, S "/claim/cut.py" 1196, I (516) 0, I (1) 0, I (0) 0, I (0) 0, I (3) 0, .ref 728, .bool true, I (181) 0, .ref 729, .none, .none, .none, .ref 730, I (1197) 0, I (516) 0, S "/claim/cut.py" 1198]).toArray, #[]⟩),
  (732, fnO (top 79) "law" (.none) (S "law_sa0521_01" 1153) (.ref 731))]
noncomputable def Ka : List Addr := [3, 45, 46, 58, 59, 154, 155, 186, 187, 189, 190, 202, 208, 209, 211, 212, 229, 230, 232, 233, 250, 251, 257, 258, 260, 261, 271, 272, 278, 279, 283, 284, 288, 289, 297, 303, 304, 310, 311, 317, 318, 320, 321, 338, 339, 345, 346, 359, 360, 366, 367, 371, 372, 374, 375, 378, 391, 392, 394, 395, 412, 413, 415, 416, 426, 427, 433, 434, 440, 441, 447, 448, 454, 455, 461, 462, 468, 469, 473, 474, 478, 479, 485, 486, 492, 493, 499, 500, 506, 507, 513, 514, 520, 521, 530, 531, 537, 538, 544, 545, 551, 552, 556, 557, 570, 571, 575, 576, 582, 583, 591, 595, 596, 597, 610, 611, 613, 614, 629, 630, 636, 637, 643, 644, 650, 651, 657, 658, 662, 663, 667, 668, 674, 675, 679, 680, 686, 687, 693, 694, 698, 699, 705, 706, 712, 713, 719, 720, 726, 727, 731, 732]
end MineH

namespace MineH
open PySem PySem.W PyProof.Rows PySem.Calls
noncomputable def qv : Program := view PySem.Challenge.pw_sa0521_01 [79]
noncomputable def loosS : List String := ["_wall", "PaperError", "TreeFault", "Decimal", "sign_text", "decimal_of", "MOST_HOPS", "Name", "String", "Stream", "Reference", "kind_of", "told_plain", "told", "told_objects", "copied", "Lookup", "Shelf", "INHERITED", "Page", "Spot", "turned", "home_of", "is_node", "kids_of", "met", "spots", "fields_of", "page_spots", "pages", "is_count", "counts_of", "is_parent", "is_right_count", "settle", "lay", "grouped", "build_pages", "MOST_DEEP", "MOST_PLACES", "key_of", "node_of", "row_of", "node_pairs", "node_limits", "longer_way", "tree_pairs", "first_at_least", "kid_for", "tree_find", "VIEWS", "Target", "is_view_number", "target_of", "names_root", "old_names", "named_value", "destination_of", "page_index_of", "named", "broken_names", "octets_line", "NOTHING", "rows_text", "target_told", "names_text", "_law_draw", "_law_row", "_law_laid", "_law_named"]
noncomputable def loos : List Str := loosS.map Str.ofString
theorem Ka_eq (P : Params) : Ka = (Kf P).map (·.1) := by kernel_rfl
noncomputable def hk : Hook := kHook Kf Ka Ka_eq
theorem run_ (w : World) (os : OsState) : (topRunT (stepT (denote treeTable) pr w) (stepOk 11 (some (.ref 6))) 5300 (s0 w.params os) (topStub pr)).map
    (fun s => lk pr qv loos (fun s => xlAt qv [] s && recOk (RowW.records PySem.Challenge.rw_sa0521_01.row.toRowW) s) hk.obs (boot_heap w.params) s.abs) = some (true, openGood qv loos, hk.val w) := by
  refine byRow2 "special-get-raises" (P := fun w => ∀ os, (topRunT (stepT (denote treeTable) pr w) (stepOk 11 (some (.ref 6))) 5300 (s0 w.params os) (topStub pr)).map
    (fun s => lk pr qv loos (fun s => xlAt qv [] s && recOk (RowW.records PySem.Challenge.rw_sa0521_01.row.toRowW) s) hk.obs (boot_heap w.params) s.abs) = some (true, openGood qv loos, hk.val w)) (fun w os => ?_) (fun w os => ?_) w os
  all_goals
    rw [quick]
    kernel_rfl
end MineH

namespace MineH
open PySem PySem.W PyProof.Rows PySem.Calls
theorem some_ : (defOf qv "law").isSome = true := by kernel_rfl
noncomputable def dk : DefRec × List (Str × Expr) := (defOf qv "law").get some_
noncomputable def dd : DefRec := dk.1
theorem def_ : defOf qv PySem.Challenge.rw_sa0521_01.row.name = some (dd, []) := by kernel_rfl
theorem theDef_ : pr.theDef PySem.Challenge.rw_sa0521_01.row.name = some (dd.params, dd.body, dd.scope) := by kernel_rfl
theorem kw_ : kwWritten? dd.params.kwonlyargs dd.params.kw_defaults = some [] := by kernel_rfl
theorem size_ (w : World) : ((boot_heap w.params).isNs mainGlobals && (#[] : Array GenState).size == 0, (boot_heap w.params).objs.size, (boot_heap w.params).nsMap mainGlobals "__annotations__") = (true, 11, some (.ref 6)) := by kernel_rfl
theorem left_ : LeftO PySem.Challenge.rw_sa0521_01.row.toRowW.prog qv loos (fun s => xlAt qv [] s && recOk (RowW.records PySem.Challenge.rw_sa0521_01.row.toRowW) s) hk.obs hk.val 10486 :=
  left_gen s0_abs boots size_ (by decide) run_
theorem oks_ : (chainsOk qv && opensWell PySem.Challenge.rw_sa0521_01.row.prog && (frees PySem.Challenge.rw_sa0521_01.row.toRowW && PySem.Challenge.rw_sa0521_01.row.within.isEmpty)) = true := by kernel_rfl
theorem bare_ : PySem.Challenge.rw_sa0521_01.row.prog.bare := ⟨rfl, rfl, rfl, rfl, rfl, by kernel_rfl⟩
theorem prom_ : PySem.Challenge.rw_sa0521_01.row.toRowW.promised := ⟨[.list []], by kernel_rfl, by kernel_rfl⟩
theorem hd (c : WalkO qv loos (XL qv []) hk.says PySem.Challenge.rw_sa0521_01.row.toRowW dd [] fun f vs => PySem.call f vs) : PySem.Challenge.rw_sa0521_01.Holds :=
  holds_law said fun said => holds_open left_ hk.of hk.keeps (fun s e => xl_of s (Bool.and_eq_true_iff.mp e).1) XL.keeps def_ theDef_ kw_ (fun s e => recFacts_of (Bool.and_eq_true_iff.mp e).2) rfl said oks_ bare_ prom_ c
end MineH

namespace Mine
/-! matches on options and truths as functions: short terms, short inversions (see NOTES, macros) -/
noncomputable def om1 {α β : Type} (o : Option α) (n : β) (k : α → β) : β := Option.rec (motive := fun _ => β) n k o
noncomputable def om2 {α β γ : Type} (o : Option (α × β)) (n : γ) (k : α → β → γ) : γ := Option.rec (motive := fun _ => γ) n (fun p => Prod.rec (motive := fun _ => γ) k p) o
noncomputable def om3 {α β γ δ : Type} (o : Option (α × β × γ)) (n : δ) (k : α → β → γ → δ) : δ := Option.rec (motive := fun _ => δ) n (fun p => Prod.rec (motive := fun _ => δ) (fun a q => Prod.rec (motive := fun _ => δ) (k a) q) p) o
noncomputable def bt {α : Type} (b : Bool) (n x : α) : α := Bool.rec (motive := fun _ => α) n x b
noncomputable def bf {α : Type} (b : Bool) (x n : α) : α := Bool.rec (motive := fun _ => α) n x b
@[simp] theorem om1_some {α β : Type} {a : α} {n : β} {k : α → β} : om1 (some a) n k = k a := rfl
@[simp] theorem om1_none {α β : Type} {n : β} {k : α → β} : om1 none n k = n := rfl
@[simp] theorem om2_some {α β γ : Type} {a : α} {b : β} {n : γ} {k : α → β → γ} : om2 (some (a, b)) n k = k a b := rfl
@[simp] theorem om2_none {α β γ : Type} {n : γ} {k : α → β → γ} : om2 none n k = n := rfl
@[simp] theorem om3_some {α β γ δ : Type} {a : α} {b : β} {c : γ} {n : δ} {k : α → β → γ → δ} : om3 (some (a, b, c)) n k = k a b c := rfl
@[simp] theorem om3_none {α β γ δ : Type} {n : δ} {k : α → β → γ → δ} : om3 none n k = n := rfl
@[simp] theorem bt_true {α : Type} {n x : α} : bt true n x = x := rfl
@[simp] theorem bt_false {α : Type} {n x : α} : bt false n x = n := rfl
theorem nos {α : Type} {a : α} {P : Prop} (h : none = some a) : P := Option.noConfusion rfl (heq_of_eq h)
theorem nos' {α : Type} {a : α} {P : Prop} (h : some a = none) : P := nos h.symm
theorem eqk {α : Sort _} {a b : α} {P : Prop} (h : a = b) (k : a = b → P) : P := k h
theorem nof {P : Prop} (h : false = true) : P := Bool.noConfusion h
theorem nof' {P : Prop} (h : true = false) : P := Bool.noConfusion h
theorem some1 {α : Type} {a b : α} {P : Prop} (h : some a = some b) (k : a = b → P) : P := k (Option.some.inj h)
theorem some2 {α β : Type} {a c : α} {b d : β} {P : Prop} (h : some (a, b) = some (c, d)) (k : a = c → b = d → P) : P := some1 h fun q => k (congrArg Prod.fst q) (congrArg Prod.snd q)
theorem some3 {α β γ : Type} {a d : α} {b e : β} {c f : γ} {P : Prop} (h : some (a, b, c) = some (d, e, f)) (k : a = d → b = e → c = f → P) : P := some2 h fun q1 q => k q1 (congrArg Prod.fst q) (congrArg Prod.snd q)
theorem pr2 {α β : Type} {a c : α} {b d : β} {P : Prop} (h : (a, b) = (c, d)) (k : a = c → b = d → P) : P := k (congrArg Prod.fst h) (congrArg Prod.snd h)
theorem pr3 {α β γ : Type} {a d : α} {b e : β} {c f : γ} {P : Prop} (h : (a, b, c) = (d, e, f)) (k : a = d → b = e → c = f → P) : P := pr2 h fun q1 q => k q1 (congrArg Prod.fst q) (congrArg Prod.snd q)
theorem osp1 {α β : Type} {o : Option α} {K : α → β} {N : β} {r : β} {P : Prop} (h : om1 o N K = r) (k1 : ∀ c, o = some c → K c = r → P) (k2 : o = none → N = r → P) : P := by
  cases o with
  | none => exact k2 rfl h
  | some c => exact k1 c rfl h
theorem om1_inv {α β : Type} {o : Option α} {f : α → β} {r : β} {P : Prop} (h : om1 o none (fun y => some (f y)) = some r) (k : ∀ y, o = some y → f y = r → P) : P :=
  osp1 h (fun y q e => k y q (Option.some.inj e)) fun _ e => nos e
theorem osp2 {α β γ : Type} {o : Option (α × β)} {K : α → β → γ} {N : γ} {r : γ} {P : Prop} (h : om2 o N K = r) (k1 : ∀ a b, o = some (a, b) → K a b = r → P) (k2 : o = none → N = r → P) : P := by
  cases o with
  | none => exact k2 rfl h
  | some c => exact k1 c.1 c.2 rfl h
theorem osp3 {α β γ δ : Type} {o : Option (α × β × γ)} {K : α → β → γ → δ} {N : δ} {r : δ} {P : Prop} (h : om3 o N K = r) (k1 : ∀ a b c, o = some (a, b, c) → K a b c = r → P) (k2 : o = none → N = r → P) : P := by
  cases o with
  | none => exact k2 rfl h
  | some c => exact k1 c.1 c.2.1 c.2.2 rfl h
theorem bsp {β : Type} {o : Bool} {N M : β} {r : β} {P : Prop} (h : bt o M N = r) (k1 : o = true → N = r → P) (k2 : o = false → M = r → P) : P := by
  cases o with
  | false => exact k2 rfl h
  | true => exact k1 rfl h
theorem bsp' {β : Type} {o : Bool} {N M : β} {r : β} {P : Prop} (h : bf o M N = r) (k1 : o = false → N = r → P) (k2 : o = true → M = r → P) : P := by
  cases o with
  | false => exact k1 rfl h
  | true => exact k2 rfl h
noncomputable def isNil {α : Type} (l : List α) : Bool := List.rec (motive := fun _ => Bool) true (fun _ _ _ => false) l
theorem isNil_eq {α : Type} {l : List α} (h : isNil l = true) : l = [] := by
  induction l using List.casesOn with
  | nil => rfl
  | cons => exact nof h
/-- two lists, item by item -/
noncomputable def all2 {α β : Type} (f : α → β → Bool) (l : List α) : List β → Bool :=
  List.rec (motive := fun _ => List β → Bool) isNil (fun a _ ih m => List.rec (motive := fun _ => Bool) false (fun b t _ => f a b && ih t) m) l
inductive F2 {α β : Type} (R : α → β → Prop) : List α → List β → Prop
  | nil : F2 R [] []
  | cons {a : α} {b : β} {l : List α} {m : List β} : R a b → F2 R l m → F2 R (a :: l) (b :: m)
theorem all2_F2 {α β : Type} {f : α → β → Bool} {l : List α} {m : List β} (h : all2 f l m = true) : F2 (fun a b => f a b = true) l m := by
  induction l generalizing m with
  | nil => rw [isNil_eq h]; exact .nil
  | cons a l ih =>
    induction m using List.casesOn with
    | nil => exact nof h
    | cons b m => exact .cons (Bool.and_eq_true_iff.mp h).1 (ih (Bool.and_eq_true_iff.mp h).2)
theorem F2.eq {α : Type} {R : α → α → Prop} (hR : ∀ a b, R a b → a = b) {l m : List α} (h : F2 R l m) : l = m := by
  induction h with
  | nil => rfl
  | cons a _ ih => rw [hR _ _ a, ih]
theorem all2_iff {α : Type} {f : α → α → Bool} (hf : ∀ a b, f a b = true ↔ a = b) {l m : List α} : all2 f l m = true ↔ l = m := by
  refine ⟨fun h => (all2_F2 h).eq fun a b => (hf a b).mp, fun h => ?_⟩
  subst h
  induction l with
  | nil => rfl
  | cons a l ih => exact Bool.and_eq_true_iff.mpr ⟨(hf a a).mpr rfl, ih⟩
noncomputable def one {α : Type} (l : List α) : Option α := List.rec (motive := fun _ => Option α) none (fun a r _ => List.rec (motive := fun _ => Option α) (some a) (fun _ _ _ => none) r) l
theorem one_eq {α : Type} {l : List α} {a : α} (h : one l = some a) : l = [a] := by
  induction l using List.casesOn with
  | nil => exact nos h
  | cons b r =>
    induction r using List.casesOn with
    | nil => exact congrArg (fun x => [x]) (Option.some.inj h)
    | cons c r => exact nos h
noncomputable def two {α : Type} (l : List α) : Option (α × α) := List.rec (motive := fun _ => Option (α × α)) none (fun a r _ => om1 (one r) none fun b => some (a, b)) l
theorem two_eq {α : Type} {l : List α} {a b : α} (h : two l = some (a, b)) : l = [a, b] := by
  induction l using List.casesOn with
  | nil => exact nos h
  | cons c r => exact osp1 (o := one r) h (fun d q e => some2 e fun z1 z2 => by rw [one_eq q, z1, z2]) fun _ e => nos e
noncomputable def noneO {α : Type} (o : Option α) : Bool := Option.rec (motive := fun _ => Bool) true (fun _ => false) o
theorem noneO_eq {α : Type} {o : Option α} (h : noneO o = true) : o = none := by
  induction o with
  | none => rfl
  | some => exact nof h
theorem osg1 {α β : Type} {o : Option α} {K : α → β} {N : β} {r : β} (k1 : ∀ c, o = some c → K c = r) (k2 : o = none → N = r) : om1 o N K = r := by
  cases o with
  | none => exact k2 rfl
  | some c => exact k1 c rfl
theorem osg2 {α β γ : Type} {o : Option (α × β)} {K : α → β → γ} {N : γ} {r : γ} (k1 : ∀ a b, o = some (a, b) → K a b = r) (k2 : o = none → N = r) : om2 o N K = r := by
  cases o with
  | none => exact k2 rfl
  | some c => exact k1 c.1 c.2 rfl
theorem bsg {β : Type} {o : Bool} {N M : β} {r : β} (k1 : o = true → N = r) (k2 : o = false → M = r) : bt o M N = r := by
  cases o with
  | false => exact k2 rfl
  | true => exact k1 rfl
end Mine

namespace Mine
open PySem PySem.W PyProof.Rows PySem.Calls PySem.SeqAt

/-! checks taken apart -/
theorem and2 {a b : Bool} (q : (a && b) = true) : a = true ∧ b = true := Bool.and_eq_true_iff.mp q
theorem and3 {a b c : Bool} (q : (a && (b && c)) = true) : a = true ∧ b = true ∧ c = true := let ⟨x, y⟩ := and2 q; ⟨x, and2 y⟩
theorem and4 {a b c d : Bool} (q : (a && (b && (c && d))) = true) : a = true ∧ b = true ∧ c = true ∧ d = true := let ⟨x, y⟩ := and2 q; ⟨x, and3 y⟩
theorem and5 {a b c d e : Bool} (q : (a && (b && (c && (d && e)))) = true) : a = true ∧ b = true ∧ c = true ∧ d = true ∧ e = true := let ⟨x, y⟩ := and2 q; ⟨x, and4 y⟩
theorem and6 {a b c d e f : Bool} (q : (a && (b && (c && (d && (e && f))))) = true) : a = true ∧ b = true ∧ c = true ∧ d = true ∧ e = true ∧ f = true := let ⟨x, y⟩ := and2 q; ⟨x, and5 y⟩
theorem and7 {a b c d e f g : Bool} (q : (a && (b && (c && (d && (e && (f && g)))))) = true) : a = true ∧ b = true ∧ c = true ∧ d = true ∧ e = true ∧ f = true ∧ g = true := let ⟨x, y⟩ := and2 q; ⟨x, and6 y⟩
theorem and8 {a b c d e f g h : Bool} (q : (a && (b && (c && (d && (e && (f && (g && h))))))) = true) : a = true ∧ b = true ∧ c = true ∧ d = true ∧ e = true ∧ f = true ∧ g = true ∧ h = true := let ⟨x, y⟩ := and2 q; ⟨x, and7 y⟩
/-- keys of dicts -/
inductive Key where
  | i (n : Int) | s (x : Str) | b (x : List UInt8)
  deriving DecidableEq

noncomputable def Key.is : Key → Value → Bool
  | .i n, v => Value.isInt n v
  | .s x, v => Value.isStrOf x v
  | .b x, v => isBytes x v
noncomputable def Key.val (k : Key) (t : Tok) : Value := match k with
  | .i n => .int n t
  | .s x => .str x t
  | .b x => .bytes x.toArray t
theorem Key.is_val (k : Key) (t : Tok) : k.is (k.val t) = true := by
  cases k <;> simp [Key.is, Key.val, Value.isInt, Value.isStrOf, isBytes]
theorem Key.shape {k : Key} {v : Value} (h : k.is v = true) : ∃ t, v = k.val t := by
  cases k with
  | i n => exact Value.isInt_shape h
  | s x => exact Value.isStrOf_shape h
  | b x => exact isBytes_shape h
theorem Key.val_inj {k l : Key} {t u : Tok} (h : k.val t = l.val u) : k = l := by
  cases k <;> cases l <;> simp [Key.val] at h ⊢ <;> first | exact h.1 | exact Array.toList_inj.mpr h.1
theorem Key.inj (v : Value) (a b : Key) (ha : a.is v = true) (hb : b.is v = true) : a = b := by
  obtain ⟨t, rfl⟩ := Key.shape ha
  obtain ⟨u, e⟩ := Key.shape hb
  exact Key.val_inj e

noncomputable def Key.hash (w : World) : Key → Int
  | .i n => hashInt n
  | .s x => hashStr w x
  | .b x => hashW w.params (.bytes x)

section
variable {A : Around} {s : Shared}
theorem int_eq_int_bytes (a : Int) (t : Tok) (b : Array UInt8) (u : Tok) : Gives (Builtin.«int.__eq__» ⟨[.int a t, .bytes b u], []⟩) (.val (Value.notImplemented)) :=
  .of_wp fun M A E s Q h => by obtain ⟨hp, g, d, tk, os⟩ := s; wp_walk; exact ⟨_, rfl, h⟩
theorem str_eq_str_bytes (a : Str) (t : Tok) (b : Array UInt8) (u : Tok) : Gives (Builtin.«str.__eq__» ⟨[.str a t, .bytes b u], []⟩) (.val (Value.notImplemented)) :=
  .of_wp fun M A E s Q h => by obtain ⟨hp, g, d, tk, os⟩ := s; wp_walk; exact ⟨_, rfl, h⟩
theorem bytes_eq_int (a : Array UInt8) (t : Tok) (b : Int) (u : Tok) : Gives (Builtin.«bytes.__eq__» ⟨[.bytes a t, .int b u], []⟩) (.val (Value.notImplemented)) := by
  refine .of_wp fun M A E s Q hq => ?_
  show wpAny M A (isInstance (.int b u) (.type "bytes") >>= fun r => _) _ E s
  refine wpAny_bind (wpAny_isInstance (typeIs_int s b u) F.sub_int_bytes ?_)
  show wpAny M A (rule _ >>= fun _ => ret Value.notImplemented) _ E s
  exact wpAny_bind (wpAny_rule (wpAny_pure ⟨_, rfl, hq⟩))
theorem bytes_eq_str (a : Array UInt8) (t : Tok) (b : Str) (u : Tok) : Gives (Builtin.«bytes.__eq__» ⟨[.bytes a t, .str b u], []⟩) (.val (Value.notImplemented)) := by
  refine .of_wp fun M A E s Q hq => ?_
  show wpAny M A (isInstance (.str b u) (.type "bytes") >>= fun r => _) _ E s
  refine wpAny_bind (wpAny_isInstance (typeIs_str s b u) F.sub_str_bytes ?_)
  show wpAny M A (rule _ >>= fun _ => ret Value.notImplemented) _ E s
  exact wpAny_bind (wpAny_rule (wpAny_pure ⟨_, rfl, hq⟩))
theorem slot_bytes_eq_refl : Slot "bytes" (cmpInfo .Eq).2.2 "bytes.__eq__" := FB.slot_bytes_eq
theorem sub_bytes_str' : isSubtype (.type "bytes") (.type "str") = pure false := by rw [isSubtype_type]; kernel_rfl
theorem RcAt_int_bytes (a : Int) (t : Tok) (b : Array UInt8) (u : Tok) : RcAt A s (.int a t) (.bytes b u) false := fun prog w E Q h =>
  rc_eq_decline_or (k := false) (typeIs_int s a t) (typeIs_bytes s b u) (by decide) F.sub_bytes_int F.slot_int_eq slot_bytes_eq_refl
    (fun _ hq => call_gives F.slot_int_eq (typeIs_int s a t) F.entry_int_eq (F.args_int_eq_2 _ _) (int_eq_int_bytes a t b u) hq)
    (fun _ hq => call_gives slot_bytes_eq_refl (typeIs_bytes s b u) FB.entry_bytes_eq (FB.args_bytes_eq_2 _ _) (bytes_eq_int b u a t) hq)
    (fun _ hq => wpAny_of_eq (rfl : isSame (.int a t) (.bytes b u) = pure false) hq) (.inl rfl) h
theorem RcAt_str_bytes (a : Str) (t : Tok) (b : Array UInt8) (u : Tok) : RcAt A s (.str a t) (.bytes b u) false := fun prog w E Q h =>
  rc_eq_decline_or (k := false) (typeIs_str s a t) (typeIs_bytes s b u) (by decide) sub_bytes_str' F.slot_str_eq slot_bytes_eq_refl
    (fun _ hq => call_gives F.slot_str_eq (typeIs_str s a t) F.entry_str_eq (F.args_str_eq_2 _ _) (str_eq_str_bytes a t b u) hq)
    (fun _ hq => call_gives slot_bytes_eq_refl (typeIs_bytes s b u) FB.entry_bytes_eq (FB.args_bytes_eq_2 _ _) (bytes_eq_str b u a t) hq)
    (fun _ hq => wpAny_of_eq (rfl : isSame (.str a t) (.bytes b u) = pure false) hq) (.inl rfl) h
theorem RcAt_bytes_int (a : Array UInt8) (t : Tok) (b : Int) (u : Tok) : RcAt A s (.bytes a t) (.int b u) false := fun prog w E Q h =>
  rc_eq_decline_or (k := false) (typeIs_bytes s a t) (typeIs_int s b u) (by decide) F.sub_int_bytes FB.slot_bytes_eq F.slot_int_eq_refl
    (fun _ hq => call_gives FB.slot_bytes_eq (typeIs_bytes s a t) FB.entry_bytes_eq (FB.args_bytes_eq_2 _ _) (bytes_eq_int a t b u) hq)
    (fun _ hq => call_gives F.slot_int_eq_refl (typeIs_int s b u) F.entry_int_eq (F.args_int_eq_2 _ _) (int_eq_int_bytes b u a t) hq)
    (fun _ hq => wpAny_of_eq (rfl : isSame (.bytes a t) (.int b u) = pure false) hq) (.inl rfl) h
theorem RcAt_bytes_str (a : Array UInt8) (t : Tok) (b : Str) (u : Tok) : RcAt A s (.bytes a t) (.str b u) false := fun prog w E Q h =>
  rc_eq_decline_or (k := false) (typeIs_bytes s a t) (typeIs_str s b u) (by decide) F.sub_str_bytes FB.slot_bytes_eq F.slot_str_eq_refl
    (fun _ hq => call_gives FB.slot_bytes_eq (typeIs_bytes s a t) FB.entry_bytes_eq (FB.args_bytes_eq_2 _ _) (bytes_eq_str a t b u) hq)
    (fun _ hq => call_gives F.slot_str_eq_refl (typeIs_str s b u) F.entry_str_eq (F.args_str_eq_2 _ _) (str_eq_str_bytes b u a t) hq)
    (fun _ hq => wpAny_of_eq (rfl : isSame (.bytes a t) (.str b u) = pure false) hq) (.inl rfl) h
theorem EqAt_of_Rc {a b : Value} {k : Bool} (hne : a ≠ b) (hf : ∀ x t y u, (a, b) ≠ (.float x t, .float y u)) (h : RcAt A s a b k) : EqAt A s a b k := fun prog w E Q hq => by
  unfold eqBool
  refine wpAny_holding ?_
  refine wpAny_ite_split (fun hab => absurd (eq_of_beq hab) hne) (fun _ => ?_)
  split
  · rename_i e; exact absurd e (hf _ _ _ _)
  · exact wpAny_bind (h prog w E _ (wpAny_truthy_bool hq))
theorem EqAt_bytes (a : List UInt8) (t : Tok) (b : List UInt8) (u : Tok) : EqAt A s (.bytes a.toArray t) (.bytes b.toArray u) (decide (a = b)) := fun prog w E Q hq => eqBool_bytes hq
theorem EqAt_keys (a b : Key) (t u : Tok) : EqAt A s (a.val t) (b.val u) (decide (a = b)) := by
  cases a <;> cases b
  · rename_i x y; have := EqAt.int_int (A := A) (s := s) x t y u; rwa [show (x == y) = decide (Key.i x = Key.i y) by rw [Bool.eq_iff_iff]; simp] at this
  · exact EqAt.int_str _ _ _ _
  · exact EqAt_of_Rc (by simp [Key.val]) (by simp [Key.val]) (RcAt_int_bytes _ _ _ _)
  · exact EqAt.str_int _ _ _ _
  · rename_i x y; have := EqAt.str_str (A := A) (s := s) x t y u; rwa [show (x == y) = decide (Key.s x = Key.s y) by rw [Bool.eq_iff_iff]; simp] at this
  · exact EqAt_of_Rc (by simp [Key.val]) (by simp [Key.val]) (RcAt_str_bytes _ _ _ _)
  · exact EqAt_of_Rc (by simp [Key.val]) (by simp [Key.val]) (RcAt_bytes_int _ _ _ _)
  · exact EqAt_of_Rc (by simp [Key.val]) (by simp [Key.val]) (RcAt_bytes_str _ _ _ _)
  · rename_i x y; have := EqAt_bytes (A := A) (s := s) x t y u; rwa [show decide (x = y) = decide (Key.b x = Key.b y) by rw [Bool.eq_iff_iff]; simp] at this
end

noncomputable def knd (prog : Program) (w : World) : KeyKind prog w Key where
  is := Key.is
  hash := Key.hash w
  inj := Key.inj
  byValue k v h := by obtain ⟨t, rfl⟩ := Key.shape h; cases k <;> rfl
  pyHash := fun {A E s k v Q} hv h => by
    cases k with
    | i n => exact (intKind prog w).pyHash hv h
    | s x => exact (strKind prog w).pyHash hv h
    | b x => exact (bytesKind prog w).pyHash hv h
  eqBool := fun {A E s a b u v Q} hu hv h => by
    obtain ⟨t, rfl⟩ := Key.shape hu
    obtain ⟨t', rfl⟩ := Key.shape hv
    exact EqAt_keys a b t t' prog w E Q h
  «strs» := fun k x t v h => by
    cases k with
    | i n => simp [Key.is, Value.isInt] at h
    | s y => exact (strKind prog w).«strs» y x t v h
    | b y => simp [Key.is, isBytes] at h

end Mine

namespace Mine
open PySem PySem.W PyProof.Rows PySem.Calls PySem.SeqAt

/-- plain data: what never turns any more -/
inductive D where
  | none | bool (b : Bool) | int (i : Int) | str (x : Str) | byt (b : List UInt8)
  | tup (l : List D) | lst (l : List D) | dct (l : List (Key × D)) | inst (c : Nat) (l : List (Str × D)) | sym (i : Nat)
  deriving Inhabited

/-- what a name holds: data, a numbered cell, or the shelf (two cells) -/
inductive W where
  | d (x : D) | cell (k : Nat) | shelf (t r : Nat)
  deriving Inhabited

/-- what a numbered cell holds -/
inductive C where
  | lst (l : List D) | dct (l : List (Key × D)) | any | sym (i : Nat) | dead
  deriving Inhabited

structure Pm where
  prog : Program
  w : World
  /-- what the symbols stand for -/
  ds : Nat → D
  cs : Nat → C
  /-- the address of the class Shelf -/
  sh : Nat
  /-- its fields' names -/
  tn : Str
  rn : Str

noncomputable def PlainTup (h : Heap) (a : Addr) (items : Array Value) : Prop := ∃ n, h.get? a = some { cls := .type "tuple", data := .seq items n }

mutual
inductive VRel (p : Pm) (h : Heap) (M : List Addr) : Value → D → Prop
  | none : VRel p h M .none .none
  | bool (b : Bool) : VRel p h M (.bool b) (.bool b)
  | int (i : Int) (t : Tok) : VRel p h M (.int i t) (.int i)
  | str (x : Str) (t : Tok) : VRel p h M (.str x t) (.str x)
  | byt (b : List UInt8) (t : Tok) : VRel p h M (.bytes b.toArray t) (.byt b)
  | tup {a : Addr} {vs : List Value} {ds : List D} : PlainTup h a vs.toArray → a ∉ M → VRels p h M vs ds → VRel p h M (.ref a) (.tup ds)
  | lst {a : Addr} {vs : List Value} {ds : List D} : h.PlainList a vs.toArray → a ∉ M → VRels p h M vs ds → VRel p h M (.ref a) (.lst ds)
  | dct {a : Addr} {kvs : List (Key × Value)} {es : List (Key × D)} : h.DictOf (knd p.prog p.w) a kvs → (a == sysModules) = false → a ∉ M → ERels p h M kvs es → VRel p h M (.ref a) (.dct es)
  | inst {a C dx : Addr} {fes : List DictEntry} {n : Nat} {fs : List (Str × D)} : h.get? a = some (instObj C dx) → h.get? dx = some (dictOf fes n) → a ∉ M → dx ∉ M → FRels p h M fes fs → VRel p h M (.ref a) (.inst C fs)
  | sym {v : Value} (i : Nat) : VRel p h M v (p.ds i) → VRel p h M v (.sym i)
inductive VRels (p : Pm) (h : Heap) (M : List Addr) : List Value → List D → Prop
  | nil : VRels p h M [] []
  | cons {v : Value} {d : D} {vs : List Value} {ds : List D} : VRel p h M v d → VRels p h M vs ds → VRels p h M (v :: vs) (d :: ds)
inductive ERels (p : Pm) (h : Heap) (M : List Addr) : List (Key × Value) → List (Key × D) → Prop
  | nil : ERels p h M [] []
  | cons {k : Key} {v : Value} {d : D} {kvs : List (Key × Value)} {es : List (Key × D)} : VRel p h M v d → ERels p h M kvs es → ERels p h M ((k, v) :: kvs) ((k, d) :: es)
inductive FRels (p : Pm) (h : Heap) (M : List Addr) : List DictEntry → List (Str × D) → Prop
  | nil : FRels p h M [] []
  | cons {f : Str} {t : Tok} {v : Value} {d : D} {hsh : Int} {es : List DictEntry} {fs : List (Str × D)} : VRel p h M v d → FRels p h M es fs → FRels p h M (⟨hsh, .str f t, v⟩ :: es) ((f, d) :: fs)
end

/-- one state grows out of another: what is not in M stays -/
structure Gr (h : Heap) (M : List Addr) (h' : Heap) (M' : List Addr) : Prop where
  keep : ∀ (b : Addr) (o : Obj), b ∉ M → h.get? b = some o → h'.get? b = some o
  mem : ∀ (b : Addr) (o : Obj), b ∉ M → h.get? b = some o → b ∉ M'

section
variable {p : Pm} {h h' : Heap} {M M' : List Addr}
theorem mono_tup (g : Gr h M h' M') {a : Addr} {vs : List Value} {ds : List D} (x : PlainTup h a vs.toArray) (m : a ∉ M) (r : VRels p h' M' vs ds) : VRel p h' M' (.ref a) (.tup ds) := let ⟨n, e⟩ := x; .tup ⟨n, g.keep _ _ m e⟩ (g.mem _ _ m e) r
theorem mono_lst (g : Gr h M h' M') {a : Addr} {vs : List Value} {ds : List D} (x : h.PlainList a vs.toArray) (m : a ∉ M) (r : VRels p h' M' vs ds) : VRel p h' M' (.ref a) (.lst ds) := let ⟨n, e⟩ := x; .lst ⟨n, g.keep _ _ m e⟩ (g.mem _ _ m e) r
theorem mono_dct (g : Gr h M h' M') {a : Addr} {kvs : List (Key × Value)} {es : List (Key × D)} (x : h.DictOf (knd p.prog p.w) a kvs) (y : (a == sysModules) = false) (m : a ∉ M) (r : ERels p h' M' kvs es) : VRel p h' M' (.ref a) (.dct es) := let ⟨o, es, ep, e, x⟩ := x; .dct ⟨o, es, ep, g.keep _ _ m e, x⟩ y (g.mem _ _ m e) r
theorem mono_inst (g : Gr h M h' M') {a C dx : Addr} {fes : List DictEntry} {n : Nat} {fs : List (Str × D)} (e1 : h.get? a = some (instObj C dx)) (e2 : h.get? dx = some (dictOf fes n)) (m1 : a ∉ M) (m2 : dx ∉ M) (r : FRels p h' M' fes fs) : VRel p h' M' (.ref a) (.inst C fs) := .inst (g.keep _ _ m1 e1) (g.keep _ _ m2 e2) (g.mem _ _ m1 e1) (g.mem _ _ m2 e2) r
theorem VRel.mono (g : Gr h M h' M') {v : Value} {d : D} (r : VRel p h M v d) : VRel p h' M' v d :=
  VRel.rec (motive_1 := fun v d _ => VRel p h' M' v d) (motive_2 := fun v d _ => VRels p h' M' v d) (motive_3 := fun v d _ => ERels p h' M' v d) (motive_4 := fun v d _ => FRels p h' M' v d)
    .none .bool .int .str .byt (fun x m _ ih => mono_tup g x m ih) (fun x m _ ih => mono_lst g x m ih) (fun x y m _ ih => mono_dct g x y m ih) (fun e1 e2 m1 m2 _ ih => mono_inst g e1 e2 m1 m2 ih) (fun i _ ih => .sym i ih) .nil (fun _ _ a b => .cons a b) .nil (fun _ _ a b => .cons a b) .nil (fun _ _ a b => .cons a b) r
theorem VRels.mono (g : Gr h M h' M') {v : List Value} {d : List D} (r : VRels p h M v d) : VRels p h' M' v d :=
  VRels.rec (motive_1 := fun v d _ => VRel p h' M' v d) (motive_2 := fun v d _ => VRels p h' M' v d) (motive_3 := fun v d _ => ERels p h' M' v d) (motive_4 := fun v d _ => FRels p h' M' v d)
    .none .bool .int .str .byt (fun x m _ ih => mono_tup g x m ih) (fun x m _ ih => mono_lst g x m ih) (fun x y m _ ih => mono_dct g x y m ih) (fun e1 e2 m1 m2 _ ih => mono_inst g e1 e2 m1 m2 ih) (fun i _ ih => .sym i ih) .nil (fun _ _ a b => .cons a b) .nil (fun _ _ a b => .cons a b) .nil (fun _ _ a b => .cons a b) r
theorem ERels.mono (g : Gr h M h' M') {v : List (Key × Value)} {d : List (Key × D)} (r : ERels p h M v d) : ERels p h' M' v d :=
  ERels.rec (motive_1 := fun v d _ => VRel p h' M' v d) (motive_2 := fun v d _ => VRels p h' M' v d) (motive_3 := fun v d _ => ERels p h' M' v d) (motive_4 := fun v d _ => FRels p h' M' v d)
    .none .bool .int .str .byt (fun x m _ ih => mono_tup g x m ih) (fun x m _ ih => mono_lst g x m ih) (fun x y m _ ih => mono_dct g x y m ih) (fun e1 e2 m1 m2 _ ih => mono_inst g e1 e2 m1 m2 ih) (fun i _ ih => .sym i ih) .nil (fun _ _ a b => .cons a b) .nil (fun _ _ a b => .cons a b) .nil (fun _ _ a b => .cons a b) r
theorem FRels.mono (g : Gr h M h' M') {v : List DictEntry} {d : List (Str × D)} (r : FRels p h M v d) : FRels p h' M' v d :=
  FRels.rec (motive_1 := fun v d _ => VRel p h' M' v d) (motive_2 := fun v d _ => VRels p h' M' v d) (motive_3 := fun v d _ => ERels p h' M' v d) (motive_4 := fun v d _ => FRels p h' M' v d)
    .none .bool .int .str .byt (fun x m _ ih => mono_tup g x m ih) (fun x m _ ih => mono_lst g x m ih) (fun x y m _ ih => mono_dct g x y m ih) (fun e1 e2 m1 m2 _ ih => mono_inst g e1 e2 m1 m2 ih) (fun i _ ih => .sym i ih) .nil (fun _ _ a b => .cons a b) .nil (fun _ _ a b => .cons a b) .nil (fun _ _ a b => .cons a b) r
end

inductive CRel (p : Pm) (h : Heap) (M : List Addr) (a : Addr) : C → Prop
  | lst {vs : List Value} {ds : List D} : h.PlainList a vs.toArray → VRels p h M vs ds → CRel p h M a (.lst ds)
  | dct {kvs : List (Key × Value)} {es : List (Key × D)} : h.DictOf (knd p.prog p.w) a kvs → (a == sysModules) = false → ERels p h M kvs es → CRel p h M a (.dct es)
  | any : CRel p h M a .any
  | sym (i : Nat) : CRel p h M a (p.cs i) → CRel p h M a (.sym i)

/-- a value that stands for w. a cell: if it lives, its object; the shelf: its two cells' objects -/
inductive WRel (p : Pm) (h : Heap) (M : List Addr) (φ : List (Option Addr)) : Value → W → Prop
  | d {v : Value} {x : D} : VRel p h M v x → WRel p h M φ v (.d x)
  | cell {v : Value} {k : Nat} : k < φ.length → (∀ a, φ[k]? = some (some a) → v = .ref a) → WRel p h M φ v (.cell k)
  | shelf {s dx : Addr} {ht hr : Int} {u1 u2 : Tok} {a1 a2 : Addr} {n : Nat} {t r : Nat} : h.get? s = some (instObj p.sh dx) → h.get? dx = some (dictOf [⟨ht, .str p.tn u1, .ref a1⟩, ⟨hr, .str p.rn u2, .ref a2⟩] n) → s ∉ M → dx ∉ M →
      t < φ.length → (∀ a, φ[t]? = some (some a) → a1 = a) → r < φ.length → (∀ a, φ[r]? = some (some a) → a2 = a) → WRel p h M φ (.ref s) (.shelf t r)

/-- there is an object -/
noncomputable abbrev Df (h : Heap) (a : Addr) : Prop := ∃ o, h.get? a = some o

/-- the state: the base stands, the cells lie at φ, all that may turn lies in M -/
structure St (p : Pm) (B : Heap) (h : Heap) (M : List Addr) (φ : List (Option Addr)) (σ : List C) : Prop where
  base : ∀ (b : Addr) (o : Obj), B.get? b = some o → h.get? b = some o
  low : ∀ a ∈ M, Df h a ∧ B.get? a = none
  sub : ∀ a, some a ∈ φ → a ∈ M
  nd : ∀ (i j : Nat) (a : Addr), φ[i]? = some (some a) → φ[j]? = some (some a) → i = j
  len : φ.length = σ.length
  dead : ∀ k : Nat, φ[k]? = some none ↔ σ[k]? = some .dead
  cells : ∀ (k : Nat) (a : Addr) (c : C), φ[k]? = some (some a) → σ[k]? = some c → CRel p h M a c

/-- a step: all but X and the cells stays; a cell may die, new ones come behind -/
structure Mv (X : List Addr) (h : Heap) (M : List Addr) (φ : List (Option Addr)) (h' : Heap) (M' : List Addr) (φ' : List (Option Addr)) : Prop where
  keep : ∀ (b : Addr) (o : Obj), b ∉ X → some b ∉ φ → h.get? b = some o → h'.get? b = some o
  sub : ∀ b ∈ M, b ∈ M' ∨ some b ∈ φ
  fresh : ∀ b ∈ M', b ∉ M → h.get? b = none
  phi : ∀ (k : Nat) (a : Addr), k < φ.length → φ'[k]? = some (some a) → φ[k]? = some (some a)
  len : φ.length ≤ φ'.length
  news : ∀ b, some b ∈ φ' → some b ∉ φ → h.get? b = none
  defd : ∀ b, Df h b → Df h' b

section
variable {p : Pm} {B h h' h'' : Heap} {M M' M'' X Y : List Addr} {φ φ' φ'' : List (Option Addr)} {σ σ' : List C}

theorem get_lt {b : Addr} {o : Obj} (e : h.get? b = some o) (n : h.get? b = none) : False := by rw [e] at n; cases n
theorem Df.no {b : Addr} (d : Df h b) (n : h.get? b = none) : False := get_lt d.choose_spec n
theorem df_none {b : Addr} (d : Df h b → Df h' b) (n : h'.get? b = none) : h.get? b = none := by
  cases q : h.get? b with
  | none => rfl
  | some o => exact ((d ⟨o, q⟩).no n).elim
theorem none_ge {b : Addr} (l : h.objs.size ≤ b) : h.get? b = none := by
  cases q : h.get? b with
  | none => rfl
  | some o => exact absurd (Heap.lt_size q) (Nat.not_lt.mpr l)
theorem Mv.refl : Mv X h M φ h M φ := ⟨fun _ _ _ _ e => e, fun _ e => .inl e, fun _ a b => absurd a b, fun _ _ _ e => e, Nat.le_refl _, fun _ a b => absurd a b, fun _ e => e⟩
theorem Mv.mono (x : Mv X h M φ h' M' φ') (hs : ∀ a ∈ X, a ∈ Y) : Mv Y h M φ h' M' φ' := { x with keep := fun b o h1 h2 e => x.keep b o (fun m => h1 (hs _ m)) h2 e }
theorem Mv.trans (S : St p B h M φ σ) (x : Mv X h M φ h' M' φ') (y : Mv X h' M' φ' h'' M'' φ'') : Mv X h M φ h'' M'' φ'' where
  keep b o h1 h2 e := y.keep b o h1 (fun m => get_lt e (x.news b m h2)) (x.keep b o h1 h2 e)
  sub b m := by
    rcases x.sub b m with q | q
    · rcases y.sub b q with z | z
      · exact .inl z
      · by_cases k : some b ∈ φ
        · exact .inr k
        · exact ((S.low b m).1.no (x.news b z k)).elim
    · exact .inr q
  fresh b m n := by
    by_cases q : b ∈ M'
    · exact x.fresh b q n
    · exact df_none (x.defd b) (y.fresh b m q)
  phi k a l e := x.phi k a l (y.phi k a (Nat.lt_of_lt_of_le l x.len) e)
  len := Nat.le_trans x.len y.len
  news b m n := by
    by_cases q : some b ∈ φ'
    · exact x.news b q n
    · exact df_none (x.defd b) (y.news b m q)
  defd b e := y.defd b (x.defd b e)
theorem Mv.gr (x : Mv X h M φ h' M' φ') (hX : ∀ a ∈ X, a ∈ M) (hφ : ∀ a, some a ∈ φ → a ∈ M) : Gr h M h' M' where
  keep b o n e := x.keep b o (fun m => n (hX b m)) (fun m => n (hφ b m)) e
  mem b o n e := fun m => get_lt e (x.fresh b m n)
/-- nothing but growth: a new object, or none -/
theorem Mv.grow (k : ∀ (b : Addr) (o : Obj), h.get? b = some o → h'.get? b = some o) : Mv X h M φ h' M φ :=
  ⟨fun b o _ _ e => k b o e, fun _ e => .inl e, fun _ a b => absurd a b, fun _ _ _ e => e, Nat.le_refl _, fun _ a b => absurd a b, fun b ⟨o, e⟩ => ⟨o, k b o e⟩⟩
theorem Mv.push (o : Obj) : Mv X h M φ (h.push o) M φ := .grow (fun _ _ e => Heap.get?_push_of_some o e)
theorem Gr.grow (k : ∀ (b : Addr) (o : Obj), h.get? b = some o → h'.get? b = some o) : Gr h M h' M := ⟨fun b o _ e => k b o e, fun _ _ n _ => n⟩
theorem Gr.less (k : ∀ b ∈ M', b ∈ M) : Gr h M h M' := ⟨fun b o _ e => e, fun _ _ n _ m => n (k _ m)⟩

theorem CRel.mono (g : Gr h M h' M') {a : Addr} {c : C} (ha : ∀ o, h.get? a = some o → h'.get? a = some o) (x : CRel p h M a c) : CRel p h' M' a c := by
  induction x with
  | lst e r => obtain ⟨n, e⟩ := e; exact .lst ⟨n, ha _ e⟩ (VRels.mono g r)
  | dct e y r => obtain ⟨o, es, ep, e, x⟩ := e; exact .dct ⟨o, es, ep, ha _ e, x⟩ y (ERels.mono g r)
  | any => exact .any
  | sym i _ ih => exact .sym i ih
theorem WRel.mono (g : Gr h M h' M') (hl : φ.length ≤ φ'.length) (hp : ∀ (k : Nat) (a : Addr), k < φ.length → φ'[k]? = some (some a) → φ[k]? = some (some a)) {v : Value} {w : W} (x : WRel p h M φ v w) : WRel p h' M' φ' v w := by
  cases x with
  | d x => exact .d (x.mono g)
  | cell l e => exact .cell (Nat.lt_of_lt_of_le l hl) fun a z => e a (hp _ a l z)
  | shelf e1 e2 m1 m2 l1 f1 l2 f2 => exact .shelf (g.keep _ _ m1 e1) (g.keep _ _ m2 e2) (g.mem _ _ m1 e1) (g.mem _ _ m2 e2) (Nat.lt_of_lt_of_le l1 hl) (fun a z => f1 a (hp _ a l1 z)) (Nat.lt_of_lt_of_le l2 hl) (fun a z => f2 a (hp _ a l2 z))
theorem St.grow (S : St p B h M φ σ) (k : ∀ (b : Addr) (o : Obj), h.get? b = some o → h'.get? b = some o) : St p B h' M φ σ where
  base b o e := k b o (S.base b o e)
  low a m := ⟨let ⟨o, e⟩ := (S.low a m).1; ⟨o, k a o e⟩, (S.low a m).2⟩
  sub := S.sub
  nd := S.nd
  len := S.len
  dead := S.dead
  cells k' a c e1 e2 := (S.cells k' a c e1 e2).mono (.grow k) (fun o e => k a o e)
theorem St.push (S : St p B h M φ σ) (o : Obj) : St p B (h.push o) M φ σ := S.grow (fun _ _ e => Heap.get?_push_of_some o e)
theorem St.notM (S : St p B h M φ σ) : h.objs.size ∉ M := fun m => (S.low _ m).1.no (none_ge (Nat.le_refl _))
theorem St.base_notM (S : St p B h M φ σ) {b : Addr} {o : Obj} (e : B.get? b = some o) : b ∉ M := fun m => by rw [(S.low _ m).2] at e; cases e
theorem VRel.step {v : Value} {d : D} (S : St p B h M φ σ) (m : Mv [] h M φ h' M' φ') (x : VRel p h M v d) : VRel p h' M' v d := x.mono (m.gr (by simp) S.sub)
theorem VRels.step {v : List Value} {d : List D} (S : St p B h M φ σ) (m : Mv [] h M φ h' M' φ') (x : VRels p h M v d) : VRels p h' M' v d := x.mono (m.gr (by simp) S.sub)
theorem WRel.step {v : Value} {d : W} (S : St p B h M φ σ) (m : Mv [] h M φ h' M' φ') (x : WRel p h M φ v d) : WRel p h' M' φ' v d := x.mono (m.gr (by simp) S.sub) m.len m.phi
inductive WRels (p : Pm) (h : Heap) (M : List Addr) (φ : List (Option Addr)) : List Value → List W → Prop
  | nil : WRels p h M φ [] []
  | cons {v : Value} {d : W} {vs : List Value} {ds : List W} : WRel p h M φ v d → WRels p h M φ vs ds → WRels p h M φ (v :: vs) (d :: ds)
theorem WRels.step {v : List Value} {d : List W} (S : St p B h M φ σ) (m : Mv [] h M φ h' M' φ') (x : WRels p h M φ v d) : WRels p h' M' φ' v d := by
  induction x with
  | nil => exact .nil
  | cons a _ ih => exact .cons (a.step S m) ih
end
end Mine

namespace Mine
open PySem PySem.W PyProof.Rows PySem.Calls PySem.SeqAt

/-- what is known of the base -/
structure Bs (K : Frag) (mg mb : Str → Option Value) (B : Heap) : Prop where
  K : K.In B
  g : B.Ns mainGlobals mg
  b : B.Ns builtinsNs mb
  nolimit : B.NoLimit
  nodigits : ∃ mc, B.Ns cStatics mc ∧ mc "sys.int_max_str_digits" = none
  builtins : ∀ x : Str, x ≠ "__name__" → mb x = bootBuiltins x

/-- enough room for n steps down -/
structure AOk (A : Around) (n : Nat) : Prop where
  handled : A.handled = none
  depth : A.depth + 3 * n < recursionLimit
  units : A.units + 20 * n + 100 < cLine

section
variable {A : Around} {n m : Nat}
theorem AOk.le (a : AOk A n) (h : m ≤ n) : AOk A m := ⟨a.handled, by have := a.depth; omega, by have := a.units; omega⟩
theorem AOk.d (a : AOk A n) : A.depth < recursionLimit := by have := a.depth; omega
theorem AOk.deeper {env : Env} (a : AOk A (n + 1)) : AOk (A.deeper env) n := ⟨a.handled, by have := a.depth; show A.depth + 1 + _ < _; omega, by have := a.units; show A.units + 3 + _ + _ < _; omega⟩
end

inductive Has (env : Env) (h : Heap) (x : Str) (v : Value) : Prop
  | loc {m : Str → Option Value} : env.kindOf x = some .local → h.Ns env.locals m → m x = some v → Has env h x v
  | cell {c : Addr} : env.kindOf x = some .cell → env.cells.lookup x = some c → h.IsCell c (some v) → Has env h x v

/-- a frame: its names' object and its cells lie in M, are no numbered cells -/
structure Fr' (env : Env) (own : Bool) (h : Heap) (M : List Addr) (φ : List (Option Addr)) (FA : List Addr) : Prop where
  kind : env.scope.kind = .function
  glob : env.globals = mainGlobals
  bi : env.builtins = builtinsNs
  ns : ∃ m, h.Ns env.locals m
  L : env.locals ∈ FA
  fa : ∀ a ∈ FA, a ∈ M ∧ some a ∉ φ
  cells : ∀ x c, env.cells.lookup x = some c → (c ∈ M ∧ some c ∉ φ) ∧ c ≠ env.locals ∧ ∃ v, h.IsCell c v
  apart : ∀ x y c, env.cells.lookup x = some c → env.cells.lookup y = some c → x = y
  own : own = true → ∀ x c, env.cells.lookup x = some c → c ∈ FA

noncomputable def LRel (p : Pm) (env : Env) (h : Heap) (M : List Addr) (φ : List (Option Addr)) (names : List Str) (ρ : List (Option W)) : Prop :=
  ∀ (i : Nat) (d : W), ρ[i]? = some (some d) → ∃ x v, names[i]? = some x ∧ Has env h x v ∧ WRel p h M φ v d

section
variable {p : Pm} {B h h' : Heap} {M M' FA : List Addr} {φ φ' : List (Option Addr)} {σ σ' : List C} {env : Env} {own : Bool} {names : List Str} {ρ : List (Option W)}
theorem Has.keeps {x : Str} {v : Value} (H : Has env h x v) (k1 : ∀ o, h.get? env.locals = some o → h'.get? env.locals = some o)
    (k2 : ∀ c, env.cells.lookup x = some c → ∀ o, h.get? c = some o → h'.get? c = some o) : Has env h' x v := by
  cases H with
  | loc a b c => exact .loc a (b.at' k1) c
  | cell a b c => obtain ⟨o, e, d⟩ := c; exact .cell a b ⟨o, k2 _ b _ e, d⟩
theorem Fr'.step (S : St p B h M φ σ) (F : Fr' env own h M φ FA) (m : Mv [] h M φ h' M' φ') : Fr' env own h' M' φ' FA where
  kind := F.kind
  glob := F.glob
  bi := F.bi
  ns := let ⟨q, x⟩ := F.ns; ⟨q, x.at' fun o e => m.keep _ o (by simp) (F.fa _ F.L).2 e⟩
  L := F.L
  fa a ha := ⟨(m.sub _ (F.fa a ha).1).resolve_right (F.fa a ha).2, fun k => (S.low a (F.fa a ha).1).1.no (m.news a k (F.fa a ha).2)⟩
  cells x c e := by
    obtain ⟨⟨a1, a2⟩, b, v, o, ho, hd⟩ := F.cells x c e
    exact ⟨⟨(m.sub _ a1).resolve_right a2, fun k => (S.low c a1).1.no (m.news c k a2)⟩, b, v, o, m.keep _ o (by simp) a2 ho, hd⟩
  apart := F.apart
  own := F.own
theorem Has.step {x : Str} {v : Value} (F : Fr' env own h M φ FA) (m : Mv [] h M φ h' M' φ') (H : Has env h x v) : Has env h' x v :=
  H.keeps (fun o e => m.keep _ o (by simp) (F.fa _ F.L).2 e) fun c hc o e => m.keep _ o (by simp) (F.cells x c hc).1.2 e
theorem LRel.step (F : Fr' env own h M φ FA) (S : St p B h M φ σ) (m : Mv [] h M φ h' M' φ') (R : LRel p env h M φ names ρ) : LRel p env h' M' φ' names ρ := fun i d e => by
  obtain ⟨x, v, a, b, c⟩ := R i d e
  exact ⟨x, v, a, b.step F m, c.step S m⟩

/-- all of a frame's state -/
structure FS (p : Pm) (B : Heap) (env : Env) (own : Bool) (FA : List Addr) (names : List Str) (h : Heap) (M : List Addr) (φ : List (Option Addr)) (σ : List C) (ρ : List (Option W)) : Prop where
  S : St p B h M φ σ
  F : Fr' env own h M φ FA
  L : LRel p env h M φ names ρ
theorem FS.step (X : FS p B env own FA names h M φ σ ρ) (S : St p B h' M' φ' σ') (m : Mv [] h M φ h' M' φ') : FS p B env own FA names h' M' φ' σ' ρ :=
  ⟨S, X.F.step X.S m, X.L.step X.F X.S m⟩
end

section
variable {p : Pm} {A : Around} {E : Value → Shared → Prop} {s : Shared} {B : Heap} {M FA : List Addr} {φ : List (Option Addr)} {σ : List C} {env : Env} {own : Bool} {names : List Str} {ρ : List (Option W)}
theorem load_has {x : Str} {pos : Pos} {v : Value} {Q : Value → Shared → Prop} (F : Fr' env own s.heap M φ FA) (H : Has env s.heap x v) (h : Q v s)
    (hd : (x == ("__debug__" : Str)) = false) : wpAny (model p.prog p.w) A (eval (.Name x pos) env) Q E s := by
  cases H with
  | loc a b c => exact wpAny_Name (wpAny_loadName_local F.kind a b c h) hd
  | cell a b c => exact wpAny_Name (wpAny_loadName_cell F.kind a b c h) hd
theorem load_global {K : Frag} {mg mb : Str → Option Value} {x : Str} {pos : Pos} {v : Value} {Q : Value → Shared → Prop} (Y : Bs K mg mb B) (F : Fr' env own s.heap M φ FA)
    (S : ∀ (b : Addr) (o : Obj), B.get? b = some o → s.heap.get? b = some o) (hx : env.kindOf x = some .globalImplicit)
    (e : nsIn K mainGlobals x = some (some v)) (h : Q v s) (hd : (x == ("__debug__" : Str)) = false) : wpAny (model p.prog p.w) A (eval (.Name x pos) env) Q E s :=
  Name_function_global F.kind hx (loadGlobal_global (by rw [F.glob]; exact Y.g.keeps S) (mg_of Y.K Y.g e) h) hd
theorem load_builtin {K : Frag} {mg mb : Str → Option Value} {x : Str} {pos : Pos} {v : Value} {Q : Value → Shared → Prop} (Y : Bs K mg mb B) (F : Fr' env own s.heap M φ FA)
    (S : ∀ (b : Addr) (o : Obj), B.get? b = some o → s.heap.get? b = some o) (hx : env.kindOf x = some .globalImplicit)
    (e : nsIn K mainGlobals x = some none) (hv : bootBuiltins x = some v) (hn : x ≠ "__name__") (h : Q v s) (hd : (x == ("__debug__" : Str)) = false) : wpAny (model p.prog p.w) A (eval (.Name x pos) env) Q E s :=
  Name_function_global F.kind hx (loadGlobal_builtin (by rw [F.glob]; exact Y.g.keeps S) (mg_none_of Y.K Y.g e) (by rw [F.bi]; exact Y.b.keeps S) ((Y.builtins x hn).trans hv) h) hd

/-- a name is stored -/
theorem store_name {x : Str} {i : Nat} {v : Value} {d : W} {Q : Unit → Shared → Prop} (X : FS p B env own FA names s.heap M φ σ ρ) (hi : names[i]? = some x) (hnd : ∀ j, names[j]? = some x → j = i)
    (V : WRel p s.heap M φ v d) (hk : env.kindOf x = some .local ∨ (env.kindOf x = some .cell ∧ own = true ∧ (env.cells.lookup x).isSome = true))
    (h : ∀ h' tk, FS p B env own FA names h' M φ σ (ρ.set i (some d)) → Mv FA s.heap M φ h' M φ → Q () { s with heap := h', toks := tk }) :
    wpAny (model p.prog p.w) A (bindName env x v) Q E s := by
  refine wpAny_bindName ?_
  have hcl : (env.scope.kind == .class || (env.scope.kind == .module && env.locals != env.globals)) = false := by rw [X.F.kind]; rfl
  have key : ∀ (a : Addr) (h' : Heap), Df h' a → a ∈ FA → Heap.SameBut a s.heap h' → (∃ m, h'.Ns env.locals m) → (∀ y c, env.cells.lookup y = some c → ∃ v, h'.IsCell c v) → Has env h' x v →
      (∀ y u, y ≠ x → Has env s.heap y u → Has env h' y u) → FS p B env own FA names h' M φ σ (ρ.set i (some d)) ∧ Mv FA s.heap M φ h' M φ := by
    intro a h' hda ha hs hns hce hx hy
    have hdf : ∀ b, Df s.heap b → Df h' b := fun b ⟨o, e⟩ => by
      by_cases q : b = a
      · exact q ▸ hda
      · exact ⟨o, (hs.2 b q).trans e⟩
    have haM := X.F.fa a ha
    have mv : Mv FA s.heap M φ h' M φ := ⟨fun b o n1 n2 e => (hs.2 b (fun q => n1 (q ▸ ha))).trans e, fun _ e => .inl e, fun _ a b => absurd a b, fun _ _ _ e => e, Nat.le_refl _, fun _ a b => absurd a b, hdf⟩
    have gr : Gr s.heap M h' M := mv.gr (fun q hq => (X.F.fa q hq).1) X.S.sub
    refine ⟨⟨⟨fun b o e => (hs.2 b (fun q => X.S.base_notM e (q ▸ haM.1))).trans (X.S.base b o e), fun q hq => ⟨hdf q (X.S.low q hq).1, (X.S.low q hq).2⟩, X.S.sub, X.S.nd, X.S.len, X.S.dead,
      fun k q c e1 e2 => (X.S.cells k q c e1 e2).mono gr fun o e => (hs.2 q (fun z => haM.2 (z ▸ List.mem_of_getElem? e1))).trans e⟩,
      ⟨X.F.kind, X.F.glob, X.F.bi, hns, X.F.L, X.F.fa, fun y c e => ⟨(X.F.cells y c e).1, (X.F.cells y c e).2.1, hce y c e⟩, X.F.apart, X.F.own⟩, fun j d' e => ?_⟩, mv⟩
    by_cases hj : j = i
    · subst hj
      rw [List.getElem?_set_self' ] at e
      cases q : ρ[j]? with
      | none => rw [q] at e; cases e
      | some z => rw [q] at e; cases e; exact ⟨x, v, hi, hx, V.mono gr (Nat.le_refl _) (fun _ _ _ e => e)⟩
    · rw [List.getElem?_set_ne (Ne.symm hj)] at e
      obtain ⟨y, u, a1, a2, a3⟩ := X.L j d' e
      exact ⟨y, u, a1, hy y u (fun q => hj (hnd j (q ▸ a1))) a2, a3.mono gr (Nat.le_refl _) (fun _ _ _ e => e)⟩
  rcases hk with hk | ⟨hk, ho, hc⟩
  · obtain ⟨m, hm⟩ := X.F.ns
    refine wpAny_storeName_local hk hm (fun h' hn hs => ?_) hcl
    have := key env.locals h' (let ⟨o, _, _, e, _⟩ := hn; ⟨o, e⟩) X.F.L hs ⟨_, hn⟩ (fun y c e => let ⟨_, b, v, x⟩ := X.F.cells y c e; ⟨v, x.sameBut hs b⟩) (.loc hk hn (by simp)) (fun y u ne H => by
      cases H with
      | @loc m' a b c =>
        refine .loc a hn ?_
        rw [if_neg ne]
        obtain ⟨o, es, ep, g1, g2, g3, g4⟩ := b
        obtain ⟨o', es', ep', g1', g2', g3', g4'⟩ := hm
        rw [g1] at g1'; cases g1'; rw [g2] at g2'; cases g2'
        rw [← g4', g4, c]
      | cell a b c => exact .cell a b (c.sameBut hs (X.F.cells _ _ b).2.1))
    exact h h' _ this.1 this.2
  · obtain ⟨c, hc⟩ := Option.isSome_iff_exists.mp hc
    obtain ⟨hcM, hcL, v0, hv0⟩ := X.F.cells x c hc
    refine wpAny_storeName_cell X.F.kind hk hc hv0 fun h' hv hs => ?_
    obtain ⟨m, hm⟩ := X.F.ns
    have := key c h' (let ⟨o, e, _⟩ := hv; ⟨o, e⟩) (X.F.own ho x c hc) hs ⟨m, hm.sameBut hs (Ne.symm hcL)⟩ (fun y c' e => by
      by_cases q : c' = c
      · subst q; exact ⟨_, hv⟩
      · obtain ⟨_, _, v, x⟩ := X.F.cells y c' e; exact ⟨v, x.sameBut hs q⟩) (.cell hk hc hv) (fun y u ne H => by
      cases H with
      | loc a b c' => exact .loc a (b.sameBut hs (Ne.symm hcL)) c'
      | cell a b c' => exact .cell a b (c'.sameBut hs (fun q => ne (X.F.apart y x c (q ▸ b) hc))))
    exact h h' _ this.1 this.2
end
end Mine

namespace Mine
open PySem PySem.W PyProof.Rows PySem.Calls PySem.SeqAt

/-- t, run in the state, ends (it does not raise) in a state that grew, with σ' in the cells and R of what it gives -/
noncomputable def Run (p : Pm) (B : Heap) (A : Around) {α : Type} (t : Sem α) (h : Heap) (M : List Addr) (φ : List (Option Addr)) (σ' : List C) (R : α → Heap → List Addr → List (Option Addr) → Prop) : Prop :=
  ∀ (s : Shared) (Q : α → Shared → Prop) (E : Value → Shared → Prop), s.heap = h →
    (∀ a h' tk M' φ', St p B h' M' φ' σ' → Mv [] h M φ h' M' φ' → R a h' M' φ' → Q a { s with heap := h', toks := tk }) → wpAny (model p.prog p.w) A t Q E s

section
variable {p : Pm} {B : Heap} {A : Around} {α β : Type} {h : Heap} {M : List Addr} {φ : List (Option Addr)} {σ σ₁ σ₂ : List C} {R R₁ : α → Heap → List Addr → List (Option Addr) → Prop} {R₂ : β → Heap → List Addr → List (Option Addr) → Prop}
theorem Run.pure (S : St p B h M φ σ) {a : α} (r : R a h M φ) : Run p B A (Pure.pure a : Sem α) h M φ σ R := fun s Q E e k => by
  subst e; exact wpAny_pure (k a s.heap s.toks M φ S Mv.refl r)
theorem Run.bind {t : Sem α} {f : α → Sem β} (S : St p B h M φ σ) (x : Run p B A t h M φ σ₁ R₁)
    (y : ∀ a h₁ M₁ φ₁, St p B h₁ M₁ φ₁ σ₁ → Mv [] h M φ h₁ M₁ φ₁ → R₁ a h₁ M₁ φ₁ → Run p B A (f a) h₁ M₁ φ₁ σ₂ R₂) : Run p B A (t >>= f) h M φ σ₂ R₂ := fun s Q E e k =>
  wpAny_bind (x s _ E e fun a h₁ tk M₁ φ₁ S₁ m₁ r₁ => y a h₁ M₁ φ₁ S₁ m₁ r₁ _ Q E rfl fun b h₂ tk₂ M₂ φ₂ S₂ m₂ r₂ => k b h₂ tk₂ M₂ φ₂ S₂ (m₁.trans S m₂) r₂)
theorem Run.mono {t : Sem α} (x : Run p B A t h M φ σ₁ R₁) (hR : ∀ a h' M' φ', St p B h' M' φ' σ₁ → Mv [] h M φ h' M' φ' → R₁ a h' M' φ' → R a h' M' φ') : Run p B A t h M φ σ₁ R := fun s Q E e k =>
  x s Q E e fun a h' tk M' φ' S m r => k a h' tk M' φ' S m (hR a h' M' φ' S m r)
theorem Run.holding {vs : List Value} {t : Sem α} (x : Run p B A t h M φ σ₁ R) : Run p B A (holding vs t) h M φ σ₁ R := fun s Q E e k => wpAny_holding (x s Q E e k)
theorem Run.standAt {pos : Pos} {f : Unit → Sem α} (x : Run p B A (f ()) h M φ σ₁ R) : Run p B A (standAt pos >>= f) h M φ σ₁ R := fun s Q E e k => wpAny_bind (wpAny_standAt (x s Q E e k))
theorem Run.of_eq {t u : Sem α} (e : t = u) (x : Run p B A u h M φ σ₁ R) : Run p B A t h M φ σ₁ R := e ▸ x
theorem Run.operate {vs : List Value} {t : Sem Value} {R : Value → Heap → List Addr → List (Option Addr) → Prop} (S : St p B h M φ σ) (x : Run p B A t h M φ σ₁ R) : Run p B A (operate vs t) h M φ σ₁ R := by
  unfold PySem.operate
  refine Run.bind S (Run.holding x) fun a h₁ M₁ φ₁ S₁ m₁ r₁ => ?_
  exact fun s Q E e k => wpAny_bind (fun Γ q hΓ => by rw [Sem.wp_release]; exact (Run.pure (A := A) S₁ r₁ s Q E e k))
end

/-- a value that stands for d -/
noncomputable abbrev V (p : Pm) (d : D) : Value → Heap → List Addr → List (Option Addr) → Prop := fun v h M φ => VRel p h M v d
/-- a value that stands for w -/
noncomputable abbrev U (p : Pm) (w : W) : Value → Heap → List Addr → List (Option Addr) → Prop := fun v h M φ => WRel p h M φ v w

section
variable {p : Pm} {B : Heap} {A : Around} {h : Heap} {M : List Addr} {φ : List (Option Addr)} {σ : List C}
theorem run_tuple (S : St p B h M φ σ) {vs : List Value} {ds : List D} (r : VRels p h M vs ds) (hz : vs.length ≤ sizeLine) : Run p B A (newTuple vs) h M φ σ (V p (.tup ds)) := fun s Q E e k => by
  subst e
  refine wpAny_newObj_type ?_ (by show vs.toArray.size ≤ sizeLine; rw [List.size_toArray]; exact hz)
  exact k _ _ s.toks M φ (S.push _) (Mv.push _) (.tup ⟨0, Heap.get?_push_size _ rfl⟩ S.notM (r.mono (.grow fun _ _ e => Heap.get?_push_of_some _ e)))
theorem run_list (S : St p B h M φ σ) {vs : List Value} {ds : List D} (r : VRels p h M vs ds) (hz : vs.length ≤ sizeLine) : Run p B A (newList vs) h M φ σ (V p (.lst ds)) := fun s Q E e k => by
  subst e
  refine wpAny_newObj_type ?_ (by show vs.toArray.size ≤ sizeLine; rw [List.size_toArray]; exact hz)
  exact k _ _ s.toks M φ (S.push _) (Mv.push _) (.lst ⟨0, Heap.get?_push_size _ rfl⟩ S.notM (r.mono (.grow fun _ _ e => Heap.get?_push_of_some _ e)))

theorem phi_append {x : Option Addr} (k : Nat) (b : Addr) (l : k < φ.length) (e : (φ ++ [x])[k]? = some (some b)) : φ[k]? = some (some b) := by
  rw [List.getElem?_append_left l] at e; exact e
theorem base_new (S : St p B h M φ σ) : B.get? h.objs.size = none := by
  cases q : B.get? h.objs.size with
  | none => rfl
  | some o => exact absurd (Heap.lt_size (S.base _ _ q)) (Nat.lt_irrefl _)
/-- an object made since becomes a cell -/
theorem St.newCell {a : Addr} {c : C} (S : St p B h M φ σ) (ha : Df h a) (hb : B.get? a = none) (hM : a ∉ M) (hd : c ≠ .dead) (hc : CRel p h (a :: M) a c)
    (hk : ∀ (k : Nat) (b : Addr) (c' : C), φ[k]? = some (some b) → σ[k]? = some c' → CRel p h (a :: M) b c') : St p B h (a :: M) (φ ++ [some a]) (σ ++ [c]) where
  base := S.base
  low b m := by rcases List.mem_cons.mp m with rfl | m; exact ⟨ha, hb⟩; exact S.low b m
  sub b m := by
    rcases List.mem_append.mp m with m | m
    · exact .tail _ (S.sub b m)
    · cases List.mem_singleton.mp m; exact .head _
  nd i j b e1 e2 := by
    have lt : ∀ (i : Nat) (b : Addr), (φ ++ [some a])[i]? = some (some b) → (φ[i]? = some (some b) ∧ b ∈ M) ∨ (i = φ.length ∧ b = a) := fun i b e => by
      rcases Nat.lt_trichotomy i φ.length with q | q | q
      · rw [List.getElem?_append_left q] at e; exact .inl ⟨e, S.sub b (List.mem_of_getElem? e)⟩
      · subst q; rw [List.getElem?_append_right (Nat.le_refl _), Nat.sub_self] at e; cases e; exact .inr ⟨rfl, rfl⟩
      · rw [List.getElem?_eq_none (by rw [List.length_append]; simp; omega)] at e; cases e
    rcases lt i b e1 with ⟨x, m⟩ | ⟨x, y⟩ <;> rcases lt j b e2 with ⟨x', m'⟩ | ⟨x', y'⟩
    · exact S.nd i j b x x'
    · exact absurd (y' ▸ m) hM
    · exact absurd (y ▸ m') hM
    · exact x.trans x'.symm
  len := by rw [List.length_append, List.length_append, S.len]; rfl
  dead k := by
    rcases Nat.lt_trichotomy k φ.length with q | q | q
    · rw [List.getElem?_append_left q, List.getElem?_append_left (S.len ▸ q)]; exact S.dead k
    · subst q
      rw [List.getElem?_append_right (Nat.le_refl _), Nat.sub_self, S.len, List.getElem?_append_right (Nat.le_refl _), Nat.sub_self]
      simp [hd]
    · rw [List.getElem?_eq_none (by rw [List.length_append]; simp; omega), List.getElem?_eq_none (by rw [List.length_append, ← S.len]; simp; omega)]; simp
  cells k b c' e1 e2 := by
    rcases Nat.lt_trichotomy k φ.length with q | q | q
    · rw [List.getElem?_append_left q] at e1
      rw [List.getElem?_append_left (S.len ▸ q)] at e2
      exact hk k b c' e1 e2
    · subst q
      rw [List.getElem?_append_right (Nat.le_refl _), Nat.sub_self] at e1
      rw [S.len, List.getElem?_append_right (Nat.le_refl _), Nat.sub_self] at e2
      cases e1; cases e2; exact hc
    · rw [List.getElem?_eq_none (by rw [List.length_append]; simp; omega)] at e1; cases e1
/-- pushing an object that becomes the cell c -/
theorem gr_push (o : Obj) : Gr h M (h.push o) (h.objs.size :: M) := ⟨fun b o' _ e => Heap.get?_push_of_some o e, fun b o' n e m => by
    rcases List.mem_cons.mp m with rfl | m
    · exact absurd (Heap.lt_size e) (Nat.lt_irrefl _)
    · exact n m⟩
theorem push_cell (S : St p B h M φ σ) {o : Obj} {c : C} (hfr : o.isFreed = false) (hd : c ≠ .dead) (hc : CRel p (h.push o) (h.objs.size :: M) h.objs.size c) :
    St p B (h.push o) (h.objs.size :: M) (φ ++ [some h.objs.size]) (σ ++ [c]) ∧ Mv [] h M φ (h.push o) (h.objs.size :: M) (φ ++ [some h.objs.size]) ∧
      WRel p (h.push o) (h.objs.size :: M) (φ ++ [some h.objs.size]) (.ref h.objs.size) (.cell σ.length) := by
  have S' := S.push o
  refine ⟨S'.newCell ⟨_, Heap.get?_push_size _ hfr⟩ (base_new S) S.notM hd hc fun k b c' e1 e2 => (S.cells k b c' e1 e2).mono (gr_push o) fun o' e => Heap.get?_push_of_some o e, ?_, ?_⟩
  · exact ⟨fun b o' _ _ e => Heap.get?_push_of_some o e, fun b m => .inl (.tail _ m), fun b m n => by rcases List.mem_cons.mp m with rfl | m; exact none_ge (Nat.le_refl _); exact absurd m n,
      phi_append, by rw [List.length_append]; exact Nat.le_add_right _ _, fun b m n => by
        rcases List.mem_append.mp m with m | m
        · exact absurd m n
        · cases List.mem_singleton.mp m; exact none_ge (Nat.le_refl _), fun b ⟨o', e⟩ => ⟨o', Heap.get?_push_of_some o e⟩⟩
  · refine .cell (by rw [List.length_append, S.len]; exact Nat.lt_succ_self _) fun a e => ?_
    rw [← S.len, List.getElem?_append_right (Nat.le_refl _), Nat.sub_self] at e
    cases e; rfl
theorem run_newListCell (S : St p B h M φ σ) {vs : List Value} {ds : List D} (r : VRels p h M vs ds) (hz : vs.length ≤ sizeLine) :
    Run p B A (newList vs) h M φ (σ ++ [.lst ds]) (U p (.cell σ.length)) := fun s Q E e k => by
  subst e
  refine wpAny_newObj_type ?_ (by show vs.toArray.size ≤ sizeLine; rw [List.size_toArray]; exact hz)
  obtain ⟨S', m', e'⟩ := push_cell S (o := { cls := .type "list", data := .seq vs.toArray }) (c := .lst ds) rfl (by simp) (.lst ⟨0, Heap.get?_push_size _ rfl⟩ (r.mono (gr_push _)))
  exact k _ _ s.toks _ _ S' m' e'
/-- a cell's object turns -/
theorem St.set (S : St p B h M φ σ) {h' : Heap} {k : Nat} {a : Addr} {c : C} (e : φ[k]? = some (some a)) (hda : Df h' a) (hs : Heap.SameBut a h h') (hd : c ≠ .dead) (hc : CRel p h' M a c) :
    St p B h' M φ (σ.set k c) ∧ Mv [] h M φ h' M φ := by
  have haφ : some a ∈ φ := List.mem_of_getElem? e
  have haM := S.sub a haφ
  have hdf : ∀ b, Df h b → Df h' b := fun b ⟨o, e⟩ => by
    by_cases q : b = a
    · exact q ▸ hda
    · exact ⟨o, (hs.2 b q).trans e⟩
  have mv : Mv [] h M φ h' M φ := ⟨fun b o _ n2 e => (hs.2 b (fun q => n2 (q ▸ haφ))).trans e, fun _ e => .inl e, fun _ a b => absurd a b, fun _ _ _ e => e, Nat.le_refl _, fun _ a b => absurd a b, hdf⟩
  have gr := mv.gr (by simp) S.sub
  refine ⟨⟨fun b o e => (hs.2 b (fun q => S.base_notM e (q ▸ haM))).trans (S.base b o e), fun q hq => ⟨hdf q (S.low q hq).1, (S.low q hq).2⟩, S.sub, S.nd, by rw [List.length_set]; exact S.len, fun j => ?_, fun j b c' e1 e2 => ?_⟩, mv⟩
  · by_cases q : j = k
    · subst q; rw [e, List.getElem?_set_self']
      cases z : σ[j]? <;> simp [hd]
    · rw [List.getElem?_set_ne (Ne.symm q)]; exact S.dead j
  by_cases q : j = k
  · subst q
    rw [e] at e1; cases e1
    rw [List.getElem?_set_self'] at e2
    cases z : σ[j]? with
    | none => rw [z] at e2; cases e2
    | some _ => rw [z] at e2; cases e2; exact hc
  · rw [List.getElem?_set_ne (Ne.symm q)] at e2
    refine (S.cells j b c' e1 e2).mono gr fun o eo => (hs.2 b fun z => q ?_).trans eo
    subst z
    exact S.nd _ _ _ e1 e
/-- a cell dies: its object turns no more -/
theorem St.kill (S : St p B h M φ σ) {k : Nat} {a : Addr} (e : φ[k]? = some (some a)) :
    St p B h (M.filter (fun b => decide (b ≠ a))) (φ.set k none) (σ.set k .dead) ∧ Mv [] h M φ h (M.filter (fun b => decide (b ≠ a))) (φ.set k none) ∧ a ∉ M.filter (fun b => decide (b ≠ a)) ∧
      Gr h M h (M.filter (fun b => decide (b ≠ a))) := by
  have less : ∀ b ∈ M.filter (fun b => decide (b ≠ a)), b ∈ M := fun b m => (List.mem_filter.mp m).1
  have set_ne : ∀ (j : Nat) (b : Addr), (φ.set k none)[j]? = some (some b) → j ≠ k ∧ φ[j]? = some (some b) := fun j b z => by
    by_cases q : j = k
    · subst q; rw [List.getElem?_set_self', e] at z; cases z
    · rw [List.getElem?_set_ne (Ne.symm q)] at z; exact ⟨q, z⟩
  have mem_ne : ∀ b, some b ∈ φ.set k none → some b ∈ φ ∧ b ≠ a := fun b m => by
    obtain ⟨j, z⟩ := List.getElem?_of_mem m
    obtain ⟨x, y⟩ := set_ne j b z
    exact ⟨List.mem_of_getElem? y, fun q => x (S.nd _ _ _ (q ▸ y) e)⟩
  refine ⟨⟨S.base, fun b m => S.low b (less b m), fun b m => List.mem_filter.mpr ⟨S.sub b (mem_ne b m).1, decide_eq_true (mem_ne b m).2⟩, fun i j b x y => S.nd i j b (set_ne i b x).2 (set_ne j b y).2,
    by rw [List.length_set, List.length_set]; exact S.len, fun j => ?_, fun j b c x y => ?_⟩, ?_, fun m => by simpa using (List.mem_filter.mp m).2, .less less⟩
  · by_cases q : j = k
    · subst q
      rw [List.getElem?_set_self', List.getElem?_set_self', e]
      cases z : σ[j]? with
      | none => have := (List.getElem?_eq_some_iff.mp e).1; rw [S.len] at this; rw [List.getElem?_eq_none_iff] at z; omega
      | some _ => simp
    · rw [List.getElem?_set_ne (Ne.symm q), List.getElem?_set_ne (Ne.symm q)]; exact S.dead j
  · obtain ⟨q, x⟩ := set_ne j b x
    rw [List.getElem?_set_ne (Ne.symm q)] at y
    exact (S.cells j b c x y).mono (.less less) fun _ e => e
  · refine ⟨fun b o _ _ e => e, fun b m => ?_, fun b m n => absurd (less b m) n, fun j b _ z => (set_ne j b z).2, by rw [List.length_set]; exact Nat.le_refl _, fun b m n => absurd (mem_ne b m).1 n, fun _ e => e⟩
    by_cases q : b = a
    · exact .inr (q ▸ List.mem_of_getElem? e)
    · exact .inl (List.mem_filter.mpr ⟨m, decide_eq_true q⟩)
end
end Mine

namespace Mine
open PySem PySem.W

inductive BO where | add | sub | mul | fdiv | mod
inductive CO where | eq | ne | lt | le | gt | ge | isin | notin
inductive BI where | len | sorted | dict (cell : Bool) | tuple | bytes | ord | chr | str
inductive BM where | get | pop | append | extend | index | update | join | encode
/-- kinds that isinstance asks for -/
inductive IT where | bool | int | list | dict | cls (c : Nat)

/-- my own terms: expressions -/
inductive X where
  | lit (d : D)
  | loc (i : Nat)
  | glob (i : Nat)
  | attr (e : X) (f : Str)
  | call (f : Nat) (args : List X)
  | mk (c : Nat) (args : List X)
  | meth (e : X) (m : Str) (args : List X)
  | isi (e : X) (t : IT)
  | bi (b : BI) (args : List X)
  | bm (b : BM) (e : X) (args : List X)
  | bin (o : BO) (a b : X)
  | cmp (o : CO) (a b : X)
  | isN (neg : Bool) (a : X)
  | not (a : X) | and (as : List X) | or (as : List X) | ite (c a b : X)
  | sub (e i : X) | slc (e : X) (lo hi : Option X)
  | tup (es : List X) | lst (cell : Bool) (es : List X) | dct (cell : Bool) (ks : List X) (vs : List X)
  | comp (elt : X) (tg : List Nat) (src : X) (cond : Option X) (names : List Str) (caps : List Nat)
  | range (args : List X) | rev (a : X)
  | dead
  deriving Inhabited

/-- statements -/
inductive T where
  | asg (i : Nat) (e : X)
  | unp (is : List Nat) (e : X)
  | setI (o i v : X)
  | setA (f : Str) (e : X)
  | exp (e : X)
  | ite (c : X) (a b : List T)
  | for_ (tg : List Nat) (src : X) (body : List T)
  | whl (c : X) (body : List T)
  | ret (e : X)
  | try_ (body : List T)
  | frz (i : Nat)
  | bump (t k : Nat)
  | dead
  deriving Inhabited

inductive Fl where | next | ret (d : D)

/-- a def -/
structure Fn where
  addr : Nat
  params : Nat
  defaults : List D
  names : List Str
  body : List T
/-- a class: its address, its __init__, its methods -/
structure Cl where
  addr : Nat
  init : Nat
  meths : List (Str × Nat)

/-! matches on what steps give -/
noncomputable def omF {A B γ : Type} (o : Option (Fl × A × B)) (n : γ) (kn : A → B → γ) (kr : D → A → B → γ) : γ := om3 o n fun f a b => Fl.rec (motive := fun _ => γ) (kn a b) (fun d => kr d a b) f
noncomputable def omB {A γ : Type} (o : Option (Bool × A)) (n : γ) (kt kf : A → γ) : γ := om2 o n fun b a => bt b (kf a) (kt a)
noncomputable def omb {γ : Type} (o : Option Bool) (n t f : γ) : γ := om1 o n fun b => bt b f t
noncomputable def omw {γ : Type} (w : W) (n : γ) (k : D → γ) : γ := W.rec (motive := fun _ => γ) k (fun _ => n) (fun _ _ => n) w
noncomputable def omD {A γ : Type} (o : Option (W × A)) (n : γ) (k : D → A → γ) : γ := om2 o n fun w a => omw w n fun d => k d a
theorem omD_some {A γ : Type} {x : D} {a : A} {n : γ} {k : D → A → γ} : omD (some (.d x, a)) n k = k x a := rfl
theorem omF_next {A B γ : Type} {a : A} {b : B} {n : γ} {kn : A → B → γ} {kr : D → A → B → γ} : omF (some (.next, a, b)) n kn kr = kn a b := rfl
theorem omB_true {A γ : Type} {a : A} {n : γ} {kt kf : A → γ} : omB (some (true, a)) n kt kf = kt a := rfl
theorem omB_false {A γ : Type} {a : A} {n : γ} {kt kf : A → γ} : omB (some (false, a)) n kt kf = kf a := rfl
theorem ospF {A B γ : Type} {o : Option (Fl × A × B)} {n : γ} {kn : A → B → γ} {kr : D → A → B → γ} {r : γ} {P : Prop} (h : omF o n kn kr = r) (k1 : ∀ a b, o = some (.next, a, b) → kn a b = r → P) (k2 : ∀ d a b, o = some (.ret d, a, b) → kr d a b = r → P) (k3 : o = none → n = r → P) : P :=
  osp3 h (fun f a b q e => by
    induction f with
    | next => exact k1 a b q e
    | ret d => exact k2 d a b q e) k3
theorem ospB {A γ : Type} {o : Option (Bool × A)} {n : γ} {kt kf : A → γ} {r : γ} {P : Prop} (h : omB o n kt kf = r) (k1 : ∀ a, o = some (true, a) → kt a = r → P) (k2 : ∀ a, o = some (false, a) → kf a = r → P) (k3 : o = none → n = r → P) : P :=
  osp2 h (fun b a q e => by
    induction b with
    | true => exact k1 a q e
    | false => exact k2 a q e) k3
theorem ospb {γ : Type} {o : Option Bool} {n t f : γ} {r : γ} {P : Prop} (h : omb o n t f = r) (k1 : o = some true → t = r → P) (k2 : o = some false → f = r → P) (k3 : o = none → n = r → P) : P :=
  osp1 h (fun b q e => by
    induction b with
    | true => exact k1 q e
    | false => exact k2 q e) k3
theorem ospw {γ : Type} {w : W} {n : γ} {k : D → γ} {r : γ} {P : Prop} (h : omw w n k = r) (k1 : ∀ d, w = .d d → k d = r → P) (k2 : n = r → P) : P := by
  induction w with
  | d x => exact k1 x rfl h
  | cell => exact k2 h
  | shelf => exact k2 h
theorem ospD {A γ : Type} {o : Option (W × A)} {n : γ} {k : D → A → γ} {r : γ} {P : Prop} (h : omD o n k = r) (k1 : ∀ d a, o = some (.d d, a) → k d a = r → P) (k2 : n = r → P) : P :=
  osp2 h (fun w a q e => ospw e (fun d z e => k1 d a (z ▸ q) e) k2) fun _ e => k2 e
/-! equality of texts and keys that computes quickly -/
noncomputable def natsEq (a b : List Nat) : Bool := all2 Nat.beq a b
noncomputable def strEq (a b : Str) : Bool := natsEq a.cps.toList b.cps.toList
noncomputable def bytesEq (a b : List UInt8) : Bool := all2 (fun x y => Nat.beq x.toNat y.toNat) a b
noncomputable def keyEq (a b : Key) : Bool := match a with
  | .i x => match b with
    | .i y => Z.eqB x y
    | .s _ => false
    | .b _ => false
  | .s x => match b with
    | .i _ => false
    | .s y => strEq x y
    | .b _ => false
  | .b x => match b with
    | .i _ => false
    | .s _ => false
    | .b y => bytesEq x y
section
set_option backward.match.sparseCases false
noncomputable def D.key? : D → Option Key
  | .int i => some (.i i)
  | .str x => some (.s x)
  | .byt b => some (.b b)
  | _ => Option.none
/-! one kind alone -/
noncomputable def D.sy? : D → Option Nat
  | .sym i => some i
  | _ => Option.none
noncomputable def D.inst? : D → Option (Nat × List (Str × D))
  | .inst c l => some (c, l)
  | _ => Option.none
noncomputable def posInt : Int → Option Nat
  | .ofNat n => some n
  | .negSucc _ => Option.none
noncomputable def D.isN : D → Bool
  | .none => true
  | _ => false
noncomputable def D.b? : D → Option Bool
  | .bool b => some b
  | _ => Option.none
noncomputable def D.i? : D → Option Int
  | .int i => some i
  | _ => Option.none
noncomputable def D.s? : D → Option Str
  | .str x => some x
  | _ => Option.none
noncomputable def D.y? : D → Option (List UInt8)
  | .byt b => some b
  | _ => Option.none
noncomputable def D.t? : D → Option (List D)
  | .tup l => some l
  | _ => Option.none
noncomputable def D.l? : D → Option (List D)
  | .lst l => some l
  | _ => Option.none
noncomputable def D.d? : D → Option (List (Key × D))
  | .dct l => some l
  | _ => Option.none
end
theorem D.isN_eq {d : D} (h : d.isN = true) : d = .none := by induction d using D.casesOn <;> first | rfl | exact nof h
theorem D.b?_eq {d : D} {x : Bool} (h : d.b? = some x) : d = .bool x := by induction d using D.casesOn <;> first | exact nos h | exact congrArg D.bool (Option.some.inj h)
theorem D.i?_eq {d : D} {x : Int} (h : d.i? = some x) : d = .int x := by induction d using D.casesOn <;> first | exact nos h | exact congrArg D.int (Option.some.inj h)
theorem D.s?_eq {d : D} {x : Str} (h : d.s? = some x) : d = .str x := by induction d using D.casesOn <;> first | exact nos h | exact congrArg D.str (Option.some.inj h)
theorem D.y?_eq {d : D} {x : List UInt8} (h : d.y? = some x) : d = .byt x := by induction d using D.casesOn <;> first | exact nos h | exact congrArg D.byt (Option.some.inj h)
theorem D.t?_eq {d : D} {x : List D} (h : d.t? = some x) : d = .tup x := by induction d using D.casesOn <;> first | exact nos h | exact congrArg D.tup (Option.some.inj h)
theorem D.l?_eq {d : D} {x : List D} (h : d.l? = some x) : d = .lst x := by induction d using D.casesOn <;> first | exact nos h | exact congrArg D.lst (Option.some.inj h)
theorem D.d?_eq {d : D} {x : List (Key × D)} (h : d.d? = some x) : d = .dct x := by induction d using D.casesOn <;> first | exact nos h | exact congrArg D.dct (Option.some.inj h)
noncomputable def Key.d : Key → D
  | .i n => .int n
  | .s x => .str x
  | .b x => .byt x
theorem D.sy?_eq {d : D} {x : Nat} (h : d.sy? = some x) : d = .sym x := by induction d using D.casesOn <;> first | exact nos h | exact congrArg D.sym (Option.some.inj h)
theorem D.inst?_eq {d : D} {c : Nat} {l : List (Str × D)} (h : d.inst? = some (c, l)) : d = .inst c l := by induction d using D.casesOn <;> first | exact nos h | exact some2 h fun a b => a ▸ b ▸ rfl
theorem posInt_some {n : Int} {k : Nat} (e : posInt n = some k) : n = Int.ofNat k := by
  induction n using Int.casesOn with
  | ofNat m => exact congrArg Int.ofNat (Option.some.inj e)
  | negSucc => exact nos e
noncomputable def D.nat? (d : D) : Option Nat := om1 d.i? Option.none posInt
theorem D.nat?_eq {d : D} {n : Nat} (h : d.nat? = some n) : d = .int (.ofNat n) := osp1 h (fun i q e => by rw [D.i?_eq q, posInt_some e]) fun _ e => nos e
noncomputable def D.ii (a b : D) : Option (Int × Int) := om1 a.i? Option.none fun x => om1 b.i? Option.none fun y => some (x, y)
theorem D.ii_eq {a b : D} {x y : Int} (h : a.ii b = some (x, y)) : a = .int x ∧ b = .int y :=
  osp1 h (fun i q e => osp1 e (fun j z e => some2 e fun u v => ⟨u ▸ D.i?_eq q, v ▸ D.i?_eq z⟩) fun _ e => nos e) fun _ e => nos e
noncomputable def D.isI (n : Int) (d : D) : Bool := om1 d.i? false fun i => Z.eqB i n
theorem D.isI_eq {n : Int} {d : D} (h : d.isI n = true) : d = .int n := osp1 h (fun i q e => by rw [D.i?_eq q, (Z.eqB_iff _ _).mp e]) fun _ e => nof e
noncomputable def lookK (k : Key) : List (Key × D) → Option D
  | [] => none
  | e :: r => bt (keyEq e.1 k) (lookK k r) (some e.2)
noncomputable def putK (k : Key) (d : D) : List (Key × D) → List (Key × D)
  | [] => [(k, d)]
  | e :: r => bt (keyEq e.1 k) (e :: putK k d r) ((e.1, d) :: r)
noncomputable def dropK (k : Key) : List (Key × D) → List (Key × D)
  | [] => []
  | e :: r => bt (keyEq e.1 k) (e :: dropK k r) r
noncomputable def lookS (f : Str) : List (Str × D) → Option D
  | [] => none
  | e :: r => bt (strEq e.1 f) (lookS f r) (some e.2)
noncomputable def nth {α : Type} : List α → Nat → Option α
  | [], _ => none
  | x :: r, n => match n with
    | 0 => some x
    | n + 1 => nth r n
noncomputable def setNth {α : Type} : List α → Nat → α → List α
  | [], _, _ => []
  | x :: r, n, y => match n with
    | 0 => y :: r
    | n + 1 => x :: setNth r n y

section
set_option backward.match.sparseCases false
noncomputable def C.l? : C → Option (List D)
  | .lst l => some l
  | _ => none
noncomputable def C.d? : C → Option (List (Key × D))
  | .dct l => some l
  | _ => none
noncomputable def C.isD : C → Bool
  | .dead => true
  | _ => false
noncomputable def W.c? : W → Option Nat
  | .cell k => some k
  | _ => none
noncomputable def C.data : C → Option D
  | .lst l => some (.lst l)
  | .dct l => some (.dct l)
  | _ => none
end
theorem C.l?_eq {c : C} {l : List D} (h : c.l? = some l) : c = .lst l := by induction c <;> first | exact nos h | exact congrArg C.lst (Option.some.inj h)
theorem C.d?_eq {c : C} {l : List (Key × D)} (h : c.d? = some l) : c = .dct l := by induction c <;> first | exact nos h | exact congrArg C.dct (Option.some.inj h)
theorem W.c?_eq {w : W} {k : Nat} (h : w.c? = some k) : w = .cell k := by induction w <;> first | exact nos h | exact congrArg W.cell (Option.some.inj h)
theorem C.isD_ne {c : C} (h : c.isD = false) : c ≠ .dead := fun e => by rw [e] at h; exact nof' h
inductive DataC (c : C) (d : D) : Prop
  | lst (l : List D) : c = .lst l → d = .lst l → DataC c d
  | dct (l : List (Key × D)) : c = .dct l → d = .dct l → DataC c d
theorem C.data_eq {c : C} {d : D} (h : c.data = some d) : DataC c d := by induction c <;> first | exact nos h | exact .lst _ rfl (Option.some.inj h).symm | exact .dct _ rfl (Option.some.inj h).symm
/-- what is to be read of w -/
noncomputable def view (σ : List C) : W → Option D
  | .d x => some x
  | .cell k => om1 (nth σ k) none fun c => c.data
  | .shelf _ _ => none
/-- w becomes data: a cell dies -/
noncomputable def toD (σ : List C) : W → Option (D × List C)
  | .d x => some (x, σ)
  | .cell k => om1 (nth σ k) none fun c => om1 c.data none fun d => some (d, setNth σ k .dead)
  | .shelf _ _ => none
noncomputable def toDs : List C → List W → Option (List D × List C)
  | σ, [] => some ([], σ)
  | σ, w :: r => om2 (toD σ w) none fun d σ₁ => om2 (toDs σ₁ r) none fun ds σ₂ => some (d :: ds, σ₂)
noncomputable def asDs : List W → Option (List D)
  | [] => some []
  | w :: r => omw w none fun x => om1 (asDs r) none fun l => some (x :: l)
noncomputable def ltBytes : List UInt8 → List UInt8 → Bool
  | [], [] => false
  | [], _ :: _ => true
  | _ :: _, [] => false
  | a :: r, b :: t => bt (Nat.blt a.toNat b.toNat) (Nat.beq a.toNat b.toNat && ltBytes r t) true
noncomputable def ltNats : List Nat → List Nat → Bool
  | [], [] => false
  | [], _ :: _ => true
  | _ :: _, [] => false
  | a :: r, b :: t => bt (Nat.blt a b) (Nat.beq a b && ltNats r t) true
noncomputable def keyLt (a b : Key) : Option Bool := match a with
  | .i x => match b with
    | .i y => some (Z.ltB x y)
    | .s _ => none
    | .b _ => none
  | .s x => match b with
    | .i _ => none
    | .s y => some (ltNats x.cps.toList y.cps.toList)
    | .b _ => none
  | .b x => match b with
    | .i _ => none
    | .s _ => none
    | .b y => some (ltBytes x y)
noncomputable def insK (k : Key) : List Key → Option (List Key)
  | [] => some [k]
  | x :: r => omb (keyLt k x) none (some (k :: x :: r)) (om1 (insK k r) none fun l => some (x :: l))
noncomputable def sortK : List Key → Option (List Key)
  | [] => some []
  | k :: r => (sortK r).bind (insK k)

noncomputable def eqL (f : D → D → Option Bool) : List D → List D → Option Bool
  | [] => fun m => some (isNil m)
  | x :: r => fun m => match m with
    | [] => some false
    | y :: t => omb (f x y) none (eqL f r t) (om1 (eqL f r t) none fun _ => some false)
/-- == ; none: not served -/
noncomputable def eqD1 (f : List D → List D → Option Bool) (a b : D) : Option Bool := match a with
  | .none => bt b.isN none (some true)
  | .bool x => om1 b.b? none fun y => some (x == y)
  | .int x => om1 b.i? none fun y => some (Z.eqB x y)
  | .str x => om1 b.s? none fun y => some (strEq x y)
  | .byt x => om1 b.y? none fun y => some (bytesEq x y)
  | .tup x => om1 b.t? none fun y => f x y
  | .lst x => om1 b.l? none fun y => bt (Nat.beq x.length y.length) (some false) (f x y)
  | .dct _ => none
  | .inst _ _ => none
  | .sym _ => none
noncomputable def eqD : Nat → D → D → Option Bool
  | 0 => fun _ _ => none
  | n + 1 => eqD1 (eqL (eqD n))
noncomputable def anyEq (x : D) : List D → Option Bool
  | [] => some false
  | y :: r => om1 (eqD 20 y x) none fun a => om1 (anyEq x r) none fun b => some (a || b)
noncomputable def idxEq (x : D) : List D → Option Nat
  | [] => none
  | y :: r => omb (eqD 20 y x) none (some 0) (om1 (idxEq x r) none fun n => some (n + 1))
noncomputable def small (n : Nat) : Bool := Nat.blt n 1000
noncomputable def truth (d : D) : Option Bool := match d with
  | .none => some false
  | .bool b => some b
  | .int i => some (!Z.eqB i 0)
  | .str _ => none
  | .byt _ => none
  | .tup _ => none
  | .lst l => bt (small l.length) none (some (!isNil l))
  | .dct _ => none
  | .inst _ _ => none
  | .sym _ => none
end Mine

local macro_rules
  | `(tactic| cases $h:ident) => `(tactic| first | exact Mine.nos $h | exact Mine.nos' $h | exact Mine.nof $h | exact Mine.nof' $h | (refine Mine.some3 $h fun q1 q2 q3 => ?_; clear $h; subst q1; subst q2; subst q3) | (refine Mine.some2 $h fun q1 q2 => ?_; clear $h; subst q1; subst q2) | (refine Mine.some1 $h fun q => ?_; clear $h; subst q) | (refine Mine.pr3 $h fun q1 q2 q3 => ?_; clear $h; subst q1; subst q2; subst q3) | (refine Mine.pr2 $h fun q1 q2 => ?_; clear $h; subst q1; subst q2) | (refine Mine.eqk $h fun q => ?_; clear $h; subst q) | induction $h:ident | induction $h:ident using PySem.Expr.casesOn | induction $h:ident using Mine.D.casesOn | cases ($h))
  | `(tactic| cases $h:ident $a:inductionAlts) => `(tactic| first | induction $h:ident $a:inductionAlts | induction $h:ident using PySem.Expr.casesOn $a:inductionAlts | induction $h:ident using Mine.D.casesOn $a:inductionAlts | induction $h:ident using Mine.X.casesOn $a:inductionAlts | induction $h:ident using Mine.T.casesOn $a:inductionAlts | cases ($h) $a:inductionAlts)
local macro_rules
  | `(tactic| split at $h:ident) => `(tactic| first | focus (with_reducible refine Mine.ospD $h ?_ ?_; clear $h; intro _ _ q $h; (try subst q); rotate_left; clear $h; intro $h:ident; rotate_left) | focus (with_reducible refine Mine.ospw $h ?_ ?_; clear $h; intro _ q $h; (try subst q); rotate_left; clear $h; intro $h:ident; rotate_left) | focus (with_reducible refine Mine.ospF $h ?_ ?_ ?_; clear $h; intro _ _ q $h; (try subst q); rotate_left; clear $h; intro _ _ _ q $h; (try subst q); rotate_left; clear $h; intro q $h; (try subst q); rotate_left) | focus (with_reducible refine Mine.ospB $h ?_ ?_ ?_; clear $h; intro _ q $h; (try subst q); rotate_left; clear $h; intro _ q $h; (try subst q); rotate_left; clear $h; intro q $h; (try subst q); rotate_left) | focus (with_reducible refine Mine.ospb $h ?_ ?_ ?_; clear $h; intro q $h; (try subst q); rotate_left; clear $h; intro q $h; (try subst q); rotate_left; clear $h; intro q $h; (try subst q); rotate_left) | focus (with_reducible refine Mine.osp3 $h ?_ ?_; clear $h; intro _ _ _ q $h; (try subst q); rotate_left; clear $h; intro q $h; (try subst q); rotate_left) | focus (with_reducible refine Mine.osp2 $h ?_ ?_; clear $h; intro _ _ q $h; (try subst q); rotate_left; clear $h; intro q $h; (try subst q); rotate_left) | focus (with_reducible refine Mine.osp1 $h ?_ ?_; clear $h; intro _ q $h; (try subst q); rotate_left; clear $h; intro q $h; (try subst q); rotate_left) | focus (with_reducible refine Mine.bsp $h ?_ ?_; clear $h; intro q $h; (try subst q); rotate_left; clear $h; intro q $h; (try subst q); rotate_left) | focus (with_reducible refine Mine.bsp' $h ?_ ?_; clear $h; intro q $h; (try subst q); rotate_left; clear $h; intro q $h; (try subst q); rotate_left) | split at ($h))
local macro_rules
  | `(tactic| split) => `(tactic| first | focus (with_reducible refine Mine.osg2 ?_ ?_; intro _ _ q; (try subst q); rotate_left; intro q; (try subst q); rotate_left) | focus (with_reducible refine Mine.osg1 ?_ ?_; intro _ q; (try subst q); rotate_left; intro q; (try subst q); rotate_left) | focus (with_reducible refine Mine.bsg ?_ ?_; intro q; (try subst q); rotate_left; intro q; (try subst q); rotate_left) | split at ⊢)
local macro_rules
  | `(tactic| dsimp only at $h:ident) => `(tactic| dsimp only [Mine.om1_some, Mine.om1_none, Mine.om2_some, Mine.om2_none, Mine.om3_some, Mine.om3_none, Mine.bt_true, Mine.bt_false, Mine.omD_some, Mine.omF_next, Mine.omB_true, Mine.omB_false] at $h:ident)
  | `(tactic| dsimp only) => `(tactic| dsimp only [Mine.om1_some, Mine.om1_none, Mine.om2_some, Mine.om2_none, Mine.om3_some, Mine.om3_none, Mine.bt_true, Mine.bt_false, Mine.omD_some, Mine.omF_next, Mine.omB_true, Mine.omB_false])

namespace Mine
open PySem PySem.W

structure Tb where
  fns : List Fn
  cls : List Cl
  globs : List (Str × D)
  sh : Nat
  tn : Str
  rn : Str
structure Fns where
  ev : List (Option W) → List C → X → Option (W × List C)
  ts : List (Option W) → List C → X → Option (Bool × List C)
  ex : List (Option W) → List C → T → Option (Fl × List (Option W) × List C)
  fn : Nat → List W → List C → Option (D × List C)
noncomputable def Fns.no : Fns := ⟨fun _ _ _ => none, fun _ _ _ => none, fun _ _ _ => none, fun _ _ _ => none⟩

noncomputable def getL (ρ : List (Option W)) (i : Nat) : Option W := om1 (nth ρ i) none fun o => o
noncomputable def evs (F : Fns) (ρ : List (Option W)) : List C → List X → Option (List W × List C)
  | σ, [] => some ([], σ)
  | σ, e :: r => om2 (F.ev ρ σ e) none fun d σ₁ => om2 (evs F ρ σ₁ r) none fun ds σ₂ => some (d :: ds, σ₂)
noncomputable def xs (F : Fns) : List (Option W) → List C → List T → Option (Fl × List (Option W) × List C)
  | ρ, σ, [] => some (.next, ρ, σ)
  | ρ, σ, t :: r => omF (F.ex ρ σ t) none (fun ρ₁ σ₁ => xs F ρ₁ σ₁ r) fun d ρ₁ σ₁ => some (.ret d, ρ₁, σ₁)
noncomputable def setAll : List (Option W) → List Nat → List D → Option (List (Option W))
  | ρ, [], ds => bt (isNil ds) none (some ρ)
  | ρ, i :: is, ds => match ds with
    | [] => none
    | d :: ds' => setAll (setNth ρ i (some (.d d))) is ds'
noncomputable def bindTg (ρ : List (Option W)) (tg : List Nat) (d : D) : Option (List (Option W)) := match tg with
  | [] => none
  | i :: r => match r with
    | [] => some (setNth ρ i (some (.d d)))
    | j :: r => om1 d.t? none fun ds => setAll ρ (i :: j :: r) ds
noncomputable def forL (F : Fns) (tg : List Nat) (body : List T) : List D → List (Option W) → List C → Option (Fl × List (Option W) × List C)
  | [], ρ, σ => some (.next, ρ, σ)
  | d :: r, ρ, σ => om1 (bindTg ρ tg d) none fun ρ₁ => omF (xs F ρ₁ σ body) none (fun ρ₂ σ₂ => forL F tg body r ρ₂ σ₂) fun d ρ₂ σ₂ => some (.ret d, ρ₂, σ₂)
noncomputable def condL (F : Fns) (ρ : List (Option W)) (σ : List C) : Option X → Option (Bool × List C)
  | none => some (true, σ)
  | some c => F.ts ρ σ c
noncomputable def compL (F : Fns) (tg : List Nat) (elt : X) (cond : Option X) : List D → List (Option W) → List C → Option (List D × List C)
  | [], ρ, σ => some ([], σ)
  | d :: r, ρ, σ => om1 (bindTg ρ tg d) none fun ρ₁ => omB (condL F ρ₁ σ cond) none (fun σ₁ => om2 (F.ev ρ₁ σ₁ elt) none fun w σ₂ => om2 (toD σ₂ w) none fun x σ₃ => om2 (compL F tg elt cond r ρ₁ σ₃) none fun xs σ₄ => some (x :: xs, σ₄)) fun σ₁ => compL F tg elt cond r ρ₁ σ₁
noncomputable def rangeL (a st : Int) : Nat → List D
  | 0 => []
  | n + 1 => .int a :: rangeL (a + st) st n

/-- the items that a loop goes over -/
noncomputable def rangeItems (ws : List W) : Option (List D) := match ws with
  | [] => none
  | a :: r => omw a none fun x => match r with
    | [] => om1 x.nat? none fun k => bt (small k) none (some (rangeL 0 1 k))
    | b :: r => bt (x.isI 0) none (omw b none fun y => om1 y.nat? none fun k => om1 (one r) none fun c => omw c none fun z => bt (z.isI 2) none (bt (small k) none (some (rangeL 0 2 ((k + 1) / 2)))))
noncomputable def itemsD (x : D) : Option (List D) := match x with
  | .lst l => some l
  | .tup l => some l
  | .dct l => some (l.map fun e => e.1.d)
  | .str t => bt (t.cps.toList.all (Nat.blt · 128)) none (some (t.cps.toList.map fun c => .str ⟨#[c]⟩))
  | .byt b => some (b.map fun c => .int (Int.ofNat c.toNat))
  | .none => none
  | .bool _ => none
  | .int _ => none
  | .inst _ _ => none
  | .sym _ => none
noncomputable def itemsOf (w : W) : Option (List D) := omw w none itemsD
noncomputable def revItems (w : W) : Option (List D) := omw w none fun d => om1 d.l? none fun l => some l.reverse
section
set_option backward.match.sparseCases false
noncomputable def isRng : X → Option (List X)
  | .range args => some args
  | _ => none
noncomputable def isRev : X → Option X
  | .rev a => some a
  | _ => none
end
theorem isRng_eq {x : X} {a : List X} (h : isRng x = some a) : x = .range a := by induction x using X.casesOn <;> first | exact nos h | exact congrArg X.range (Option.some.inj h)
theorem isRev_eq {x a : X} (h : isRev x = some a) : x = .rev a := by induction x using X.casesOn <;> first | exact nos h | exact congrArg X.rev (Option.some.inj h)
noncomputable def srcEv (F : Fns) (ρ : List (Option W)) (σ : List C) (x : X) : Option (List D × List C) :=
  om1 (isRng x) (om1 (isRev x) (om2 (F.ev ρ σ x) none fun w σ₁ => om1 (itemsOf w) none fun l => some (l, σ₁)) fun a => om2 (F.ev ρ σ a) none fun w σ₁ => om1 (revItems w) none fun l => some (l, σ₁)) fun args => om2 (evs F ρ σ args) none fun ws σ₁ => om1 (rangeItems ws) none fun l => some (l, σ₁)
noncomputable def pairsOf' : List D → List (Key × D) → Option (List (Key × D))
  | [], acc => some acc
  | d :: r, acc => om1 d.t? none fun l => om2 (two l) none fun k v => om1 k.key? none fun k => pairsOf' r (putK k v acc)
noncomputable def bytesOf : List D → Option (List UInt8)
  | [] => some []
  | d :: r => om1 d.nat? none fun n => bt (Nat.blt n 256) none (om1 (bytesOf r) none fun l => some (UInt8.ofNat n :: l))
noncomputable def strsOf : List D → Option (List Str)
  | [] => some []
  | d :: r => om1 d.s? none fun x => om1 (strsOf r) none fun l => some (x :: l)
noncomputable def joinS (sep : List Nat) : List Str → List Nat
  | [] => []
  | [x] => x.cps.toList
  | x :: r => x.cps.toList ++ (sep ++ joinS sep r)
noncomputable def newCell (cell : Bool) (σ : List C) (c : C) (d : D) : W × List C := bt cell (.d d, σ) (.cell σ.length, σ ++ [c])
noncomputable def lenN (n : Nat) : Option D := bt (small n) none (some (.int (Int.ofNat n)))
noncomputable def lenEv (d : D) : Option D := match d with
  | .str x => lenN x.cps.toList.length
  | .byt x => lenN x.length
  | .lst l => lenN l.length
  | .tup l => lenN l.length
  | .dct l => lenN l.length
  | .none => none
  | .bool _ => none
  | .int _ => none
  | .inst _ _ => none
  | .sym _ => none
noncomputable def sortedEv (d : D) : Option D := om1 d.d? none fun l => bt (Nat.blt l.length 64) none (om1 (sortK (l.map (·.1))) none fun ks => some (.lst (ks.map Key.d)))
noncomputable def dictEv (d : D) : Option (List (Key × D)) := om1 d.d? (om1 d.l? none fun l => bt (small l.length) none (pairsOf' l [])) fun l => bt (small l.length) none (some l)
/-- built-ins of one argument that is data -/
noncomputable def bi1 (b : BI) (d : D) : Option D := match b with
  | .tuple => om1 d.l? none fun l => bt (small l.length) none (some (.tup l))
  | .bytes => om1 d.y? (om1 d.l? none fun l => bt (small l.length) none (om1 (bytesOf l) none fun b => some (.byt b))) fun b => some (.byt b)
  | .ord => om1 d.s? none fun x => om1 (one x.cps.toList) none fun c => some (.int (Int.ofNat c))
  | .chr => om1 d.nat? none fun n => bt (Nat.blt n 128) none (some (.str ⟨#[n]⟩))
  | .str => om1 d.nat? none fun n => bt (Nat.blt n 10) none (some (.str ⟨#[48 + n]⟩))
  | .len => none
  | .sorted => none
  | .dict _ => none
noncomputable def bi1W (b : BI) (w : W) (σ : List C) : Option (W × List C) := omw w none fun d => om1 (bi1 b d) none fun r => some (.d r, σ)
noncomputable def biEv (b : BI) (w : W) (σ : List C) : Option (W × List C) := match b with
  | .len => om1 (view σ w) none fun d => om1 (lenEv d) none fun r => some (.d r, σ)
  | .sorted => om1 (view σ w) none fun d => om1 (sortedEv d) none fun r => some (.d r, σ)
  | .dict cell => om1 (view σ w) none fun d => om1 (dictEv d) none fun es => some (newCell cell σ (.dct es) (.dct es))
  | .tuple => bi1W .tuple w σ
  | .bytes => bi1W .bytes w σ
  | .ord => bi1W .ord w σ
  | .chr => bi1W .chr w σ
  | .str => bi1W .str w σ
noncomputable def cellL (σ : List C) (w : W) : Option (Nat × List D) := om1 w.c? none fun k => om1 (nth σ k) none fun c => om1 c.l? none fun l => some (k, l)
noncomputable def cellD (σ : List C) (w : W) : Option (Nat × List (Key × D)) := om1 w.c? none fun k => om1 (nth σ k) none fun c => om1 c.d? none fun l => some (k, l)
noncomputable def popLast : List D → Option (List D × D)
  | [] => none
  | d :: r => match r with
    | [] => some ([], d)
    | _ :: _ => om2 (popLast r) none fun l x => some (d :: l, x)
noncomputable def putAll : List (Key × D) → List (Key × D) → List (Key × D)
  | [], acc => acc
  | e :: r, acc => putAll r (putK e.1 e.2 acc)
noncomputable def getDef (k : Key) (l : List (Key × D)) (v : D) : D := om1 (lookK k l) v fun x => x
noncomputable def bmGet (σ : List C) (w : W) (k : D) (v : D) : Option (W × List C) := om1 (view σ w) none fun d => om1 d.d? none fun l => om1 k.key? none fun k => some (.d (getDef k l v), σ)
noncomputable def bmPop (σ : List C) (w : W) : Option (W × List C) := om2 (cellL σ w) none fun k l => bt (small l.length) none (om2 (popLast l) none fun l' x => some (.d x, setNth σ k (.lst l')))
noncomputable def bmPopD (σ : List C) (w : W) (k v : D) : Option (W × List C) := om2 (cellD σ w) none fun c l => om1 (k.key?) none fun k => bt (small l.length) none (om1 (lookK k l) (some (.d v, σ)) fun x => some (.d x, setNth σ c (.dct (dropK k l))))
noncomputable def bmApp (σ : List C) (w : W) (x : D) : Option (W × List C) := om2 (cellL σ w) none fun k l => bt (small l.length) none (some (.d .none, setNth σ k (.lst (l ++ [x]))))
noncomputable def bmExt (σ : List C) (w : W) (m : List D) : Option (W × List C) := om2 (cellL σ w) none fun k l => bt (small (l.length + m.length)) none (some (.d .none, setNth σ k (.lst (l ++ m))))
noncomputable def bmUpd (σ : List C) (w : W) (m : List (Key × D)) : Option (W × List C) := om2 (cellD σ w) none fun c l => bt (small (l.length + m.length)) none (some (.d .none, setNth σ c (.dct (putAll m l))))
noncomputable def joinEv (x : Str) (l : List D) : Option D := om1 (strsOf l) none fun ss => bt (small (ss.foldl (fun a s => a + s.length + x.length) 0)) none (bt (small (joinS x.cps.toList ss).length) none (some (.str ⟨⟨joinS x.cps.toList ss⟩⟩)))
noncomputable def encodeEv (x y : Str) : Option D := bt (strEq y ⟨#[97, 115, 99, 105, 105]⟩) none (bt (strEq x ⟨#[98]⟩) (bt (strEq x ⟨#[99]⟩) none (some (.byt [99]))) (some (.byt [98])))
inductive Kd where | lst | dct | str
noncomputable def kdD (d : D) : Option Kd := match d with
  | .lst _ => some .lst
  | .dct _ => some .dct
  | .str _ => some .str
  | .none => none
  | .bool _ => none
  | .int _ => none
  | .byt _ => none
  | .tup _ => none
  | .inst _ _ => none
  | .sym _ => none
noncomputable def kdOf (σ : List C) (w : W) : Option Kd := om1 (view σ w) none fun d => kdD d
noncomputable def bmGets (w : W) (args : List D) (σ : List C) : Option (W × List C) := om1 (one args) (om2 (two args) none fun k v => bmGet σ w k v) fun k => bmGet σ w k .none
noncomputable def isPair (d : D) : Bool := om1 d.t? false fun l => om2 (two l) false fun a b => om2 (a.ii b) false fun _ _ => true
noncomputable def allPair : List D → Bool
  | [] => true
  | d :: r => bt (isPair d) false (allPair r)
noncomputable def bmIdx (w : W) (args : List D) (σ : List C) : Option (W × List C) := om1 (one args) none fun x => omw w none fun d => om1 d.l? none fun l => bt (small l.length) none (bt (allPair l) none (om1 (anyEq x l) none fun _ => om1 (idxEq x l) none fun i => some (.d (.int (Int.ofNat i)), σ)))
noncomputable def bmJoin (w : W) (args : List D) (σ : List C) : Option (W × List C) := om1 (one args) none fun a => om1 a.l? none fun l => omw w none fun d => om1 d.s? none fun x => om1 (joinEv x l) none fun d => some (.d d, σ)
noncomputable def bmEnc (w : W) (args : List D) (σ : List C) : Option (W × List C) := om1 (one args) none fun a => om1 a.s? none fun y => omw w none fun d => om1 d.s? none fun x => om1 (encodeEv x y) none fun d => some (.d d, σ)
/-- what is asked of a kind alone -/
noncomputable def onK {β : Type} (kd : Kd) (l d s : β) : β := Kd.rec (motive := fun _ => β) l d s kd
noncomputable def bmEv (b : BM) (kd : Kd) (w : W) (args : List D) (σ : List C) : Option (W × List C) := match b with
  | .get => onK kd none (bmGets w args σ) none
  | .pop => onK kd (bt (isNil args) none (bmPop σ w)) (om2 (two args) none fun k v => bmPopD σ w k v) none
  | .append => onK kd (om1 (one args) none fun x => bmApp σ w x) none none
  | .extend => onK kd (om1 (one args) none fun x => om1 x.l? none fun m => bmExt σ w m) none none
  | .update => onK kd none (om1 (one args) none fun x => om1 x.d? none fun m => bmUpd σ w m) none
  | .index => onK kd (bmIdx w args σ) none none
  | .join => onK kd none none (bmJoin w args σ)
  | .encode => onK kd none none (bmEnc w args σ)
noncomputable def addEv (a b : D) : Option D := om2 (a.ii b) (om1 a.s? (om1 a.t? (om1 a.l? none fun x => om1 b.l? none fun y => bt (small (x.length + y.length)) none (some (.lst (x ++ y)))) fun x => om1 b.t? none fun y => bt (small (x.length + y.length)) none (some (.tup (x ++ y))))
  fun x => om1 b.s? none fun y => bt (small (x.cps.toList.length + y.cps.toList.length)) none (some (.str ⟨⟨x.cps.toList ++ y.cps.toList⟩⟩))) fun x y => some (.int (x + y))
noncomputable def subtEv (a b : D) : Option D := om2 (a.ii b) none fun x y => some (.int (x - y))
noncomputable def mulEv (a b : D) : Option D := om1 b.nat? none fun y => om1 a.nat? (om1 a.l? none fun _ => bt (Nat.beq y 0) none (some (.lst []))) fun x => bt (small x) none (some (.int (.ofNat (x * y))))
noncomputable def posNat (n : Nat) : Option Nat := match n with
  | 0 => none
  | n + 1 => some n
noncomputable def fdivEv (a b : D) : Option D := om1 a.i? none fun x => om1 b.nat? none fun y => om1 (posNat y) none fun n => bt (small n) none (some (.int (Int.fdiv x (.ofNat (n + 1)))))
noncomputable def modEv (a b : D) : Option D := om1 a.i? none fun x => om1 b.nat? none fun y => om1 (posNat y) none fun n => some (.int (Int.fmod x (.ofNat (n + 1))))
noncomputable def binEv (o : BO) (a b : D) : Option D := match o with
  | .add => addEv a b
  | .sub => subtEv a b
  | .mul => mulEv a b
  | .fdiv => fdivEv a b
  | .mod => modEv a b
noncomputable def inEv (a b : D) : Option Bool := om1 b.d? (om1 b.l? (om1 b.t? none fun l => anyEq a l) fun l => anyEq a l) fun l => om1 (a.key?) none fun k => om1 (lookK k l) (some false) fun _ => some true
noncomputable def ltEv (a b : D) : Option Bool := om2 (a.ii b) (om1 a.y? none fun x => om1 b.y? none fun y => some (ltBytes x y)) fun x y => some (Z.ltB x y)
/-- left of `in` stands no list and no dict -/
noncomputable def inL (x : D) : Bool := om1 x.l? (om1 x.d? true fun _ => false) fun _ => false
/-- two that are what the symbol 0 stands for are equal (that is asked of the symbol) -/
noncomputable def isSym0 (d : D) : Bool := om1 d.sy? false fun i => Nat.beq i 0
noncomputable def eqT (a b : D) : Option Bool := bt (isSym0 a && isSym0 b) (om1 a.d? (eqD 20 a b) fun x => om1 b.d? (eqD 20 a b) fun y => bt (Nat.beq x.length y.length) (some false) (bt (isNil x) none (some true))) (some true)
noncomputable def leEv (a b : D) : Option Bool := om2 (a.ii b) none fun x y => some (Z.leB x y)
noncomputable def gtEv (a b : D) : Option Bool := om2 (a.ii b) none fun x y => some (Z.ltB y x)
noncomputable def geEv (a b : D) : Option Bool := om2 (a.ii b) none fun x y => some (Z.leB y x)
noncomputable def notB (o : Option Bool) : Option Bool := om1 o none fun b => some (!b)
noncomputable def cmpEv (o : CO) (a b : D) : Option Bool := match o with
  | .eq => eqT a b
  | .ne => notB (eqT a b)
  | .lt => ltEv a b
  | .le => leEv a b
  | .gt => gtEv a b
  | .ge => geEv a b
  | .isin => bt (inL a) none (inEv a b)
  | .notin => bt (inL a) none (notB (inEv a b))
noncomputable def hasCl (a : Nat) : List Cl → Bool
  | [] => false
  | c :: r => bt (Nat.beq c.addr a) (hasCl a r) true
/-- a class that is made -/
noncomputable def hasA (a : Nat) : List Cl → Bool
  | [] => false
  | c :: r => bt (Nat.beq c.addr a && Nat.blt c.init 9999) (hasA a r) true
/-- a value's kind -/
inductive Ty where | none | bool | int | str | tup | lst | dct | cls (a : Nat)
noncomputable def tyOf (tb : Tb) (d : D) : Option Ty := match d with
  | .none => some .none
  | .bool _ => some .bool
  | .int _ => some .int
  | .str _ => some .str
  | .byt _ => Option.none
  | .tup _ => some .tup
  | .lst _ => some .lst
  | .dct _ => some .dct
  | .inst a _ => bt (hasCl a tb.cls) Option.none (some (.cls a))
  | .sym _ => Option.none
noncomputable def isTy : Ty → Ty → Bool
  | .bool, .bool => true
  | .bool, .int => true
  | .int, .int => true
  | .lst, .lst => true
  | .dct, .dct => true
  | .cls a, .cls b => Nat.beq a b
  | _, _ => false
noncomputable def itTy (tb : Tb) : IT → Option Ty
  | .bool => some .bool
  | .int => some .int
  | .list => some .lst
  | .dict => some .dct
  | .cls c => om1 (nth tb.cls c) Option.none fun cl => some (.cls cl.addr)
noncomputable def isiD (tb : Tb) (d : D) (t : IT) : Option Bool := om1 (tyOf tb d) Option.none fun a => om1 (itTy tb t) Option.none fun b => some (isTy a b)
noncomputable def idxOf (n : Nat) (z : Int) : Option Nat := match z with
  | .ofNat i => bt (small i) none (some i)
  | .negSucc i => bt (small i) none (bt (Nat.ble (i + 1) n) none (some (n - (i + 1))))
noncomputable def subL (l : List D) (z : Int) : Option D := om1 (idxOf l.length z) none fun n => nth l n
noncomputable def subB (b : List UInt8) (z : Int) : Option D := om1 (posInt z) none fun n => om1 (nth b n) none fun c => bt (small b.length) none (some (.int (Int.ofNat c.toNat)))
noncomputable def subEv (d i : D) : Option D := om1 d.l? (om1 d.t? (om1 d.y? (om1 d.d? none fun l => om1 i.key? none fun k => lookK k l) fun b => om1 i.i? none fun z => subB b z) fun l => om1 i.i? none fun z => subL l z) fun l => om1 i.i? none fun z => subL l z
noncomputable def slcEv (d : D) (lo hi : D) : Option D := om1 d.l? (om1 d.t? none fun l => bt lo.isN none (om1 hi.nat? none fun n => bt (small l.length) none (bt (Nat.ble n l.length) none (some (.tup (l.take n))))))
  fun l => om1 lo.nat? none fun n => bt hi.isN none (bt (small l.length) none (some (.lst (l.drop n))))
noncomputable def clAt (a : Nat) : List Cl → Option Cl
  | [] => none
  | c :: r => bt (Nat.beq c.addr a) (clAt a r) (some c)
noncomputable def methAt (f : Str) : List (Str × Nat) → Option Nat
  | [] => none
  | e :: r => bt (strEq e.1 f) (methAt f r) (some e.2)
noncomputable def evOpt (F : Fns) (ρ : List (Option W)) (σ : List C) (o : Option X) : Option (D × List C) := om1 o (some (.none, σ)) fun e => omD (F.ev ρ σ e) none fun x σ₁ => some (x, σ₁)
noncomputable def capsOf (ρ : List (Option W)) : List Nat → List (Option W)
  | [] => []
  | i :: r => getL ρ i :: capsOf ρ r
noncomputable def nones {α : Type} : Nat → List (Option α)
  | 0 => []
  | n + 1 => none :: nones n
noncomputable def truthW (σ : List C) (w : W) : Option Bool := om1 (view σ w) none fun d => truth d
noncomputable def andL (F : Fns) (ρ : List (Option W)) : List C → List X → Option (W × List C)
  | _, [] => none
  | σ, e :: r => om2 (F.ev ρ σ e) none fun d σ₁ => bt (isNil r) (omb (truthW σ₁ d) none (andL F ρ σ₁ r) (some (d, σ₁))) (some (d, σ₁))
noncomputable def orL (F : Fns) (ρ : List (Option W)) : List C → List X → Option (W × List C)
  | _, [] => none
  | σ, e :: r => om2 (F.ev ρ σ e) none fun d σ₁ => bt (isNil r) (omb (truthW σ₁ d) none (some (d, σ₁)) (orL F ρ σ₁ r)) (some (d, σ₁))
noncomputable def andT (F : Fns) (ρ : List (Option W)) : List C → List X → Option (Bool × List C)
  | σ, [] => some (true, σ)
  | σ, e :: r => omB (F.ts ρ σ e) none (fun σ₁ => andT F ρ σ₁ r) fun σ₁ => some (false, σ₁)
noncomputable def orT (F : Fns) (ρ : List (Option W)) : List C → List X → Option (Bool × List C)
  | σ, [] => some (false, σ)
  | σ, e :: r => omB (F.ts ρ σ e) none (fun σ₁ => some (true, σ₁)) fun σ₁ => orT F ρ σ₁ r
/-- __init__: only fields are laid -/
noncomputable def lookW (f : Str) : List (Str × W) → Option W
  | [] => none
  | e :: r => bt (strEq e.1 f) (lookW f r) (some e.2)
section
set_option backward.match.sparseCases false
noncomputable def T.setA? : T → Option (Str × X)
  | .setA f e => some (f, e)
  | _ => none
end
theorem T.setA?_eq {t : T} {f : Str} {e : X} (h : t.setA? = some (f, e)) : t = .setA f e := by induction t using T.casesOn <;> first | exact nos h | (cases h; rfl)
noncomputable def initL (F : Fns) (ρ : List (Option W)) : List C → List T → List (Str × W) → Option (List (Str × W) × List C)
  | σ, [], fs => some (fs, σ)
  | σ, t :: r, fs => om2 t.setA? none fun f e => om2 (F.ev ρ σ e) none fun d σ₁ => om1 (lookW f fs) (initL F ρ σ₁ r (fs ++ [(f, d)])) fun _ => none
section
set_option backward.match.sparseCases false
noncomputable def X.lit? : X → Option D
  | .lit d => some d
  | _ => none
end
noncomputable def keysLit : List X → Option (List Key)
  | [] => some []
  | x :: r => om1 x.lit? none fun d => om1 d.key? none fun k => om1 (keysLit r) none fun l => some (k :: l)
noncomputable def zipK : List Key → List D → List (Key × D) → Option (List (Key × D))
  | [], ds, acc => bt (isNil ds) none (some acc)
  | k :: ks, ds, acc => match ds with
    | [] => none
    | d :: ds => zipK ks ds (putK k d acc)
noncomputable def bindArgs' (f : Fn) (ds : List W) : Option (List (Option W)) := bt (Nat.beq ds.length f.params) (om1 (one f.defaults) none fun d => bt (Nat.beq (ds.length + 1) f.params) none (some ((ds ++ [W.d d]).map some ++ nones (f.names.length - f.params)))) (some (ds.map some ++ nones (f.names.length - f.params)))
/-- the cells that are handed on -/
noncomputable def hasN (k : Nat) : List Nat → Bool
  | [] => false
  | j :: r => bt (Nat.beq j k) (hasN k r) true
noncomputable def addN (k : Nat) (l : List Nat) : List Nat := bt (hasN k l) (l ++ [k]) l
noncomputable def cellsOf : List W → List Nat → List Nat
  | [], l => l
  | w :: r, l => match w with
    | .d _ => cellsOf r l
    | .cell k => cellsOf r (addN k l)
    | .shelf t u => cellsOf r (addN u (addN t l))
noncomputable def idxN (k : Nat) : List Nat → Nat
  | [] => 0
  | j :: r => bt (Nat.beq j k) (idxN k r + 1) 0
noncomputable def renW (cs : List Nat) : W → W
  | .d x => .d x
  | .cell k => .cell (idxN k cs)
  | .shelf t r => .shelf (idxN t cs) (idxN r cs)
noncomputable def pick (σ : List C) : List Nat → Option (List C)
  | [] => some []
  | k :: r => om1 (nth σ k) none fun c => om1 (pick σ r) none fun l => some (c :: l)
noncomputable def putBack : List C → List Nat → List C → List C
  | σ, [], _ => σ
  | σ, k :: ks, l => match l with
    | [] => σ
    | c :: cs => putBack (setNth σ k c) ks cs
noncomputable def callFn (F : Fns) (i : Nat) (ws : List W) (σ : List C) : Option (W × List C) := om1 (pick σ (cellsOf ws [])) none fun σc => om2 (F.fn i (ws.map (renW (cellsOf ws []))) σc) none fun d σ' => some (.d d, putBack σ (cellsOf ws []) σ')
noncomputable def toDF : List C → List (Str × W) → Option (List (Str × D) × List C)
  | σ, [] => some ([], σ)
  | σ, w :: r => om2 (toD σ w.2) none fun d σ₁ => om2 (toDF σ₁ r) none fun ds σ₂ => some ((w.1, d) :: ds, σ₂)
/-- an object of a class is made -/
noncomputable def mkShelf (tb : Tb) (f g : Str) (t r : Nat) (σ : List C) : Option (W × List C) := bt (strEq f tb.tn) none (bt (strEq g tb.rn) none (om2 (cellD σ (.cell t)) none fun _ _ => om2 (cellD σ (.cell r)) none fun _ _ => some (.shelf t r, σ)))
noncomputable def mkInst (tb : Tb) (a : Nat) (fs : List (Str × W)) (σ : List C) : Option (W × List C) := bt (Nat.beq a tb.sh) (om2 (toDF σ fs) none fun ds σ₁ => some (.d (.inst a ds), σ₁)) (om2 (two fs) none fun x y => om1 x.2.c? none fun t => om1 y.2.c? none fun r => mkShelf tb x.1 y.1 t r σ)
noncomputable def mkEv (tb : Tb) (F : Fns) (c : Cl) (ds : List W) (σ : List C) : Option (W × List C) := om1 (nth tb.fns c.init) none fun f => om1 (bindArgs' f (.d .none :: ds)) none fun ρ => om2 (initL F (setNth ρ 0 none) σ f.body []) none fun fs σ₁ => mkInst tb c.addr fs σ₁

noncomputable def attrW (tb : Tb) (w : W) (f : Str) : Option W := match w with
  | .d x => om2 x.inst? none fun a fs => bt (hasA a tb.cls) none (om1 (lookS f fs) none fun d => some (.d d))
  | .shelf t r => bt (strEq tb.tn f) (bt (strEq tb.rn f) none (some (.cell r))) (some (.cell t))
  | .cell _ => none
noncomputable def evLoc (ρ : List (Option W)) (σ : List C) (i : Nat) : Option (W × List C) := om1 (getL ρ i) none fun d => some (d, σ)
noncomputable def evAttr (tb : Tb) (F : Fns) (ρ : List (Option W)) (σ : List C) (e : X) (f : Str) : Option (W × List C) := om2 (F.ev ρ σ e) none fun w σ₁ => om1 (attrW tb w f) none fun r => some (r, σ₁)
noncomputable def evCall (F : Fns) (ρ : List (Option W)) (σ : List C) (f : Nat) (args : List X) : Option (W × List C) := om2 (evs F ρ σ args) none fun ds σ₁ => callFn F f ds σ₁
noncomputable def evMk (tb : Tb) (F : Fns) (ρ : List (Option W)) (σ : List C) (c : Nat) (args : List X) : Option (W × List C) := om1 (nth tb.cls c) none fun cl => om2 (evs F ρ σ args) none fun ds σ₁ => mkEv tb F cl ds σ₁
noncomputable def methOf (tb : Tb) (a : Nat) (m : Str) : Option Nat := om1 (clAt a tb.cls) none fun cl => methAt m cl.meths
noncomputable def methW (tb : Tb) (w : W) (m : Str) : Option Nat := match w with
  | .d x => om2 x.inst? none fun a fs => om1 (lookS m fs) (methOf tb a m) fun _ => none
  | .shelf _ _ => bt (strEq tb.tn m) (bt (strEq tb.rn m) (methOf tb tb.sh m) none) none
  | .cell _ => none
noncomputable def evMeth (tb : Tb) (F : Fns) (ρ : List (Option W)) (σ : List C) (e : X) (m : Str) (args : List X) : Option (W × List C) := om2 (F.ev ρ σ e) none fun w σ₁ => om1 (methW tb w m) none fun f => om2 (evs F ρ σ₁ args) none fun ds σ₂ => callFn F f (w :: ds) σ₂
noncomputable def evIsi (tb : Tb) (F : Fns) (ρ : List (Option W)) (σ : List C) (e : X) (t : IT) : Option (W × List C) := om2 (F.ev ρ σ e) none fun w σ₁ => om1 (view σ₁ w) none fun d => om1 (isiD tb d t) none fun b => some (.d (.bool b), σ₁)
noncomputable def evBi (F : Fns) (ρ : List (Option W)) (σ : List C) (b : BI) (args : List X) : Option (W × List C) := om2 (evs F ρ σ args) none fun ws σ₁ => om1 (one ws) none fun w => biEv b w σ₁
noncomputable def evBm (F : Fns) (ρ : List (Option W)) (σ : List C) (b : BM) (e : X) (args : List X) : Option (W × List C) := om2 (F.ev ρ σ e) none fun w σ₁ => om1 (kdOf σ₁ w) none fun kd => om2 (evs F ρ σ₁ args) none fun ws σ₂ => om1 (asDs ws) none fun ds => bmEv b kd w ds σ₂
noncomputable def evBin (F : Fns) (ρ : List (Option W)) (σ : List C) (o : BO) (a b : X) : Option (W × List C) := omD (F.ev ρ σ a) none fun x σ₁ => omD (F.ev ρ σ₁ b) none fun y σ₂ => om1 (binEv o x y) none fun d => some (.d d, σ₂)
noncomputable def evCmp (F : Fns) (ρ : List (Option W)) (σ : List C) (o : CO) (a b : X) : Option (W × List C) := om2 (F.ev ρ σ a) none fun x σ₁ => om2 (F.ev ρ σ₁ b) none fun y σ₂ => om1 (view σ₂ x) none fun x => om1 (view σ₂ y) none fun y => om1 (cmpEv o x y) none fun d => some (.d (.bool d), σ₂)
noncomputable def isNone (σ : List C) (w : W) : Option Bool := match w with
  | .d x => bt x.isN (om1 x.sy? (some false) fun _ => none) (some true)
  | .cell k => om1 (nth σ k) none fun c => bt c.isD (some false) none
  | .shelf _ _ => some false
noncomputable def evIsN (F : Fns) (ρ : List (Option W)) (σ : List C) (neg : Bool) (a : X) : Option (W × List C) := om2 (F.ev ρ σ a) none fun d σ₁ => om1 (isNone σ₁ d) none fun b => some (.d (.bool (b != neg)), σ₁)
noncomputable def evNot (F : Fns) (ρ : List (Option W)) (σ : List C) (a : X) : Option (W × List C) := om2 (F.ev ρ σ a) none fun d σ₁ => om1 (truthW σ₁ d) none fun b => some (.d (.bool (!b)), σ₁)
noncomputable def evIte (F : Fns) (ρ : List (Option W)) (σ : List C) (c a b : X) : Option (W × List C) := omB (F.ts ρ σ c) none (fun σ₁ => F.ev ρ σ₁ a) fun σ₁ => F.ev ρ σ₁ b
noncomputable def evSub (F : Fns) (ρ : List (Option W)) (σ : List C) (e i : X) : Option (W × List C) := om2 (F.ev ρ σ e) none fun d σ₁ => omD (F.ev ρ σ₁ i) none fun j σ₂ => om1 (view σ₂ d) none fun x => om1 (subEv x j) none fun r => some (.d r, σ₂)
noncomputable def evSlc (F : Fns) (ρ : List (Option W)) (σ : List C) (e : X) (lo hi : Option X) : Option (W × List C) := omD (F.ev ρ σ e) none fun d σ₁ => om2 (evOpt F ρ σ₁ lo) none fun a σ₂ => om2 (evOpt F ρ σ₂ hi) none fun b σ₃ => om1 (slcEv d a b) none fun r => some (.d r, σ₃)
noncomputable def evTup (F : Fns) (ρ : List (Option W)) (σ : List C) (es : List X) : Option (W × List C) := om2 (evs F ρ σ es) none fun ws σ₁ => om2 (toDs σ₁ ws) none fun ds σ₂ => some (.d (.tup ds), σ₂)
noncomputable def evLst (F : Fns) (ρ : List (Option W)) (σ : List C) (cell : Bool) (es : List X) : Option (W × List C) := om2 (evs F ρ σ es) none fun ws σ₁ => om2 (toDs σ₁ ws) none fun ds σ₂ => some (newCell cell σ₂ (.lst ds) (.lst ds))
noncomputable def evDct (F : Fns) (ρ : List (Option W)) (σ : List C) (cell : Bool) (ks vs : List X) : Option (W × List C) := om1 (keysLit ks) none fun ks => om2 (evs F ρ σ vs) none fun ws σ₁ => om2 (toDs σ₁ ws) none fun ds σ₂ => om1 (zipK ks ds []) none fun es => some (newCell cell σ₂ (.dct es) (.dct es))
noncomputable def evComp (F : Fns) (ρ : List (Option W)) (σ : List C) (elt : X) (tg : List Nat) (src : X) (cond : Option X) (names : List Str) (caps : List Nat) : Option (W × List C) := om2 (srcEv F ρ σ src) none fun items σ₁ => bt (small items.length) none (om2 (compL F tg elt cond items (capsOf ρ caps ++ nones (names.length - caps.length)) σ₁) none fun l σ₂ => some (.d (.lst l), σ₂))
noncomputable def evGlob (tb : Tb) (i : Nat) (σ : List C) : Option (W × List C) := om1 (nth tb.globs i) none fun g => some (.d g.2, σ)
noncomputable def stepEv (tb : Tb) (F : Fns) (ρ : List (Option W)) (σ : List C) (x : X) : Option (W × List C) := match x with
  | .lit d => some (.d d, σ)
  | .loc i => evLoc ρ σ i
  | .glob i => evGlob tb i σ
  | .attr e f => evAttr tb F ρ σ e f
  | .call f args => evCall F ρ σ f args
  | .mk c args => evMk tb F ρ σ c args
  | .meth e m args => evMeth tb F ρ σ e m args
  | .isi e t => evIsi tb F ρ σ e t
  | .bi b args => evBi F ρ σ b args
  | .bm b e args => evBm F ρ σ b e args
  | .bin o a b => evBin F ρ σ o a b
  | .cmp o a b => evCmp F ρ σ o a b
  | .isN neg a => evIsN F ρ σ neg a
  | .not a => evNot F ρ σ a
  | .and as => andL F ρ σ as
  | .or as => orL F ρ σ as
  | .ite c a b => evIte F ρ σ c a b
  | .sub e i => evSub F ρ σ e i
  | .slc e lo hi => evSlc F ρ σ e lo hi
  | .tup es => evTup F ρ σ es
  | .lst cell es => evLst F ρ σ cell es
  | .dct cell ks vs => evDct F ρ σ cell ks vs
  | .comp elt tg src cond names caps => evComp F ρ σ elt tg src cond names caps
  | .range _ => none
  | .rev _ => none
  | .dead => none
noncomputable def tsNot (F : Fns) (ρ : List (Option W)) (σ : List C) (a : X) : Option (Bool × List C) := om2 (F.ts ρ σ a) none fun b σ₁ => some (!b, σ₁)
noncomputable def tsIte (F : Fns) (ρ : List (Option W)) (σ : List C) (c a b : X) : Option (Bool × List C) := omB (F.ts ρ σ c) none (fun σ₁ => F.ts ρ σ₁ a) fun σ₁ => F.ts ρ σ₁ b
noncomputable def tsVal (F : Fns) (ρ : List (Option W)) (σ : List C) (x : X) : Option (Bool × List C) := om2 (F.ev ρ σ x) none fun d σ₁ => om1 (truthW σ₁ d) none fun b => some (b, σ₁)
set_option backward.match.sparseCases false in
noncomputable def stepTs (tb : Tb) (F : Fns) (ρ : List (Option W)) (σ : List C) (x : X) : Option (Bool × List C) := match x with
  | .not a => tsNot F ρ σ a
  | .and as => andT F ρ σ as
  | .or as => orT F ρ σ as
  | .ite c a b => tsIte F ρ σ c a b
  | x => tsVal F ρ σ x
noncomputable abbrev Out := Option (Fl × List (Option W) × List C)
noncomputable def exAsg (F : Fns) (ρ : List (Option W)) (σ : List C) (i : Nat) (e : X) : Out := om2 (F.ev ρ σ e) none fun d σ₁ => some (.next, setNth ρ i (some d), σ₁)
noncomputable def exUnp (F : Fns) (ρ : List (Option W)) (σ : List C) (is : List Nat) (e : X) : Out := omD (F.ev ρ σ e) none fun d σ₁ => om1 d.t? none fun ds => om1 (setAll ρ is ds) none fun ρ₁ => some (.next, ρ₁, σ₁)
noncomputable def putCell (σ : List C) (d : W) (j x : D) : Option (List C) := om2 (cellD σ d) none fun c l => om1 (j.key?) none fun k => bt (small l.length) none (some (setNth σ c (.dct (putK k x l))))
noncomputable def exSetI (F : Fns) (ρ : List (Option W)) (σ : List C) (o i v : X) : Out := omD (F.ev ρ σ v) none fun x σ₁ => om2 (F.ev ρ σ₁ o) none fun d σ₂ => omD (F.ev ρ σ₂ i) none fun j σ₃ => om1 (putCell σ₃ d j x) none fun σ₄ => some (.next, ρ, σ₄)
noncomputable def exExp (F : Fns) (ρ : List (Option W)) (σ : List C) (e : X) : Out := om2 (F.ev ρ σ e) none fun _ σ₁ => some (.next, ρ, σ₁)
noncomputable def exIte (F : Fns) (ρ : List (Option W)) (σ : List C) (c : X) (a b : List T) : Out := omB (F.ts ρ σ c) none (fun σ₁ => xs F ρ σ₁ a) fun σ₁ => xs F ρ σ₁ b
noncomputable def exFor (F : Fns) (ρ : List (Option W)) (σ : List C) (tg : List Nat) (src : X) (body : List T) : Out := om2 (srcEv F ρ σ src) none fun items σ₁ => forL F tg body items ρ σ₁
noncomputable def exWhl (F : Fns) (ρ : List (Option W)) (σ : List C) (c : X) (body : List T) : Out := omB (F.ts ρ σ c) none (fun σ₁ => omF (xs F ρ σ₁ body) none (fun ρ₂ σ₂ => F.ex ρ₂ σ₂ (.whl c body)) fun d ρ₂ σ₂ => some (.ret d, ρ₂, σ₂)) fun σ₁ => some (.next, ρ, σ₁)
noncomputable def exRet (F : Fns) (ρ : List (Option W)) (σ : List C) (e : X) : Out := om2 (F.ev ρ σ e) none fun w σ₁ => om2 (toD σ₁ w) none fun d σ₂ => some (.ret d, ρ, σ₂)
noncomputable def exFrz (ρ : List (Option W)) (σ : List C) (i : Nat) : Out := om1 (getL ρ i) none fun w => om2 (toD σ w) none fun d σ₁ => some (.next, setNth ρ i (some (.d d)), σ₁)
noncomputable def exBump (ρ : List (Option W)) (σ : List C) (i j : Nat) : Out := om1 (getL ρ i) none fun w => om1 w.c? none fun k => om1 (getL ρ j) none fun u => omw u none fun d => bt (isPair d) none (om1 (nth σ k) none fun c => om1 c.d? none fun l => bt (isNil l) none (some (.next, ρ, setNth σ k .any)))
noncomputable def stepEx (tb : Tb) (F : Fns) (ρ : List (Option W)) (σ : List C) (t : T) : Out := match t with
  | .asg i e => exAsg F ρ σ i e
  | .unp is e => exUnp F ρ σ is e
  | .setI o i v => exSetI F ρ σ o i v
  | .setA _ _ => none
  | .exp e => exExp F ρ σ e
  | .ite c a b => exIte F ρ σ c a b
  | .for_ tg src body => exFor F ρ σ tg src body
  | .whl c body => exWhl F ρ σ c body
  | .ret e => exRet F ρ σ e
  | .try_ body => xs F ρ σ body
  | .frz i => exFrz ρ σ i
  | .bump i j => exBump ρ σ i j
  | .dead => none
/-- what a def that is not walked gives (the draws; what was reckoned before) -/
noncomputable abbrev Orc := Nat → List W → List C → Option (D × List C)
noncomputable def fnBody (F : Fns) (f : Fn) (ds : List W) (σ : List C) : Option (D × List C) := om1 (bindArgs' f ds) none fun ρ => omF (xs F ρ σ f.body) none (fun _ σ₁ => some (.none, σ₁.take σ.length)) fun d _ σ₁ => some (d, σ₁.take σ.length)
noncomputable def stepFn (tb : Tb) (orc : Orc) (F : Fns) (i : Nat) (ds : List W) (σ : List C) : Option (D × List C) := om1 (orc i ds σ) (om1 (nth tb.fns i) none fun f => fnBody F f ds σ) fun r => some r
noncomputable def step (tb : Tb) (orc : Orc) (F : Fns) : Fns := ⟨stepEv tb F, stepTs tb F, stepEx tb F, stepFn tb orc F⟩
noncomputable def run (tb : Tb) (orc : Orc) (n : Nat) : Fns := @Nat.rec (fun _ => Fns) Fns.no (fun _ F => step tb orc F) n
end Mine

namespace Mine
open PySem PySem.W PyProof.Rows PySem.Calls PySem.SeqAt

theorem natsEq_iff {a b : List Nat} : natsEq a b = true ↔ a = b := all2_iff fun _ _ => ⟨Nat.eq_of_beq_eq_true, fun e => e ▸ Nat.beq_refl _⟩
theorem strEq_iff {a b : Str} : strEq a b = true ↔ a = b := by
  unfold strEq; rw [natsEq_iff]
  constructor
  · intro h; cases a; cases b; simp only [Str.mk.injEq]; exact Array.toList_inj.mp h
  · intro h; rw [h]
theorem bytesEq_iff {a b : List UInt8} : bytesEq a b = true ↔ a = b := all2_iff fun _ _ => ⟨fun h => UInt8.toNat_inj.mp (Nat.eq_of_beq_eq_true h), fun e => e ▸ Nat.beq_refl _⟩
theorem keyEq_eq {a b : Key} (h : keyEq a b = true) : a = b := by
  cases a with
  | i x => cases b with
    | i y => rw [(Z.eqB_iff x y).mp h]
    | s => exact nof h
    | b => exact nof h
  | s x => cases b with
    | s y => rw [strEq_iff.mp h]
    | i => exact nof h
    | b => exact nof h
  | b x => cases b with
    | b y => rw [bytesEq_iff.mp h]
    | i => exact nof h
    | s => exact nof h
theorem keyEq_iff {a b : Key} : keyEq a b = true ↔ a = b := ⟨keyEq_eq, fun e => e ▸ (by cases a with
  | i x => exact (Z.eqB_iff x x).mpr rfl
  | s x => exact strEq_iff.mpr rfl
  | b x => exact bytesEq_iff.mpr rfl)⟩
theorem strEq_false {a b : Str} (h : strEq a b = false) : a ≠ b := fun e => by rw [strEq_iff.mpr e] at h; cases h
theorem keyEq_false {a b : Key} (h : keyEq a b = false) : a ≠ b := fun e => by rw [keyEq_iff.mpr e] at h; cases h

theorem nth_eq {α : Type} : ∀ (l : List α) (n : Nat), nth l n = l[n]?
  | [], n => by simp [nth]
  | x :: r, 0 => rfl
  | x :: r, n + 1 => by simp [nth, nth_eq r n]
theorem setNth_eq {α : Type} : ∀ (l : List α) (n : Nat) (y : α), setNth l n y = l.set n y
  | [], n, y => by simp [setNth]
  | x :: r, 0, y => rfl
  | x :: r, n + 1, y => by simp [setNth, setNth_eq r n y]
theorem key?_d {d : D} {k : Key} (h : d.key? = some k) : d = k.d := by
  induction d using D.casesOn <;> first | exact nos h | exact congrArg Key.d (Option.some.inj h)
section
variable {p : Pm} {h : Heap} {M : List Addr}
theorem key_rel {v : Value} {d : D} {k : Key} (r : VRel p h M v d) (e : d.key? = some k) : k.is v = true := by
  cases key?_d e
  cases k <;> cases r
  · exact Key.is_val (.i _) _
  · exact Key.is_val (.s _) _
  · exact Key.is_val (.b _) _
theorem rel_key {v : Value} {k : Key} (e : k.is v = true) : VRel p h M v k.d := by
  obtain ⟨t, rfl⟩ := Key.shape e
  cases k
  · exact .int _ _
  · exact .str _ _
  · exact .byt _ _
theorem ERels.length {kvs : List (Key × Value)} {es : List (Key × D)} (r : ERels p h M kvs es) : kvs.length = es.length := by
  induction es generalizing kvs with
  | nil => cases r; rfl
  | cons e es ih => cases r with | cons a b => simp [ih b]
theorem ERels.keys {kvs : List (Key × Value)} {es : List (Key × D)} (r : ERels p h M kvs es) : kvs.map (·.1) = es.map (·.1) := by
  induction es generalizing kvs with
  | nil => cases r; rfl
  | cons e es ih => cases r with | cons a b => simp [ih b]
theorem VRels.length {vs : List Value} {ds : List D} (r : VRels p h M vs ds) : vs.length = ds.length := by
  induction ds generalizing vs with
  | nil => cases r; rfl
  | cons e es ih => cases r with | cons a b => simp [ih b]
theorem ERels.look {kvs : List (Key × Value)} {es : List (Key × D)} (r : ERels p h M kvs es) (k : Key) :
    match lookK k es with | some d => ∃ v, valueAt kvs k = some v ∧ VRel p h M v d | none => valueAt kvs k = none := by
  induction es generalizing kvs with
  | nil => cases r; rfl
  | cons e es ih =>
    cases r with
    | @cons k' v d kvs es a b =>
      unfold lookK
      cases q : keyEq k' k with
      | true => exact ⟨v, by rw [valueAt, List.find?_cons]; simp [keyEq_iff.mp q], a⟩
      | false =>
        have := ih b
        rw [show valueAt ((k', v) :: kvs) k = valueAt kvs k by rw [valueAt, List.find?_cons]; simp [keyEq_false q, valueAt]]
        exact this
theorem ERels.append {kvs kvs' : List (Key × Value)} {es es' : List (Key × D)} (r : ERels p h M kvs es) (r' : ERels p h M kvs' es') : ERels p h M (kvs ++ kvs') (es ++ es') := by
  induction es generalizing kvs with
  | nil => cases r; exact r'
  | cons e es ih => cases r with | cons a b => exact .cons a (ih b)
theorem VRels.append {vs vs' : List Value} {ds ds' : List D} (r : VRels p h M vs ds) (r' : VRels p h M vs' ds') : VRels p h M (vs ++ vs') (ds ++ ds') := by
  induction ds generalizing vs with
  | nil => cases r; exact r'
  | cons e es ih => cases r with | cons a b => exact .cons a (ih b)
theorem VRels.get {vs : List Value} {ds : List D} (r : VRels p h M vs ds) {n : Nat} {d : D} (e : ds[n]? = some d) : ∃ v, vs[n]? = some v ∧ VRel p h M v d := by
  induction ds generalizing vs n with
  | nil => simp at e
  | cons x ds ih =>
    cases r with
    | cons a b =>
      cases n with
      | zero => simp at e; subst e; exact ⟨_, rfl, a⟩
      | succ n => simp at e; exact ih b e
theorem VRels.drop {vs : List Value} {ds : List D} (r : VRels p h M vs ds) (n : Nat) : VRels p h M (vs.drop n) (ds.drop n) := by
  induction ds generalizing vs n with
  | nil => cases r; simp; exact .nil
  | cons x ds ih => cases r with | cons a b => cases n with
    | zero => exact .cons a b
    | succ n => exact ih b n
theorem VRels.take {vs : List Value} {ds : List D} (r : VRels p h M vs ds) (n : Nat) : VRels p h M (vs.take n) (ds.take n) := by
  induction ds generalizing vs n with
  | nil => cases r; simp; exact .nil
  | cons x ds ih => cases r with | cons a b => cases n with
    | zero => exact .nil
    | succ n => exact .cons a (ih b n)
/-- what a store makes -/
theorem putK_keys {es : List (Key × D)} {k : Key} {d : D} (hn : k ∉ es.map (·.1)) : putK k d es = es ++ [(k, d)] := by
  induction es with
  | nil => rfl
  | cons e es ih =>
    simp only [List.map_cons, List.mem_cons, not_or] at hn
    unfold putK
    cases q : keyEq e.1 k with
    | true => exact absurd (keyEq_iff.mp q).symm hn.1
    | false => rw [ih hn.2]; rfl
theorem ERels.put_mem {kvs : List (Key × Value)} {es : List (Key × D)} (r : ERels p h M kvs es) (hn : (kvs.map (·.1)).Nodup) {k : Key} {v : Value} {d : D} (V : VRel p h M v d) (hm : k ∈ kvs.map (·.1)) :
    ERels p h M (kvs.map fun kv => if kv.1 = k then (kv.1, v) else kv) (putK k d es) := by
  induction es generalizing kvs with
  | nil => cases r; simp at hm
  | cons e es ih =>
    cases r with
    | @cons k' v' d' kvs es a b =>
      rw [List.map_cons, List.nodup_cons] at hn
      unfold putK
      cases q : keyEq k' k with
      | true =>
        have := keyEq_iff.mp q; subst this
        rw [List.map_cons, if_pos rfl, map_store_of_not_mem kvs _ _ hn.1]
        exact .cons V b
      | false =>
        rw [List.map_cons, if_neg (keyEq_false q)]
        refine .cons a (ih b hn.2 ?_)
        rcases List.mem_cons.mp hm with z | z
        · exact absurd z.symm (keyEq_false q)
        · exact z
theorem ERels.put {kvs : List (Key × Value)} {es : List (Key × D)} (r : ERels p h M kvs es) (hn : (kvs.map (·.1)).Nodup) {k : Key} {v : Value} {d : D} (V : VRel p h M v d) :
    ERels p h M (stored kvs k v) (putK k d es) := by
  unfold stored
  by_cases hm : k ∈ kvs.map (·.1)
  · rw [if_pos]
    · exact r.put_mem hn V hm
    · obtain ⟨kv, a, b⟩ := List.mem_map.mp hm
      exact List.any_eq_true.mpr ⟨kv, a, by simpa using b⟩
  · rw [if_neg]
    · rw [putK_keys (r.keys ▸ hm)]; exact r.append (.cons V .nil)
    · intro q
      obtain ⟨kv, a, b⟩ := List.any_eq_true.mp q
      exact hm (List.mem_map.mpr ⟨kv, a, by simpa using b⟩)
theorem ERels.drop {kvs : List (Key × Value)} {es : List (Key × D)} (r : ERels p h M kvs es) (hn : (kvs.map (·.1)).Nodup) (k : Key) : ERels p h M (without kvs k) (dropK k es) := by
  induction es generalizing kvs with
  | nil => cases r; exact .nil
  | cons e es ih =>
    cases r with
    | @cons k' v' d' kvs es a b =>
      rw [List.map_cons, List.nodup_cons] at hn
      unfold dropK
      cases q : keyEq k' k with
      | true =>
        have := keyEq_iff.mp q; subst this
        rw [show without ((k', v') :: kvs) k' = without kvs k' by simp [without]]
        rw [without_of_not_mem kvs _ hn.1]
        exact b
      | false =>
        rw [show without ((k', v') :: kvs) k = (k', v') :: without kvs k by simp [without, keyEq_false q]]
        exact .cons a (ih b hn.2)
theorem FRels.look {es : List DictEntry} {fs : List (Str × D)} (r : FRels p h M es fs) (f : Str) :
    match lookS f fs with | some d => ∃ v, (es.find? fun e => e.key.isStr f).map (·.val) = some v ∧ VRel p h M v d | none => (es.find? fun e => e.key.isStr f) = none := by
  induction fs generalizing es with
  | nil => cases r; rfl
  | cons e fs ih =>
    cases r with
    | @cons g t v d hsh es fs a b =>
      unfold lookS
      cases q : strEq g f with
      | true => exact ⟨v, by rw [List.find?_cons]; simp [Value.isStr, strEq_iff.mp q], a⟩
      | false =>
        have := ih b
        have e : (⟨hsh, .str g t, v⟩ :: es : List DictEntry).find? (fun e => e.key.isStr f) = es.find? (fun e => e.key.isStr f) := by
          rw [List.find?_cons]
          have : (Value.str g t).isStr f = false := by simp [Value.isStr, strEq_false q]
          rw [this]
        show match lookS f fs with | some d => _ | none => _
        rw [e]; exact this
end
end Mine

namespace Mine
open PySem PySem.W PyProof.Rows PySem.Calls PySem.SeqAt

theorem small_lt {n : Nat} (h : small n = true) : n < 1000 := Z.blt_iff.mp h
theorem bne_f (r : Bool) : (r != false) = r := by cases r <;> rfl
theorem bne_t (r : Bool) : (r != true) = !r := by cases r <;> rfl
theorem sizeLine_ge : 100000 ≤ sizeLine := by decide
section
variable {p : Pm} {B : Heap} {A : Around} {h : Heap} {M : List Addr} {φ : List (Option Addr)} {σ : List C}

theorem St.cell_at (S : St p B h M φ σ) {k : Nat} {c : C} (e : σ[k]? = some c) (hd : c ≠ .dead) : ∃ a, φ[k]? = some (some a) ∧ CRel p h M a c := by
  have hl : k < φ.length := by rw [S.len]; exact (List.getElem?_eq_some_iff.mp e).1
  cases q : φ[k]? with
  | none => rw [List.getElem?_eq_none_iff] at q; omega
  | some x =>
    cases x with
    | none => rw [(S.dead k).mp q] at e; cases e; exact absurd rfl hd
    | some a => exact ⟨a, rfl, S.cells k a c q e⟩

/-- a value reads as d: it is d, or a cell that holds d -/
inductive Reads (p : Pm) (h : Heap) (M : List Addr) : Value → D → Prop
  | d {v : Value} {x : D} : VRel p h M v x → Reads p h M v x
  | lst {a : Addr} {vs : List Value} {ds : List D} : h.PlainList a vs.toArray → VRels p h M vs ds → Reads p h M (.ref a) (.lst ds)
  | dct {a : Addr} {kvs : List (Key × Value)} {es : List (Key × D)} : h.DictOf (knd p.prog p.w) a kvs → (a == sysModules) = false → ERels p h M kvs es → Reads p h M (.ref a) (.dct es)
theorem view_reads (S : St p B h M φ σ) {v : Value} {w : W} {d : D} (r : WRel p h M φ v w) (e : view σ w = some d) : Reads p h M v d := by
  cases r with
  | d x => cases e; exact .d x
  | shelf => cases e
  | @cell v k l f =>
    change om1 (nth σ k) none (fun c => c.data) = some d at e
    rw [nth_eq] at e
    split at e
    · rename_i c q
      cases C.data_eq e with
      | lst l h1 h2 =>
        subst h1 h2
        obtain ⟨a, x, y⟩ := S.cell_at q nofun
        cases y with | lst y z => rw [f a x]; exact .lst y z
      | dct l h1 h2 =>
        subst h1 h2
        obtain ⟨a, x, y⟩ := S.cell_at q nofun
        cases y with | dct y m z => rw [f a x]; exact .dct y m z
    · cases e
theorem Reads.lst_inv {v : Value} {l : List D} (r : Reads p h M v (.lst l)) : ∃ a vs, v = .ref a ∧ h.PlainList a vs.toArray ∧ VRels p h M vs l := by
  cases r with
  | d x => cases x with | lst y _ z => exact ⟨_, _, rfl, y, z⟩
  | lst y z => exact ⟨_, _, rfl, y, z⟩
theorem Reads.dct_inv {v : Value} {l : List (Key × D)} (r : Reads p h M v (.dct l)) : ∃ a kvs, v = .ref a ∧ h.DictOf (knd p.prog p.w) a kvs ∧ (a == sysModules) = false ∧ ERels p h M kvs l := by
  cases r with
  | d x => cases x with | dct y n m z => exact ⟨_, _, rfl, y, n, z⟩
  | dct y n z => exact ⟨_, _, rfl, y, n, z⟩

/-- what a rule gives that leaves the heap -/
theorem Run.keep {α : Type} {t : Sem α} {R : α → Heap → List Addr → List (Option Addr) → Prop} (S : St p B h M φ σ)
    (H : ∀ (s : Shared) (Q : α → Shared → Prop) (E : Value → Shared → Prop), s.heap = h → (∀ a tk, R a h M φ → Q a { s with toks := tk }) → wpAny (model p.prog p.w) A t Q E s) : Run p B A t h M φ σ R :=
  fun s Q E e k => H s Q E e fun a tk r => by
    have := k a h tk M φ S Mv.refl r
    subst e; exact this
/-- what a rule gives under which the heap grows -/
theorem Run.grown {α : Type} {t : Sem α} {R : α → Heap → List Addr → List (Option Addr) → Prop} (S : St p B h M φ σ)
    (H : ∀ (s : Shared) (Q : α → Shared → Prop) (E : Value → Shared → Prop), s.heap = h →
      (∀ a h' tk, (∀ (b : Addr) (o : Obj), h.get? b = some o → h'.get? b = some o) → R a h' M φ → Q a { s with heap := h', toks := tk }) → wpAny (model p.prog p.w) A t Q E s) : Run p B A t h M φ σ R :=
  fun s Q E e k => H s Q E e fun a h' tk g r => k a h' tk M φ (S.grow g) (Mv.grow g) r

theorem Reads.int_inv {v : Value} {i : Int} (r : Reads p h M v (.int i)) : ∃ t, v = .int i t := by cases r with | d r => cases r; exact ⟨_, rfl⟩
theorem Reads.str_inv {v : Value} {i : Str} (r : Reads p h M v (.str i)) : ∃ t, v = .str i t := by cases r with | d r => cases r; exact ⟨_, rfl⟩
theorem Reads.bool_inv {v : Value} {i : Bool} (r : Reads p h M v (.bool i)) : v = .bool i := by cases r with | d r => cases r; rfl
theorem Reads.none_inv {v : Value} (r : Reads p h M v .none) : v = .none := by cases r with | d r => cases r; rfl
theorem Reads.byt_inv {v : Value} {i : List UInt8} (r : Reads p h M v (.byt i)) : ∃ t, v = .bytes i.toArray t := by cases r with | d r => cases r; exact ⟨_, rfl⟩
/-- a tuple's object -/
inductive TupAt (p : Pm) (h : Heap) (M : List Addr) (v : Value) (l : List D) : Prop
  | mk (a : Addr) (vs : List Value) : v = .ref a → PlainTup h a vs.toArray → VRels p h M vs l → TupAt p h M v l
theorem Reads.tup_inv {v : Value} {l : List D} (r : Reads p h M v (.tup l)) : TupAt p h M v l := by cases r with | d r => cases r with | tup x _ z => exact ⟨_, _, rfl, x, z⟩
theorem bne_of (i : Int) : (i == 0) = Z.eqB i 0 := by rw [Bool.eq_iff_iff, Z.eqB_iff]; exact beq_iff_eq
theorem empty_of {vs : List Value} {l : List D} (h : vs.length = l.length) : (!vs.toArray.isEmpty) = !isNil l := by
  cases vs with
  | nil => cases l with
    | nil => rfl
    | cons => cases h
  | cons v vs => cases l with
    | nil => cases h
    | cons => rfl
theorem run_truthy (S : St p B h M φ σ) {v : Value} {w : W} {b : Bool} (r : WRel p h M φ v w) (e : truthW σ w = some b) : Run p B A (truthy v) h M φ σ (fun x _ _ _ => x = b) := by
  unfold truthW at e
  split at e
  · rename_i d q
    have R := view_reads S r q
    refine Run.keep S fun s Q E hs k => ?_
    subst hs
    cases d with
    | none =>
      rw [R.none_inv]; cases e; exact truthy_none (k _ s.toks rfl)
    | bool b =>
      rw [R.bool_inv]; cases e; exact wpAny_truthy_bool (k _ s.toks rfl)
    | int i =>
      obtain ⟨t, q⟩ := R.int_inv
      rw [q]
      refine truthy_int (k _ s.toks ?_)
      rw [← Option.some.inj e]
      exact congrArg (!·) (bne_of i)
    | lst l =>
      obtain ⟨a, vs, rfl, y, z⟩ := R.lst_inv
      rw [show truth (.lst l) = (bt (small l.length) none (some (!isNil l))) from rfl] at e
      split at e
      · rename_i g
        have g := small_lt g
        cases e
        refine wpAny_truthy_list (items := vs.toArray) y.isList (by rw [List.size_toArray, z.length]; omega) ?_
        rw [empty_of z.length]; exact k _ _ rfl
      · cases e
    | _ => cases e
  · cases e

theorem run_isNone (S : St p B h M φ σ) {v : Value} {w : W} {b : Bool} (r : WRel p h M φ v w) (e : isNone σ w = some b) (neg : Bool) : Run p B A (compareOp (if neg then .IsNot else .Is) v .none) h M φ σ (V p (.bool (b != neg))) := by
  have key : plainIs v .none = true ∧ (v == .none) = b := by
    cases r with
    | d x => cases x <;> first | exact nos e | (cases e; exact ⟨rfl, rfl⟩)
    | shelf => cases e; exact ⟨rfl, rfl⟩
    | @cell v k l f =>
      change om1 (nth σ k) none (fun c => bt c.isD (some false) none) = some b at e
      rw [nth_eq] at e
      split at e
      · rename_i c q2
        split at e
        · cases e
        · rename_i q1
          cases e
          obtain ⟨a, x, _⟩ := S.cell_at q2 (C.isD_ne q1)
          rw [f a x]; exact ⟨rfl, rfl⟩
      · cases e
  refine Run.keep S fun s Q E hs k => ?_
  cases neg with
  | false => exact wpAny_is_plain key.1 (by rw [key.2]; exact k _ s.toks (by rw [bne_f]; exact .bool b))
  | true => exact wpAny_isNot_plain key.1 (by rw [key.2]; exact k _ s.toks (by rw [bne_t]; exact .bool _))
end
end Mine

namespace Mine
open PySem PySem.W PyProof.Rows PySem.Calls PySem.SeqAt

noncomputable def Ty.v : Ty → Value
  | .none => .type "NoneType"
  | .bool => .type "bool"
  | .int => .type "int"
  | .str => .type "str"
  | .tup => .type "tuple"
  | .lst => .type "list"
  | .dct => .type "dict"
  | .cls a => .ref a
/-- a class of the program: plain gets, a dict of its own -/
noncomputable def clsOk (K : Frag) (D : Addr) : Bool := plainGet K D "__class__" && hasDictIn K D && (findIn K (.ref D) "__class__" == some (some (.builtin "object.__class__"))) && (mroIn K D (.type "object") == some true)
noncomputable def isiOk (K : Frag) (tys its : List Ty) : Bool := tys.all fun a => its.all fun b => kitOne K a.v b.v == some (isTy a b)
noncomputable def isiTys (tb : Tb) : List Ty := [.none, .bool, .int, .str, .tup, .lst, .dct] ++ tb.cls.map fun c => .cls c.addr
noncomputable def isiIts (tb : Tb) : List Ty := [.bool, .int, .lst, .dct] ++ tb.cls.map fun c => .cls c.addr
/-- what is asked of the classes -/
structure CkC (K : Frag) (tb : Tb) : Prop where
  isi : isiOk K (isiTys tb) (isiIts tb) = true
  cls : (tb.cls.all fun c => clsOk K c.addr) = true
  cg : specialIn K (.builtin "object.__class__") "__get__" = some (some (.builtin "getset_descriptor.__get__"))
  ct : takesIn K (.builtin "object.__class__") = some true

theorem hasCl_mem {a : Nat} : ∀ {l : List Cl}, hasCl a l = true → ∃ c ∈ l, c.addr = a
  | [], e => by cases e
  | c :: r, e => by
    unfold hasCl at e
    split at e
    · rename_i q; exact ⟨c, .head _, Nat.eq_of_beq_eq_true q⟩
    · obtain ⟨d, m, q⟩ := hasCl_mem (l := r) e; exact ⟨d, .tail _ m, q⟩
theorem nth_mem {α : Type} {l : List α} {n : Nat} {x : α} (e : nth l n = some x) : x ∈ l := List.mem_of_getElem? (nth_eq l n ▸ e)
section
variable {K : Frag} {tb : Tb} {D : Addr}
theorem CkC.one (C : CkC K tb) {a b : Ty} (ha : a ∈ isiTys tb) (hb : b ∈ isiIts tb) : kitOne K a.v b.v = some (isTy a b) := by
  have := List.all_eq_true.mp (List.all_eq_true.mp C.isi a ha) b hb
  exact beq_iff_eq.mp this
theorem CkC.ok (C : CkC K tb) (h : hasCl D tb.cls = true) : clsOk K D = true := by
  obtain ⟨c, m, rfl⟩ := hasCl_mem h
  exact List.all_eq_true.mp C.cls c m
theorem CkC.own (C : CkC K tb) (h : hasCl D tb.cls = true) {x : Addr} {ox od : Obj} : KitX K (.ref x) (.ref D) (fun h => InstAt h x ox D (some od)) := by
  have e := C.ok h
  unfold clsOk at e
  simp only [Bool.and_eq_true] at e
  obtain ⟨⟨⟨e1, e2⟩, e3⟩, e4⟩ := e
  exact kitx_own e1 e2 (beq_iff_eq.mp e3) C.cg C.ct (beq_iff_eq.mp e4)
end
section
variable {p : Pm} {K : Frag} {mg mb : Str → Option Value} {tb : Tb} {B : Heap} {A : Around} {h : Heap} {M : List Addr} {φ : List (Option Addr)} {σ : List C}
theorem Bs.In (Y : Bs K mg mb B) (S : St p B h M φ σ) : K.In h := Y.K.keeps S.base
theorem instAt {a C dx : Addr} {fes : List DictEntry} {n : Nat} (e1 : h.get? a = some (instObj C dx)) (e2 : h.get? dx = some (dictOf fes n)) : InstAt h a (instObj C dx) C (some (dictOf fes n)) :=
  ⟨e1, rfl, rfl, e2⟩
theorem itTy_mem {t : IT} {c : Ty} (hc : itTy tb t = some c) : c ∈ isiIts tb := by
  cases t with
  | bool => cases hc; exact .head _
  | int => cases hc; exact .tail _ (.head _)
  | list => cases hc; exact .tail _ (.tail _ (.head _))
  | dict => cases hc; exact .tail _ (.tail _ (.tail _ (.head _)))
  | cls k =>
    unfold itTy at hc
    dsimp only at hc
    split at hc
    · rename_i c q; cases hc; exact List.mem_append_right _ (List.mem_map.mpr ⟨_, nth_mem q, rfl⟩)
    · cases hc
/-- a value and its type -/
inductive KitR (K : Frag) (tb : Tb) (h : Heap) (v : Value) (a : Ty) : Prop
  | mk (H : Heap → Prop) : a ∈ isiTys tb → KitX K v a.v H → H h → v ≠ .builtin "__main__.__loader__#opaque" → KitR K tb h v a
theorem kit_at {x : Addr} {T : String} {o : Obj} (e : h.get? x = some o) (c : o.cls = .type T) : KitAt x T h := ⟨_, e, c⟩
theorem kitR_of (G : CkC K tb) {v : Value} {d : D} {a : Ty} (r : Reads p h M v d) (ha : tyOf tb d = some a) : KitR K tb h v a := by
  cases d with
  | none => cases ha; rw [r.none_inv]; exact ⟨_, .head _, kitx_none, trivial, nofun⟩
  | bool _ => cases ha; rw [r.bool_inv]; exact ⟨_, .tail _ (.head _), kitx_bool, trivial, nofun⟩
  | int _ => cases ha; obtain ⟨t, q⟩ := r.int_inv; rw [q]; exact ⟨_, .tail _ (.tail _ (.head _)), kitx_int, trivial, nofun⟩
  | str _ => cases ha; obtain ⟨t, q⟩ := r.str_inv; rw [q]; exact ⟨_, .tail _ (.tail _ (.tail _ (.head _))), kitx_str, trivial, nofun⟩
  | tup _ => cases ha; obtain ⟨x, vs, q, ⟨n, y⟩, z⟩ := r.tup_inv; rw [q]; exact ⟨_, .tail _ (.tail _ (.tail _ (.tail _ (.head _)))), kitx_tuple, kit_at y rfl, nofun⟩
  | lst _ => cases ha; obtain ⟨x, vs, q, ⟨n, y⟩, z⟩ := r.lst_inv; rw [q]; exact ⟨_, .tail _ (.tail _ (.tail _ (.tail _ (.tail _ (.head _))))), kitx_list, kit_at y rfl, nofun⟩
  | dct _ => cases ha; obtain ⟨x, vs, q, ⟨o, es, ep, y, ex, _⟩, z⟩ := r.dct_inv; rw [q]; exact ⟨_, .tail _ (.tail _ (.tail _ (.tail _ (.tail _ (.tail _ (.head _)))))), kitx_dict, kit_at y ex.1, nofun⟩
  | inst a' _ =>
    unfold tyOf at ha
    dsimp only at ha
    split at ha
    · rename_i q
      cases ha
      cases r with
      | d r =>
        cases r with
        | inst e1 e2 _ _ _ =>
          obtain ⟨c', m, z⟩ := hasCl_mem q
          exact ⟨_, List.mem_append_right _ (List.mem_map.mpr ⟨c', m, by rw [z]⟩), G.own q, instAt e1 e2, nofun⟩
    · cases ha
  | _ => cases ha
theorem run_isi (Y : Bs K mg mb B) (G : CkC K tb) (S : St p B h M φ σ) {v : Value} {d : D} {t : IT} {b : Bool} {c : Ty} (r : Reads p h M v d) (e : isiD tb d t = some b) (hc : itTy tb t = some c) :
    Run p B A (call (.builtin "isinstance") [v, c.v]) h M φ σ (V p (.bool b)) := by
  unfold isiD at e
  rw [hc] at e
  split at e
  rotate_left
  · cases e
  rename_i a ha
  cases e
  obtain ⟨H, m, Z, hx, q⟩ := kitR_of G r ha
  exact Run.keep S fun s Q E hs k => by subst hs; exact kia_one Z (Y.In S) hx (G.one m (itTy_mem hc)) q fun tk => k _ tk (.bool _)
end
end Mine

namespace Mine
open PySem PySem.W PyProof.Rows PySem.Calls PySem.SeqAt

section
variable {p : Pm} {K : Frag} {mg mb : Str → Option Value} {tb : Tb} {B : Heap} {A : Around} {h : Heap} {M : List Addr} {φ : List (Option Addr)} {σ σ₁ σ₂ : List C}
theorem VRel.notBuiltin {v : Value} {d : D} (r : VRel p h M v d) (i : String) : v ≠ .builtin i := by
  intro e; subst e
  exact VRel.rec (motive_1 := fun v d _ => v ≠ .builtin i) (motive_2 := fun _ _ _ => True) (motive_3 := fun _ _ _ => True) (motive_4 := fun _ _ _ => True)
    (by simp) (by simp) (by simp) (by simp) (by simp) (by intros; simp) (by intros; simp) (by intros; simp) (by intros; simp) (by intros; assumption) (by intros; trivial) (by intros; trivial) (by intros; trivial) (by intros; trivial) (by intros; trivial) (by intros; trivial) r rfl
theorem handed {v : Value} (n : ∀ i, v ≠ .builtin i) : handedIn v = true := by cases v <;> first | rfl | exact absurd rfl (n _)
/-- a name that no class of the program has -/
noncomputable def fldOk (K : Frag) (tb : Tb) (f : Str) : Bool := tb.cls.all fun c => !Nat.blt c.init 9999 || findIn K (.ref c.addr) f == some none
theorem hasA_mem {a : Nat} : ∀ {l : List Cl}, hasA a l = true → ∃ c ∈ l, c.addr = a ∧ Nat.blt c.init 9999 = true
  | [], e => by cases e
  | c :: r, e => by
    unfold hasA at e
    split at e
    · rename_i q; exact ⟨c, .head _, Nat.eq_of_beq_eq_true (and2 q).1, (and2 q).2⟩
    · obtain ⟨d, m, q⟩ := hasA_mem (l := r) e; exact ⟨d, .tail _ m, q⟩
theorem hasA_cl {a : Nat} : ∀ {l : List Cl}, hasA a l = true → hasCl a l = true
  | [], e => by cases e
  | c :: r, e => by
    unfold hasA at e
    change bt _ _ _ = true
    split
    · rfl
    · rename_i q
      rw [q] at e
      exact hasA_cl (l := r) e
theorem fldOk_at {f : Str} (e : fldOk K tb f = true) {D : Addr} (h : hasA D tb.cls = true) : findIn K (.ref D) f = some none := by
  obtain ⟨c, m, rfl, q⟩ := hasA_mem h
  have := List.all_eq_true.mp e c m
  rw [q] at this
  exact beq_iff_eq.mp (by simpa using this)
theorem find_own {D : Addr} {f : Str} {fes : List DictEntry} {n : Nat} {v : Value} (c : clsOk K D = true) (e : findIn K (.ref D) f = some none) (q : (fes.find? fun e => e.key.isStr f).map (·.val) = some v) :
    findObj K D (some (dictOf fes n)) f = some (.value v) := by
  unfold clsOk at c
  simp only [Bool.and_eq_true] at c
  obtain ⟨cd, hc, hd⟩ := any_some c.1.1.2
  unfold findObj
  rw [hc, Option.bind_some, e, Option.bind_some]
  dsimp only [Option.bind_some]
  unfold W.ownOf
  rw [hd, if_pos rfl]
  obtain ⟨x, hx, rfl⟩ := Option.map_eq_some_iff.mp q
  have : lookIn f (dictOf fes n) = some (some x.val) := by
    unfold lookIn
    show (match fes.toArray.toList.find? _ with | some e => some (some e.val) | none => _) = _
    rw [List.toList_toArray, hx]
  dsimp only
  rw [this]; rfl
theorem get_plain {D x dx : Addr} {f : Str} {fes : List DictEntry} {n : Nat} {v : Value} {ex : Bool} (Y : Bs K mg mb B) (S : St p B h M φ σ) (G : CkC K tb) (hD : hasA D tb.cls = true) (hf : fldOk K tb f = true)
    (e1 : h.get? x = some (instObj D dx)) (e2 : h.get? dx = some (dictOf fes n)) (q : (fes.find? fun e => e.key.isStr f).map (·.val) = some v) (nb : ∀ i, v ≠ .builtin i)
    {R : Value → Heap → List Addr → List (Option Addr) → Prop} (r : R v h M φ) : Run p B A (getAttr (.ref x) f ex) h M φ σ R := by
  have c := G.ok (hasA_cl hD)
  have g : findIn K (.ref D) "__getattribute__" = some (some (.builtin "object.__getattribute__")) := by
    unfold clsOk plainGet at c
    simp only [Bool.and_eq_true] at c
    exact beq_iff_eq.mp c.1.1.1.1
  refine Run.keep S fun s Q E hs k => ?_
  subst hs
  exact get_value (Y.In S) (instAt e1 e2) g (find_own c (fldOk_at hf hD) q) (handed nb) (k _ _ r)
/-- facts of the shelf's class -/
structure CkS (p : Pm) (tb : Tb) : Prop where
  sh : tb.sh = p.sh
  tn : tb.tn = p.tn
  rn : tb.rn = p.rn
  ne : p.tn ≠ p.rn
  has : hasA p.sh tb.cls = true
theorem attr_at {w r : W} {f : Str} {v : Value} {ex : Bool} (Y : Bs K mg mb B) (G : CkC K tb) (G' : CkS p tb) (S : St p B h M φ σ) (hf : fldOk K tb f = true) (V : WRel p h M φ v w) (e : attrW tb w f = some r) :
    Run p B A (getAttr v f ex) h M φ σ (U p r) := by
  induction w with
  | cell => exact nos e
  | d x =>
    unfold attrW at e
    dsimp only at e
    split at e
    · rename_i q0
      split at e
      · rename_i hD
        split at e
        · rename_i q
          cases e
          cases V with
          | d V =>
            rw [D.inst?_eq q0] at V
            cases V with
            | inst e1 e2 m1 m2 z =>
              have := z.look f
              rw [q] at this
              obtain ⟨v, a, b⟩ := this
              exact get_plain Y S G hD hf e1 e2 a b.notBuiltin (.d b)
        · cases e
      · cases e
    · cases e
  | shelf t' r' =>
    unfold attrW at e
    dsimp only at e
    cases V with
    | @shelf s dx ht hr u1 u2 a1 a2 n _ _ e1 e2 m1 m2 l1 f1 l2 f2 =>
      split at e
      · rename_i q
        cases e
        have q : f = p.tn := (strEq_iff.mp q).symm.trans G'.tn
        subst q
        refine get_plain Y S G G'.has hf e1 e2 (v := .ref a1) ?_ (by simp) (.cell l1 fun a z => by rw [f1 a z])
        rw [List.find?_cons]; simp [Value.isStr]
      · rename_i q1
        split at e
        · rename_i q
          cases e
          have q : f = p.rn := (strEq_iff.mp q).symm.trans G'.rn
          subst q
          refine get_plain Y S G G'.has hf e1 e2 (v := .ref a2) ?_ (by simp) (.cell l2 fun a z => by rw [f2 a z])
          rw [List.find?_cons]
          have : (p.tn == p.rn) = false := by simpa using G'.ne
          simp [Value.isStr, this]
        · cases e
end
end Mine

namespace Mine
open PySem PySem.W PyProof.Rows PySem.Calls PySem.SeqAt

noncomputable def methOk (K : Frag) (tb : Tb) (C : Addr) (e : Str × Nat) : Bool := match nth tb.fns e.2 with
  | some f => findIn K (.ref C) e.1 == some (some (.ref f.addr)) && typeIn K (.ref f.addr) == some (.type "function")
  | none => false
noncomputable def methsOk (K : Frag) (tb : Tb) : Bool := tb.cls.all fun c => c.meths.all (methOk K tb c.addr)
theorem clAt_mem {a : Nat} {c : Cl} : ∀ {l : List Cl}, clAt a l = some c → c ∈ l ∧ c.addr = a ∧ hasCl a l = true
  | [], e => by cases e
  | x :: r, e => by
    unfold clAt at e
    split at e
    · rename_i q; cases e; exact ⟨.head _, Nat.eq_of_beq_eq_true q, by unfold hasCl; rw [q]; rfl⟩
    · rename_i q; obtain ⟨m, z, h⟩ := clAt_mem (l := r) e; exact ⟨.tail _ m, z, by unfold hasCl; rw [q]; exact h⟩
theorem methAt_mem {f : Str} {n : Nat} : ∀ {l : List (Str × Nat)}, methAt f l = some n → (f, n) ∈ l
  | [], e => by cases e
  | x :: r, e => by
    unfold methAt at e
    split at e
    · rename_i q; cases e; rw [← strEq_iff.mp q]; exact .head _
    · exact .tail _ (methAt_mem e)
section
variable {p : Pm} {K : Frag} {mg mb : Str → Option Value} {tb : Tb} {B : Heap} {A : Around} {h : Heap} {M : List Addr} {φ : List (Option Addr)} {σ σ₁ σ₂ : List C}
theorem FRels.noRef {es : List DictEntry} {fs : List (Str × D)} (r : FRels p h M es fs) : es.any (·.refKey) = false := by
  induction fs generalizing es with
  | nil => cases r; rfl
  | cons e fs ih => cases r with | cons a b => rw [List.any_cons, ih b]; rfl
theorem shadow_no {m : Str} {fes : List DictEntry} {n : Nat} (a : (fes.find? fun e => e.key.isStr m) = none) (b : fes.any (·.refKey) = false) : shadowIn (some (dictOf fes n)) m = some false := by
  unfold shadowIn
  have : lookIn m (dictOf fes n) = some none := by
    unfold lookIn
    show (match fes.toArray.toList.find? _ with | some e => some (some e.val) | none => if fes.toArray.toList.any _ then none else some none) = _
    rw [List.toList_toArray, a]
    dsimp only
    rw [b]; rfl
  dsimp only
  rw [this]; rfl
theorem meth_get {D x dx : Addr} {m : Str} {fes : List DictEntry} {n i : Nat} {f : Fn} {pl : Sem Bool} (Y : Bs K mg mb B) (S : St p B h M φ σ) (G : CkC K tb) (Gm : methsOk K tb = true) (hm : methOf tb D m = some i) (hf : nth tb.fns i = some f)
    (e1 : h.get? x = some (instObj D dx)) (e2 : h.get? dx = some (dictOf fes n)) (a : (fes.find? fun e => e.key.isStr m) = none) (b : fes.any (·.refKey) = false) :
    Run p B A (getMethod (.ref x) m pl) h M φ σ (fun r _ _ _ => r = (.ref f.addr, [.ref x])) := by
  unfold methOf at hm
  split at hm
  rotate_left
  · cases hm
  rename_i cl hcl
  obtain ⟨cm, ce, hD⟩ := clAt_mem hcl
  have c := G.ok hD
  have z := List.all_eq_true.mp (List.all_eq_true.mp Gm cl cm) _ (methAt_mem hm)
  unfold methOk at z
  rw [hf, ce] at z
  simp only [Bool.and_eq_true, beq_iff_eq] at z
  unfold clsOk plainGet at c
  simp only [Bool.and_eq_true, beq_iff_eq] at c
  refine Run.keep S fun s Q E hs k => ?_
  subst hs
  exact method_fn (Y.In S) (instAt e1 e2) c.1.1.1.1 c.1.1.1.2 z.1 z.2 (shadow_no a b) (k _ s.toks rfl)
theorem meth_at {w : W} {m : Str} {v : Value} {i : Nat} {f : Fn} {pl : Sem Bool} (Y : Bs K mg mb B) (G : CkC K tb) (Gm : methsOk K tb = true) (G' : CkS p tb) (S : St p B h M φ σ) (V : WRel p h M φ v w) (e : methW tb w m = some i) (hf : nth tb.fns i = some f) :
    Run p B A (getMethod v m pl) h M φ σ (fun r _ _ _ => r = (.ref f.addr, [v])) := by
  unfold methW at e
  induction w with
  | cell => exact nos e
  | d x =>
    dsimp only at e
    split at e
    · rename_i q0
      split at e
      · cases e
      · rename_i q
        cases V with
        | d V =>
          rw [D.inst?_eq q0] at V
          cases V with
          | inst e1 e2 m1 m2 z =>
            have := z.look m
            rw [q] at this
            exact meth_get Y S G Gm e hf e1 e2 this z.noRef
    · cases e
  | shelf t' r' =>
    dsimp only at e
    cases V with
    | @shelf s dx ht hr u1 u2 a1 a2 n _ _ e1 e2 m1 m2 l1 f1 l2 f2 =>
      split at e
      · cases e
      · rename_i q1
        split at e
        · cases e
        · rename_i q2
          have q1 := strEq_false q1
          have q2 := strEq_false q2
          rw [G'.tn] at q1
          rw [G'.rn] at q2
          rw [G'.sh] at e
          refine meth_get Y S G Gm e hf e1 e2 ?_ rfl
          have h1 : (p.tn == m) = false := beq_eq_false_iff_ne.mpr q1
          have h2 : (p.rn == m) = false := beq_eq_false_iff_ne.mpr q2
          simp [List.find?_cons, Value.isStr, h1, h2]
end
end Mine

namespace Mine
open PySem PySem.W PyProof.Rows PySem.Calls PySem.SeqAt

noncomputable def eAt (f : D → D → Option Bool) (xs ys : List D) (j : Nat) : Bool := match xs[j]?, ys[j]? with
  | some x, some y => (f x y).getD false
  | _, _ => false
theorem eqL_sound (f : D → D → Option Bool) : ∀ {xs ys : List D} {r : Bool}, eqL f xs ys = some r →
    r = ((List.range (min xs.length ys.length)).all (eAt f xs ys) && (xs.length == ys.length)) ∧ ∀ j (h1 : j < xs.length) (h2 : j < ys.length), f xs[j] ys[j] = some (eAt f xs ys j)
  | [], [], r, e => by cases e; exact ⟨rfl, fun j h1 => absurd h1 (by simp)⟩
  | [], _ :: _, r, e => by cases e; exact ⟨rfl, fun j h1 => absurd h1 (by simp)⟩
  | _ :: _, [], r, e => by cases e; exact ⟨by simp, fun j h1 h2 => absurd h2 (by simp)⟩
  | x :: xs, y :: ys, r, e => by
    have hs : ∀ j, eAt f (x :: xs) (y :: ys) (j + 1) = eAt f xs ys j := fun j => by simp [eAt]
    have h0 : ∀ b, f x y = some b → eAt f (x :: xs) (y :: ys) 0 = b := fun b q => by simp [eAt, q]
    have lens : ((x :: xs).length == (y :: ys).length) = (xs.length == ys.length) := by simp
    have rng : (List.range (min (x :: xs).length (y :: ys).length)).all (eAt f (x :: xs) (y :: ys)) = (eAt f (x :: xs) (y :: ys) 0 && (List.range (min xs.length ys.length)).all (eAt f xs ys)) := by
      rw [List.length_cons, List.length_cons, show min (xs.length + 1) (ys.length + 1) = min xs.length ys.length + 1 by omega, List.range_succ_eq_map, List.all_cons, List.all_map]
      congr 2
    rw [rng, lens]
    change omb (f x y) none (eqL f xs ys) (om1 (eqL f xs ys) none fun _ => some false) = some r at e
    split at e
    · rename_i q
      obtain ⟨a, b⟩ := eqL_sound f (xs := xs) (ys := ys) e
      refine ⟨by rw [h0 _ q, Bool.true_and]; exact a, fun j h1 h2 => ?_⟩
      cases j with
      | zero => rw [h0 _ q]; exact q
      | succ j => rw [hs]; exact b j (by simpa using h1) (by simpa using h2)
    · rename_i q
      split at e
      · rename_i z
        cases e
        obtain ⟨a, b⟩ := eqL_sound f (xs := xs) (ys := ys) z
        refine ⟨by rw [h0 _ q, Bool.false_and, Bool.false_and], fun j h1 h2 => ?_⟩
        cases j with
        | zero => rw [h0 _ q]; exact q
        | succ j => rw [hs]; exact b j (by simpa using h1) (by simpa using h2)
      · cases e
    · cases e

theorem toArr_inj {α : Type} {a b : List α} (e : a.toArray = b.toArray) : a = b := by have := congrArg Array.toList e; simpa using this
theorem PlainTup.isTuple {h : Heap} {a : Addr} {items : Array Value} (t : PlainTup h a items) : h.IsTuple a items := by
  obtain ⟨n, e⟩ := t; exact ⟨_, e, rfl, n, rfl⟩
theorem PlainTup.inj {h : Heap} {a : Addr} {i j : Array Value} (x : PlainTup h a i) (y : PlainTup h a j) : i = j := by
  obtain ⟨n, e⟩ := x; obtain ⟨m, f⟩ := y; rw [e] at f; cases f; rfl
theorem plainList_inj {h : Heap} {a : Addr} {i j : Array Value} (x : h.PlainList a i) (y : h.PlainList a j) : i = j := by
  obtain ⟨n, e⟩ := x; obtain ⟨m, f⟩ := y; rw [e] at f; cases f; rfl
section
variable {p : Pm} {h : Heap} {M : List Addr}
theorem VRels.at' {vs : List Value} {ds : List D} (r : VRels p h M vs ds) {j : Nat} (h1 : j < vs.length) (h2 : j < ds.length) : VRel p h M vs[j] ds[j] := by
  obtain ⟨v, a, b⟩ := r.get (List.getElem?_eq_getElem h2)
  rw [List.getElem?_eq_getElem h1] at a
  cases a; exact b
theorem all_true {n : Nat} {e : Nat → Bool} (k : ∀ j, j < n → e j = true) : (List.range n).all e = true := List.all_eq_true.mpr fun j m => k j (List.mem_range.mp m)
/-- what == comes to -/
inductive EqS (n : Nat) : D → D → Bool → Prop
  | none : EqS n .none .none true
  | bool (a b : Bool) : EqS n (.bool a) (.bool b) (a == b)
  | int (a b : Int) : EqS n (.int a) (.int b) (a == b)
  | str (a b : Str) : EqS n (.str a) (.str b) (a == b)
  | byt (a b : List UInt8) : EqS n (.byt a) (.byt b) (decide (a = b))
  | tup {x y : List D} {r : Bool} : eqL (eqD n) x y = some r → EqS n (.tup x) (.tup y) r
  | lst {x y : List D} {r : Bool} : x.length = y.length → eqL (eqD n) x y = some r → EqS n (.lst x) (.lst y) r
  | len {x y : List D} : x.length ≠ y.length → EqS n (.lst x) (.lst y) false
theorem eqb_of {a b : Bool} {P : Prop} (h1 : a = true ↔ P) (h2 : b = true ↔ P) : a = b := by rw [Bool.eq_iff_iff, h1, h2]
theorem eqD_inv {n : Nat} {x y : D} {r : Bool} (e : eqD (n + 1) x y = some r) : EqS n x y r := by
  change eqD1 (eqL (eqD n)) x y = some r at e
  cases x with
  | none => exact bsp (o := y.isN) e (fun q z => by rw [D.isN_eq q, ← Option.some.inj z]; exact .none) fun _ z => nos z
  | bool a => exact om1_inv e fun b q z => by rw [D.b?_eq q, ← z]; exact .bool _ _
  | int a => exact om1_inv e fun b q z => by rw [D.i?_eq q, ← z, show Z.eqB a b = (a == b) from eqb_of (Z.eqB_iff a b) (beq_iff_eq (a := a))]; exact .int _ _
  | str a => exact om1_inv e fun b q z => by rw [D.s?_eq q, ← z, show strEq a b = (a == b) from eqb_of (strEq_iff (a := a)) (beq_iff_eq (a := a))]; exact .str _ _
  | byt a => exact om1_inv e fun b q z => by rw [D.y?_eq q, ← z, show bytesEq a b = decide (a = b) from eqb_of (bytesEq_iff (a := a)) decide_eq_true_iff]; exact .byt _ _
  | tup a => exact osp1 (o := y.t?) e (fun b q z => by rw [D.t?_eq q]; exact .tup z) fun _ z => nos z
  | lst a => exact osp1 (o := y.l?) e (fun b q z => by
      rw [D.l?_eq q]
      exact bsp (o := Nat.beq a.length b.length) z (fun q z => .lst (Nat.eq_of_beq_eq_true q) z) fun q z => by rw [← Option.some.inj z]; exact .len (Nat.ne_of_beq_eq_false q)) fun _ z => nos z
  | _ => exact nos e
theorem eqD_reflL {n : Nat} (ih : ∀ {v : Value} {x y : D} {r : Bool}, Reads p h M v x → Reads p h M v y → eqD n x y = some r → r = true) {vs : List Value} {xs ys : List D} {r : Bool} (a : VRels p h M vs xs) (b : VRels p h M vs ys) (e : eqL (eqD n) xs ys = some r) : r = true := by
  obtain ⟨e1, e2⟩ := eqL_sound (eqD n) e
  have l1 := a.length
  have l2 := b.length
  rw [e1, show xs.length = ys.length by omega, beq_self_eq_true, Bool.and_true]
  exact all_true fun j hj => ih (.d (a.at' (by omega) (by omega))) (.d (b.at' (by omega) (by omega))) (e2 j (by omega) (by omega))
theorem ref_inj {a b : Addr} (h : Value.ref a = .ref b) : a = b := by cases h; rfl
theorem int_inj {a b : Int} {t u : Tok} (h : Value.int a t = .int b u) : a = b := by cases h; rfl
theorem str_inj {a b : Str} {t u : Tok} (h : Value.str a t = .str b u) : a = b := by cases h; rfl
theorem bytes_inj {a b : Array UInt8} {t u : Tok} (h : Value.bytes a t = .bytes b u) : a = b := by cases h; rfl
theorem bool_inj {a b : Bool} (h : Value.bool a = .bool b) : a = b := by cases h; rfl
/-- two that one value stands for are equal -/
theorem eqD_refl (n : Nat) : ∀ {v : Value} {x y : D} {r : Bool}, Reads p h M v x → Reads p h M v y → eqD n x y = some r → r = true := by
  induction n with
  | zero => intro v x y r _ _ e; cases e
  | succ n ih =>
    intro v x y r X Y e
    cases eqD_inv e with
    | none => rfl
    | bool a b => rw [bool_inj (X.bool_inv.symm.trans Y.bool_inv)]; exact beq_self_eq_true _
    | int a b => obtain ⟨t, q⟩ := X.int_inv; obtain ⟨u, z⟩ := Y.int_inv; rw [int_inj (q.symm.trans z)]; exact beq_self_eq_true _
    | str a b => obtain ⟨t, q⟩ := X.str_inv; obtain ⟨u, z⟩ := Y.str_inv; rw [str_inj (q.symm.trans z)]; exact beq_self_eq_true _
    | byt a b => obtain ⟨t, q⟩ := X.byt_inv; obtain ⟨u, z⟩ := Y.byt_inv; rw [toArr_inj (bytes_inj (q.symm.trans z))]; exact decide_eq_true rfl
    | tup e =>
      obtain ⟨a, vs, q, x1, x2⟩ := X.tup_inv
      obtain ⟨b, us, z, y1, y2⟩ := Y.tup_inv
      rw [ref_inj (q.symm.trans z)] at x1
      rw [toArr_inj (x1.inj y1)] at x2
      exact eqD_reflL ih x2 y2 e
    | lst _ e =>
      obtain ⟨a, vs, q, x1, x2⟩ := X.lst_inv
      obtain ⟨b, us, z, y1, y2⟩ := Y.lst_inv
      rw [ref_inj (q.symm.trans z)] at x1
      rw [toArr_inj (plainList_inj x1 y1)] at x2
      exact eqD_reflL ih x2 y2 e
    | len ne =>
      obtain ⟨a, vs, q, x1, x2⟩ := X.lst_inv
      obtain ⟨b, us, z, y1, y2⟩ := Y.lst_inv
      rw [ref_inj (q.symm.trans z)] at x1
      rw [toArr_inj (plainList_inj x1 y1)] at x2
      exact absurd (x2.length.symm.trans y2.length) ne
end
end Mine

namespace Mine
open PySem PySem.W PyProof.Rows PySem.Calls PySem.SeqAt

section
variable {p : Pm} {A : Around} {s : Shared} {M : List Addr}
theorem eqD_elemsL {n : Nat} (ih : ∀ {a b : Value} {x y : D} {r : Bool}, VRel p s.heap M a x → VRel p s.heap M b y → eqD n x y = some r → EqAt A s a b r) {vs us : List Value} {xs ys : List D} {r : Bool} (a : VRels p s.heap M vs xs) (b : VRels p s.heap M us ys) (e : eqL (eqD n) xs ys = some r) :
    ∃ e' : Nat → Bool, (∀ j (h1 : j < vs.toArray.size) (h2 : j < us.toArray.size), EqAt A s vs.toArray[j] us.toArray[j] (e' j)) ∧ r = ((List.range (min vs.toArray.size us.toArray.size)).all e' && vs.toArray.size == us.toArray.size) := by
  obtain ⟨e1, e2⟩ := eqL_sound (eqD n) e
  have l1 := a.length
  have l2 := b.length
  refine ⟨_, fun j h1 h2 => ?_, by rw [List.size_toArray, List.size_toArray, l1, l2]; exact e1⟩
  rw [List.size_toArray] at h1 h2
  exact ih (a.at' h1 (l1 ▸ h1)) (b.at' h2 (l2 ▸ h2)) (e2 j (l1 ▸ h1) (l2 ▸ h2))
/-- what elements give for lists of one length -/
theorem elems_len {e' : Nat → Bool} {r : Bool} {n m : Nat} (h : n = m) (k : r = ((List.range (min n m)).all e' && n == m)) : r = (List.range n).all e' := by
  subst h
  rw [k, beq_self_eq_true, Bool.and_true, Nat.min_self]
theorem sizes_eq {vs us : List Value} {xs ys : List D} (a : VRels p s.heap M vs xs) (b : VRels p s.heap M us ys) (h : xs.length = ys.length) : vs.toArray.size = us.toArray.size := by
  rw [List.size_toArray, List.size_toArray, a.length, b.length, h]
theorem sizes_ne {vs us : List Value} {xs ys : List D} (a : VRels p s.heap M vs xs) (b : VRels p s.heap M us ys) (h : xs.length ≠ ys.length) : (vs.toArray.size != us.toArray.size) = true := by
  rw [List.size_toArray, List.size_toArray, a.length, b.length]
  exact bne_iff_ne.mpr h
theorem eqD_eqAt : ∀ (n : Nat) {A : Around} {a b : Value} {x y : D} {r : Bool}, A.units + n < cLine → VRel p s.heap M a x → VRel p s.heap M b y → eqD n x y = some r → EqAt A s a b r := by
  intro n
  induction n with
  | zero => intro A a b x y r _ _ _ e; cases e
  | succ n ih =>
    intro A a b x y r hu X Y e
    have hu1 : A.in1.units + n < cLine := by rw [Nat.add_comm n 1, ← Nat.add_assoc] at hu; exact hu
    have hu0 : A.units < cLine := Nat.lt_of_le_of_lt (Nat.le_add_right _ _) hu
    by_cases self : a = b
    · subst self; rw [eqD_refl (n + 1) (.d X) (.d Y) e]; exact .same _
    have X : Reads p s.heap M a x := .d X
    have Y : Reads p s.heap M b y := .d Y
    cases eqD_inv e with
    | none => exact absurd (X.none_inv.trans Y.none_inv.symm) self
    | bool i j => rw [X.bool_inv, Y.bool_inv]; exact .bool_bool _ _
    | int i j => obtain ⟨t, q⟩ := X.int_inv; obtain ⟨u, z⟩ := Y.int_inv; rw [q, z]; exact .int_int _ _ _ _
    | str i j => obtain ⟨t, q⟩ := X.str_inv; obtain ⟨u, z⟩ := Y.str_inv; rw [q, z]; exact .str_str _ _ _ _
    | byt i j => obtain ⟨t, q⟩ := X.byt_inv; obtain ⟨u, z⟩ := Y.byt_inv; rw [q, z]; exact EqAt_bytes _ _ _ _
    | tup e =>
      obtain ⟨a1, vs, q, x1, x2⟩ := X.tup_inv
      obtain ⟨b1, us, z, y1, y2⟩ := Y.tup_inv
      obtain ⟨e', k1, k2⟩ := eqD_elemsL (ih hu1) x2 y2 e
      rw [q, z] at self ⊢
      rw [k2]
      exact .of_refs (fun h => self (congrArg _ h)) (.tuples x1.isTuple y1.isTuple hu0 k1)
    | lst hl e =>
      obtain ⟨a1, vs, q, x1, x2⟩ := X.lst_inv
      obtain ⟨b1, us, z, y1, y2⟩ := Y.lst_inv
      obtain ⟨e', k1, k2⟩ := eqD_elemsL (ih hu1) x2 y2 e
      have hsz := sizes_eq x2 y2 hl
      rw [q, z] at self ⊢
      rw [elems_len hsz k2]
      exact .of_refs (fun h => self (congrArg _ h)) (.lists x1.isList y1.isList hsz hu0 k1)
    | len ne =>
      obtain ⟨a1, vs, q, x1, x2⟩ := X.lst_inv
      obtain ⟨b1, us, z, y1, y2⟩ := Y.lst_inv
      rw [q, z] at self ⊢
      exact .of_refs (fun h => self (congrArg _ h)) (.lists_lengths x1.isList y1.isList (sizes_ne x2 y2 ne) hu0)
end
end Mine

namespace Mine
open PySem PySem.W PyProof.Rows PySem.Calls PySem.SeqAt

section
variable {p : Pm} {A : Around} {s : Shared} {M : List Addr}
theorem eqD_elems (n : Nat) {vs us : List Value} {xs ys : List D} {r : Bool} (hu : A.units + n < cLine) (a : VRels p s.heap M vs xs) (b : VRels p s.heap M us ys) (e : eqL (eqD n) xs ys = some r) :
    ∃ e' : Nat → Bool, (∀ j (h1 : j < vs.toArray.size) (h2 : j < us.toArray.size), EqAt A s vs.toArray[j] us.toArray[j] (e' j)) ∧ r = ((List.range (min vs.toArray.size us.toArray.size)).all e' && vs.toArray.size == us.toArray.size) :=
  eqD_elemsL (fun X Y e => eqD_eqAt n hu X Y e) a b e
theorem RcNe_bytes (i j : List UInt8) (t u : Tok) : RcNeAt A s (.bytes i.toArray t) (.bytes j.toArray u) (!decide (i = j)) := fun prog w E Q h => by
  refine ne_bytes (by simpa [bne, Bool.beq_eq_decide_eq] using h)
theorem Rc_bytes (i j : List UInt8) (t u : Tok) : RcAt A s (.bytes i.toArray t) (.bytes j.toArray u) (decide (i = j)) := fun prog w E Q h => by
  refine eq_bytes (by simpa [Bool.beq_eq_decide_eq] using h)
theorem eqD_rc (n : Nat) {a b : Value} {x y : D} {r : Bool} (hu : A.units + n < cLine) (X : Reads p s.heap M a x) (Y : Reads p s.heap M b y) (e : eqD n x y = some r) : RcAt A s a b r ∧ RcNeAt A s a b (!r) := by
  cases n with
  | zero => cases e
  | succ n =>
    have hu1 : A.in1.units + n < cLine := by rw [Nat.add_comm n 1, ← Nat.add_assoc] at hu; exact hu
    have hu0 : A.units < cLine := Nat.lt_of_le_of_lt (Nat.le_add_right _ _) hu
    cases eqD_inv e with
    | none => rw [X.none_inv, Y.none_inv]; exact ⟨.none_none, .none_none⟩
    | bool i j => rw [X.bool_inv, Y.bool_inv]; exact ⟨.bool_bool _ _, .bool_bool _ _⟩
    | int i j => obtain ⟨t, q⟩ := X.int_inv; obtain ⟨u, z⟩ := Y.int_inv; rw [q, z]; exact ⟨.int_int _ _ _ _, .int_int _ _ _ _⟩
    | str i j => obtain ⟨t, q⟩ := X.str_inv; obtain ⟨u, z⟩ := Y.str_inv; rw [q, z]; exact ⟨.str_str _ _ _ _, .str_str _ _ _ _⟩
    | byt i j => obtain ⟨t, q⟩ := X.byt_inv; obtain ⟨u, z⟩ := Y.byt_inv; rw [q, z]; exact ⟨Rc_bytes _ _ _ _, RcNe_bytes _ _ _ _⟩
    | tup e =>
      obtain ⟨a1, vs, q, x1, x2⟩ := X.tup_inv
      obtain ⟨b1, us, z, y1, y2⟩ := Y.tup_inv
      obtain ⟨e', k1, k2⟩ := eqD_elems n hu1 x2 y2 e
      rw [q, z, k2]
      exact ⟨.tuples x1.isTuple y1.isTuple hu0 k1, .tuples x1.isTuple y1.isTuple hu0 k1⟩
    | lst hl e =>
      obtain ⟨a1, vs, q, x1, x2⟩ := X.lst_inv
      obtain ⟨b1, us, z, y1, y2⟩ := Y.lst_inv
      obtain ⟨e', k1, k2⟩ := eqD_elems n hu1 x2 y2 e
      have hsz := sizes_eq x2 y2 hl
      rw [q, z, elems_len hsz k2]
      exact ⟨.lists x1.isList y1.isList hsz hu0 k1, .lists x1.isList y1.isList hsz hu0 k1⟩
    | len ne =>
      obtain ⟨a1, vs, q, x1, x2⟩ := X.lst_inv
      obtain ⟨b1, us, z, y1, y2⟩ := Y.lst_inv
      rw [q, z]
      exact ⟨.lists_lengths x1.isList y1.isList (sizes_ne x2 y2 ne) hu0, .lists_lengths x1.isList y1.isList (sizes_ne x2 y2 ne) hu0⟩
end

theorem slot_bytes_lt : Slot "bytes" (cmpInfo .Lt).2.1 "bytes.__lt__" :=
  .of (owner := "bytes") (n := "__lt__") (by rw [typeLookup_type, builtinLookup_eq_fast]; kernel_rfl) (by decide +kernel) (by decide +kernel) (by decide +kernel)
    (by first | exact .inl (by decide +kernel) | exact .inr (by decide +kernel)) (by rw [isSubtype_type]; kernel_rfl)
theorem entry_bytes_lt : entryFor table "bytes.__lt__" = some Builtin.«bytes.__lt__» := entryFor_of_tree (by kernel_rfl)
theorem args_bytes_lt_2 (a b : Value) : argsOk "bytes.__lt__" ⟨[a, b], []⟩ := by
  unfold argsOk; rw [signature?_of (id := "bytes.__lt__") (n := ['_', '_', 't', 'l', '_', '_']) (o := ['s', 'e', 't', 'y', 'b']) (by kernel_rfl) FB.owner_bytes]; kernel_rfl
theorem order_lt : ∀ a b : List UInt8, (Builtin.Bytes.order a b == .lt) = ltBytes a b
  | [], [] => rfl
  | [], _ :: _ => rfl
  | _ :: _, [] => rfl
  | x :: a, y :: b => by
    simp only [Builtin.Bytes.order, ltBytes]
    by_cases h1 : x < y
    · have : Nat.blt x.toNat y.toNat = true := Z.blt_iff.mpr (UInt8.lt_iff_toNat_lt.mp h1)
      rw [if_pos h1, this]; rfl
    · have n1 : Nat.blt x.toNat y.toNat = false := by
        cases q : Nat.blt x.toNat y.toNat with
        | false => rfl
        | true => exact absurd (UInt8.lt_iff_toNat_lt.mpr (Z.blt_iff.mp q)) h1
      rw [if_neg h1, n1]
      by_cases h2 : x > y
      · have n2 : Nat.beq x.toNat y.toNat = false := by
          cases q : Nat.beq x.toNat y.toNat with
          | false => rfl
          | true => have := Nat.eq_of_beq_eq_true q; have h2 := UInt8.lt_iff_toNat_lt.mp h2; omega
        rw [if_pos h2, n2]; rfl
      · have : x = y := UInt8.le_antisymm (UInt8.not_lt.mp h2) (UInt8.not_lt.mp h1)
        subst this
        rw [if_neg h2, Nat.beq_refl, Bool.true_and]; exact order_lt a b
theorem gives_bytes_lt (b c : Array UInt8) (t u : Tok) : Gives (Builtin.«bytes.__lt__» ⟨[.bytes b t, .bytes c u], []⟩) (.val (.bool (ltBytes b.toList c.toList))) := by
  refine .of_wp fun M A E s Q hq => ?_
  show wpAny M A (isInstance (.bytes c u) (.type "bytes") >>= fun r => _) _ E s
  refine wpAny_bind (wpAny_isInstance (typeIs_bytes s c u) F.sub_bytes_bytes ?_)
  exact wpAny_pure ⟨_, rfl, by rw [← order_lt] at hq; exact hq⟩
theorem lt_bytes {prog : Program} {w : World} {A : Around} {E : Value → Shared → Prop} {s : Shared} {b c : Array UInt8} {t u : Tok} {Q : Value → Shared → Prop} (h : Q (.bool (ltBytes b.toList c.toList)) s) :
    wpAny (model prog w) A (compareOp .Lt (.bytes b t) (.bytes c u)) Q E s :=
  compareOp_gives (op := .Lt) (typeIs_bytes s b t) (typeIs_bytes s c u) slot_bytes_lt entry_bytes_lt (args_bytes_lt_2 _ _) (gives_bytes_lt b c t u) (fun e => nomatch e) h
end Mine

namespace Mine
open PySem PySem.W PyProof.Rows PySem.Calls PySem.SeqAt

noncomputable def CO.op : CO → CmpOp
  | .eq => .Eq | .ne => .NotEq | .lt => .Lt | .le => .LtE | .gt => .Gt | .ge => .GtE | .isin => .In | .notin => .NotIn
theorem anyEq_sound {x : D} : ∀ {l : List D} {r : Bool}, anyEq x l = some r → (∀ y ∈ l, ∃ b, eqD 20 y x = some b) ∧ (r = true ↔ ∃ y ∈ l, eqD 20 y x = some true)
  | [], r, e => by cases e; exact ⟨fun _ m => by simp at m, by simp⟩
  | y :: l, r, e => by
    unfold anyEq at e
    split at e
    · rename_i a qa
      split at e
      rotate_left
      · cases e
      rename_i b qb
      cases e
      obtain ⟨h1, h2⟩ := anyEq_sound qb
      refine ⟨fun z m => ?_, ?_⟩
      · rcases List.mem_cons.mp m with rfl | m
        · exact ⟨_, qa⟩
        · exact h1 z m
      · rw [Bool.or_eq_true, h2]
        constructor
        · rintro (rfl | ⟨z, m, q⟩)
          · exact ⟨y, .head _, qa⟩
          · exact ⟨z, .tail _ m, q⟩
        · rintro ⟨z, m, q⟩
          rcases List.mem_cons.mp m with rfl | m
          · rw [qa] at q; exact .inl (Option.some.inj q)
          · exact .inr ⟨z, m, q⟩
    · cases e
section
variable {p : Pm} {A : Around} {B : Heap} {h : Heap} {M : List Addr} {φ : List (Option Addr)} {σ : List C}
theorem VRels.mem {vs : List Value} {ds : List D} (r : VRels p h M vs ds) {y : Value} (m : y ∈ vs) : ∃ d ∈ ds, VRel p h M y d := by
  induction ds generalizing vs with
  | nil => cases r; simp at m
  | cons d ds ih =>
    cases r with
    | cons a b =>
      rcases List.mem_cons.mp m with rfl | m
      · exact ⟨d, .head _, a⟩
      · obtain ⟨d', m', z⟩ := ih b m; exact ⟨d', .tail _ m', z⟩
theorem VRels.mem' {vs : List Value} {ds : List D} (r : VRels p h M vs ds) {d : D} (m : d ∈ ds) : ∃ y ∈ vs, VRel p h M y d := by
  induction ds generalizing vs with
  | nil => simp at m
  | cons d' ds ih =>
    cases r with
    | cons a b =>
      rcases List.mem_cons.mp m with rfl | m
      · exact ⟨_, .head _, a⟩
      · obtain ⟨d', m', z⟩ := ih b m; exact ⟨d', .tail _ m', z⟩
open Classical in
/-- what `in` finds among items -/
theorem any_at {s : Shared} {vs : List Value} {ds : List D} {x : D} {xv : Value} {r : Bool} (hu : A.units + 21 < cLine) (V : VRels p s.heap M vs ds) (X : VRel p s.heap M xv x) (e : anyEq x ds = some r) :
    ∃ f : Value → Bool, (∀ y, y ∈ vs.toArray → EqAt A.in1 s y xv (f y)) ∧ vs.toArray.any f = r := by
  obtain ⟨h1, h2⟩ := anyEq_sound e
  have hu1 : A.in1.units + 20 < cLine := by show A.units + 1 + 20 < _; omega
  refine ⟨fun y => decide (∃ d, d ∈ ds ∧ VRel p s.heap M y d ∧ eqD 20 d x = some true), fun y m => ?_, ?_⟩
  · by_cases q : ∃ d, d ∈ ds ∧ VRel p s.heap M y d ∧ eqD 20 d x = some true
    · obtain ⟨d, _, a, b⟩ := id q
      dsimp only
      rw [decide_eq_true q]
      exact eqD_eqAt 20 hu1 a X b
    · dsimp only
      rw [decide_eq_false q]
      obtain ⟨d, m', z⟩ := V.mem (by simpa using m)
      obtain ⟨b, hb⟩ := h1 d m'
      cases b with
      | true => exact absurd ⟨d, m', z, hb⟩ q
      | false => exact eqD_eqAt 20 hu1 z X hb
  · rw [Bool.eq_iff_iff, h2]
    simp only [List.any_toArray, List.any_eq_true, decide_eq_true_eq]
    constructor
    · rintro ⟨y, _, d, m, _, q⟩; exact ⟨d, m, q⟩
    · rintro ⟨d, m, q⟩
      obtain ⟨y, my, z⟩ := V.mem' m
      exact ⟨y, my, d, m, z, q⟩
theorem Reads.unsym {v : Value} (r : Reads p h M v (.sym 0)) : VRel p h M v (p.ds 0) := by
  cases r with | d x => cases x with | sym _ z => exact z
theorem sym0_at {v : Value} {d : D} (q : isSym0 d = true) (r : Reads p h M v d) : VRel p h M v (p.ds 0) :=
  osp1 q (fun i z e => by rw [D.sy?_eq z, Nat.eq_of_beq_eq_true e] at r; exact r.unsym) fun _ e => nof e
/-- what the symbol 0 stands for may be compared -/
noncomputable def Sym0 (p : Pm) : Prop := eqD 20 (p.ds 0) (p.ds 0) = some true
theorem eqT_rc (H0 : Sym0 p) {s : Shared} {a b : Value} {x y : D} {r : Bool} (hu : A.units + 21 < cLine) (X : Reads p s.heap M a x) (Y : Reads p s.heap M b y) (e : eqT x y = some r) :
    (∀ E (Q : Value → Shared → Prop), Q (.bool r) s → wpAny (model p.prog p.w) A (compareOp .Eq a b) Q E s) ∧ (∀ E (Q : Value → Shared → Prop), Q (.bool (!r)) s → wpAny (model p.prog p.w) A (compareOp .NotEq a b) Q E s) := by
  have fin : ∀ {n : Nat} {x y : D} {r : Bool}, n ≤ 20 → Reads p s.heap M a x → Reads p s.heap M b y → eqD n x y = some r → (∀ E (Q : Value → Shared → Prop), Q (.bool r) s → wpAny (model p.prog p.w) A (compareOp .Eq a b) Q E s) ∧ (∀ E (Q : Value → Shared → Prop), Q (.bool (!r)) s → wpAny (model p.prog p.w) A (compareOp .NotEq a b) Q E s) :=
    fun hn X Y e => let ⟨k1, k2⟩ := eqD_rc _ (by omega) X Y e; ⟨fun E Q q => k1 _ _ E Q q, fun E Q q => k2 _ _ E Q q⟩
  unfold eqT at e
  split at e
  · rename_i q
    cases e; exact fin (n := 20) (by decide) (.d (sym0_at (and2 q).1 X)) (.d (sym0_at (and2 q).2 Y)) H0
  · split at e
    · rename_i xs q1
      split at e
      · rename_i ys q2
        rw [D.d?_eq q1] at X
        rw [D.d?_eq q2] at Y
        obtain ⟨a1, k1, rfl, x1, x0, x2⟩ := X.dct_inv
        obtain ⟨b1, k2, rfl, y1, y0, y2⟩ := Y.dct_inv
        have l1 := x2.length
        have l2 := y2.length
        have hu0 : A.units < cLine := Nat.lt_of_le_of_lt (Nat.le_add_right _ _) hu
        have go : ∀ {r r' : Bool}, (k1.length = k2.length → KeqHits A.in1 s k2 k1 r') → (k1.length == k2.length && r') = r → (∀ E (Q : Value → Shared → Prop), Q (.bool r) s → wpAny (model p.prog p.w) A (compareOp .Eq (.ref a1) (.ref b1)) Q E s) ∧ (∀ E (Q : Value → Shared → Prop), Q (.bool (!r)) s → wpAny (model p.prog p.w) A (compareOp .NotEq (.ref a1) (.ref b1)) Q E s) :=
          fun hits z => by subst z; exact ⟨fun E Q q => keq_eq x0 y0 x1 y1 hu0 hits q, fun E Q q => keq_ne x0 y0 x1 y1 hu0 hits q⟩
        split at e
        · rename_i q1
          split at e
          · rename_i q2
            cases e
            have : k1 = [] := List.length_eq_zero_iff.mp (l1.trans (by rw [isNil_eq q2]; rfl))
            refine go (r' := true) (fun _ => by subst this; exact .nil) ?_
            rw [l1, l2, Nat.eq_of_beq_eq_true q1, beq_self_eq_true]; rfl
          · cases e
        · rename_i q1
          cases e
          have : ¬ k1.length = k2.length := fun z => Nat.ne_of_beq_eq_false q1 (l1.symm.trans (z.trans l2))
          exact go (r' := true) (fun z => absurd z this) (by rw [beq_eq_false_iff_ne.mpr this]; rfl)
      · exact fin (Nat.le_refl _) X Y e
    · exact fin (Nat.le_refl _) X Y e
theorem Reads.plain {v : Value} {x : D} (r : Reads p h M v x) (n1 : ∀ l, x ≠ .lst l) (n2 : ∀ l, x ≠ .dct l) : VRel p h M v x := by
  cases r with
  | d y => exact y
  | lst => exact absurd rfl (n1 _)
  | dct => exact absurd rfl (n2 _)
theorem run_in {xv bv : Value} {x b : D} {r neg : Bool} (hu : A.units + 21 < cLine) (S : St p B h M φ σ) (X : Reads p h M xv x) (Y : Reads p h M bv b) (hx : (∀ l, x ≠ .lst l) ∧ (∀ l, x ≠ .dct l)) (e : inEv x b = some r) :
    Run p B A (compareOp (if neg then .NotIn else .In) xv bv) h M φ σ (V p (.bool (r != neg))) := by
  have X := X.plain hx.1 hx.2
  refine Run.keep S fun s Q E hs k => ?_
  subst hs
  unfold inEv at e
  split at e
  · rename_i l q0
    rw [D.d?_eq q0] at Y
    obtain ⟨a, kvs, rfl, y1, y0, y2⟩ := Y.dct_inv
    split at e
    · rename_i ky hk
      have hkey := key_rel X hk
      have lk := y2.look ky
      have hr : (valueAt kvs ky).isSome = r := by
        split at e
        · rename_i q; cases e; rw [q] at lk; obtain ⟨v, a, b⟩ := lk; rw [a]; rfl
        · rename_i q; cases e; rw [q] at lk; rw [lk]; rfl
      cases neg with
      | false => exact wpAny_in_of (knd := knd p.prog p.w) hkey y0 y1.mapOf (by rw [hr]; exact k _ _ (by rw [bne_f]; exact .bool r))
      | true => exact wpAny_notIn_of (knd := knd p.prog p.w) hkey y0 y1.mapOf (by rw [hr]; exact k _ _ (by rw [bne_t]; exact .bool _))
    · cases e
  · split at e
    · rename_i l q0
      rw [D.l?_eq q0] at Y
      obtain ⟨a, vs, rfl, y1, y2⟩ := Y.lst_inv
      obtain ⟨f, f1, f2⟩ := any_at hu y2 X e
      cases neg with
      | false => exact in_listAt f y1.isList f1 (by rw [f2]; exact k _ s.toks (by rw [bne_f]; exact .bool r))
      | true => exact notIn_listAt f y1.isList f1 (by rw [f2]; exact k _ s.toks (by rw [bne_t]; exact .bool _))
    · split at e
      · rename_i l q0
        rw [D.t?_eq q0] at Y
        obtain ⟨a, vs, rfl, y1, y2⟩ := Y.tup_inv
        obtain ⟨f, f1, f2⟩ := any_at hu y2 X e
        cases neg with
        | false => exact in_tupleAt f y1.isTuple f1 (by rw [f2]; exact k _ s.toks (by rw [bne_f]; exact .bool r))
        | true => exact notIn_tupleAt f y1.isTuple f1 (by rw [f2]; exact k _ s.toks (by rw [bne_t]; exact .bool _))
      · cases e
theorem int_of {v : Value} {i : Int} (r : Reads p h M v (.int i)) : ∃ t, v = .int i t := by
  cases r with | d x => cases x; exact ⟨_, rfl⟩
theorem byt_of {v : Value} {i : List UInt8} (r : Reads p h M v (.byt i)) : ∃ t, v = .bytes i.toArray t := by
  cases r with | d x => cases x; exact ⟨_, rfl⟩
theorem inL_of {a : D} (q : inL a = true) : (∀ l, a ≠ .lst l) ∧ (∀ l, a ≠ .dct l) := ⟨fun l z => by subst z; exact nof q, fun l z => by subst z; exact nof q⟩
theorem notB_some {x : Option Bool} {r : Bool} (e : notB x = some r) : ∃ b, x = some b ∧ r = !b := om1_inv e fun b q z => ⟨b, q, z.symm⟩
/-- two ints -/
inductive IntsAt (av bv : Value) (x y : Int) : Prop
  | mk (t u : Tok) : av = .int x t → bv = .int y u → IntsAt av bv x y
theorem ii_at {av bv : Value} {a b : D} {x y : Int} (q : a.ii b = some (x, y)) (X : Reads p h M av a) (Y : Reads p h M bv b) : IntsAt av bv x y := by
  obtain ⟨z1, z2⟩ := D.ii_eq q
  rw [z1] at X
  rw [z2] at Y
  obtain ⟨t, q1⟩ := X.int_inv
  obtain ⟨u, q2⟩ := Y.int_inv
  exact ⟨t, u, q1, q2⟩
theorem dec_lt (x y : Int) : decide (x < y) = Z.ltB x y := by rw [Bool.eq_iff_iff, Z.ltB_iff]; exact decide_eq_true_iff
theorem dec_le (x y : Int) : decide (x ≤ y) = Z.leB x y := by rw [Bool.eq_iff_iff, Z.leB_iff]; exact decide_eq_true_iff
theorem run_cmp (H0 : Sym0 p) {o : CO} {av bv : Value} {a b : D} {r : Bool} (hu : A.units + 21 < cLine) (S : St p B h M φ σ) (X : Reads p h M av a) (Y : Reads p h M bv b) (e : cmpEv o a b = some r) :
    Run p B A (compareOp o.op av bv) h M φ σ (V p (.bool r)) := by
  cases o with
  | eq => refine Run.keep S fun s Q E hs k => ?_; subst hs; exact (eqT_rc H0 hu X Y e).1 E Q (k _ s.toks (.bool _))
  | ne =>
    obtain ⟨b', q, rfl⟩ := notB_some e
    refine Run.keep S fun s Q E hs k => ?_; subst hs; exact (eqT_rc H0 hu X Y q).2 E Q (k _ s.toks (.bool _))
  | lt =>
    change ltEv a b = some r at e
    unfold ltEv at e
    split at e
    · rename_i x y q
      cases e; obtain ⟨t, u, rfl, rfl⟩ := ii_at q X Y
      exact Run.keep S fun s Q E hs k => PySem.P.lt_int (k _ s.toks (by rw [dec_lt]; exact .bool _))
    · split at e
      · rename_i x q1
        split at e
        · rename_i y q2
          cases e
          rw [D.y?_eq q1] at X
          rw [D.y?_eq q2] at Y
          obtain ⟨t, rfl⟩ := X.byt_inv; obtain ⟨u, rfl⟩ := Y.byt_inv
          exact Run.keep S fun s Q E hs k => lt_bytes (k _ s.toks (.bool _))
        · cases e
      · cases e
  | le =>
    change leEv a b = some r at e
    unfold leEv at e
    split at e
    · rename_i x y q
      cases e; obtain ⟨t, u, rfl, rfl⟩ := ii_at q X Y
      exact Run.keep S fun s Q E hs k => PySem.P.le_int (k _ s.toks (by rw [dec_le]; exact .bool _))
    · cases e
  | gt =>
    change gtEv a b = some r at e
    unfold gtEv at e
    split at e
    · rename_i x y q
      cases e; obtain ⟨t, u, rfl, rfl⟩ := ii_at q X Y
      exact Run.keep S fun s Q E hs k => PySem.P.gt_int (k _ s.toks (by rw [show decide (x > y) = Z.ltB y x from dec_lt y x]; exact .bool _))
    · cases e
  | ge =>
    change geEv a b = some r at e
    unfold geEv at e
    split at e
    · rename_i x y q
      cases e; obtain ⟨t, u, rfl, rfl⟩ := ii_at q X Y
      exact Run.keep S fun s Q E hs k => PySem.P.ge_int (k _ s.toks (by rw [show decide (x ≥ y) = Z.leB y x from dec_le y x]; exact .bool _))
    · cases e
  | isin =>
    change bt (inL a) none (inEv a b) = some r at e
    split at e
    · rename_i q
      have := run_in (neg := false) hu S X Y (inL_of q) e
      rwa [bne_f] at this
    · cases e
  | notin =>
    change bt (inL a) none (notB (inEv a b)) = some r at e
    split at e
    · rename_i q
      obtain ⟨r', z, rfl⟩ := notB_some e
      have := run_in (neg := true) hu S X Y (inL_of q) z
      rwa [bne_t] at this
    · cases e
end
end Mine

namespace Mine
open PySem PySem.W PyProof.Rows PySem.Calls PySem.SeqAt

noncomputable def BO.op : BO → Operator
  | .add => .Add | .sub => .Sub | .mul => .Mult | .fdiv => .FloorDiv | .mod => .Mod
section
variable {p : Pm} {A : Around} {B : Heap} {h : Heap} {M : List Addr} {φ : List (Option Addr)} {σ : List C}
theorem run_push (S : St p B h M φ σ) {t : Sem Value} {o : Obj} {d : D}
    (H : ∀ (s : Shared) (Q : Value → Shared → Prop) (E : Value → Shared → Prop), s.heap = h → Q (.ref h.objs.size) { s with heap := h.push o } → wpAny (model p.prog p.w) A t Q E s)
    (r : VRel p (h.push o) M (.ref h.objs.size) d) : Run p B A t h M φ σ (V p d) :=
  Run.grown S fun s Q E hs k => H s Q E hs (k _ _ s.toks (fun _ _ e => Heap.get?_push_of_some _ e) r)
theorem VRels.push {vs : List Value} {ds : List D} (r : VRels p h M vs ds) (o : Obj) : VRels p (h.push o) M vs ds := r.mono (.grow fun _ _ e => Heap.get?_push_of_some _ e)
theorem vrel_lst_new (S : St p B h M φ σ) {vs : List Value} {ds : List D} (r : VRels p h M vs ds) : VRel p (h.push { cls := .type "list", data := .seq vs.toArray }) M (.ref h.objs.size) (.lst ds) :=
  .lst ⟨0, Heap.get?_push_size _ rfl⟩ S.notM (r.push _)
theorem vrel_tup_new (S : St p B h M φ σ) {vs : List Value} {ds : List D} (r : VRels p h M vs ds) : VRel p (h.push { cls := .type "tuple", data := .seq vs.toArray }) M (.ref h.objs.size) (.tup ds) :=
  .tup ⟨0, Heap.get?_push_size _ rfl⟩ S.notM (r.push _)
theorem arr_app (a b : List Value) : a.toArray ++ b.toArray = (a ++ b).toArray := by simp
theorem str_len (x : Str) : x.cps.toList.length = x.length := by simp [Str.length]
theorem str_app (x y : Str) : (⟨⟨x.cps.toList ++ y.cps.toList⟩⟩ : Str) = x ++ y := by
  show _ = Str.append x y
  simp [Str.append]
theorem int_of' {v : Value} {i : Int} (r : VRel p h M v (.int i)) : ∃ t, v = .int i t := by cases r; exact ⟨_, rfl⟩
theorem str_of' {v : Value} {i : Str} (r : VRel p h M v (.str i)) : ∃ t, v = .str i t := by cases r; exact ⟨_, rfl⟩
theorem byt_of' {v : Value} {i : List UInt8} (r : VRel p h M v (.byt i)) : ∃ t, v = .bytes i.toArray t := Reads.byt_inv (.d r)
theorem tup_of' {v : Value} {l : List D} (r : VRel p h M v (.tup l)) : ∃ a vs, v = .ref a ∧ PlainTup h a vs.toArray ∧ a ∉ M ∧ VRels p h M vs l := by cases r with | tup x y z => exact ⟨_, _, rfl, x, y, z⟩
theorem lst_of' {v : Value} {l : List D} (r : VRel p h M v (.lst l)) : ∃ a vs, v = .ref a ∧ h.PlainList a vs.toArray ∧ a ∉ M ∧ VRels p h M vs l := by cases r with | lst x y z => exact ⟨_, _, rfl, x, y, z⟩
theorem add_tup {av bv : Value} {x y : List D} (S : St p B h M φ σ) (X : VRel p h M av (.tup x)) (Y : VRel p h M bv (.tup y)) (g : small (x.length + y.length) = true) : Run p B A (binaryOp .Add av bv) h M φ σ (V p (.tup (x ++ y))) := by
  obtain ⟨x1, vs1, rfl, k1, m1, z1⟩ := tup_of' X
  obtain ⟨x2, vs2, rfl, k2, m2, z2⟩ := tup_of' Y
  have g := small_lt g
  have l1 := z1.length
  have l2 := z2.length
  obtain ⟨n1, k1⟩ := id k1
  obtain ⟨n2, k2⟩ := id k2
  by_cases h1 : vs1.toArray.isEmpty = true
  · refine Run.keep S fun s Q E hs k => ?_
    subst hs
    refine concat_meets ⟨_, k1, rfl⟩ ⟨_, k2, rfl⟩ noFill_tuple_add seq_tuple_add F.slot_tuple_add F.entry_tuple_add (F.args_tuple_add_2 _ _) (AutoSeq1.tuple___add___tuple_tuple_0 _ _ n1 _ _ n2 h1) ⟨k1, k2, k _ s.toks ?_⟩
    cases vs1 with
    | nil => cases z1; exact Y
    | cons => simp at h1
  · by_cases h2 : vs2.toArray.isEmpty = true
    · refine Run.keep S fun s Q E hs k => ?_
      subst hs
      refine concat_meets ⟨_, k1, rfl⟩ ⟨_, k2, rfl⟩ noFill_tuple_add seq_tuple_add F.slot_tuple_add F.entry_tuple_add (F.args_tuple_add_2 _ _) (AutoSeq1.tuple___add___tuple_tuple_1 _ _ n1 _ _ n2 h1 h2) ⟨k1, k2, k _ s.toks ?_⟩
      cases vs2 with
      | nil => cases z2; rw [List.append_nil]; exact X
      | cons => simp at h2
    · refine run_push S (o := { cls := .type "tuple", data := .seq (vs1 ++ vs2).toArray }) (fun s Q E hs k => ?_) (vrel_tup_new S (z1.append z2))
      subst hs
      rw [← arr_app] at k
      exact PySem.P.add_tuple k1 k2 h1 h2 k (by simp only [List.size_toArray]; exact Nat.le_trans (by omega : _ ≤ 1000) (Nat.le_trans (by decide) sizeLine_ge))
theorem add_lst {av bv : Value} {x y : List D} (S : St p B h M φ σ) (X : VRel p h M av (.lst x)) (Y : VRel p h M bv (.lst y)) (g : small (x.length + y.length) = true) : Run p B A (binaryOp .Add av bv) h M φ σ (V p (.lst (x ++ y))) := by
  obtain ⟨x1, vs1, rfl, k1, m1, z1⟩ := lst_of' X
  obtain ⟨x2, vs2, rfl, k2, m2, z2⟩ := lst_of' Y
  have g := small_lt g
  have l1 := z1.length
  have l2 := z2.length
  obtain ⟨n1, k1⟩ := id k1
  obtain ⟨n2, k2⟩ := id k2
  refine run_push S (o := { cls := .type "list", data := .seq (vs1 ++ vs2).toArray }) (fun s Q E hs k => ?_) (vrel_lst_new S (z1.append z2))
  subst hs
  rw [← arr_app] at k
  exact PySem.P.add_list k1 k2 k (by simp only [List.size_toArray]; exact Nat.le_trans (by omega : _ ≤ 1000) (Nat.le_trans (by decide) sizeLine_ge))
theorem run_add {av bv : Value} {a b r : D} (S : St p B h M φ σ) (X : VRel p h M av a) (Y : VRel p h M bv b) (e : addEv a b = some r) : Run p B A (binaryOp .Add av bv) h M φ σ (V p r) := by
  unfold addEv at e
  split at e
  · rename_i x y q
    cases e; obtain ⟨t, u, rfl, rfl⟩ := ii_at q (.d X) (.d Y)
    exact Run.keep S fun s Q E hs k => PySem.P.add_int (k _ _ (.int _ _))
  · split at e
    · rename_i x q1
      split at e
      · rename_i y q2
        split at e
        · rename_i g; cases e
          rw [D.s?_eq q1] at X
          rw [D.s?_eq q2] at Y
          obtain ⟨t, rfl⟩ := str_of' X; obtain ⟨u, rfl⟩ := str_of' Y
          have g := small_lt g
          rw [str_len, str_len] at g
          refine Run.keep S fun s Q E hs k => add_str (fun t' tk => k _ tk ?_) (Nat.le_trans (Nat.le_of_lt g) (Nat.le_trans (by decide) sizeLine_ge))
          rw [str_app]; exact .str _ _
        · cases e
      · cases e
    · split at e
      · rename_i x q1
        split at e
        · rename_i y q2
          split at e
          · rename_i g; cases e
            rw [D.t?_eq q1] at X
            rw [D.t?_eq q2] at Y
            exact add_tup S X Y g
          · cases e
        · cases e
      · split at e
        · rename_i x q1
          split at e
          · rename_i y q2
            split at e
            · rename_i g; cases e
              rw [D.l?_eq q1] at X
              rw [D.l?_eq q2] at Y
              exact add_lst S X Y g
            · cases e
          · cases e
        · cases e
theorem fdiv_ofNat (n : Nat) : (Int.ofNat (n + 1)) ≠ 0 := nofun
theorem posNat_eq {y n : Nat} (h : posNat y = some n) : y = n + 1 := by
  cases y with
  | zero => exact nos h
  | succ m => exact congrArg Nat.succ (Option.some.inj h)
theorem mul_nil {av bv : Value} {l : List D} (S : St p B h M φ σ) (X : VRel p h M av (.lst l)) (Y : VRel p h M bv (.int (.ofNat 0))) : Run p B A (binaryOp .Mult av bv) h M φ σ (V p (.lst [])) := by
  obtain ⟨u, rfl⟩ := int_of' Y
  obtain ⟨x1, vs1, rfl, k1, m1, z1⟩ := lst_of' X
  obtain ⟨n1, k1⟩ := id k1
  refine run_push S (o := { cls := .type "list", data := .seq ([] : List Value).toArray }) (fun s Q E hs k => ?_) (vrel_lst_new S .nil)
  subst hs
  refine wpAny_binaryOp_repeat_ref (T := "list") (U := "int") (by decide) ⟨_, k1, rfl⟩ (fun s' => typeIs_int s' _ u) noFill_list_mul F.fills_int_mul F.slot_int_rmul repeat_list F.slot_int_index.lookup
    (call_meets F.slot_int_rmul (typeIs_int s _ u) F.entry_int_rmul (F.args_int_rmul_2 _ _) (int___rmul___int_list _ u _ vs1.toArray n1)
      ⟨k1, rfl, ⟨_, k1, rfl⟩, call_meets F.slot_list_mul ⟨_, k1, rfl⟩ F.entry_list_mul (F.args_list_mul_2 _ _)
        (AutoListH.list___mul___list_int_3 _ vs1.toArray n1 _ u (by decide) (by simp) (by simp [Builtin.List.listTooLong]))
        ⟨k1, ?_⟩⟩)
  have : (List.foldl (fun x1 x2 => x1 ++ x2) #[] (List.replicate (if vs1.toArray.isEmpty = true then 0 else (Int.ofNat 0).toNat) vs1.toArray) : Array Value) = ([] : List Value).toArray := by
    split <;> rfl
  rw [this]
  exact k
theorem run_bin {o : BO} {av bv : Value} {a b r : D} (S : St p B h M φ σ) (X : VRel p h M av a) (Y : VRel p h M bv b) (e : binEv o a b = some r) : Run p B A (binaryOp o.op av bv) h M φ σ (V p r) := by
  cases o with
  | add => exact run_add S X Y e
  | sub =>
    change subtEv a b = some r at e
    unfold subtEv at e
    split at e
    · rename_i x y q
      cases e; obtain ⟨t, u, rfl, rfl⟩ := ii_at q (.d X) (.d Y)
      exact Run.keep S fun s Q E hs k => PySem.P.sub_int (k _ _ (.int _ _))
    · cases e
  | mul =>
    change mulEv a b = some r at e
    unfold mulEv at e
    split at e
    · rename_i y q1
      rw [D.nat?_eq q1] at Y
      split at e
      · rename_i x q2
        rw [D.nat?_eq q2] at X
        obtain ⟨t, rfl⟩ := int_of' X; obtain ⟨u, rfl⟩ := int_of' Y
        split at e
        · rename_i g; cases e
          have g := small_lt g
          exact Run.keep S fun s Q E hs k => PySem.P.mul_int (k _ _ (.int _ _)) (IntMulOk.of_left (intBits_le_64 (by show _ < Int.ofNat _; simp; omega) (by show Int.ofNat _ < _; simp; omega)))
        · cases e
      · split at e
        · rename_i l q2
          split at e
          · rename_i g; cases e
            rw [Nat.eq_of_beq_eq_true g] at Y
            rw [D.l?_eq q2] at X
            exact mul_nil S X Y
          · cases e
        · cases e
    · cases e
  | fdiv =>
    change fdivEv a b = some r at e
    unfold fdivEv at e
    split at e
    · rename_i x q1
      split at e
      · rename_i y q2
        split at e
        · rename_i n q3
          split at e
          · rename_i g; cases e
            rw [D.i?_eq q1] at X
            rw [D.nat?_eq q2, posNat_eq q3] at Y
            obtain ⟨t, rfl⟩ := int_of' X; obtain ⟨u, rfl⟩ := int_of' Y
            have g := small_lt g
            exact Run.keep S fun s Q E hs k => floordiv_int (fdiv_ofNat _) (k _ _ (.int _ _)) (.inl (PyProof.noPylong_small (by show _ + 1 < _; omega)))
          · cases e
        · cases e
      · cases e
    · cases e
  | mod =>
    change modEv a b = some r at e
    unfold modEv at e
    split at e
    · rename_i x q1
      split at e
      · rename_i y q2
        split at e
        · rename_i n q3
          cases e
          rw [D.i?_eq q1] at X
          rw [D.nat?_eq q2, posNat_eq q3] at Y
          obtain ⟨t, rfl⟩ := int_of' X; obtain ⟨u, rfl⟩ := int_of' Y
          exact Run.keep S fun s Q E hs k => mod_int' (fdiv_ofNat _) (k _ _ (.int _ _))
        · cases e
      · cases e
    · cases e
/-- where an index leads -/
inductive IdxS (l : List D) (z : Int) (r : D) : Prop
  | pos (n : Nat) : z = .ofNat n → n < 1000 → l[n]? = some r → IdxS l z r
  | neg (m : Nat) : z = .negSucc m → m < 1000 → m + 1 ≤ l.length → l[l.length - (m + 1)]? = some r → IdxS l z r
theorem subL_inv {l : List D} {z : Int} {r : D} (e : subL l z = some r) : IdxS l z r := by
  unfold subL at e
  split at e
  · rename_i n q
    rw [nth_eq] at e
    unfold idxOf at q
    cases z with
    | ofNat i =>
      dsimp only at q
      split at q
      · rename_i g; cases q
        exact .pos _ rfl (small_lt g) e
      · cases q
    | negSucc i =>
      dsimp only at q
      split at q
      · rename_i g1
        split at q
        · rename_i g2; cases q
          exact .neg _ rfl (small_lt g1) (Z.ble_iff.mp g2) e
        · cases q
      · cases q
  · cases e
theorem neg_back {m n : Nat} (h : m + 1 ≤ n) : ((Int.negSucc m) + (n : Int)).toNat = n - (m + 1) := by rw [Int.negSucc_eq]; omega
theorem getItem_lst {av : Value} {l : List D} {r : D} {z : Int} {u : Tok} (S : St p B h M φ σ) (X : Reads p h M av (.lst l)) (e : subL l z = some r) : Run p B A (getItem av (.int z u)) h M φ σ (V p r) := by
  obtain ⟨x, vs, rfl, y1, y2⟩ := X.lst_inv
  have hl := y2.length
  refine Run.keep S fun s Q E hs k => ?_
  subst hs
  cases subL_inv e with
  | pos n hz hn q =>
    obtain ⟨v, v1, v2⟩ := y2.get q
    subst hz
    exact wpAny_getItem_list y1.isList (Int.natCast_nonneg n) (by show (n : Int) < _; omega) (by rw [List.getElem?_toArray]; exact v1) (k _ s.toks v2)
  | neg m hz hn hm q =>
    obtain ⟨v, v1, v2⟩ := y2.get q
    subst hz
    exact wpAny_getItem_list_neg y1.isList (Int.negSucc_lt_zero m) (by rw [List.size_toArray, hl, Int.negSucc_eq]; omega) (by rw [Int.negSucc_eq]; omega) (by rw [List.size_toArray, hl, neg_back hm, List.getElem?_toArray]; exact v1) (k _ s.toks v2)
theorem getItem_tup {av : Value} {l : List D} {r : D} {z : Int} {u : Tok} (S : St p B h M φ σ) (X : Reads p h M av (.tup l)) (e : subL l z = some r) : Run p B A (getItem av (.int z u)) h M φ σ (V p r) := by
  obtain ⟨x, vs, rfl, ⟨m, y1⟩, y2⟩ := X.tup_inv
  have hl := y2.length
  refine Run.keep S fun s Q E hs k => ?_
  subst hs
  cases subL_inv e with
  | pos n hz hn q =>
    obtain ⟨v, v1, v2⟩ := y2.get q
    have hlt : n < vs.length := (List.getElem?_eq_some_iff.mp v1).1
    subst hz
    refine PySem.P.getItem_tuple y1 (Int.le_trans (by decide) (Int.natCast_nonneg n)) (by show (n : Int) < _; omega) (k := n) ?_ (by rw [List.getElem?_toArray]; exact v1) (k _ s.toks v2)
    have h1 : ¬ (n : Int) < 0 := by omega
    have h2 : (n : Int) < vs.length := by omega
    simp [seqIndex?, h1, h2]
  | neg j hz hn hm q =>
    obtain ⟨v, v1, v2⟩ := y2.get q
    subst hz
    refine PySem.P.getItem_tuple y1 (by rw [Int.negSucc_eq]; omega) (Int.lt_trans (Int.negSucc_lt_zero j) (by decide)) (k := l.length - (j + 1)) ?_ (by rw [List.getElem?_toArray]; exact v1) (k _ s.toks v2)
    have h0 := Int.negSucc_lt_zero j
    have h1 : 0 ≤ Int.negSucc j + (vs.length : Int) := by rw [Int.negSucc_eq]; omega
    have h2 : Int.negSucc j + (vs.length : Int) < vs.length := by omega
    have h3 := neg_back hm
    rw [← hl] at h3 ⊢
    unfold seqIndex?
    simp [h0, h1, h2, h3]
theorem getItem_byt {av : Value} {b : List UInt8} {r : D} {z : Int} {u : Tok} (S : St p B h M φ σ) (X : Reads p h M av (.byt b)) (e : subB b z = some r) : Run p B A (getItem av (.int z u)) h M φ σ (V p r) := by
  obtain ⟨t, rfl⟩ := X.byt_inv
  unfold subB at e
  split at e
  · rename_i n q0
    rw [posInt_some q0]
    split at e
    · rename_i c q
      split at e
      · rename_i g
        cases e
        have g := small_lt g
        rw [nth_eq] at q
        have hn : n < b.length := (List.getElem?_eq_some_iff.mp q).1
        refine Run.keep S fun s Q E hs k => ?_
        refine getItem_bytes (by omega) (Int.natCast_nonneg n) (by show (n : Int) < _; omega) (k _ _ ?_)
        rw [show b.getD (Int.ofNat n).toNat 0 = c by show b.getD n 0 = c; rw [List.getD_eq_getElem?_getD, q]; rfl]
        exact .int _ _
      · cases e
    · cases e
  · cases e
theorem getItem_dct {av iv : Value} {l : List (Key × D)} {i r : D} {ky : Key} (S : St p B h M φ σ) (X : Reads p h M av (.dct l)) (Y : VRel p h M iv i) (hk : i.key? = some ky) (e : lookK ky l = some r) : Run p B A (getItem av iv) h M φ σ (V p r) := by
  obtain ⟨x, kvs, rfl, y1, y0, y2⟩ := X.dct_inv
  have hkey := key_rel Y hk
  have lk := y2.look ky
  rw [e] at lk
  obtain ⟨v, a, b⟩ := lk
  refine Run.keep S fun s Q E hs k => ?_
  subst hs
  exact wpAny_getItem_of (knd := knd p.prog p.w) hkey y1.mapOf a (k _ _ b)
theorem run_getItem {av : Value} {a i r : D} {iv : Value} (S : St p B h M φ σ) (X : Reads p h M av a) (Y : VRel p h M iv i) (e : subEv a i = some r) : Run p B A (getItem av iv) h M φ σ (V p r) := by
  have hi : ∀ {R : Prop} {f : Int → Option D}, om1 i.i? none f = some r → (∀ z u, iv = .int z u → f z = some r → R) → R := fun e k => osp1 e (fun z q e => by
    rw [D.i?_eq q] at Y; obtain ⟨u, q⟩ := int_of' Y; exact k z u q e) fun _ e => nos e
  unfold subEv at e
  split at e
  · rename_i l q; rw [D.l?_eq q] at X
    exact hi e fun z u q e => by rw [q]; exact getItem_lst S X e
  · split at e
    · rename_i l q; rw [D.t?_eq q] at X
      exact hi e fun z u q e => by rw [q]; exact getItem_tup S X e
    · split at e
      · rename_i l q; rw [D.y?_eq q] at X
        exact hi e fun z u q e => by rw [q]; exact getItem_byt S X e
      · split at e
        · rename_i l q; rw [D.d?_eq q] at X
          split at e
          · rename_i hk; exact getItem_dct S X Y hk e
          · cases e
        · cases e
end
end Mine

namespace Mine
open PySem PySem.W PyProof.Rows PySem.Calls PySem.SeqAt

theorem small_line {n : Nat} (g : small n = true) : n ≤ sizeLine := Nat.le_trans (Nat.le_of_lt (small_lt g)) (Nat.le_trans (by decide) sizeLine_ge)
theorem slot_bytes_bytes : Slot "bytes" "__bytes__" "bytes.__bytes__" :=
  .of (owner := "bytes") (n := "__bytes__") (by rw [typeLookup_type, builtinLookup_eq_fast]; kernel_rfl) (by decide +kernel) (by decide +kernel) (by decide +kernel)
    (by first | exact .inl (by decide +kernel) | exact .inr (by decide +kernel)) (by rw [isSubtype_type]; kernel_rfl)
section
variable {p : Pm} {A : Around} {B : Heap} {h : Heap} {M : List Addr} {φ : List (Option Addr)} {σ : List C}
theorem lenN_some {n : Nat} {r : D} (e : lenN n = some r) : n < 1000 ∧ r = .int (Int.ofNat n) := by
  unfold lenN at e
  split at e
  · rename_i g; cases e; exact ⟨small_lt g, rfl⟩
  · cases e
theorem run_len {v : Value} {d r : D} (S : St p B h M φ σ) (X : Reads p h M v d) (e : lenEv d = some r) : Run p B A (call (.builtin "len") [v]) h M φ σ (V p r) := by
  refine Run.keep S fun s Q E hs k => ?_
  subst hs
  cases d with
  | str x =>
    obtain ⟨g, rfl⟩ := lenN_some e
    cases X with | d X => obtain ⟨t, rfl⟩ := str_of' X; rw [str_len] at g k; exact PySem.P.len_str (by omega) (k _ _ (.int _ _))
  | byt x =>
    obtain ⟨g, rfl⟩ := lenN_some e
    obtain ⟨t, rfl⟩ := X.byt_inv
    exact len_bytes (by simp only [List.size_toArray]; omega) (k _ _ (by simp only [List.size_toArray]; exact .int _ _))
  | lst l =>
    obtain ⟨g, rfl⟩ := lenN_some e
    obtain ⟨a, vs, rfl, y, z⟩ := X.lst_inv
    have hl := z.length
    exact PySem.Calls.call_len_list y.isList (by simp only [List.size_toArray]; omega) (k _ _ (by simp only [List.size_toArray, hl]; exact .int _ _))
  | tup l =>
    obtain ⟨g, rfl⟩ := lenN_some e
    cases X with | d X =>
    obtain ⟨a, vs, rfl, y, m, z⟩ := tup_of' X
    obtain ⟨n, y⟩ := y
    have hl := z.length
    exact PySem.P.len_tuple y (by simp only [List.size_toArray]; omega) (k _ _ (by simp only [List.size_toArray, hl]; exact .int _ _))
  | dct l =>
    obtain ⟨g, rfl⟩ := lenN_some e
    obtain ⟨a, kvs, rfl, y, y0, z⟩ := X.dct_inv
    have hl := z.length
    exact call_len_dict (knd := knd p.prog p.w) y0 y (by omega) (k _ _ (by rw [hl]; exact .int _ _))
  | _ => cases e
theorem ints_of {vs : List Value} {l : List D} {b : List UInt8} (r : VRels p h M vs l) (e : bytesOf l = some b) : ∃ ns : List Int, IntsAre vs ns ∧ (∀ n ∈ ns, 0 ≤ n ∧ n < 256) ∧ byteArr ns = b.toArray := by
  induction l generalizing vs b with
  | nil => cases r; cases e; exact ⟨[], .nil, by simp, rfl⟩
  | cons d l ih =>
    cases r with
    | @cons v _ vs _ a c =>
      unfold bytesOf at e
      split at e
      · rename_i n q0
        split at e
        · rename_i g
          split at e
          · rename_i bs q
            cases e
            obtain ⟨ns, h1, h2, h3⟩ := ih c q
            rw [D.nat?_eq q0] at a
            obtain ⟨t, rfl⟩ := int_of' a
            refine ⟨Int.ofNat n :: ns, .cons _ _ h1, fun m hm => ?_, ?_⟩
            · rcases List.mem_cons.mp hm with rfl | hm
              · have := Z.blt_iff.mp g; exact ⟨Int.natCast_nonneg n, by show (n : Int) < 256; omega⟩
              · exact h2 m hm
            · have h3' : ns.map (fun n => n.toNat.toUInt8) = bs := toArr_inj (show (ns.map fun n => n.toNat.toUInt8).toArray = bs.toArray from h3)
              unfold byteArr
              rw [List.map_cons, h3']
              rfl
          · cases e
        · cases e
      · cases e
theorem bytes_same {prog : Program} {w : World} {A : Around} {E : Value → Shared → Prop} {s : Shared} {b : Array UInt8} {t : Tok} {Q : Value → Shared → Prop} (h : Q (.bytes b t) s) : wpAny (model prog w) A (call (.type "bytes") [.bytes b t]) Q E s := by
  refine callType_codes (Q₁ := fun obj s₁ => s₁.TypeIs obj "bytes" ∧ Q obj s₁) F.bm_called (F.bm_typeCall _) F.entry_object_init ?_ fun obj s₁ h₁ => ?_
  · refine codeAny_of_tree ?_
    show wpAny _ _ (do checkBuiltinCall "bytes.__new__" ⟨[.type "bytes", .bytes b t], []⟩; again (.builtin "bytes.__new__" ⟨[.type "bytes", .bytes b t], []⟩)) _ _ s
    refine wpAny_bind (wpAny_of_eq (F.bm_newCall _) (wpAny_pure ⟨plainId_quiet F.bm_plain _, codeAny_builtin F.bm_entry ?_⟩))
    rw [Around.under_plainId F.bm_plain _]
    unfold Builtin.«bytes.__new__»
    refine wpAny_bind (wpAny_of_eq (a := true) rfl ?_)
    refine bm_if_false rfl ?_
    refine wpAny_bind (wpAny_of_eq F.bm_sub ?_)
    refine bm_if_false rfl ?_
    refine wpAny_bind (wpAny_of_eq (F.bm_bind _) ?_)
    refine wpAny_bind (wpAny_of_eq (a := ()) rfl ?_)
    refine wpAny_bind (wpAny_of_eq (a := ()) rfl ?_)
    refine bm_if_false rfl ?_
    refine wpAny_bind (wpAny_specialOf (PySem.W.typeIs_bytes s b t) slot_bytes_bytes.lookup ?_)
    refine wpAny_bind (wpAny_rule ?_)
    refine wpAny_bind (wpAny_typeOf (PySem.W.typeIs_bytes s b t) ?_)
    refine bm_if_true (by decide) ?_
    exact wpAny_pure ⟨PySem.W.typeIs_bytes s b t, h⟩
  · exact ⟨h₁.1, F.args_object_init_2 obj _, object_init_meets F.bm_called.init.lookup F.bm_called.made (by decide) prog w A.in1 _ s₁ ⟨h₁.1, rfl, h₁.2⟩⟩
noncomputable def BI.v : BI → Value
  | .len => .builtin "len" | .sorted => .builtin "sorted" | .dict _ => .type "dict" | .tuple => .type "tuple" | .bytes => .type "bytes" | .ord => .builtin "ord" | .chr => .builtin "chr" | .str => .type "str"
theorem digit_text : ∀ n, n < 10 → (Str.ofString (toString (Int.ofNat n)) : Str) = ⟨#[48 + n]⟩ := by decide
theorem run_bi1 {b : BI} {v : Value} {d r : D} (hh : A.handled = none) (S : St p B h M φ σ) (X : VRel p h M v d) (e : bi1 b d = some r) : Run p B A (call b.v [v]) h M φ σ (V p r) := by
  unfold bi1 at e
  cases b with
  | len => exact nos e
  | sorted => exact nos e
  | dict => exact nos e
  | tuple =>
    dsimp only at e
    split at e
    · rename_i l q
      split at e
      · rename_i g; cases e
        rw [D.l?_eq q] at X
        obtain ⟨a, vs, rfl, y, m, z⟩ := lst_of' X
        refine Run.grown S fun s Q E hs k => ?_
        subst hs
        have hl := z.length
        refine call_tuple_list y.isList (fun h' hk => ?_) (by simp only [List.size_toArray, hl]; exact small_line g)
        refine k _ _ s.toks (fun b o e => Heap.get?_push_of_some _ (hk b o e)) ?_
        exact .tup ⟨0, Heap.get?_push_size _ rfl⟩ (fun q => by
          obtain ⟨o, e⟩ := (S.low _ q).1
          exact absurd (Heap.lt_size (hk _ _ e)) (Nat.lt_irrefl _)) ((z.mono (.grow hk)).push _)
      · cases e
    · cases e
  | bytes =>
    dsimp only at e
    split at e
    · rename_i bs q
      cases e
      rw [D.y?_eq q] at X
      obtain ⟨t, rfl⟩ := byt_of' X
      exact Run.keep S fun s Q E hs k => bytes_same (k _ s.toks X)
    · split at e
      · rename_i l q
        split at e
        · rename_i g
          split at e
          · rename_i bs q1
            cases e
            rw [D.l?_eq q] at X
            obtain ⟨a, vs, rfl, y, m, z⟩ := lst_of' X
            obtain ⟨ns, h1, h2, h3⟩ := ints_of z q1
            refine Run.grown S fun s Q E hs k => ?_
            subst hs
            have hl := z.length
            refine call_bytes_ints y.isList h1 h2 (by rw [hl]; exact small_line g) hh fun h' t tk hk => ?_
            rw [h3]
            exact k _ _ tk hk (.byt _ _)
          · cases e
        · cases e
      · cases e
  | ord =>
    dsimp only at e
    split at e
    · rename_i x q0
      split at e
      · rename_i c q
        cases e
        rw [D.s?_eq q0, show x = ⟨#[c]⟩ from strEq_iff.mp (natsEq_iff.mpr (one_eq q))] at X
        obtain ⟨t, rfl⟩ := str_of' X
        exact Run.keep S fun s Q E hs k => PySem.P.ord_of_char (k _ _ (.int _ _))
      · cases e
    · cases e
  | chr =>
    dsimp only at e
    split at e
    · rename_i n q
      split at e
      · rename_i g
        cases e
        rw [D.nat?_eq q] at X
        obtain ⟨t, rfl⟩ := int_of' X
        have g := Z.blt_iff.mp g
        refine Run.keep S fun s Q E hs k => PySem.P.chr_of_int ?_ (k _ _ (.str _ _))
        rw [Bool.or_eq_false_iff, decide_eq_false_iff_not, decide_eq_false_iff_not]
        exact ⟨by have : (0 : Int) ≤ Int.ofNat n := Int.natCast_nonneg n; omega, by show ¬ ((n : Int) > 1114111); omega⟩
      · cases e
    · cases e
  | str =>
    dsimp only at e
    split at e
    · rename_i n q
      split at e
      · rename_i g
        cases e
        rw [D.nat?_eq q] at X
        obtain ⟨t, rfl⟩ := int_of' X
        have g := Z.blt_iff.mp g
        refine Run.keep S fun s Q E hs k => PySem.P.str_of_int ?_ (k _ _ ?_)
        · show Nat.log2 n < 1920
          have := Nat.log2_le_self n
          omega
        · show VRel p h M (.str (Str.ofString (toString (Int.ofNat n))) _) _
          rw [digit_text n g]; exact .str _ _
      · cases e
    · cases e
end
end Mine

namespace Mine
open PySem PySem.W PyProof.Rows PySem.Calls PySem.SeqAt

noncomputable def Key.kind : Key → Nat
  | .i _ => 0 | .s _ => 1 | .b _ => 2
noncomputable def bl (a b : Key) : Bool := match keyLt a b with
  | some true => true
  | _ => false
theorem ltNats_eq : ∀ a b : List Nat, ltNats a b = decide (a < b)
  | [], [] => by simp [ltNats]
  | [], _ :: _ => by simp [ltNats]
  | _ :: _, [] => by simp [ltNats]
  | a :: r, b :: t => by
    have ih := ltNats_eq r t
    rw [Bool.eq_iff_iff]
    simp only [ltNats, decide_eq_true_eq, List.cons_lt_cons_iff]
    cases q : Nat.blt a b with
    | true => have := Z.blt_iff.mp q; simp [this]
    | false =>
      have q' : ¬ a < b := fun z => by rw [Z.blt_iff.mpr z] at q; cases q
      have hb : (Nat.beq a b = true) ↔ a = b := ⟨Nat.eq_of_beq_eq_true, fun e => e ▸ Nat.beq_refl _⟩
      simp only [bt_false, q', false_or, Bool.and_eq_true, hb, ih, decide_eq_true_eq]
theorem ltBytes_eq : ∀ a b : List UInt8, ltBytes a b = ltNats (a.map UInt8.toNat) (b.map UInt8.toNat)
  | [], [] => rfl
  | [], _ :: _ => rfl
  | _ :: _, [] => rfl
  | a :: r, b :: t => by
    simp only [ltBytes, ltNats, List.map_cons]
    rw [ltBytes_eq r t]
theorem nats_irrefl (a : List Nat) : ltNats a a = false := by rw [ltNats_eq]; simpa using List.lt_irrefl a
theorem nats_trans {a b c : List Nat} (h1 : ltNats a b = true) (h2 : ltNats b c = true) : ltNats a c = true := by
  rw [ltNats_eq] at *; simp only [decide_eq_true_eq] at *; exact List.lt_trans h1 h2
theorem nats_neg {a b c : List Nat} (h : ltNats a c = true) : ltNats a b = true ∨ ltNats b c = true := by
  simp only [ltNats_eq, decide_eq_true_eq] at *
  by_cases hab : a < b
  · exact .inl hab
  · exact .inr (List.lt_of_le_of_lt (List.not_lt.mp hab) h)
theorem nats_total {a b : List Nat} (h1 : ltNats a b = false) (h2 : ltNats b a = false) : a = b := by
  simp only [ltNats_eq, decide_eq_false_iff_not] at *; exact List.le_antisymm (List.not_lt.mp h2) (List.not_lt.mp h1)
theorem map_toNat_inj {a b : List UInt8} (h : a.map UInt8.toNat = b.map UInt8.toNat) : a = b := by
  induction a generalizing b with
  | nil => cases b with | nil => rfl | cons => cases h
  | cons x r ih => cases b with
    | nil => cases h
    | cons y t => rw [List.map_cons, List.map_cons, List.cons.injEq] at h; rw [UInt8.toNat_inj.mp h.1, ih h.2]
theorem keyLt_kind {a b : Key} {r : Bool} (h : keyLt a b = some r) : a.kind = b.kind := by cases a <;> cases b <;> first | rfl | (cases h; done)
noncomputable def ltK : Key → Key → Bool
  | .i a, .i b => Z.ltB a b
  | .s a, .s b => ltNats a.cps.toList b.cps.toList
  | .b a, .b b => ltBytes a b
  | _, _ => false
theorem bl_eq (a b : Key) : bl a b = ltK a b := by
  cases a <;> cases b <;> simp only [bl, keyLt, ltK] <;> split <;> simp_all
theorem zlt (a b : Int) : Z.ltB a b = decide (a < b) := by rw [Bool.eq_iff_iff, Z.ltB_iff]; simp
theorem bl_irrefl (a : Key) : bl a a = false := by
  rw [bl_eq]; cases a with
  | i a => simp only [ltK, zlt]; simp
  | s a => exact nats_irrefl _
  | b a => simp only [ltK, ltBytes_eq]; exact nats_irrefl _
theorem bl_trans {a b c : Key} (h1 : bl a b = true) (h2 : bl b c = true) : bl a c = true := by
  simp only [bl_eq] at *
  cases a <;> cases b <;> first | (cases h1; done) | (cases c <;> first | (cases h2; done) | skip)
  · simp only [ltK, zlt, decide_eq_true_eq] at *; omega
  · exact nats_trans h1 h2
  · simp only [ltK, ltBytes_eq] at *; exact nats_trans h1 h2
theorem bl_neg {a b c : Key} (k1 : a.kind = b.kind) (h : bl a c = true) : bl a b = true ∨ bl b c = true := by
  simp only [bl_eq] at *
  cases a <;> cases b <;> first | (cases k1; done) | (cases c <;> first | (cases h; done) | skip)
  · simp only [ltK, zlt, decide_eq_true_eq] at *; omega
  · exact nats_neg h
  · simp only [ltK, ltBytes_eq] at *; exact nats_neg h
theorem bl_total {a b : Key} (k : a.kind = b.kind) (h1 : bl a b = false) (h2 : bl b a = false) : a = b := by
  simp only [bl_eq] at *
  cases a <;> cases b <;> first | (cases k; done) | skip
  · simp only [ltK, zlt, decide_eq_false_iff_not] at *; congr 1; omega
  · congr 1; exact strEq_iff.mp (natsEq_iff.mpr (nats_total h1 h2))
  · simp only [ltK, ltBytes_eq] at *; congr 1; exact map_toNat_inj (nats_total h1 h2)

/-- keys of one kind, in order -/
noncomputable abbrev ordK (t : Nat) (z : {k : Key // k.kind = t}) : PyProof.Rows.KeyKind where
  α := {k : Key // k.kind = t}
  blt a b := bl a.1 b.1
  irrefl a := bl_irrefl _
  trans a b c := bl_trans
  negTrans a b c h := bl_neg (a.2.trans b.2.symm) h
  total a b h1 h2 := Subtype.ext (bl_total (a.2.trans b.2.symm) h1 h2)
  keyOf v := match v with
    | .int n _ => if h : (Key.i n).kind = t then some ⟨_, h⟩ else none
    | .str x _ => if h : (Key.s x).kind = t then some ⟨_, h⟩ else none
    | .bytes x _ => if h : (Key.b x.toList).kind = t then some ⟨_, h⟩ else none
    | _ => none
  dflt := z
theorem ordK_of {t : Nat} {z : {k : Key // k.kind = t}} {v : Value} {k : Key} (h : k.is v = true) (e : k.kind = t) : (ordK t z).keyOf v = some ⟨k, e⟩ := by
  obtain ⟨u, rfl⟩ := Key.shape h
  cases k <;> simp only [Key.val, ordK] <;> rw [dif_pos e] <;> simp
theorem ordK_inv {t : Nat} {z : {k : Key // k.kind = t}} {v : Value} {a : {k : Key // k.kind = t}} (h : (ordK t z).keyOf v = some a) : a.1.is v = true := by
  cases v <;> simp only [ordK] at h <;> first | (cases h; done) | (split at h <;> first | (cases h; done) | (cases h; simp [Key.is, Value.isInt, Value.isStrOf, isBytes]))
theorem oneLt_bytes {prog : Program} {w : World} {A : Around} {E : Value → Shared → Prop} {s : Shared} {a b : List UInt8} {t u : Tok} {Q : Bool → Shared → Prop} (h : Q (ltBytes a b) s) : wpAny (model prog w) A (oneLt' true (.bytes a.toArray t) (.bytes b.toArray u)) Q E s := by
  rw [oneLt'_eq]
  simp only [if_true]
  refine wpAny_bind (wpAny_cRoomFor_byValue rfl ?_)
  refine wpAny_bind (wpAny_callSpecialIfBound?_slot (PySem.W.typeIs_bytes s _ t) slot_bytes_lt (wpAny_call_entry slot_bytes_lt (PySem.W.typeIs_bytes s _ t) entry_bytes_lt ?_ (args_bytes_lt_2 _ _)))
  show wpAny _ _ (isInstance (.bytes b.toArray u) (.type "bytes") >>= fun r => _) _ _ s
  refine wpAny_bind (wpAny_isInstance (PySem.W.typeIs_bytes s _ u) F.sub_bytes_bytes ?_)
  refine wpAny_pure ⟨_, rfl, wpAny_truthy_bool ?_⟩
  rw [← order_lt] at h; exact h
theorem ordK_one (t : Nat) (z : {k : Key // k.kind = t}) : (ordK t z).OneLt := by
  intro prog w A E s x y a b Q ha hb h
  have ka := ordK_inv ha
  have kb := ordK_inv hb
  obtain ⟨a, ea⟩ := a
  obtain ⟨b, eb⟩ := b
  obtain ⟨u, rfl⟩ := Key.shape ka
  obtain ⟨u', rfl⟩ := Key.shape kb
  have e : a.kind = b.kind := ea.trans eb.symm
  have h : Q (ltK a b) s := by rw [← bl_eq]; exact h
  cases a <;> cases b <;> first | (cases e; done) | skip
  · exact oneLt_int (by rw [← zlt]; exact h)
  · exact oneLt_str (by rw [← ltNats_eq]; exact h)
  · exact oneLt_bytes h
theorem kinds_first : ∀ {vs : List Value}, (∀ v ∈ vs, firstOfTuple' v = pure none) → vs.mapM firstOfTuple' = pure (vs.map fun _ => none)
  | [], _ => by simp
  | v :: r, h => by rw [List.mapM_cons, h v (.head _), kinds_first fun u m => h u (.tail _ m)]; simp
theorem kinds_type {T : String} : ∀ {vs : List Value}, (∀ v ∈ vs, typeOf v = pure (.type T)) → vs.mapM typeOf = pure (vs.map fun _ => Value.type T)
  | [], _ => by simp
  | v :: r, h => by rw [List.mapM_cons, h v (.head _), kinds_type fun u m => h u (.tail _ m)]; simp
theorem kinds_one {T : String} {v : Value} {vs : List Value} (h1 : ∀ u ∈ v :: vs, firstOfTuple' u = pure none) (h2 : ∀ u ∈ v :: vs, typeOf u = pure (.type T)) : keyKind' (v :: vs).toArray = pure oneType' := by
  rw [keyKind'_eq, List.mapM_toArray, kinds_first h1]
  simp only [map_pure, pure_bind]
  rw [if_neg (by simp), if_neg (by simp)]
  rw [oneTypeOnly'_eq, List.mapM_toArray, kinds_type h2]
  simp only [map_pure, pure_bind]
  have hall : ((List.map (fun _ => Value.type T) (v :: vs)).toArray.all fun x => x == Value.type T) = true := by
    simp only [List.all_toArray, List.all_map, List.all_eq_true]
    intro _ _
    simp
  have h0 : (List.map (fun _ => Value.type T) (v :: vs)).toArray[0]? = some (Value.type T) := by simp
  rw [h0]
  simp only [hall, if_true, pure_bind, Option.isSome_some]
theorem keys_one {t : Nat} {v : Value} {vs : List Value} (h : ∀ u ∈ v :: vs, ∃ k : Key, k.is u = true ∧ k.kind = t) : keyKind' (v :: vs).toArray = pure oneType' := by
  have first : ∀ u ∈ v :: vs, firstOfTuple' u = pure none := fun u m => by
    obtain ⟨k, h1, _⟩ := h u m
    obtain ⟨x, rfl⟩ := Key.shape h1
    cases k <;> rfl
  have ty : ∃ T, ∀ u ∈ v :: vs, typeOf u = pure (.type T) := by
    refine ⟨if t = 0 then "int" else if t = 1 then "str" else "bytes", fun u m => ?_⟩
    obtain ⟨k, h1, h2⟩ := h u m
    obtain ⟨x, rfl⟩ := Key.shape h1
    subst h2
    cases k <;> rfl
  obtain ⟨T, ty⟩ := ty
  exact kinds_one first ty
end Mine

namespace Mine
open PySem PySem.W PyProof.Rows PySem.Calls PySem.SeqAt

noncomputable abbrev le (a b : Key) : Prop := bl b a = false
theorem insK_sound {k : Key} : ∀ {l r : List Key}, insK k l = some r → (∀ x ∈ l, x.kind = (l.head?.getD k).kind) → r.Perm (k :: l) ∧ (∀ x ∈ r, x.kind = k.kind) ∧ (l.Pairwise le → r.Pairwise le)
  | [], r, e, _ => by
    cases e
    exact ⟨.refl _, fun x m => by rw [List.mem_singleton.mp m], fun _ => List.pairwise_singleton ..⟩
  | x :: l, r, e, hk => by
    unfold insK at e
    have hkx : ∀ y ∈ x :: l, y.kind = x.kind := hk
    split at e
    · rename_i q
      cases e
      have kk := keyLt_kind q
      refine ⟨.refl _, fun y m => ?_, fun hp => List.pairwise_cons.mpr ⟨fun y m => ?_, hp⟩⟩
      · rcases List.mem_cons.mp m with rfl | m
        · rfl
        · exact (hkx y m).trans kk.symm
      · have hlt : bl k x = true := by unfold bl; rw [q]
        rcases List.mem_cons.mp m with rfl | m
        · show bl y k = false
          cases z : bl y k with
          | false => rfl
          | true => have := bl_trans hlt z; rw [bl_irrefl] at this; cases this
        · have hxy := (List.pairwise_cons.mp hp).1 y m
          show bl y k = false
          cases z : bl y k with
          | false => rfl
          | true => have := bl_trans z hlt; rw [show bl y x = false from hxy] at this; cases this
    · rename_i q
      refine om1_inv e fun r' q' er => ?_
      subst er
      have kk := keyLt_kind q
      obtain ⟨h1, h2, h3⟩ := insK_sound q' (fun y m => by
        cases l with
        | nil => simp at m
        | cons z l => exact (hkx y (.tail _ m)).trans (hkx z (.tail _ (.head _))).symm)
      refine ⟨(List.Perm.cons x h1).trans (.swap ..), fun y m => ?_, fun hp => ?_⟩
      · rcases List.mem_cons.mp m with rfl | m
        · exact kk.symm
        · exact h2 y m
      · obtain ⟨p1, p2⟩ := List.pairwise_cons.mp hp
        refine List.pairwise_cons.mpr ⟨fun y m => ?_, h3 p2⟩
        rcases List.mem_cons.mp (h1.mem_iff.mp m) with rfl | m
        · show bl y x = false
          unfold bl; rw [q]
        · exact p1 y m
    · cases e
theorem sortK_sound : ∀ {l r : List Key}, sortK l = some r → r.Perm l ∧ r.Pairwise le ∧ ∃ t, ∀ x ∈ l, x.kind = t
  | [], r, e => by cases e; exact ⟨.refl _, .nil, 0, by simp⟩
  | k :: l, r, e => by
    unfold sortK at e
    obtain ⟨r', q, e⟩ := Option.bind_eq_some_iff.mp e
    obtain ⟨h1, h2, t, h3⟩ := sortK_sound q
    obtain ⟨g1, g2, g3⟩ := insK_sound e (fun x m => by
      cases r' with
      | nil => simp at m
      | cons z r' => exact (h3 x (h1.mem_iff.mp m)).trans (h3 z (h1.mem_iff.mp (.head _))).symm)
    have hp := g1.trans (List.Perm.cons k h1)
    exact ⟨hp, g3 h2, k.kind, fun x m => g2 x (hp.mem_iff.mpr m)⟩
section
variable {p : Pm} {A : Around} {B : Heap} {h : Heap} {M : List Addr} {φ : List (Option Addr)} {σ : List C}
/-- what stands in the sorted order -/
theorem sorted_rel {ks ks' : List Key} {vs : List Value} {t : Nat} {z : {k : Key // k.kind = t}} {xs : Array Keyed} (hn : vs.length = ks.length) (hk : ∀ (j : Nat) (v : Value), vs[j]? = some v → ∃ k, ks[j]? = some k ∧ k.is v = true)
    (hkd : ∀ k ∈ ks, k.kind = t) (e1 : ks'.Perm ks) (e2 : ks'.Pairwise le) (hp : xs.Perm (pairsOf vs)) (hs : SortedToK (ordK t z) xs (pairsOf vs).size) :
    VRels p h M (xs.map (·.2)).toList (ks'.map Key.d) := by
  have hl : xs.toList.Perm (vs.zip vs) := by rw [← pairsOf_toList]; exact Array.perm_iff_toList_perm.mp hp
  have hmem : ∀ q, q ∈ xs.toList → q.1 = q.2 ∧ q.1 ∈ vs := fun q hq => mem_zip_self (hl.mem_iff.mp hq)
  have hall : ∀ v ∈ vs, ∃ k, k ∈ ks ∧ k.is v = true := fun v m => by
    obtain ⟨j, hj⟩ := List.getElem?_of_mem m
    obtain ⟨k, a, b⟩ := hk j v hj
    exact ⟨k, List.mem_of_getElem? a, b⟩
  -- the key of a value
  let kf : Value → Key := fun v => ((ordK t z).keyOf v).elim z.1 (·.1)
  have kfe : ∀ v k, k.is v = true → k.kind = t → kf v = k := fun v k a b => by
    show Option.elim _ _ _ = _
    rw [ordK_of a b]; rfl
  have kvs : vs.map kf = ks := by
    apply List.ext_getElem?
    intro j
    rw [List.getElem?_map]
    cases q : vs[j]? with
    | none => rw [Option.map_none, eq_comm, List.getElem?_eq_none_iff]; rw [List.getElem?_eq_none_iff] at q; omega
    | some v =>
      obtain ⟨k, a, b⟩ := hk j v q
      rw [a, Option.map_some, kfe v k b (hkd k (List.mem_of_getElem? a))]
  have kxs : (xs.toList.map fun q => kf q.1).Perm ks := by
    have h1 := hl.map (fun q => kf q.1)
    have e : (vs.zip vs).map (fun q => kf q.1) = ks := by
      have : (vs.zip vs).map (fun q => kf q.1) = ((vs.zip vs).map Prod.fst).map kf := by rw [List.map_map]; rfl
      rw [this, List.map_fst_zip (Nat.le_refl _), kvs]
    rwa [e] at h1
  have srt : (xs.toList.map fun q => kf q.1).Pairwise le := by
    rw [List.pairwise_iff_getElem]
    intro i j hi hj hij
    have hi' : i < xs.size := by simpa using hi
    have hj' : j < xs.size := by simpa using hj
    have h1 := hs i j (Nat.le_of_lt hij) (by rw [← hp.size_eq]; exact hj')
    have kk : ∀ i (hi : i < xs.size), (KK (ordK t z) xs i).1 = kf (xs[i].1) := fun i hi => by
      unfold KK
      rw [getElem?_pos xs i hi]
      show (((ordK t z).keyOf xs[i].1).getD z).1 = _
      show _ = Option.elim _ _ _
      cases (ordK t z).keyOf xs[i].1 <;> rfl
    have h1 : bl (KK (ordK t z) xs j).1 (KK (ordK t z) xs i).1 = false := h1
    rw [kk i hi', kk j hj'] at h1
    simpa using h1
  have eq : (xs.toList.map fun q => kf q.1) = ks' := by
    refine List.Perm.eq_of_pairwise (le := le) (fun a b ha hb h1 h2 => ?_) srt e2 (kxs.trans e1.symm)
    exact bl_total ((hkd a (kxs.mem_iff.mp ha)).trans (hkd b (e1.mem_iff.mp hb)).symm) h2 h1
  rw [← eq, Array.toList_map]
  have rel : ∀ l : List Keyed, (∀ q ∈ l, q ∈ xs.toList) → VRels p h M (l.map (·.2)) ((l.map fun q => kf q.1).map Key.d) := fun l => by
    induction l with
    | nil => intro _; exact .nil
    | cons q l ih =>
      intro hq
      obtain ⟨a, b⟩ := hmem q (hq q (.head _))
      obtain ⟨k, c, d⟩ := hall _ b
      refine .cons ?_ (ih fun q m => hq q (.tail _ m))
      dsimp only
      rw [kfe _ k d (hkd k c), ← a]
      exact rel_key d
  exact rel _ fun _ m => m
theorem not_mem_new (S : St p B h M φ σ) {h' : Heap} (hk : ∀ (b : Addr) (o : Obj), h.get? b = some o → h'.get? b = some o) : h'.objs.size ∉ M := fun q => by
  obtain ⟨o, e⟩ := (S.low _ q).1
  exact absurd (Heap.lt_size (hk _ _ e)) (Nat.lt_irrefl _)
theorem sorted_go {a : Addr} {kvs : List (Key × Value)} {l : List (Key × D)} {ks' : List Key} {t : Nat} (hh : A.handled = none) (S : St p B h M φ σ) (y : h.DictOf (knd p.prog p.w) a kvs) (y0 : (a == sysModules) = false) (zz : ERels p h M kvs l)
    (g64 : l.length < 64) (e1 : ks'.Perm (l.map (·.1))) (e2 : ks'.Pairwise le) (hkd : ∀ k ∈ l.map (·.1), k.kind = t) (z : {k : Key // k.kind = t}) :
    Run p B A (call (.builtin "sorted") [.ref a]) h M φ σ (V p (.lst (ks'.map Key.d))) := by
  have hlen := zz.length
  have hkeys := zz.keys
  refine Run.grown S fun s Q E hs k => ?_
  subst hs
  obtain ⟨ep, hat⟩ := y.dictAt
  refine call_function_entry kind_sorted plain_sorted entry_sorted (args_sorted1 _) ?_
  unfold Builtin.«sorted»
  refine wpAny_bind (m := checkCount "sorted" 1 1 _) (wpAny_pure ?_)
  refine wpAny_bind (kdu_collect (A := A.in1) (kdl_dict (kvs := kvs) (ep := ep) y0) hh hat (Nat.le_trans (by omega : _ ≤ 1000) (Nat.le_trans (by decide) sizeLine_ge)) fun h' tk acc hk hacc => ?_)
  have hl : acc.toList.length = kvs.length := by rw [Array.length_toList]; exact hacc.1
  have hkk : ∀ (j : Nat) (v : Value), acc.toList[j]? = some v → ∃ k, (l.map (·.1))[j]? = some k ∧ k.is v = true := fun j v e => by
    obtain ⟨k, x, c, d⟩ := hacc.2 j v (by rw [← Array.getElem?_toList]; exact e)
    refine ⟨k, ?_, d⟩
    rw [← hkeys, List.getElem?_map, c]; rfl
  refine wpAny_bind (wpAny_newList ?_ (by rw [hl]; exact Nat.le_trans (by omega : _ ≤ 1000) (Nat.le_trans (by decide) sizeLine_ge)))
  have hoL : (h'.push (seqObj "list" acc.toList.toArray 0)).get? h'.objs.size = some (seqObj "list" acc.toList.toArray 0) := Heap.get?_push_size _ rfl
  have hmem : ∀ v ∈ acc.toList, ∃ k : Key, k.is v = true ∧ k.kind = t := fun v m => by
    obtain ⟨j, hj⟩ := List.getElem?_of_mem m
    obtain ⟨k, c, d⟩ := hkk j v hj
    exact ⟨k, d, hkd k (List.mem_of_getElem? c)⟩
  refine wpAny_bind (wpAny_holding (wpAny_call_entry slot_list_sort ⟨_, hoL, rfl⟩ entry_list_sort (list_sort_treeK (ordK_one t z) hoL (fun q m => ?_) (fun v1 v2 rest e => keys_one fun u m => hmem u (by rw [e]; exact m)) (by rw [hl]; omega) fun st' a1 a2 => ⟨_, rfl, ?_⟩) (args_list_sort _)))
  · rw [pairsOf_toList] at m
    obtain ⟨k, c, d⟩ := hmem _ (mem_zip_self m).2
    exact ⟨_, ordK_of c d⟩
  · obtain ⟨e, he⟩ := sortedHeap_at (out := (arrOf st').map (·.2)) hoL
    have kp : ∀ (b : Addr) (o : Obj), s.heap.get? b = some o → (sortedHeap (h'.push (seqObj "list" acc.toList.toArray 0)) h'.objs.size acc.toList ((arrOf st').map (·.2))).get? b = some o := fun b o q => by
      have hb := Heap.lt_size (hk b o q)
      rw [sortedHeap_old (Nat.ne_of_lt hb) (by rw [Heap.size_push]; exact Nat.lt_succ_of_lt hb)]
      exact Heap.get?_push_of_some _ (hk b o q)
    refine wpAny_pure ⟨_, rfl, k _ _ tk kp ?_⟩
    refine .lst (vs := ((arrOf st').map (·.2)).toList) ⟨e, by rw [Array.toArray_toList]; exact he⟩ (not_mem_new S hk) ?_
    exact sorted_rel (by rw [hl, List.length_map, hlen]) hkk hkd e1 e2 a1 a2
theorem run_sorted {v : Value} {d r : D} (hh : A.handled = none) (S : St p B h M φ σ) (X : Reads p h M v d) (e : sortedEv d = some r) : Run p B A (call (.builtin "sorted") [v]) h M φ σ (V p r) := by
  unfold sortedEv at e
  split at e
  rotate_left
  · cases e
  rename_i l ql
  rw [D.d?_eq ql] at X
  split at e
  rotate_left
  · cases e
  rename_i g64
  split at e
  rotate_left
  · cases e
  rename_i ks' q
  cases e
  have g64 := Z.blt_iff.mp g64
  obtain ⟨a, kvs, rfl, y, y0, zz⟩ := X.dct_inv
  obtain ⟨e1, e2, t, hkd⟩ := sortK_sound q
  have hlen := zz.length
  cases hq : l.map (·.1) with
  | nil => exact sorted_go (t := 0) hh S y y0 zz g64 e1 e2 (by rw [hq]; simp) ⟨.i 0, rfl⟩
  | cons k r => exact sorted_go hh S y y0 zz g64 e1 e2 hkd ⟨k, hkd k (hq ▸ .head _)⟩
end
end Mine

namespace Mine
open PySem PySem.W PyProof.Rows PySem.Calls PySem.SeqAt

theorem plain_upd_loop : plainId "dict.update.loop" = true := by decide +kernel
theorem entry_upd_loop : entryFor table "dict.update.loop" = some Builtin.«dict.update.loop» := by first | exact entryFor_of_fast (by kernel_rfl) | exact entryFor_of_tree (by kernel_rfl)
theorem list_no_keys : typeLookup (.type "list") "keys" = pure none := by rw [typeLookup_type, builtinLookup_eq_fast]; kernel_rfl
theorem getAttr?_miss_list {prog : Program} {w : World} {A : Around} {E : Value → Shared → Prop} {s : Shared} {a : Addr} {xs : Array Value} {k : Nat} {sl : Array (Option Value)} {name : Str} {Q : Option Value → Shared → Prop}
    (hx : s.heap.get? a = some { cls := .type "list", dict := none, data := .seq xs k, slots := sl }) (hmiss : typeLookup (.type "list") name = pure none) (hname : (["__module__", "__name__", "__qualname__", "__doc__", "__annotations__"] : List Str).contains name = false) (hA : A.handled = none)
    (h : ∀ h' tk, (∀ (b : Addr) (o : Obj), s.heap.get? b = some o → h'.get? b = some o) → Q none { s with heap := h', toks := tk }) (hsz : name.length + 100 ≤ sizeLine := by size_fits) :
    wpAny (model prog w) A (getAttr? (.ref a) name) Q E s := by
  obtain ⟨hp, g, d, tk, os⟩ := s
  have hT : ∀ tk', (⟨hp, g, d, tk', os⟩ : Shared).TypeIs (.ref a) "list" := fun _ => ⟨_, hx, rfl⟩
  have f1 := sub_AttributeError
  have f3 := F.slot_list_getattribute.lookup
  have f4 := F.slot_list_getattribute.bind (.ref a)
  have f5 := am_list_getattr_none
  unfold getAttr? getAttrBy? getAttrBy
  repeat (any_goals (first | assumption | exact hT _ | ((with_reducible show wpAny _ _ (call (Value.builtin "list.__getattribute__") _ _) _ _ _); refine call_meets F.slot_list_getattribute (hT _) am_entry_list_getattribute (F.args_list_getattribute_2 _ _) (meets_getattribute_miss_list a xs k sl name _ hmiss hname hsz) ⟨hx, hA, fun h' tk' e hx' => ?_⟩) | wp_step))
  obtain ⟨t', u', he⟩ := hx'.there
  show wpAny _ _ (getattributeRaised _ _ _ _ _ _ _) _ _ _
  unfold getattributeRaised
  repeat (any_goals (first | assumption | wp_step))
  exact h _ _ hx'.keeps

section
variable {p : Pm} {M : List Addr} {h₀ : Heap}
theorem pairItems_tup {prog : Program} {w : World} {A : Around} {E : Value → Shared → Prop} {s : Shared} {t : Addr} {items : Array Value} {n : Nat} {Q : List Value → Shared → Prop} (ht : s.heap.get? t = some { cls := .type "tuple", data := .seq items n }) (h : Q items.toList s) :
    wpAny (model prog w) A (Builtin.Dict.pairItems (.ref t)) Q E s := by
  unfold Builtin.Dict.pairItems
  refine wpAny_bind (wpAny_typeOf ⟨_, ht, rfl⟩ ?_)
  rw [if_pos (by decide)]
  refine wpAny_bind (wpAny_seqItems ht rfl ?_)
  exact wpAny_pure h
theorem upd_loop {A : Around} {R : Result → Shared → Prop} {d it l : Addr} {vs : List Value} (hh : A.handled = none) (hdi : d ≠ it) (hd0 : h₀.get? d = none) (hi0 : h₀.get? it = none) (hl : h₀.IsList l vs.toArray) (es : List (Key × D)) :
    ∀ (rest : List D) (i : Nat) (u : Tok) (acc : List (Key × Value)) (accD : List (Key × D)) (s : Shared), VRels p h₀ M (vs.drop i) rest → ERels p h₀ M acc accD → pairsOf' rest accD = some es →
      (∀ (b : Addr) (o : Obj), h₀.get? b = some o → s.heap.get? b = some o) → s.heap.IsListIter it l i → s.heap.DictOf (knd p.prog p.w) d acc → acc.length + rest.length ≤ sizeLine →
      (∀ (h' : Heap) (tk : Nat) (kvs : List (Key × Value)), (∀ (b : Addr) (o : Obj), h₀.get? b = some o → h'.get? b = some o) → h'.DictOf (knd p.prog p.w) d kvs → ERels p h₀ M kvs es → R (.ok (.ret .none)) { s with heap := h', toks := tk }) →
      codeAny (model p.prog p.w) A (.builtin "dict.update.loop" ⟨[.ref d, .ref it, .int i u, .none], []⟩) R s
  | [], i, u, acc, accD, s, V, Er, e, hk, hit, hd, hz, hR => by
    cases e
    have hlen : vs.length ≤ i := by have := V.length; simp at this; omega
    refine codeAny_builtin entry_upd_loop ?_
    rw [Around.under_plainId plain_upd_loop _]
    show wpAny _ _ (pyNext (.ref it) >>= _) _ _ s
    have hls : s.heap.IsList l vs.toArray := let ⟨o, e, r⟩ := hl; ⟨o, hk _ _ e, r⟩
    refine wpAny_bind (wpAny_pyNext_list_end hh hit hls (by simpa using hlen) fun h' hx => ?_)
    refine wpAny_bind (wpAny_pure ?_)
    exact wpAny_pure (hR h' s.toks acc (fun b o e => hx b o (fun q => by subst q; rw [hi0] at e; cases e) (hk b o e)) (hd.extBut hx hdi) Er)
  | x :: rest, i, u, acc, accD, s, V, Er, e, hk, hit, hd, hz, hR => by
    generalize hv : vs.drop i = dv at V
    cases V with
    | @cons v _ vr _ Va Vr =>
    have hi : vs[i]? = some v := by rw [← List.head?_drop, hv]; rfl
    have hdrop : vs.drop (i + 1) = vr := by rw [← List.tail_drop, hv]; rfl
    unfold pairsOf' at e
    split at e
    rotate_left
    · cases e
    rename_i lq ql
    split at e
    rotate_left
    · cases e
    rename_i kd xd q2
    split at e
    rotate_left
    · cases e
    rename_i k hkey
    rw [D.t?_eq ql, two_eq q2] at Va
    obtain ⟨t, ws, rfl, ht, hm, W⟩ := tup_of' Va
    cases W with
    | @cons kv _ ws _ Wk W =>
    cases W with
    | @cons xv _ ws _ Wx W =>
    cases W
    obtain ⟨n, ht⟩ := ht
    refine codeAny_builtin entry_upd_loop ?_
    rw [Around.under_plainId plain_upd_loop _]
    show wpAny _ _ (pyNext (.ref it) >>= _) _ _ s
    have hls : s.heap.IsList l vs.toArray := let ⟨o, e, r⟩ := hl; ⟨o, hk _ _ e, r⟩
    refine wpAny_bind (wpAny_pyNext_list_item hit hls (by simpa using hi) fun h1 hit1 hs1 => ?_)
    have hk1 : ∀ (b : Addr) (o : Obj), h₀.get? b = some o → h1.get? b = some o := fun b o e => hs1.extBut b o (fun q => by subst q; rw [hi0] at e; cases e) (hk b o e)
    show wpAny _ _ (holding [Value.ref t] _ >>= _) _ _ _
    refine wpAny_bind (wpAny_holding ?_)
    refine wpAny_bind (wpAny_tryCatch (pairItems_tup (hk1 _ _ ht) ?_))
    show wpAny _ _ (holding [kv, xv] (dictSet d kv xv)) _ _ _
    have hd1 : h1.DictOf (knd p.prog p.w) d acc := hd.sameBut hs1 hdi
    refine wpAny_holding (wpAny_dictSet_pairs (knd := knd p.prog p.w) (s := { s with heap := h1 }) (key_rel Wk hkey) hd1 (fun h2 hd2 hs2 => ?_) (by simp at hz; omega))
    have hk2 : ∀ (b : Addr) (o : Obj), h₀.get? b = some o → h2.get? b = some o := fun b o e => hs2.extBut b o (fun q => by subst q; rw [hd0] at e; cases e) (hk1 b o e)
    have hn : (acc.map (·.1)).Nodup := let ⟨_, _, _, _, _, _, _, _, hn⟩ := hd; hn
    refine wpAny_pure ⟨plainId_quiet plain_upd_loop _, ?_⟩
    exact upd_loop hh hdi hd0 hi0 hl es rest (i + 1) 0 (stored acc k xv) _ _ (by rw [hdrop]; exact Vr) (Er.put hn Wx) e hk2 (let ⟨o, e, r⟩ := hit1; ⟨o, (hs2.2 it (Ne.symm hdi)).trans e, r⟩) hd2
      (by have := stored_length_le acc k xv; simp at hz; omega) fun h' tk kvs a b c => hR h' tk kvs a b c
end
end Mine

namespace Mine
open PySem PySem.W PyProof.Rows PySem.Calls PySem.SeqAt

section
variable {p : Pm} {K : Frag} {mg mb : Str → Option Value} {A : Around} {B : Heap} {h h' : Heap} {M : List Addr} {φ : List (Option Addr)} {σ : List C}
theorem gr_new {a : Addr} (hk : ∀ (b : Addr) (o : Obj), h.get? b = some o → h'.get? b = some o) (ha : h.get? a = none) : Gr h M h' (a :: M) := ⟨fun b o _ e => hk b o e, fun b o n e m => by
  rcases List.mem_cons.mp m with rfl | m
  · exact get_lt e ha
  · exact n m⟩
theorem base_none (S : St p B h M φ σ) {a : Addr} (ha : h.get? a = none) : B.get? a = none := by
  cases q : B.get? a with
  | none => rfl
  | some o => exact (get_lt (S.base _ _ q) ha).elim
theorem notM_none (S : St p B h M φ σ) {a : Addr} (ha : h.get? a = none) : a ∉ M := fun m => (S.low _ m).1.no ha
theorem St.freshCell (S : St p B h M φ σ) (hk : ∀ (b : Addr) (o : Obj), h.get? b = some o → h'.get? b = some o) {a : Addr} (ha : h.get? a = none) (hd' : Df h' a) {c : C} (hd : c ≠ .dead) (hc : CRel p h' (a :: M) a c) :
    St p B h' (a :: M) (φ ++ [some a]) (σ ++ [c]) ∧ Mv [] h M φ h' (a :: M) (φ ++ [some a]) ∧ WRel p h' (a :: M) (φ ++ [some a]) (.ref a) (.cell σ.length) := by
  refine ⟨(S.grow hk).newCell hd' (base_none S ha) (notM_none S ha) hd hc fun k b c' e1 e2 => (S.cells k b c' e1 e2).mono (gr_new hk ha) fun o' e => hk b o' e, ?_, ?_⟩
  · exact ⟨fun b o' _ _ e => hk b o' e, fun b m => .inl (.tail _ m), fun b m n => by rcases List.mem_cons.mp m with rfl | m; exact ha; exact absurd m n,
      phi_append, by rw [List.length_append]; exact Nat.le_add_right _ _, fun b m n => by
        rcases List.mem_append.mp m with m | m
        · exact absurd m n
        · cases List.mem_singleton.mp m; exact ha, fun b ⟨o', e⟩ => ⟨o', hk b o' e⟩⟩
  · refine .cell (by rw [List.length_append, S.len]; exact Nat.lt_succ_self _) fun b e => ?_
    rw [← S.len, List.getElem?_append_right (Nat.le_refl _), Nat.sub_self] at e
    cases e; rfl
theorem St.notSys (Y : Bs K mg mb B) (S : St p B h M φ σ) : (h.objs.size == sysModules) = false := beq_eq_false_iff_ne.mpr (Nat.ne_of_gt (modules_low (Y.nolimit.keeps S.base)))
theorem run_newDict {cell : Bool} {t : Sem Value} {es : List (Key × D)} (S : St p B h M φ σ)
    (H : ∀ (s : Shared) (Q : Value → Shared → Prop) (E : Value → Shared → Prop), s.heap = h → (∀ a h' tk kvs, (∀ (b : Addr) (o : Obj), h.get? b = some o → h'.get? b = some o) → h.get? a = none → (a == sysModules) = false → h'.DictOf (knd p.prog p.w) a kvs → ERels p h M kvs es →
      Q (.ref a) { s with heap := h', toks := tk }) → wpAny (model p.prog p.w) A t Q E s) : Run p B A t h M φ (newCell cell σ (.dct es) (.dct es)).2 (U p (newCell cell σ (.dct es) (.dct es)).1) := by
  cases cell with
  | false => exact fun s Q E e k => H s Q E e fun a h' tk kvs hk ha hs hd r => k _ h' tk M φ (S.grow hk) (Mv.grow hk) (.d (.dct hd hs (notM_none S ha) (r.mono (.grow hk))))
  | true =>
      refine fun s Q E e k => H s Q E e fun a h' tk kvs hk ha hs hd r => ?_
      obtain ⟨S', m', w'⟩ := S.freshCell hk ha (let ⟨o, _, _, e, _⟩ := hd; ⟨o, e⟩) (c := .dct es) (by simp) (.dct hd hs (r.mono (gr_new hk ha)))
      exact k _ h' tk _ _ S' m' w'
theorem call_dict_pairs {E : Value → Shared → Prop} {s : Shared} {l : Addr} {vs : List Value} {ds : List D} {es : List (Key × D)} {Q : Value → Shared → Prop} (hh : A.handled = none) (hl : s.heap.PlainList l vs.toArray) (V : VRels p s.heap M vs ds) (e : pairsOf' ds [] = some es) (hz : ds.length ≤ sizeLine)
    (h : ∀ h' tk kvs, (∀ (b : Addr) (o : Obj), s.heap.get? b = some o → h'.get? b = some o) → h'.DictOf (knd p.prog p.w) s.heap.objs.size kvs → ERels p s.heap M kvs es → Q (.ref s.heap.objs.size) { s with heap := h', toks := tk }) :
    wpAny (model p.prog p.w) A (call (.type "dict") [.ref l]) Q E s := by
  refine callType_codes (Q₁ := fun obj s₁ => obj = .ref s.heap.objs.size ∧ s₁ = { s with heap := s.heap.push { cls := .type "dict", data := .dict #[] } }) F.kt_called_dict (F.kt_typeCall_dict_1 _) F.entry_dict_init (kt_code_dict_new _ ⟨rfl, rfl⟩) ?_
  rintro obj s₁ ⟨rfl, rfl⟩
  obtain ⟨n, hl⟩ := hl
  have hnew : (s.heap.push { cls := .type "dict", data := .dict #[] }).DictOf (knd p.prog p.w) s.heap.objs.size [] := Heap.DictOf.new s.heap
  have hl' : (s.heap.push { cls := .type "dict", data := .dict #[] }).get? l = some { cls := .type "list", dict := none, data := .seq vs.toArray n } := Heap.get?_push_of_some _ hl
  refine ⟨hnew.typeIs, F.args_dict_init_2 _ _, ?_⟩
  unfold Builtin.«dict.__init__»
  refine wpAny_bind ?_
  unfold Builtin.Dict.selfAndRest
  refine wpAny_bind (wpAny_notOrdered_dict hnew.typeIs ?_)
  show wpAny _ _ (pure (s.heap.objs.size, [Value.ref l])) _ _ _
  refine wpAny_pure ?_
  show wpAny _ _ (Builtin.Dict.updateFrom "dict.__init__" s.heap.objs.size (.ref l) [] .none) _ _ _
  unfold Builtin.Dict.updateFrom
  refine wpAny_bind (wpAny_typeOf ⟨_, hl', rfl⟩ ?_)
  rw [if_pos (by decide)]
  refine wpAny_bind (getAttr?_miss_list hl' list_no_keys (by decide +kernel) hh (fun h1 tk1 hk1 => ?_) (by decide))
  refine wpAny_bind (wpAny_rule ?_)
  have k01 : ∀ (b : Addr) (o : Obj), s.heap.get? b = some o → h1.get? b = some o := fun b o e => hk1 b o (Heap.get?_push_of_some _ e)
  have hl1 : h1.IsList l vs.toArray := ⟨_, k01 _ _ hl, rfl, n, rfl⟩
  refine wpAny_bind (wpAny_pyIter_list hl1 ?_)
  refine wpAny_pure ⟨plainId_quiet plain_upd_loop _, ?_⟩
  have hd1 : h1.DictOf (knd p.prog p.w) s.heap.objs.size [] := hnew.keep hk1
  have dlt : s.heap.objs.size < h1.objs.size := by
    obtain ⟨o, _, _, e, _⟩ := hd1
    exact Heap.lt_size e
  exact upd_loop (A := A.in1) (R := wants (fun r s₂ => r = Value.none ∧ Q (.ref s.heap.objs.size) s₂) E) (h₀ := s.heap) (d := s.heap.objs.size) (it := h1.objs.size) hh (Nat.ne_of_lt dlt) (none_ge (Nat.le_refl _)) (none_ge (Nat.le_of_lt dlt)) (l := l) ⟨_, hl, rfl, n, rfl⟩ es ds 0 0 [] [] { s with heap := h1.push { cls := .type "list_iterator", data := .fields #[.ref l, .int 0 0] }, toks := tk1 } (by simpa using V) .nil e
    (fun b o e => Heap.get?_push_of_some _ (k01 b o e)) ⟨_, Heap.get?_push_size _ rfl, rfl, rfl⟩ (hd1.push _) (by simpa using hz) fun h' tk kvs a b c => ⟨rfl, h h' tk kvs a b c⟩
theorem run_dict {cell : Bool} {v : Value} {d : D} {es : List (Key × D)} (Y : Bs K mg mb B) (hh : A.handled = none) (S : St p B h M φ σ) (X : Reads p h M v d) (e : dictEv d = some es) :
    Run p B A (call (.type "dict") [v]) h M φ (newCell cell σ (.dct es) (.dct es)).2 (U p (newCell cell σ (.dct es) (.dct es)).1) := by
  unfold dictEv at e
  split at e
  · rename_i l q
    rw [D.d?_eq q] at X
    split at e
    · rename_i g
      cases e
      obtain ⟨a, kvs, rfl, y, y0, z⟩ := X.dct_inv
      refine run_newDict S fun s Q E hs k => ?_
      subst hs
      have hl := z.length
      refine kt_call_dict (knd := knd p.prog p.w) y0 y (by rw [hl]; exact small_line g) fun h' hd hs => ?_
      refine k _ h' s.toks kvs (fun b o e => hs.extBut b o (Nat.ne_of_lt (Heap.lt_size e)) (Heap.get?_push_of_some _ e)) (none_ge (Nat.le_refl _)) (St.notSys Y S) hd z
    · cases e
  · split at e
    · rename_i l q
      rw [D.l?_eq q] at X
      split at e
      · rename_i g
        obtain ⟨a, vs, rfl, y, z⟩ := X.lst_inv
        refine run_newDict S fun s Q E hs k => ?_
        subst hs
        exact call_dict_pairs hh y z e (small_line g) fun h' tk kvs a b c => k _ h' tk kvs a (none_ge (Nat.le_refl _)) (St.notSys Y S) b c
      · cases e
    · cases e
end
end Mine

namespace Mine
open PySem PySem.W PyProof.Rows PySem.Calls PySem.SeqAt

noncomputable def BM.name : BM → Str
  | .get => "get" | .pop => "pop" | .append => "append" | .extend => "extend" | .index => "index" | .update => "update" | .join => "join" | .encode => "encode"
noncomputable def bmId (b : BM) (kd : Kd) : String := match b with
  | .get => "dict.get"
  | .pop => onK kd "list.pop" "dict.pop" "dict.pop"
  | .append => "list.append"
  | .extend => "list.extend"
  | .index => "list.index"
  | .update => "dict.update"
  | .join => "str.join"
  | .encode => "str.encode"
noncomputable def bmHas (b : BM) (kd : Kd) : Bool := match b with
  | .get => onK kd false true false
  | .pop => onK kd true true false
  | .append => onK kd true false false
  | .extend => onK kd true false false
  | .index => onK kd true false false
  | .update => onK kd false true false
  | .join => onK kd false false true
  | .encode => onK kd false false true
theorem bmEv_has {b : BM} {kd : Kd} {w : W} {ds : List D} {σ : List C} {r : W × List C} (e : bmEv b kd w ds σ = some r) : bmHas b kd = true := by
  cases b <;> cases kd <;> first | rfl | exact nos e
section
variable {p : Pm} {K : Frag} {mg mb : Str → Option Value} {A : Around} {B : Heap} {h h' : Heap} {M : List Addr} {φ : List (Option Addr)} {σ σ' : List C}
inductive KdR (h : Heap) (v : Value) : Kd → Prop
  | lst {a : Addr} {items : Array Value} : v = .ref a → h.PlainList a items → KdR h v .lst
  | dct {a : Addr} {o : Obj} : v = .ref a → h.get? a = some o → o.ExactDict → KdR h v .dct
  | str {x : Str} {t : Tok} : v = .str x t → KdR h v .str
theorem kd_at (S : St p B h M φ σ) {v : Value} {w : W} {kd : Kd} (r : WRel p h M φ v w) (e : kdOf σ w = some kd) : KdR h v kd := by
  unfold kdOf at e
  split at e
  · rename_i d q
    have R := view_reads S r q
    cases d with
    | lst l => cases e; obtain ⟨a, vs, rfl, y, z⟩ := R.lst_inv; exact .lst rfl y
    | dct l => cases e; obtain ⟨a, kvs, rfl, ⟨o, _, _, y, x, _⟩, _⟩ := R.dct_inv; exact .dct rfl y x
    | str x => cases e; cases R with | d R => obtain ⟨t, rfl⟩ := str_of' R; exact .str rfl
    | _ => cases e
  · cases e
theorem meth_builtin (S : St p B h M φ σ) {v : Value} {kd : Kd} {b : BM} {pl : Sem Bool} (r : KdR h v kd) (e : bmHas b kd = true) : Run p B A (getMethod v b.name pl) h M φ σ (fun x _ _ _ => x = (.builtin (bmId b kd), [v])) := by
  refine Run.keep S fun s Q E hs k => ?_
  subst hs
  cases r with
  | @lst a items hv y =>
    subst hv
    obtain ⟨n, y⟩ := y
    have nd : ∀ c, Value.ref a = .ref c → ∃ o, s.heap.get? c = some o ∧ o.dict = none := fun c q => by cases q; exact ⟨_, y, rfl⟩
    cases b <;> first | exact nof e | skip
    · exact getMethod_builtin (T := "list") ⟨_, y, rfl⟩ F.plainAttrs_list F.slot_list_pop F.type_list_pop nd (k _ s.toks rfl)
    · exact getMethod_builtin (T := "list") ⟨_, y, rfl⟩ F.plainAttrs_list F.slot_list_append F.type_list_append nd (k _ s.toks rfl)
    · exact getMethod_builtin (T := "list") ⟨_, y, rfl⟩ F.plainAttrs_list F.slot_list_extend F.type_list_extend nd (k _ s.toks rfl)
    · exact getMethod_builtin (T := "list") ⟨_, y, rfl⟩ F.plainAttrs_list F.slot_list_index F.type_list_index nd (k _ s.toks rfl)
  | @dct a o hv y x =>
    subst hv
    have nd : ∀ c, Value.ref a = .ref c → ∃ o, s.heap.get? c = some o ∧ o.dict = none := fun c q => by cases q; exact ⟨_, y, x.2.1⟩
    cases b <;> first | exact nof e | skip
    · exact getMethod_builtin (T := "dict") ⟨_, y, x.1⟩ F.plainAttrs_dict F.slot_dict_get F.type_dict_get nd (k _ s.toks rfl)
    · exact getMethod_builtin (T := "dict") ⟨_, y, x.1⟩ F.plainAttrs_dict F.slot_dict_pop F.type_dict_pop nd (k _ s.toks rfl)
    · exact getMethod_builtin (T := "dict") ⟨_, y, x.1⟩ F.plainAttrs_dict F.slot_dict_update F.type_dict_update nd (k _ s.toks rfl)
  | @str x t hv =>
    subst hv
    have nd : ∀ c, Value.str x t = .ref c → ∃ o, s.heap.get? c = some o ∧ o.dict = none := fun c q => by cases q
    cases b <;> first | exact nof e | skip
    · exact getMethod_builtin (T := "str") (typeIs_str s x t) F.plainAttrs_str F.slot_str_join F.type_str_join nd (k _ s.toks rfl)
    · exact getMethod_builtin (T := "str") (typeIs_str s x t) F.plainAttrs_str F.slot_str_encode F.type_str_encode nd (k _ s.toks rfl)

theorem cellL_at (S : St p B h M φ σ) {v : Value} {w : W} {k : Nat} {l : List D} (r : WRel p h M φ v w) (e : cellL σ w = some (k, l)) : ∃ a vs, v = .ref a ∧ φ[k]? = some (some a) ∧ h.PlainList a vs.toArray ∧ VRels p h M vs l := by
  unfold cellL at e
  split at e
  rotate_left
  · cases e
  rename_i j q0
  rw [W.c?_eq q0] at r
  split at e
  rotate_left
  · cases e
  rename_i c q
  split at e
  rotate_left
  · cases e
  rename_i l q1
  cases e
  rw [nth_eq, C.l?_eq q1] at q
  obtain ⟨a, x, y⟩ := S.cell_at q nofun
  cases y with | lst y z => cases r with | cell _ f => exact ⟨a, _, f a x, x, y, z⟩
theorem cellD_at (S : St p B h M φ σ) {v : Value} {w : W} {k : Nat} {l : List (Key × D)} (r : WRel p h M φ v w) (e : cellD σ w = some (k, l)) : ∃ a kvs, v = .ref a ∧ φ[k]? = some (some a) ∧ h.DictOf (knd p.prog p.w) a kvs ∧ (a == sysModules) = false ∧ ERels p h M kvs l := by
  unfold cellD at e
  split at e
  rotate_left
  · cases e
  rename_i j q0
  rw [W.c?_eq q0] at r
  split at e
  rotate_left
  · cases e
  rename_i c q
  split at e
  rotate_left
  · cases e
  rename_i l q1
  cases e
  rw [nth_eq, C.d?_eq q1] at q
  obtain ⟨a, x, y⟩ := S.cell_at q nofun
  cases y with | dct y m z => cases r with | cell _ f => exact ⟨a, _, f a x, x, y, m, z⟩
/-- a call under which one cell's object turns -/
theorem run_turn {t : Sem Value} {k : Nat} {a : Addr} {c : C} {d : D} (S : St p B h M φ σ) (e : φ[k]? = some (some a)) (hd : c ≠ .dead)
    (H : ∀ (s : Shared) (Q : Value → Shared → Prop) (E : Value → Shared → Prop), s.heap = h → (∀ v h' tk, Heap.SameBut a h h' → Df h' a → (Gr h M h' M → CRel p h' M a c ∧ VRel p h' M v d) → Q v { s with heap := h', toks := tk }) → wpAny (model p.prog p.w) A t Q E s) :
    Run p B A t h M φ (setNth σ k c) (V p d) := fun s Q E hs kk => H s Q E hs fun v h' tk hsb hdf hr => by
  have haM := S.sub a (List.mem_of_getElem? e)
  have gr : Gr h M h' M := ⟨fun b o n e => (hsb.2 b (fun q => n (q ▸ haM))).trans e, fun b o n _ => n⟩
  obtain ⟨hc, hv⟩ := hr gr
  obtain ⟨S', m'⟩ := S.set e hdf hsb hd hc
  rw [setNth_eq] at kk
  exact kk v h' tk M φ S' m' hv
theorem popLast_eq : ∀ {l l' : List D} {x : D}, popLast l = some (l', x) → l = l' ++ [x]
  | [], _, _, e => by cases e
  | [d], _, _, e => by cases e; rfl
  | d :: y :: r, l', x, e => by
    unfold popLast at e
    simp only at e
    split at e
    · rename_i l₁ x₁ q
      cases e
      rw [popLast_eq q]; rfl
    · cases e
theorem VRels.snoc_inv {vs : List Value} {l : List D} {x : D} (r : VRels p h M vs (l ++ [x])) : ∃ us v, vs = us ++ [v] ∧ VRels p h M us l ∧ VRel p h M v x := by
  induction l generalizing vs with
  | nil => cases r with | cons a b => cases b; exact ⟨[], _, rfl, .nil, a⟩
  | cons d l ih =>
    cases r with
    | cons a b =>
      obtain ⟨us, v, rfl, h1, h2⟩ := ih b
      exact ⟨_ :: us, v, rfl, .cons a h1, h2⟩
theorem plain_update {a : Addr} {items : Array Value} {f : Array Value → Array Value} (x : h.PlainList a items) : (h.update a (Obj.mapSeq f)).PlainList a (f items) := by
  obtain ⟨n, x⟩ := x; exact ⟨_, IsL.update x f⟩
end
end Mine

namespace Mine
open PySem PySem.W PyProof.Rows PySem.Calls PySem.SeqAt

section
variable {p : Pm} {K : Frag} {mg mb : Str → Option Value} {A : Around} {B : Heap} {h h' : Heap} {M : List Addr} {φ : List (Option Addr)} {σ σ' : List C}
theorem keyPart_key {k : Key} {v : Value} (h : k.is v = true) : (keyPart v).isSome = true := by
  obtain ⟨t, rfl⟩ := Key.shape h
  cases k <;> rfl
theorem run_V {t : Sem Value} {d : D} (x : Run p B A t h M φ σ' (V p d)) : Run p B A t h M φ σ' (U p (.d d)) := x.mono fun _ _ _ _ _ _ r => .d r
theorem bm_get {w r : W} {v kv dv : Value} {k dd : D} (S : St p B h M φ σ) (X : WRel p h M φ v w) (Yk : VRel p h M kv k) (Yd : VRel p h M dv dd) (e : bmGet σ w k dd = some (r, σ')) :
    Run p B A (call (.builtin "dict.get") [v, kv, dv]) h M φ σ' (U p r) ∧ (dv = .none → Run p B A (call (.builtin "dict.get") [v, kv]) h M φ σ' (U p r)) := by
  unfold bmGet at e
  split at e
  rotate_left
  · cases e
  rename_i d q
  split at e
  rotate_left
  · cases e
  rename_i l qd
  rw [D.d?_eq qd] at q
  split at e
  rotate_left
  · cases e
  rename_i ky hk
  cases e
  obtain ⟨a, kvs, rfl, y, y0, z⟩ := (view_reads S X q).dct_inv
  have hkey := key_rel Yk hk
  have lk := z.look ky
  have val : VRel p h M ((valueAt kvs ky).getD dv) (getDef ky l dd) := by
    unfold getDef
    cases q : lookK ky l with
    | some d => rw [q] at lk; obtain ⟨u, a, b⟩ := lk; rw [a]; exact b
    | none => rw [q] at lk; rw [lk]; exact Yd
  refine ⟨run_V (Run.keep S fun s Q E hs kk => ?_), fun hn => run_V (Run.keep S fun s Q E hs kk => ?_)⟩ <;> subst hs
  · exact call_meetsIn F.slot_dict_get y.typeIs F.entry_dict_get (F.args_dict_get_3 _ _ _) (meets_dict_get_default (knd p.prog p.w) a hkey y0 dv) ⟨valueAt kvs, y.mapOf, kk _ _ val⟩
  · subst hn
    exact call_meetsIn F.slot_dict_get y.typeIs F.entry_dict_get (F.args_dict_get_2 _ _) (meets_dict_get (knd p.prog p.w) a hkey y0) ⟨valueAt kvs, y.mapOf, kk _ _ val⟩
theorem bm_pop {w r : W} {v : Value} (S : St p B h M φ σ) (X : WRel p h M φ v w) (e : bmPop σ w = some (r, σ')) : Run p B A (call (.builtin "list.pop") [v]) h M φ σ' (U p r) := by
  unfold bmPop at e
  split at e
  rotate_left
  · cases e
  rename_i k l q
  split at e
  rotate_left
  · cases e
  rename_i g
  split at e
  rotate_left
  · cases e
  rename_i l' x q2
  cases e
  obtain ⟨a, vs, rfl, ha, y, z⟩ := cellL_at S X q
  rw [popLast_eq q2] at z g
  obtain ⟨us, u, rfl, z1, z2⟩ := z.snoc_inv
  have hl := z1.length
  have g := small_lt g
  have hsz : (us ++ [u]).toArray.size = us.length + 1 := by simp
  refine run_V (run_turn S ha (by simp) fun s Q E hs kk => ?_)
  subst hs
  obtain ⟨n, y'⟩ := id y
  refine call_meets F.slot_list_pop ⟨_, y', rfl⟩ F.entry_list_pop (F.args_list_pop_1 _) (MeetsSeq.list_pop_last a _ n u (by simp) (by rw [hsz]; exact Nat.le_trans (by simp at g; omega : _ ≤ 1000) (Nat.le_trans (by decide) sizeLine_ge))) ⟨y', ?_⟩
  have pl := plain_update (f := fun xs => xs.eraseIdxIfInBounds ((us ++ [u]).toArray.size - 1)) y
  have e2 : (us ++ [u]).toArray.eraseIdxIfInBounds ((us ++ [u]).toArray.size - 1) = us.toArray := by
    rw [hsz, Nat.add_sub_cancel, List.eraseIdxIfInBounds_toArray]
    rw [List.eraseIdx_append_of_length_le (Nat.le_refl _)]; simp
  rw [e2] at pl
  exact kk _ _ s.toks (Heap.SameBut.update ..) (let ⟨n, e⟩ := pl; ⟨_, e⟩) fun gr => ⟨.lst pl (z1.mono gr), z2.mono gr⟩
theorem bm_popD {w r : W} {v kv dv : Value} {k dd : D} (S : St p B h M φ σ) (X : WRel p h M φ v w) (Yk : VRel p h M kv k) (Yd : VRel p h M dv dd) (e : bmPopD σ w k dd = some (r, σ')) : Run p B A (call (.builtin "dict.pop") [v, kv, dv]) h M φ σ' (U p r) := by
  unfold bmPopD at e
  split at e
  rotate_left
  · cases e
  rename_i c l q
  split at e
  rotate_left
  · cases e
  rename_i ky hk
  split at e
  rotate_left
  · cases e
  rename_i g
  obtain ⟨a, kvs, rfl, ha, y, y0, z⟩ := cellD_at S X q
  have hkey := key_rel Yk hk
  have lk := z.look ky
  have hl := z.length
  have hn : (kvs.map (·.1)).Nodup := let ⟨_, _, _, _, _, _, _, _, hn⟩ := y; hn
  split at e
  · rename_i x q2
    cases e
    rw [q2] at lk
    obtain ⟨u, u1, u2⟩ := lk
    refine run_V (run_turn S ha (by simp) fun s Q E hs kk => ?_)
    subst hs
    refine call_meetsIn F.slot_dict_pop y.typeIs F.entry_dict_pop (F.args_dict_pop_3 _ _ _) (meets_dict_pop_there (knd p.prog p.w) a hkey [dv] (.inr ⟨dv, rfl⟩) (keyPart_key hkey)) ⟨kvs, u, y, by rw [hl]; exact small_line g, u1, fun h' hd hs => ?_⟩
    exact kk _ h' _ hs (let ⟨o, _, _, e, _⟩ := hd; ⟨o, e⟩) fun gr => ⟨.dct hd y0 ((z.drop hn ky).mono gr), u2.mono gr⟩
  · rename_i q2
    cases e
    rw [q2] at lk
    refine run_V (Run.keep S fun s Q E hs kk => ?_)
    subst hs
    exact call_meetsIn F.slot_dict_pop y.typeIs F.entry_dict_pop (F.args_dict_pop_3 _ _ _) (meets_dict_pop_default (knd p.prog p.w) a hkey y0 (keyPart_key hkey) dv) ⟨kvs, y, lk, kk _ _ Yd⟩
theorem bm_app {w r : W} {v xv : Value} {x : D} (S : St p B h M φ σ) (X : WRel p h M φ v w) (Y : VRel p h M xv x) (e : bmApp σ w x = some (r, σ')) : Run p B A (call (.builtin "list.append") [v, xv]) h M φ σ' (U p r) := by
  unfold bmApp at e
  split at e
  rotate_left
  · cases e
  rename_i k l q
  split at e
  rotate_left
  · cases e
  rename_i g
  cases e
  obtain ⟨a, vs, rfl, ha, y, z⟩ := cellL_at S X q
  have hl := z.length
  refine run_V (run_turn S ha (by simp) fun s Q E hs kk => ?_)
  subst hs
  refine wpAny_list_append_plain y (fun h' pl hs => kk _ h' s.toks hs (let ⟨n, e⟩ := pl; ⟨_, e⟩) fun gr => ⟨.lst (vs := vs ++ [xv]) (by simpa using pl) ((z.mono gr).append (.cons (Y.mono gr) .nil)), .none⟩) (by simp only [List.size_toArray, hl]; exact small_line g)
theorem bm_ext {w r : W} {v xv : Value} {m : List D} (S : St p B h M φ σ) (X : WRel p h M φ v w) (Y : VRel p h M xv (.lst m)) (e : bmExt σ w m = some (r, σ')) : Run p B A (call (.builtin "list.extend") [v, xv]) h M φ σ' (U p r) := by
  unfold bmExt at e
  split at e
  rotate_left
  · cases e
  rename_i k l q
  split at e
  rotate_left
  · cases e
  rename_i g
  cases e
  obtain ⟨a, vs, rfl, ha, y, z⟩ := cellL_at S X q
  obtain ⟨b, us, rfl, yb, mb, zb⟩ := lst_of' Y
  have hl := z.length
  have hlb := zb.length
  have g := small_line g
  refine run_V (run_turn S ha (by simp) fun s Q E hs kk => ?_)
  subst hs
  obtain ⟨n, y'⟩ := id y
  obtain ⟨n2, yb'⟩ := id yb
  have hz : vs.toArray.size + us.toArray.size ≤ sizeLine := by simp only [List.size_toArray]; omega
  refine call_meets F.slot_list_extend ⟨_, y', rfl⟩ F.entry_list_extend (F.args_list_extend_2 _ _) (AutoSeq1.list_extend_list_list_0 a _ n b _ n2 (extend_door hz) (by omega) (by omega)) ⟨y', yb', ?_⟩
  have pl := plain_update (f := fun xs => xs ++ us.toArray) y
  rw [arr_app] at pl
  exact kk _ _ s.toks (Heap.SameBut.update ..) (let ⟨n, e⟩ := pl; ⟨_, e⟩) fun gr => ⟨.lst pl ((z.mono gr).append (zb.mono gr)), .none⟩
theorem putAll_rel {kvs more : List (Key × Value)} {es ms : List (Key × D)} (r : ERels p h M kvs es) (m : ERels p h M more ms) (hn : (kvs.map (·.1)).Nodup) : ERels p h M (merged kvs more) (putAll ms es) := by
  induction ms generalizing kvs es more with
  | nil => cases m; exact r
  | cons e ms ih =>
    cases m with
    | @cons k v d more _ a b =>
      show ERels p h M (merged (stored kvs k v) more) (putAll ms (putK k d es))
      refine ih (r.put hn a) b ?_
      rw [stored]
      split
      · rw [keys_map_store]; exact hn
      · rename_i hany
        rw [List.map_append, List.nodup_append]
        refine ⟨hn, by simp, fun x hx y hy => ?_⟩
        simp only [List.map_cons, List.map_nil, List.mem_singleton] at hy
        subst hy
        rintro rfl
        obtain ⟨kv, h1, h2⟩ := List.mem_map.mp hx
        exact hany (List.any_eq_true.mpr ⟨kv, h1, by simpa using h2⟩)
theorem bm_upd {w r : W} {v xv : Value} {m : List (Key × D)} (S : St p B h M φ σ) (X : WRel p h M φ v w) (Y : VRel p h M xv (.dct m)) (e : bmUpd σ w m = some (r, σ')) : Run p B A (call (.builtin "dict.update") [v, xv]) h M φ σ' (U p r) := by
  unfold bmUpd at e
  split at e
  rotate_left
  · cases e
  rename_i c l q
  split at e
  rotate_left
  · cases e
  rename_i g
  cases e
  obtain ⟨a, kvs, rfl, ha, y, y0, z⟩ := cellD_at S X q
  cases Y with
  | @dct b more _ yb b0 mb zb =>
  have hl := z.length
  have hlb := zb.length
  have hn : (kvs.map (·.1)).Nodup := let ⟨_, _, _, _, _, _, _, _, hn⟩ := y; hn
  have hab : a ≠ b := fun q => mb (q ▸ S.sub a (List.mem_of_getElem? ha))
  refine run_V (run_turn S ha (by simp) fun s Q E hs kk => ?_)
  subst hs
  refine call_meetsIn F.slot_dict_update y.typeIs F.entry_dict_update (F.args_dict_update_2 _ _) (meets_dict_update (knd p.prog p.w) a b hab b0) ⟨kvs, more, y, yb, by rw [hl, hlb]; exact small_line g, fun h' hd _ hs => ?_⟩
  exact kk _ h' s.toks hs (let ⟨o, _, _, e, _⟩ := hd; ⟨o, e⟩) fun gr => ⟨.dct hd y0 (putAll_rel (z.mono gr) (zb.mono gr) hn), .none⟩
theorem idxEq_sound {x : D} : ∀ {l : List D} {i : Nat}, idxEq x l = some i → ∃ hi : i < l.length, eqD 20 l[i] x = some true ∧ ∀ j (hj : j < i), eqD 20 (l[j]'(Nat.lt_trans hj hi)) x = some false
  | [], i, e => by cases e
  | y :: l, i, e => by
    unfold idxEq at e
    split at e
    · rename_i q; cases e; exact ⟨by simp, q, fun j hj => absurd hj (Nat.not_lt_zero j)⟩
    · rename_i q
      refine om1_inv e fun i' q' er => ?_
      subst er
      obtain ⟨h1, h2, h3⟩ := idxEq_sound q'
      refine ⟨by simpa using h1, by simpa using h2, fun j hj => ?_⟩
      cases j with
      | zero => exact q
      | succ j => simpa using h3 j (by omega)
    · cases e
theorem allPair_mem : ∀ {l : List D}, allPair l = true → ∀ d ∈ l, isPair d = true
  | [], _, d, m => by simp at m
  | x :: l, e, d, m => by
    unfold allPair at e
    split at e
    · rename_i q
      rcases List.mem_cons.mp m with rfl | m
      · exact q
      · exact allPair_mem e d m
    · cases e
theorem VRels.one {vs : List Value} {d : D} (Y : VRels p h M vs [d]) : ∃ v, vs = [v] ∧ VRel p h M v d := by cases Y with | cons a r => cases r; exact ⟨_, rfl, a⟩
inductive PairD (d : D) : Prop
  | mk (a b : Int) : d = .tup [.int a, .int b] → PairD d
theorem isPair_eq {d : D} (h : isPair d = true) : PairD d := by
  unfold isPair at h
  split at h
  · rename_i l q1
    split at h
    · rename_i a b q2
      split at h
      · rename_i x y q3
        obtain ⟨z1, z2⟩ := D.ii_eq q3
        exact ⟨x, y, by rw [D.t?_eq q1, two_eq q2, z1, z2]⟩
      · cases h
    · cases h
  · cases h
inductive PairV (h : Heap) (v : Value) (a b : Int) : Prop
  | mk (t : Addr) (x y : Tok) : v = .ref t → PlainTup h t #[.int a x, .int b y] → PairV h v a b
theorem pair_val {v : Value} {a b : Int} (X : VRel p h M v (.tup [.int a, .int b])) : PairV h v a b := by
  obtain ⟨t, vs, q, ht, V⟩ := (Reads.d X).tup_inv
  cases V with | cons a1 V => obtain ⟨u, q2, a2⟩ := V.one; obtain ⟨x, q3⟩ := int_of' a1; obtain ⟨y, q4⟩ := int_of' a2; rw [q2, q3, q4] at ht; exact ⟨t, x, y, q, ht⟩
theorem pair_inj {v : Value} {d e : D} (X : VRel p h M v d) (Y : VRel p h M v e) (a : isPair d = true) (b : isPair e = true) : d = e := by
  obtain ⟨i, j, q⟩ := isPair_eq a
  obtain ⟨i', j', q'⟩ := isPair_eq b
  rw [q] at X ⊢
  rw [q'] at Y ⊢
  obtain ⟨t, x, y, z, ht⟩ := pair_val X
  obtain ⟨t', x', y', z', ht'⟩ := pair_val Y
  rw [← ref_inj (z.symm.trans z')] at ht'
  have := congrArg Array.toList (ht.inj ht')
  cases this
  rfl
open Classical in
theorem bm_idx {w r : W} {v xv : Value} {x : D} (hu : A.units + 21 < cLine) (S : St p B h M φ σ) (X : WRel p h M φ v w) (Y : VRel p h M xv x) (e : bmIdx w [x] σ = some (r, σ')) : Run p B A (call (.builtin "list.index") [v, xv]) h M φ σ' (U p r) := by
  change omw w none _ = some _ at e
  split at e
  rotate_left
  · cases e
  rename_i dl
  split at e
  rotate_left
  · cases e
  rename_i l ql
  split at e
  rotate_left
  · cases e
  rename_i g
  split at e
  rotate_left
  · cases e
  rename_i gp
  split at e
  rotate_left
  · cases e
  rename_i b qa
  split at e
  rotate_left
  · cases e
  rename_i i qi
  cases e
  rw [D.l?_eq ql] at X
  cases X with | d X =>
  obtain ⟨a, vs, rfl, y, _, z⟩ := lst_of' X
  obtain ⟨h1, _⟩ := anyEq_sound qa
  obtain ⟨hi, i1, i2⟩ := idxEq_sound qi
  have hl := z.length
  have g := small_lt g
  have hu1 : A.in1.units + 20 < cLine := by show A.units + 1 + 20 < _; omega
  obtain ⟨n, y⟩ := id y
  refine run_V (Run.keep S fun s Q E hs kk => ?_)
  subst hs
  let f : Value → Bool := fun u => decide (∃ d, d ∈ l ∧ VRel p s.heap M u d ∧ eqD 20 d x = some true)
  have hi' : i < vs.toArray.size := by simp only [List.size_toArray]; omega
  refine call_meets F.slot_list_index ⟨_, y, rfl⟩ F.entry_list_index (F.args_list_index_2 _ _) (list_indexAt a vs.toArray n none #[] xv f i hi' (by omega) ?_ ?_) ⟨y, fun u m => ?_, kk _ _ (.int _ _)⟩
  · refine decide_eq_true ⟨l[i], List.getElem_mem hi, ?_, i1⟩
    have := z.at' (j := i) (by omega) hi
    simpa using this
  · intro m hm hmi
    refine decide_eq_false ?_
    rintro ⟨d, d1, d2, d3⟩
    have hm' : m < l.length := by omega
    have := z.at' (j := m) (by omega) hm'
    have q := pair_inj d2 (by simpa using this) (allPair_mem gp d d1) (allPair_mem gp _ (List.getElem_mem hm'))
    subst q
    rw [i2 m hmi] at d3; cases d3
  · obtain ⟨d, m', zd⟩ := z.mem (by simpa using m)
    by_cases q : ∃ d, d ∈ l ∧ VRel p s.heap M u d ∧ eqD 20 d x = some true
    · obtain ⟨d, _, a, b⟩ := id q
      show EqAt _ _ _ _ (decide _)
      rw [decide_eq_true q]
      exact eqD_eqAt 20 hu1 a Y b
    · show EqAt _ _ _ _ (decide _)
      rw [decide_eq_false q]
      obtain ⟨b, hb⟩ := h1 d m'
      cases b with
      | true => exact absurd ⟨d, m', zd, hb⟩ q
      | false => exact eqD_eqAt 20 hu1 zd Y hb
theorem strs_of {vs : List Value} {l : List D} {ss : List Str} (r : VRels p h M vs l) (e : strsOf l = some ss) : ∃ ps : List (Str × Tok), vs = strValues ps ∧ ps.map (·.1) = ss := by
  induction l generalizing vs ss with
  | nil => cases r; cases e; exact ⟨[], rfl, rfl⟩
  | cons d l ih =>
    cases r with
    | cons a c =>
      unfold strsOf at e
      split at e
      · rename_i x q
        refine om1_inv e fun s' q' er => ?_
        obtain ⟨ps, rfl, rfl⟩ := ih c q'
        rw [D.s?_eq q] at a
        obtain ⟨t, rfl⟩ := str_of' a
        exact ⟨(x, t) :: ps, rfl, er⟩
      · cases e
theorem joinS_glued (x : Str) : ∀ ss : List Str, (⟨⟨joinS x.cps.toList ss⟩⟩ : Str) = Builtin.Str.glued x ss
  | [] => rfl
  | y :: r => by
    have key : ∀ (r : List Str) (acc : List Nat), acc ++ (match r with | [] => [] | _ :: _ => x.cps.toList ++ joinS x.cps.toList r) = (r.foldl (fun acc p => acc ++ x.cps ++ p.cps) acc.toArray).toList := fun r => by
      induction r with
      | nil => intro acc; simp
      | cons z r ih =>
        intro acc
        rw [List.foldl_cons]
        have := ih (acc ++ x.cps.toList ++ z.cps.toList)
        rw [show acc.toArray ++ x.cps ++ z.cps = (acc ++ x.cps.toList ++ z.cps.toList).toArray by simp, ← this]
        cases r with
        | nil => simp [joinS]
        | cons u r => simp [joinS]
    have := key r y.cps.toList
    show (⟨⟨joinS x.cps.toList (y :: r)⟩⟩ : Str) = ⟨(r.foldl (fun acc p => acc ++ x.cps ++ p.cps) y.cps)⟩
    congr 1
    apply Array.toList_inj.mp
    rw [show y.cps = y.cps.toList.toArray by simp, ← this]
    cases r with
    | nil => simp [joinS]
    | cons z r => simp [joinS]
theorem bm_join {w r : W} {v xv : Value} {ds : List D} (S : St p B h M φ σ) (X : WRel p h M φ v w) (Y : VRels p h M [xv] ds) (e : bmJoin w ds σ = some (r, σ')) : Run p B A (call (.builtin "str.join") [v, xv]) h M φ σ' (U p r) := by
  unfold bmJoin at e
  split at e
  rotate_left
  · cases e
  rename_i d0 q0
  rw [one_eq q0] at Y
  obtain ⟨xv', hx, Y⟩ := Y.one
  rw [← List.head_eq_of_cons_eq hx] at Y
  split at e
  rotate_left
  · cases e
  rename_i l ql
  rw [D.l?_eq ql] at Y
  split at e
  rotate_left
  · cases e
  rename_i dx
  split at e
  rotate_left
  · cases e
  rename_i x qx
  rw [D.s?_eq qx] at X
  split at e
  rotate_left
  · cases e
  rename_i d q
  cases e
  unfold joinEv at q
  split at q
  rotate_left
  · cases q
  rename_i ss qs
  split at q
  rotate_left
  · cases q
  rename_i g1
  split at q
  rotate_left
  · cases q
  rename_i g2
  cases q
  cases X with | d X =>
  obtain ⟨t, rfl⟩ := str_of' X
  obtain ⟨a, vs, rfl, y, _, z⟩ := lst_of' Y
  obtain ⟨ps, rfl, rfl⟩ := strs_of z qs
  have g1 := small_line g1
  have g2 := small_line g2
  refine run_V (Run.keep S fun s Q E hs kk => ?_)
  subst hs
  refine call_meets F.slot_str_join (typeIs_str s x t) F.entry_str_join (F.args_str_join_2 _ _) (meets_str_join_list x t a ps ?_) ⟨y.isList, ?_⟩
  · simp only [Builtin.Str.tooLong, decide_eq_false_iff_not, Nat.not_lt, gt_iff_lt]
    simpa using g1
  · have fin : (Made.str (Builtin.Str.glued x (ps.map (·.1)))).post (fun v s' => wants Q E (.ok (.ret v)) s') s := by
      refine ⟨?_, ?_⟩
      · rw [← joinS_glued]; simpa [Str.length] using g2
      · have := kk (.str (Builtin.Str.glued x (ps.map (·.1))) s.toks) (s.toks + 1) (by rw [joinS_glued]; exact .str _ _)
        exact this
    unfold joinMade
    split
    · rename_i q
      refine kk _ s.toks ?_
      show VRel p s.heap M _ _
      simp [joinS]
      exact .str _ _
    · exact fin
theorem bm_enc {w r : W} {v : Value} {vs : List Value} {ds : List D} (henc : ∀ (x y : Str) (d : D), encodeEv x y = some d → ∀ (t u : Tok), Run p B A (call (.builtin "str.encode") [.str x t, .str y u]) h M φ σ (V p d)) (S : St p B h M φ σ) (X : WRel p h M φ v w) (Y : VRels p h M vs ds) (e : bmEnc w ds σ = some (r, σ')) : Run p B A (call (.builtin "str.encode") (v :: vs)) h M φ σ' (U p r) := by
  unfold bmEnc at e
  split at e
  rotate_left
  · cases e
  rename_i d0 q0
  rw [one_eq q0] at Y
  obtain ⟨yv, rfl, Z⟩ := Y.one
  split at e
  rotate_left
  · cases e
  rename_i y qy
  rw [D.s?_eq qy] at Z
  split at e
  rotate_left
  · cases e
  rename_i dx
  split at e
  rotate_left
  · cases e
  rename_i x qx
  rw [D.s?_eq qx] at X
  split at e
  rotate_left
  · cases e
  rename_i d q
  cases e
  cases X with | d X =>
  obtain ⟨t, rfl⟩ := str_of' X
  obtain ⟨u, rfl⟩ := str_of' Z
  exact run_V (henc x y d q t u)
end
open PySem.Builtin._codecs in
theorem encodeRoad_ascii (id : String) (self : Value) (x : Str) (errors : Option Str) : encodeRoad id self x ⟨#[97, 115, 99, 105, 105]⟩ errors = (do mkBytes (← encodeNarrow id asciiCodec errors self x)) := by
  first | rfl | (unfold encodeRoad; rfl) | (unfold encodeRoad; simp only []; rfl) | decide
open PySem.Builtin._codecs in
theorem encode_tree2 (x : Str) (t u : Tok) : Builtin.«str.encode» ⟨[.str x t, .str ⟨#[97, 115, 99, 105, 105]⟩ u], []⟩ = (do ret (← encodeRoad "str.encode" (.str x t) x ⟨#[97, 115, 99, 105, 105]⟩ none)) := by
  first | kernel_rfl | (unfold Builtin.«str.encode»; kernel_rfl)
open PySem.Builtin._codecs in
theorem narrow_b (self : Value) : encodeNarrow "str.encode" asciiCodec none self ⟨#[98]⟩ = pure #[98] := by
  first | kernel_rfl | rfl
open PySem.Builtin._codecs in
theorem narrow_c (self : Value) : encodeNarrow "str.encode" asciiCodec none self ⟨#[99]⟩ = pure #[99] := by
  first | kernel_rfl | rfl
theorem enc_b {prog : Program} {w : World} {A : Around} {E : Value → Shared → Prop} {s : Shared} {t u : Tok} {Q : Value → Shared → Prop} (h : Q (.bytes #[98] s.toks) { s with toks := s.toks + 1 }) : wpAny (model prog w) A (call (.builtin "str.encode") [.str ⟨#[98]⟩ t, .str ⟨#[97, 115, 99, 105, 105]⟩ u]) Q E s := by
  refine wpAny_call_entry F.slot_str_encode (typeIs_str s _ t) F.entry_str_encode ?_ (F.args_str_encode_2 _ _)
  rw [encode_tree2, encodeRoad_ascii, narrow_b]
  exact fun Γ q hΓ => ⟨_, rfl, h⟩
theorem enc_c {prog : Program} {w : World} {A : Around} {E : Value → Shared → Prop} {s : Shared} {t u : Tok} {Q : Value → Shared → Prop} (h : Q (.bytes #[99] s.toks) { s with toks := s.toks + 1 }) : wpAny (model prog w) A (call (.builtin "str.encode") [.str ⟨#[99]⟩ t, .str ⟨#[97, 115, 99, 105, 105]⟩ u]) Q E s := by
  refine wpAny_call_entry F.slot_str_encode (typeIs_str s _ t) F.entry_str_encode ?_ (F.args_str_encode_2 _ _)
  rw [encode_tree2, encodeRoad_ascii, narrow_c]
  exact fun Γ q hΓ => ⟨_, rfl, h⟩

section
variable {p : Pm} {A : Around} {B : Heap} {h h' : Heap} {M : List Addr} {φ : List (Option Addr)} {σ σ' : List C}
theorem run_enc (S : St p B h M φ σ) (x y : Str) (d : D) (e : encodeEv x y = some d) (t u : Tok) : Run p B A (call (.builtin "str.encode") [.str x t, .str y u]) h M φ σ (V p d) := by
  unfold encodeEv at e
  split at e
  rotate_left
  · cases e
  rename_i q
  have q := strEq_iff.mp q
  subst q
  split at e
  · rename_i q1
    have q1 := strEq_iff.mp q1
    subst q1
    cases e
    exact Run.keep S fun s Q E hs k => enc_b (k _ _ (.byt [98] _))
  · split at e
    · rename_i q1
      have q1 := strEq_iff.mp q1
      subst q1
      cases e
      exact Run.keep S fun s Q E hs k => enc_c (k _ _ (.byt [99] _))
    · cases e
theorem run_bm {b : BM} {kd : Kd} {w r : W} {v : Value} {vs : List Value} {ds : List D} (hu : A.units + 21 < cLine) (S : St p B h M φ σ) (X : WRel p h M φ v w) (Y : VRels p h M vs ds) (e : bmEv b kd w ds σ = some (r, σ')) :
    Run p B A (call (.builtin (bmId b kd)) (v :: vs)) h M φ σ' (U p r) := by
  have one_of : ∀ {x : D}, one ds = some x → ∃ u, vs = [u] ∧ VRel p h M u x := fun q => by rw [one_eq q] at Y; exact Y.one
  have two_of : ∀ {x y : D}, two ds = some (x, y) → ∃ u z, vs = [u, z] ∧ VRel p h M u x ∧ VRel p h M z y := fun q => by
    rw [two_eq q] at Y
    cases Y with | cons Y Y' => obtain ⟨u, q, Z⟩ := Y'.one; rw [q]; exact ⟨_, _, rfl, Y, Z⟩
  cases b with
  | get => cases kd with
    | dct =>
      change bmGets w ds σ = _ at e
      unfold bmGets at e
      split at e
      · rename_i q; obtain ⟨u, rfl, Z⟩ := one_of q; exact (bm_get S X Z .none e).2 rfl
      · split at e
        · rename_i q; obtain ⟨u, z, rfl, Y1, Z⟩ := two_of q; exact (bm_get S X Y1 Z e).1
        · cases e
    | _ => exact nos e
  | pop => cases kd with
    | lst =>
      change bt (isNil ds) none (bmPop σ w) = _ at e
      split at e
      · rename_i q; rw [isNil_eq q] at Y; cases Y; exact bm_pop S X e
      · cases e
    | dct =>
      change om2 (two ds) none (fun k v => bmPopD σ w k v) = _ at e
      split at e
      · rename_i q; obtain ⟨u, z, rfl, Y1, Z⟩ := two_of q; exact bm_popD S X Y1 Z e
      · cases e
    | str => exact nos e
  | append => cases kd with
    | lst =>
      change om1 (one ds) none (fun x => bmApp σ w x) = _ at e
      split at e
      · rename_i q; obtain ⟨u, rfl, Z⟩ := one_of q; exact bm_app S X Z e
      · cases e
    | _ => exact nos e
  | extend => cases kd with
    | lst =>
      change om1 (one ds) none (fun x => om1 x.l? none fun m => bmExt σ w m) = _ at e
      split at e
      · rename_i q
        split at e
        · rename_i q2; obtain ⟨u, rfl, Z⟩ := one_of q; rw [D.l?_eq q2] at Z; exact bm_ext S X Z e
        · cases e
      · cases e
    | _ => exact nos e
  | update => cases kd with
    | dct =>
      change om1 (one ds) none (fun x => om1 x.d? none fun m => bmUpd σ w m) = _ at e
      split at e
      · rename_i q
        split at e
        · rename_i q2; obtain ⟨u, rfl, Z⟩ := one_of q; rw [D.d?_eq q2] at Z; exact bm_upd S X Z e
        · cases e
      · cases e
    | _ => exact nos e
  | index => cases kd with
    | lst =>
      change bmIdx w ds σ = _ at e
      refine osp1 (o := one ds) e (fun x q e => ?_) fun _ e => nos e
      obtain ⟨u, rfl, Z⟩ := one_of q
      exact bm_idx hu S X Z e
    | _ => exact nos e
  | join => cases kd with
    | str =>
      change bmJoin w ds σ = _ at e
      have e0 := e
      refine osp1 (o := one ds) e0 (fun x q _ => ?_) fun _ e => nos e
      obtain ⟨u, rfl, Z⟩ := one_of q
      exact bm_join S X Y e
    | _ => exact nos e
  | encode => cases kd with
    | str => exact bm_enc (run_enc S) S X Y e
    | _ => exact nos e
end
end Mine

namespace Mine
open PySem PySem.W PyProof.Rows PySem.Calls PySem.SeqAt

noncomputable def owned : List String := ["enumerate", "zip", "dict_itemiterator", "dict_reverseitemiterator", "odict_iterator", "itertools.zip_longest", "itertools.pairwise"]
/-- an iterator that gives no tuple of its own -/
noncomputable def Uno (h : Heap) (I : Addr) : Prop := ∃ o T, h.get? I = some o ∧ o.cls = .type T ∧ owned.contains T = false
theorem Uno.df {h : Heap} {I : Addr} (x : Uno h I) : Df h I := let ⟨o, _, e, _⟩ := x; ⟨o, e⟩
theorem Uno.go {h : Heap} {I : Addr} (x : Uno h I) {Mo : Model} {A : Around} {E : Value → Shared → Prop} {s : Shared} {Q : Unit → Shared → Prop} {target : Expr} {v : Value} (hs : s.heap = h) (k : Q () s) : wpAny Mo A (letOwnedTupleGo target (.ref I) v) Q E s := by
  subst hs
  obtain ⟨o, T, e, c, n⟩ := x
  have key : ∀ v : Value, wpAny Mo A (do
      let (.ref r, .ref a) := (Value.ref I, v) | return
      let o ← load r
      match o.cls, o.data with
      | .type n, .fields vs =>
        if owned.contains n && vs[0]? == some (rawInt a) then
          rule "for.unpacks-the-owned-tuple"
          updateField r 0 .none
      | _, _ => pure () : Sem Unit) Q E s := fun v => by
    cases v with
    | ref a =>
      refine wpAny_bind (wpAny_load e ?_)
      rw [c]
      split
      · rename_i q _
        cases q
        rw [n]
        exact wpAny_pure k
      · exact wpAny_pure k
    | _ => exact wpAny_pure k
  induction target using PySem.Expr.casesOn <;> first | exact key v | exact wpAny_pure k
/-- an iterator at I with i of the items behind it; it turns, what it reads does not -/
structure It (p : Pm) (A : Around) (h : Heap) (M : List Addr) (φ : List (Option Addr)) (I : Addr) (items : List D) (i : Nat) : Prop where
  w : ∃ (fp : List Addr) (n : Nat) (P : Nat → Value → Prop) (W : Nat → Heap → Prop), Walks p.prog p.w A I fp [I] n P W ∧ W i h ∧ items.length = n ∧ (∀ b ∈ fp, b = I ∨ (b ∉ M ∧ Df h b)) ∧
    (∀ (j : Nat) (v : Value) (d : D), P j v → items[j]? = some d → VRel p h M v d) ∧ (∀ (j : Nat) (h : Heap), W j h → Uno h I)
  m : I ∈ M
  nφ : some I ∉ φ
section
variable {p : Pm} {K : Frag} {mg mb : Str → Option Value} {A : Around} {B : Heap} {h h' : Heap} {M M' X : List Addr} {φ φ' : List (Option Addr)} {σ σ' : List C} {I : Addr} {items : List D} {i : Nat}
theorem It.step (x : It p A h M φ I items i) (S : St p B h M φ σ) (hX : ∀ a ∈ X, a ∈ M) (m : Mv X h M φ h' M' φ') (hI : I ∉ X) : It p A h' M' φ' I items i where
  w := by
    obtain ⟨fp, n, P, W, w1, w2, w3, w4, w5, w6⟩ := x.w
    have gr := m.gr hX S.sub
    refine ⟨fp, n, P, W, w1, w1.frame _ _ _ w2 fun b hb o e => ?_, w3, fun b hb => ?_, fun j v d a b => (w5 j v d a b).mono gr, w6⟩
    · rcases w4 b hb with rfl | ⟨q, _⟩
      · exact m.keep _ o hI x.nφ e
      · exact m.keep _ o (fun z => q (hX _ z)) (fun z => q (S.sub _ z)) e
    · rcases w4 b hb with rfl | ⟨q, d⟩
      · exact .inl rfl
      · exact .inr ⟨fun z => d.no (m.fresh b z q), m.defd b d⟩
  m := (m.sub I x.m).resolve_right x.nφ
  nφ k := (S.low I x.m).1.no (m.news I k x.nφ)
/-- a new object that may turn -/
theorem St.newM (S : St p B h M φ σ) (hk : ∀ (b : Addr) (o : Obj), h.get? b = some o → h'.get? b = some o) (hI : h.get? I = none) (hd : Df h' I) : St p B h' (I :: M) φ σ ∧ Mv [] h M φ h' (I :: M) φ := by
  have S' := S.grow hk
  refine ⟨⟨S'.base, fun a m => ?_, fun a m => .tail _ (S.sub a m), S.nd, S.len, S.dead, fun k a c e1 e2 => (S.cells k a c e1 e2).mono (gr_new hk hI) fun o e => hk a o e⟩,
    ⟨fun b o _ _ e => hk b o e, fun b m => .inl (.tail _ m), fun b m n => ?_, fun _ _ _ e => e, Nat.le_refl _, fun b a n => absurd a n, fun b ⟨o, e⟩ => ⟨o, hk b o e⟩⟩⟩
  · rcases List.mem_cons.mp m with rfl | m
    · exact ⟨hd, base_none S hI⟩
    · exact S'.low a m
  · rcases List.mem_cons.mp m with rfl | m
    · exact hI
    · exact absurd m n
/-- what may be gone over -/
noncomputable def Itb (p : Pm) (B : Heap) (A : Around) (FA : List Addr) (h₀ : Heap) (items : List D) (σ : List C) : Value → Heap → List Addr → List (Option Addr) → Prop := fun v h M φ =>
  Run p B A (pyIter v) h M φ σ (fun it h' M' φ' => ∃ I, it = .ref I ∧ I ∉ FA ∧ h₀.get? I = none ∧ It p A h' M' φ' I items 0)
theorem itb_push {FA : List Addr} {h₀ : Heap} (hd : ∀ b, Df h₀ b → Df h b) (S : St p B h M φ σ) (hFA : ∀ a ∈ FA, a ∈ M) {v : Value} {o : Obj} {fp : List Addr} {n : Nat} {P : Nat → Value → Prop} {W : Nat → Heap → Prop}
    (H : ∀ (s : Shared) (Q : Value → Shared → Prop) (E : Value → Shared → Prop), s.heap = h → Q (.ref h.objs.size) { s with heap := h.push o } → wpAny (model p.prog p.w) A (pyIter v) Q E s)
    (w : Walks p.prog p.w A h.objs.size fp [h.objs.size] n P W) (hf : o.isFreed = false) (w0 : W 0 (h.push o)) (hn : items.length = n) (hfp : ∀ b ∈ fp, b = h.objs.size ∨ (b ∉ M ∧ Df h b))
    (hP : ∀ (j : Nat) (v : Value) (d : D), P j v → items[j]? = some d → VRel p h M v d) (hW : ∀ (j : Nat) (h' : Heap), W j h' → Uno h' h.objs.size) : Itb p B A FA h₀ items σ v h M φ := fun s Q E hs k => by
  subst hs
  have hk : ∀ (b : Addr) (o' : Obj), s.heap.get? b = some o' → (s.heap.push o).get? b = some o' := fun _ _ e => Heap.get?_push_of_some _ e
  have h0 : s.heap.get? s.heap.objs.size = none := none_ge (Nat.le_refl _)
  obtain ⟨S', m'⟩ := S.newM hk h0 ⟨o, Heap.get?_push_size _ hf⟩
  refine H s Q E rfl (k _ _ s.toks _ φ S' m' ⟨_, rfl, fun z => S.notM (hFA _ z), df_none (hd _) h0, ⟨fp, n, P, W, w, w0, hn, fun b hb => ?_, fun j v d a b => (hP j v d a b).mono (gr_new hk h0), hW⟩, .head _, fun z => S.notM (S.sub _ z)⟩)
  rcases hfp b hb with q | ⟨q, d⟩
  · exact .inl q
  · refine .inr ⟨fun z => ?_, let ⟨o', e⟩ := d; ⟨o', hk b o' e⟩⟩
    rcases List.mem_cons.mp z with rfl | z
    · exact d.no h0
    · exact q z
theorem ne_new {a : Addr} (d : Df h a) : a ≠ h.objs.size := fun q => d.no (none_ge (by rw [q]; exact Nat.le_refl _))
theorem two_of {b x y : Addr} {Q : Prop} (hb : b ∈ [x, y]) (k : b = y → Q) : b = x ∨ Q := by
  rcases List.mem_cons.mp hb with q | q
  · exact .inl q
  · exact .inr (k (List.mem_singleton.mp q))
theorem arr_get {vs : List Value} {ds : List D} (z : VRels p h M vs ds) {j : Nat} {v : Value} {d : D} (a : vs.toArray[j]? = some v) (b : ds[j]? = some d) : VRel p h M v d := by
  obtain ⟨u, u1, u2⟩ := z.get b
  rw [List.getElem?_toArray, u1] at a
  cases a; exact u2
theorem itb_lst {FA : List Addr} {h₀ : Heap} (hd : ∀ b, Df h₀ b → Df h b) (hh : A.handled = none) (S : St p B h M φ σ) (hFA : ∀ a ∈ FA, a ∈ M) {v : Value} {l : List D} (X : VRel p h M v (.lst l)) : Itb p B A FA h₀ l σ v h M φ := by
  obtain ⟨a, vs, rfl, y, m, z⟩ := lst_of' X
  have hdf : Df h a := let ⟨n, y⟩ := y; ⟨_, y⟩
  exact itb_push hd S hFA (fun s Q E hs q => by subst hs; exact wpAny_pyIter_list y.isList q) (o := { cls := .type "list_iterator", data := .fields #[.ref a, .int 0 0] }) (Walks.list hh _ a (ne_new hdf) vs.toArray) rfl ⟨⟨_, Heap.get?_push_size _ rfl, rfl, rfl⟩, y.isList.push _⟩ (by rw [List.size_toArray, z.length]) (fun b hb => two_of hb fun q => q ▸ ⟨m, hdf⟩) (fun j v d a b => arr_get z a b) fun j h' w => let ⟨o, e, c, _⟩ := w.1; ⟨o, _, e, c, by decide⟩
theorem itb_tup {FA : List Addr} {h₀ : Heap} (hd : ∀ b, Df h₀ b → Df h b) (hh : A.handled = none) (S : St p B h M φ σ) (hFA : ∀ a ∈ FA, a ∈ M) {v : Value} {l : List D} (X : VRel p h M v (.tup l)) : Itb p B A FA h₀ l σ v h M φ := by
  obtain ⟨a, vs, rfl, y, m, z⟩ := tup_of' X
  have hdf : Df h a := let ⟨n, y⟩ := y; ⟨_, y⟩
  exact itb_push hd S hFA (fun s Q E hs q => by subst hs; exact wpAny_pyIter_tuple y.isTuple q) (o := { cls := .type "tuple_iterator", data := .fields #[.ref a, .int 0 0] }) (Walks.tuple hh _ a (ne_new hdf) vs.toArray) rfl ⟨⟨_, Heap.get?_push_size _ rfl, rfl, rfl⟩, (let ⟨o, e, r⟩ := y.isTuple; ⟨o, Heap.get?_push_of_some _ e, r⟩)⟩ (by rw [List.size_toArray, z.length]) (fun b hb => two_of hb fun q => q ▸ ⟨m, hdf⟩) (fun j v d a b => arr_get z a b) fun j h' w => let ⟨o, e, c, _⟩ := w.1; ⟨o, _, e, c, by decide⟩
theorem itb_dct {FA : List Addr} {h₀ : Heap} (hd : ∀ b, Df h₀ b → Df h b) (hh : A.handled = none) (S : St p B h M φ σ) (hFA : ∀ a ∈ FA, a ∈ M) {v : Value} {l : List (Key × D)} (X : VRel p h M v (.dct l)) : Itb p B A FA h₀ (l.map fun e => e.1.d) σ v h M φ := by
  obtain ⟨a, kvs, hv, y, y0, z⟩ := (Reads.d X).dct_inv
  subst hv
  have m : a ∉ M := by cases X with | dct _ _ m _ => exact m
  obtain ⟨ep, hat⟩ := y.dictAt
  have hdf : Df h a := let ⟨o, _, _, e, _⟩ := y; ⟨o, e⟩
  refine itb_push hd S hFA (fun s Q E hs q => by subst hs; exact wpAny_pyIter_dict y0 hat q) (o := { cls := .type "dict_keyiterator", data := .fields #[.ref a, .int 0 0, .int kvs.length 0, .int ep 0] }) (Walks.dictKeys (knd := knd p.prog p.w) hh _ a (ne_new hdf) kvs ep) rfl ⟨⟨_, Heap.get?_push_size _ rfl, rfl, rfl⟩, hat.push _⟩ (by rw [List.length_map, z.length]) (fun b hb => two_of hb fun q => q ▸ ⟨m, hdf⟩) (fun j v d a b => ?_) fun j h' w => let ⟨o, e, c, _⟩ := w.1; ⟨o, _, e, c, by decide⟩
  obtain ⟨k, x, a1, a2⟩ := a
  have : (l.map (·.1))[j]? = some k := by rw [← z.keys, List.getElem?_map, a1]; rfl
  rw [List.getElem?_map] at this b
  cases q : l[j]? with
  | none => rw [q] at this; cases this
  | some e => rw [q] at this b; cases this; cases b; exact rel_key a2
theorem itb_str {FA : List Addr} {h₀ : Heap} (hd : ∀ b, Df h₀ b → Df h b) (hh : A.handled = none) (S : St p B h M φ σ) (hFA : ∀ a ∈ FA, a ∈ M) {v : Value} {x : Str} (ga : x.cps.toList.all (Nat.blt · 128) = true) (X : VRel p h M v (.str x)) : Itb p B A FA h₀ (x.cps.toList.map fun c => .str ⟨#[c]⟩) σ v h M φ := by
  obtain ⟨t, rfl⟩ := str_of' X
  have ha : x.cps.all (· < 128) = true := by
    rw [← Array.all_toList]
    rw [List.all_eq_true] at ga ⊢
    intro c m
    exact decide_eq_true (Z.blt_iff.mp (ga c m))
  refine itb_push hd S hFA (fun s Q E hs q => by subst hs; exact wpAny_pyIter_ascii ha q) (o := { cls := .type "str_ascii_iterator", data := .fields #[.str x t, .int 0 0] }) (Walks.strAscii hh _ x t) rfl ⟨_, Heap.get?_push_size _ rfl, rfl, rfl⟩ (by simp) (fun b hb => .inl (List.mem_singleton.mp hb)) (fun j v d a b' => ?_) fun j h' w => let ⟨o, e, c, _⟩ := w; ⟨o, _, e, c, by decide⟩
  obtain ⟨c, u, a1, rfl⟩ := a
  rw [List.getElem?_map, show x.cps.toList[j]? = x.cps[j]? by simp, a1] at b'
  cases b'
  exact .str _ _
theorem itb_byt {FA : List Addr} {h₀ : Heap} (hd : ∀ b, Df h₀ b → Df h b) (hh : A.handled = none) (S : St p B h M φ σ) (hFA : ∀ a ∈ FA, a ∈ M) {v : Value} {b : List UInt8} (X : VRel p h M v (.byt b)) : Itb p B A FA h₀ (b.map fun c => .int (Int.ofNat c.toNat)) σ v h M φ := by
  obtain ⟨t, rfl⟩ := byt_of' X
  refine itb_push hd S hFA (fun s Q E hs q => by subst hs; exact KBw.pyIter_bytes q) (o := { cls := .type "bytes_iterator", data := .fields #[.bytes b.toArray t, .int 0 0] }) (KBw.walks hh _ b.toArray t) rfl ⟨_, Heap.get?_push_size _ rfl, rfl, rfl⟩ (by simp) (fun b hb => .inl (List.mem_singleton.mp hb)) (fun j v d a b' => ?_) fun j h' w => let ⟨o, e, c, _⟩ := w; ⟨o, _, e, c, by decide⟩
  obtain ⟨c, u, a1, rfl⟩ := a
  rw [List.getElem?_map, show b[j]? = b.toArray[j]? by simp, a1] at b'
  cases b'
  exact .int _ _
theorem itb_items {FA : List Addr} {h₀ : Heap} (hd : ∀ b, Df h₀ b → Df h b) (hh : A.handled = none) (S : St p B h M φ σ) (hFA : ∀ a ∈ FA, a ∈ M) {v : Value} {d : D} {items : List D} (X : VRel p h M v d) (e : itemsOf (.d d) = some items) : Itb p B A FA h₀ items σ v h M φ := by
  cases d with
  | lst l => cases e; exact itb_lst hd hh S hFA X
  | tup l => cases e; exact itb_tup hd hh S hFA X
  | dct l => cases e; exact itb_dct hd hh S hFA X
  | byt l => cases e; exact itb_byt hd hh S hFA X
  | str x =>
    change bt (x.cps.toList.all (Nat.blt · 128)) none (some (x.cps.toList.map fun c => .str ⟨#[c]⟩)) = some items at e
    split at e
    · rename_i ga; cases e; exact itb_str hd hh S hFA ga X
    · cases e
  | _ => cases e
theorem rangeL_len (a st : Int) : ∀ n, (rangeL a st n).length = n
  | 0 => rfl
  | n + 1 => by simp [rangeL, rangeL_len _ st n]
theorem rangeL_get (st : Int) : ∀ (n : Nat) (a : Int) (j : Nat) (d : D), (rangeL a st n)[j]? = some d → d = .int (a + (j : Int) * st)
  | 0, a, j, d, e => by simp [rangeL] at e
  | n + 1, a, 0, d, e => by simp [rangeL] at e; subst e; simp
  | n + 1, a, j + 1, d, e => by
    simp only [rangeL, List.getElem?_cons_succ] at e
    rw [rangeL_get st n _ j d e]
    congr 1
    rw [Int.add_assoc, show st + (j : Int) * st = ((j + 1 : Nat) : Int) * st by rw [Int.natCast_add, Int.add_mul, Int.add_comm]; simp]
theorem fits {i : Int} (h0 : 0 ≤ i) (h1 : i < 10000) : Builtin.Range.rangeFitsLong i = true := by
  unfold Builtin.Range.rangeFitsLong
  rw [Bool.and_eq_true, decide_eq_true_iff, decide_eq_true_iff]
  omega
theorem itb_range {FA : List Addr} {h₀ : Heap} (hd : ∀ b, Df h₀ b → Df h b) {k : Nat} {c : Int} {n : Nat} {r : Addr} {t u w : Tok} (hh : A.handled = none) (S : St p B h M φ σ) (hFA : ∀ a ∈ FA, a ∈ M) (hr : IsRange h r 0 (Int.ofNat k) c t u w) (hs : Builtin.Range.small 0 (Int.ofNat k) c = true)
    (hn : Builtin.Range.rangeSize 0 (Int.ofNat k) c = n) : Itb p B A FA h₀ (rangeL 0 c n) σ (.ref r) h M φ := by
  refine itb_push hd S hFA (fun s Q E hs' q => by subst hs'; exact wpAny_pyIter_range hr hs q) (o := { cls := .type "range_iterator", data := .fields #[rawInt 0, rawInt (Builtin.Range.rangeSize 0 (Int.ofNat k) c), rawInt c] })
    (Walks.range hh _ 0 c n) rfl ?_ (rangeL_len _ _ _) (fun b hb => by simp at hb; exact .inl hb) (fun j v d a b => ?_) fun j h' w => ⟨_, _, w, rfl, by decide⟩
  · rw [hn]
    show Heap.get? _ _ = _
    rw [Heap.get?_push_size _ rfl]
    simp
  · obtain ⟨t, rfl⟩ := a
    rw [rangeL_get c n 0 j d b]
    exact .int _ _
/-- what range goes over -/
inductive RangeS : List W → List D → Prop
  | one (k : Nat) : k < 1000 → RangeS [.d (.int (.ofNat k))] (rangeL 0 1 k)
  | two (k : Nat) : k < 1000 → RangeS [.d (.int 0), .d (.int (.ofNat k)), .d (.int 2)] (rangeL 0 2 ((k + 1) / 2))
theorem rangeItems_inv {ws : List W} {items : List D} (e : rangeItems ws = some items) : RangeS ws items := by
  unfold rangeItems at e
  cases ws with
  | nil => exact nos e
  | cons a r =>
    dsimp only at e
    split at e
    · rename_i x
      cases r with
      | nil =>
        dsimp only at e
        split at e
        · rename_i k q
          rw [D.nat?_eq q]
          split at e
          · rename_i g; cases e; exact .one _ (small_lt g)
          · cases e
        · cases e
      | cons b r =>
        dsimp only at e
        split at e
        · rename_i q0
          rw [D.isI_eq q0]
          split at e
          · rename_i y
            split at e
            · rename_i k q1
              rw [D.nat?_eq q1]
              split at e
              · rename_i c q2
                rw [one_eq q2]
                split at e
                · rename_i z
                  split at e
                  · rename_i q3
                    rw [D.isI_eq q3]
                    split at e
                    · rename_i g; cases e; exact .two _ (small_lt g)
                    · cases e
                  · cases e
                · cases e
              · cases e
            · cases e
          · cases e
        · cases e
    · cases e
theorem range_size2 (k : Nat) : Builtin.Range.rangeSize 0 (Int.ofNat k) 2 = ((k + 1) / 2 : Nat) := by
  show (if (2 : Int) > 0 then (if (0 : Int) < (k : Int) then ((k : Int) - 0 - 1) / 2 + 1 else 0) else _) = _
  rw [if_pos (by decide)]
  split <;> omega
theorem range_size1 (k : Nat) : Builtin.Range.rangeSize 0 (Int.ofNat k) 1 = (k : Nat) := by
  rw [rangeSize_one]
  show (if (0 : Int) < (k : Int) then (k : Int) - 0 else 0) = _
  split <;> omega
theorem range_small2 {k : Nat} (g : k < 1000) : Builtin.Range.small 0 (Int.ofNat k) 2 = true := by
  unfold Builtin.Range.small
  rw [range_size2]
  have hk : (0 : Int) ≤ Int.ofNat k := Int.natCast_nonneg k
  have hk2 : Int.ofNat k < 1000 := by show (k : Int) < _; omega
  rw [fits (by decide) (by decide), fits hk (by omega), fits (by decide) (by decide), fits (by omega) (by omega)]
  rw [if_pos (by decide), fits (by omega) (by omega)]
  simp
theorem run_range1 {FA : List Addr} {h₀ : Heap} (hd : ∀ b, Df h₀ b → Df h b) {t : Tok} {k : Nat} (hh : A.handled = none) (S : St p B h M φ σ) (hFA : ∀ a ∈ FA, a ∈ M) (g : k < 1000) :
    Run p B A (call (.type "range") [.int (Int.ofNat k) t]) h M φ σ (Itb p B A FA h₀ (rangeL 0 1 k) σ) := by
  intro s Q E hs kk
  subst hs
  have S' := S.push { cls := .type "range", data := .fields #[.int 0 s.toks, .int (Int.ofNat k) t, .int 1 (s.toks + 1)] }
  exact call_range_1 (kk _ _ _ M φ S' (Mv.push _) (itb_range (fun b z => let ⟨o, e⟩ := hd b z; ⟨o, Heap.get?_push_of_some _ e⟩) hh S' hFA (Heap.get?_push_size _ rfl) (small_one (by decide) (by decide) (Int.le_trans (by decide) (Int.natCast_nonneg k)) (by show (k : Int) < _; omega)) (range_size1 k)))
theorem run_range2 {FA : List Addr} {h₀ : Heap} (hd : ∀ b, Df h₀ b → Df h b) {t u w : Tok} {k : Nat} (hh : A.handled = none) (S : St p B h M φ σ) (hFA : ∀ a ∈ FA, a ∈ M) (g : k < 1000) :
    Run p B A (call (.type "range") [.int 0 t, .int (Int.ofNat k) u, .int 2 w]) h M φ σ (Itb p B A FA h₀ (rangeL 0 2 ((k + 1) / 2)) σ) := by
  intro s Q E hs kk
  subst hs
  have S' := S.push { cls := .type "range", data := .fields #[.int 0 t, .int (Int.ofNat k) u, .int 2 w] }
  exact call_range_3 (by decide) (kk _ _ _ M φ S' (Mv.push _) (itb_range (fun b z => let ⟨o, e⟩ := hd b z; ⟨o, Heap.get?_push_of_some _ e⟩) hh S' hFA (Heap.get?_push_size _ rfl) (range_small2 g) (range_size2 k))) (.inl (PyProof.noPylong_small (by decide)))
inductive IntV (v : Value) (i : Int) : Prop
  | mk (t : Tok) : v = .int i t → IntV v i
theorem WRel.intV {v : Value} {i : Int} (X : WRel p h M φ v (.d (.int i))) : IntV v i := by cases X with | d X => obtain ⟨t, q⟩ := int_of' X; exact ⟨t, q⟩
theorem run_range {FA : List Addr} {h₀ : Heap} (hd : ∀ b, Df h₀ b → Df h b) {vs : List Value} {ws : List W} {items : List D} (hh : A.handled = none) (S : St p B h M φ σ) (hFA : ∀ a ∈ FA, a ∈ M) (X : WRels p h M φ vs ws) (e : rangeItems ws = some items) :
    Run p B A (call (.type "range") vs) h M φ σ (Itb p B A FA h₀ items σ) := by
  cases rangeItems_inv e with
  | one k g =>
    cases X with | cons X X' =>
    cases X'
    obtain ⟨t, q⟩ := X.intV
    rw [q]
    exact run_range1 hd hh S hFA g
  | two k g =>
    cases X with | cons X X' =>
    cases X' with | cons Y X' =>
    cases X' with | cons Z X' =>
    cases X'
    obtain ⟨t, q⟩ := X.intV
    obtain ⟨u, q2⟩ := Y.intV
    obtain ⟨w, q3⟩ := Z.intV
    rw [q, q2, q3]
    exact run_range2 hd hh S hFA g
theorem run_reversed {FA : List Addr} {h₀ : Heap} (hd : ∀ b, Df h₀ b → Df h b) {v : Value} {w : W} {items : List D} (hh : A.handled = none) (S : St p B h M φ σ) (hFA : ∀ a ∈ FA, a ∈ M) (X : WRel p h M φ v w) (e : revItems w = some items) :
    Run p B A (call (.type "reversed") [v]) h M φ σ (Itb p B A FA h₀ items σ) := by
  unfold revItems at e
  split at e
  rotate_left
  · cases e
  rename_i dl
  split at e
  · rename_i l ql
    cases e
    cases X with | d X =>
    rw [D.l?_eq ql] at X
    obtain ⟨a, vs, rfl, y, m, z⟩ := lst_of' X
    have hl := z.length
    intro s Q E hs kk
    subst hs
    have hne : a ≠ s.heap.objs.size := fun q => by obtain ⟨n, y⟩ := y; exact absurd (Heap.lt_size y) (by rw [q]; exact Nat.lt_irrefl _)
    have hk : ∀ (b : Addr) (o' : Obj), s.heap.get? b = some o' → (s.heap.push (revObj a ((vs.toArray.size : Int) - 1))).get? b = some o' := fun _ _ e => Heap.get?_push_of_some _ e
    have h0 : s.heap.get? s.heap.objs.size = none := none_ge (Nat.le_refl _)
    obtain ⟨S', m'⟩ := S.newM hk h0 ⟨_, Heap.get?_push_size _ rfl⟩
    refine call_reversed_list y.isList (kk _ _ s.toks _ φ S' m' ?_)
    have it0 : (s.heap.push (revObj a ((vs.toArray.size : Int) - 1))).IsRevIter s.heap.objs.size a ((vs.toArray.size : Int) - 1) := ⟨_, Heap.get?_push_size _ rfl, rfl, rfl⟩
    intro s2 Q2 E2 hs2 k2
    have it2 := it0
    rw [← hs2] at it2
    refine wpAny_pyIter_revIter it2 ?_
    have st2 := k2 (.ref s.heap.objs.size) _ s2.toks _ φ S' Mv.refl ⟨_, rfl, fun z => S.notM (hFA _ z), df_none (hd _) h0, ⟨[s.heap.objs.size, a], vs.toArray.size, _, _, Walks.listRev hh _ a hne vs.toArray, ⟨Nat.zero_le _, by simpa using it0, y.isList.push _⟩, by simp [hl], fun b hb => ?_, fun j v d a' b => ?_, fun j h' w => let ⟨o, e, c, _⟩ := w.2.1; ⟨o, _, e, c, by decide⟩⟩, .head _, fun z => S.notM (S.sub _ z)⟩
    · rw [← hs2] at st2; exact st2
    · simp at hb
      rcases hb with rfl | rfl
      · exact .inl rfl
      · refine .inr ⟨fun q => ?_, let ⟨n, y⟩ := y; ⟨_, hk _ _ y⟩⟩
        rcases List.mem_cons.mp q with q | q
        · exact hne q
        · exact m q
    · have hj : j < l.length := by
        have := (List.getElem?_eq_some_iff.mp b).1
        simpa using this
      rw [List.getElem?_reverse hj] at b
      obtain ⟨u, u1, u2⟩ := z.get b
      have : vs.toArray[vs.toArray.size - 1 - j]? = some u := by
        simp only [List.size_toArray, hl]
        simpa using u1
      rw [this] at a'; cases a'
      exact u2.mono (gr_new hk h0)
  · cases e
end
end Mine

namespace Mine
open PySem PySem.W PyProof.Rows PySem.Calls PySem.SeqAt

/-- a name that may be stored, at its place -/
structure StOk (env : Env) (own : Bool) (names : List Str) (i : Nat) (x : Str) : Prop where
  at_ : names[i]? = some x
  one : ∀ j, names[j]? = some x → j = i
  kind : env.kindOf x = some .local ∨ (env.kindOf x = some .cell ∧ own = true ∧ (env.cells.lookup x).isSome = true)
inductive NmsOk (env : Env) (own : Bool) (names : List Str) : List Expr → List Nat → Prop
  | nil : NmsOk env own names [] []
  | cons {x : Str} {pos : Pos} {i : Nat} {es : List Expr} {is : List Nat} : StOk env own names i x → NmsOk env own names es is → NmsOk env own names (.Name x pos :: es) (i :: is)
inductive TgOk (env : Env) (own : Bool) (names : List Str) : Expr → List Nat → Prop
  | one {x : Str} {pos : Pos} {i : Nat} : StOk env own names i x → TgOk env own names (.Name x pos) [i]
  | tup {es : List Expr} {k : Nat} {pos : Pos} {i j : Nat} {is : List Nat} : NmsOk env own names es (i :: j :: is) → TgOk env own names (.Tuple es k pos) (i :: j :: is)

inductive FlR (p : Pm) (h : Heap) (M : List Addr) : Fl → Flow → Prop
  | next : FlR p h M .next .next
  | ret {v : Value} {d : D} : VRel p h M v d → FlR p h M (.ret d) (.ret v)

/-- a tree of a statement, run in a frame -/
noncomputable def RunS (p : Pm) (B : Heap) (A : Around) (env : Env) (own : Bool) (FA : List Addr) (names : List Str) {α : Type} (t : Sem α) (h : Heap) (M : List Addr) (φ : List (Option Addr)) (σ' : List C) (ρ' : List (Option W)) (R : α → Heap → List Addr → Prop) : Prop :=
  ∀ (s : Shared) (Q : α → Shared → Prop) (E : Value → Shared → Prop), s.heap = h →
    (∀ a h' tk M' φ', FS p B env own FA names h' M' φ' σ' ρ' → Mv FA h M φ h' M' φ' → R a h' M' → Q a { s with heap := h', toks := tk }) → wpAny (model p.prog p.w) A t Q E s

section
variable {p : Pm} {B : Heap} {A : Around} {env : Env} {own : Bool} {FA : List Addr} {names : List Str} {α β : Type} {h : Heap} {M : List Addr} {φ : List (Option Addr)} {σ σ₁ σ₂ : List C} {ρ ρ₁ ρ₂ : List (Option W)}
theorem RunS.pure (X : FS p B env own FA names h M φ σ ρ) {a : α} {R : α → Heap → List Addr → Prop} (r : R a h M) : RunS p B A env own FA names (Pure.pure a : Sem α) h M φ σ ρ R := fun s Q E e k => by
  subst e; exact wpAny_pure (k a s.heap s.toks M φ X Mv.refl r)
theorem RunS.bind {t : Sem α} {f : α → Sem β} {R₁ : α → Heap → List Addr → Prop} {R₂ : β → Heap → List Addr → Prop} (X : FS p B env own FA names h M φ σ ρ) (x : RunS p B A env own FA names t h M φ σ₁ ρ₁ R₁)
    (y : ∀ a h₁ M₁ φ₁, FS p B env own FA names h₁ M₁ φ₁ σ₁ ρ₁ → Mv FA h M φ h₁ M₁ φ₁ → R₁ a h₁ M₁ → RunS p B A env own FA names (f a) h₁ M₁ φ₁ σ₂ ρ₂ R₂) : RunS p B A env own FA names (t >>= f) h M φ σ₂ ρ₂ R₂ := fun s Q E e k =>
  wpAny_bind (x s _ E e fun a h₁ tk M₁ φ₁ X₁ m₁ r₁ => y a h₁ M₁ φ₁ X₁ m₁ r₁ _ Q E rfl fun b h₂ tk₂ M₂ φ₂ X₂ m₂ r₂ => k b h₂ tk₂ M₂ φ₂ X₂ (m₁.trans X.S m₂) r₂)
/-- an expression ahead -/
theorem RunS.ev {t : Sem α} {f : α → Sem β} {R₁ : α → Heap → List Addr → List (Option Addr) → Prop} {R₂ : β → Heap → List Addr → Prop} (X : FS p B env own FA names h M φ σ ρ) (x : Run p B A t h M φ σ₁ R₁)
    (y : ∀ a h₁ M₁ φ₁, FS p B env own FA names h₁ M₁ φ₁ σ₁ ρ → Mv [] h M φ h₁ M₁ φ₁ → R₁ a h₁ M₁ φ₁ → RunS p B A env own FA names (f a) h₁ M₁ φ₁ σ₂ ρ₂ R₂) : RunS p B A env own FA names (t >>= f) h M φ σ₂ ρ₂ R₂ := fun s Q E e k =>
  wpAny_bind (x s _ E e fun a h₁ tk M₁ φ₁ S₁ m₁ r₁ => y a h₁ M₁ φ₁ (X.step S₁ m₁) m₁ r₁ _ Q E rfl fun b h₂ tk₂ M₂ φ₂ X₂ m₂ r₂ => k b h₂ tk₂ M₂ φ₂ X₂ ((m₁.mono (by simp)).trans X.S m₂) r₂)
theorem RunS.of_eq {t u : Sem α} {R : α → Heap → List Addr → Prop} (e : t = u) (x : RunS p B A env own FA names u h M φ σ ρ R) : RunS p B A env own FA names t h M φ σ ρ R := e ▸ x
theorem RunS.standAt {pos : Pos} {f : Unit → Sem α} {R : α → Heap → List Addr → Prop} (x : RunS p B A env own FA names (f ()) h M φ σ ρ R) : RunS p B A env own FA names (standAt pos >>= f) h M φ σ ρ R := fun s Q E e k => wpAny_bind (wpAny_standAt (x s Q E e k))
theorem RunS.holding {vs : List Value} {t : Sem α} {R : α → Heap → List Addr → Prop} (x : RunS p B A env own FA names t h M φ σ ρ R) : RunS p B A env own FA names (PySem.holding vs t) h M φ σ ρ R := fun s Q E e k => wpAny_holding (x s Q E e k)
theorem FS.fa (X : FS p B env own FA names h M φ σ ρ) : ∀ a ∈ FA, a ∈ M := fun a m => (X.F.fa a m).1
theorem run_store {x : Str} {i : Nat} {v : Value} {w : W} (X : FS p B env own FA names h M φ σ ρ) (ok : StOk env own names i x) (V : WRel p h M φ v w) :
    RunS p B A env own FA names (bindName env x v) h M φ σ (setNth ρ i (some w)) (fun _ _ _ => True) := fun s Q E e k => by
  subst e
  refine store_name X ok.at_ ok.one V ok.kind fun h' tk X' m => ?_
  rw [setNth_eq] at k
  exact k () h' tk M φ X' m trivial
theorem run_names {es : List Expr} {is : List Nat} : ∀ {vs : List Value} {ds : List D} {ρ ρ' : List (Option W)} {h : Heap} {M : List Addr} {φ : List (Option Addr)}, NmsOk env own names es is → FS p B env own FA names h M φ σ ρ → VRels p h M vs ds → setAll ρ is ds = some ρ' →
    RunS p B A env own FA names (assignInOrder ((assignEach es env).map (·.2)) vs) h M φ σ ρ' (fun _ _ _ => True) := by
  induction es generalizing is with
  | nil =>
    intro vs ds ρ ρ' h M φ ok X V e
    cases ok
    cases ds with
    | nil => cases e; cases V; exact RunS.pure X trivial
    | cons => cases e
  | cons e es ih =>
    intro vs ds ρ ρ' h M φ ok X V ev
    cases ok with
    | @cons x pos i es is a b =>
      cases V with
      | nil => cases ev
      | @cons v d vs ds V1 V =>
        have he : (assignEach (.Name x pos :: es) env).map (·.2) = (fun v => assign (.Name x pos) env v) :: (assignEach es env).map (·.2) := rfl
        rw [he]
        show RunS p B A env own FA names (do holding vs (assign (.Name x pos) env v); assignInOrder _ vs) h M φ σ ρ' _
        refine RunS.bind X (RunS.holding (RunS.of_eq (assign_Name x pos v) (RunS.standAt (run_store X a (.d V1))))) fun _ h₁ M₁ φ₁ X₁ m₁ _ => ?_
        exact ih b X₁ (V.mono (m₁.gr X.fa X.S.sub)) ev
theorem NmsOk.len {es : List Expr} {is : List Nat} (ok : NmsOk env own names es is) : (assignEach es env).length = is.length ∧ (assignEach es env).findIdx? (·.1) = none := by
  induction es generalizing is with
  | nil => cases ok; exact ⟨rfl, rfl⟩
  | cons e es ih =>
    cases ok with
    | @cons x pos i es is a b =>
      obtain ⟨h1, h2⟩ := ih b
      have he : assignEach (.Name x pos :: es) env = (false, assign (.Name x pos) env) :: assignEach es env := rfl
      rw [he, List.length_cons, List.length_cons, h1, List.findIdx?_cons]
      simp [h2]
theorem setAll_len : ∀ {is : List Nat} {ds : List D} {ρ ρ' : List (Option W)}, setAll ρ is ds = some ρ' → is.length = ds.length
  | [], [], _, _, _ => rfl
  | [], _ :: _, _, _, e => by cases e
  | _ :: _, [], _, _, e => by cases e
  | i :: is, d :: ds, ρ, ρ', e => by
    have := setAll_len (is := is) (ds := ds) e
    simp [this]
theorem run_unpack {es : List Expr} {is : List Nat} {k : Nat} {pos : Pos} {v : Value} {ds : List D} {ρ' : List (Option W)} (hh : A.handled = none) (ok : NmsOk env own names es is) (X : FS p B env own FA names h M φ σ ρ) (V : VRel p h M v (.tup ds)) (e : setAll ρ is ds = some ρ') :
    RunS p B A env own FA names (assign (.Tuple es k pos) env v) h M φ σ ρ' (fun _ _ _ => True) := fun s Q E hs kk => by
  subst hs
  obtain ⟨a, vs, rfl, y, m, z⟩ := tup_of' V
  obtain ⟨l1, l2⟩ := ok.len
  refine wpAny_assign_Tuple hh y.isTuple (by rw [l1, setAll_len e, List.size_toArray, z.length]) l2 fun h' hx => ?_
  have hk : ∀ (b : Addr) (o : Obj), s.heap.get? b = some o → h'.get? b = some o := fun b o e => hx b o (fun q => by subst q; exact get_lt e (none_ge (Nat.le_refl _))) e
  have X' : FS p B env own FA names h' M φ σ ρ := X.step (X.S.grow hk) (Mv.grow hk)
  rw [List.toList_toArray]
  exact run_names ok X' (z.mono (.grow hk)) e { s with heap := h' } Q E rfl fun _ h2 tk M2 φ2 X2 m2 _ => kk () h2 tk M2 φ2 X2 ((Mv.grow hk).trans X.S m2) trivial
theorem run_bindTg {tg : Expr} {is : List Nat} {v : Value} {d : D} {ρ' : List (Option W)} (hh : A.handled = none) (ok : TgOk env own names tg is) (X : FS p B env own FA names h M φ σ ρ) (V : VRel p h M v d) (e : bindTg ρ is d = some ρ') :
    RunS p B A env own FA names (assign tg env v) h M φ σ ρ' (fun _ _ _ => True) := by
  cases ok with
  | @one x pos i a =>
    cases e
    exact RunS.of_eq (assign_Name x pos v) (RunS.standAt (run_store X a (.d V)))
  | @tup es k pos i j is a =>
    unfold bindTg at e
    dsimp only at e
    cases d with
    | tup ds => exact run_unpack hh a X V e
    | _ => cases e
end
end Mine

namespace Mine
open PySem PySem.W PyProof.Rows PySem.Calls PySem.SeqAt

section
variable {p : Pm} {B : Heap} {A : Around} {env : Env} {own : Bool} {FA : List Addr} {names : List Str} {h h' h₀ : Heap} {M M' M₀ : List Addr} {φ φ₀ : List (Option Addr)} {σ σ₀ : List C} {ρ : List (Option W)} {I : Addr} {items : List D} {j : Nat}
/-- the iterator turns; M may lose it -/
structure KI (h : Heap) (M : List Addr) (φ : List (Option Addr)) (h' : Heap) (M' : List Addr) (I : Addr) : Prop where
  k : ∀ (b : Addr) (o : Obj), b ≠ I → h.get? b = some o → h'.get? b = some o
  s : ∀ a ∈ M', a ∈ M
  s2 : ∀ a ∈ M, a ≠ I → a ∈ M'
  d : I ∈ M' → Df h' I
  m : I ∈ M
  nφ : some I ∉ φ
theorem KI.gr (x : KI h M φ h' M' I) : Gr h M h' M' := ⟨fun b o n e => x.k b o (fun q => n (q ▸ x.m)) e, fun b o n e m => n (x.s b m)⟩
theorem KI.St (x : KI h M φ h' M' I) (S : St p B h M φ σ) : St p B h' M' φ σ where
  base b o e := x.k b o (fun q => S.base_notM e (q ▸ x.m)) (S.base b o e)
  low a m := ⟨by
    by_cases q : a = I
    · subst q; exact x.d m
    · obtain ⟨o, e⟩ := (S.low a (x.s a m)).1; exact ⟨o, x.k a o q e⟩, (S.low a (x.s a m)).2⟩
  sub a m := x.s2 a (S.sub a m) fun q => x.nφ (q ▸ m)
  nd := S.nd
  len := S.len
  dead := S.dead
  cells k a c e1 e2 := (S.cells k a c e1 e2).mono x.gr fun o e => x.k a o (fun q => x.nφ (q ▸ List.mem_of_getElem? e1)) e
theorem KI.FS (x : KI h M φ h' M' I) (X : FS p B env own FA names h M φ σ ρ) (hF : I ∉ FA) (hc : ∀ y c, env.cells.lookup y = some c → c ≠ I) : FS p B env own FA names h' M' φ σ ρ := by
  have S' := x.St X.S
  refine ⟨S', ⟨X.F.kind, X.F.glob, X.F.bi, let ⟨q, z⟩ := X.F.ns; ⟨q, z.at' fun o e => x.k _ o (fun q => hF (q ▸ X.F.L)) e⟩, X.F.L, fun a m => ⟨x.s2 a (X.F.fa a m).1 fun q => hF (q ▸ m), (X.F.fa a m).2⟩, fun y c e => ?_, X.F.apart, X.F.own⟩, fun i d e => ?_⟩
  · obtain ⟨⟨a1, a2⟩, b, v, o, ho, hd⟩ := X.F.cells y c e
    exact ⟨⟨x.s2 c a1 (hc y c e), a2⟩, b, v, o, x.k c o (hc y c e) ho, hd⟩
  · obtain ⟨y, v, a, b, c⟩ := X.L i d e
    exact ⟨y, v, a, b.keeps (fun o e => x.k _ o (fun q => hF (q ▸ X.F.L)) e) (fun c hc' o e => x.k c o (hc y c hc') e), c.mono x.gr (Nat.le_refl _) (fun _ _ _ e => e)⟩
theorem KI.Mv (x : KI h M φ h' M' I) (S₀ : Mine.St p B h₀ M₀ φ₀ σ₀) (h0 : h₀.get? I = none) (m : Mv FA h₀ M₀ φ₀ h M φ) : Mv FA h₀ M₀ φ₀ h' M' φ where
  keep b o h1 h2 e := x.k b o (fun q => get_lt e (q ▸ h0)) (m.keep b o h1 h2 e)
  sub b hb := (m.sub b hb).imp (fun q => x.s2 b q fun z => (S₀.low b hb).1.no (z ▸ h0)) id
  fresh b hb n := m.fresh b (x.s b hb) n
  phi := m.phi
  len := m.len
  news := m.news
  defd b hb := let ⟨o, e⟩ := m.defd b hb; ⟨o, x.k b o (fun q => hb.no (q ▸ h0)) e⟩
/-- the next item -/
theorem It.next {d : D} (x : It p A h M φ I items j) (e : items[j]? = some d) : ∀ (s : Shared) (Q : Option Value → Shared → Prop) (E : Value → Shared → Prop), s.heap = h →
    (∀ v h' tk, KI h M φ h' M I → It p A h' M φ I items (j + 1) → VRel p h' M v d → Q (some v) { s with heap := h', toks := tk }) → wpAny (model p.prog p.w) A (pyNext (.ref I)) Q E s := fun s Q E hs k => by
  subst hs
  obtain ⟨fp, n, P, W, w1, w2, w3, w4, w5, w6⟩ := x.w
  have hj := (List.getElem?_eq_some_iff.mp e).1
  refine w1.item j s Q E (by omega) w2 fun v h' tk a b c => ?_
  have ki : KI s.heap M φ h' M I := ⟨fun b o n e => c b o (by simpa using n) e, fun _ m => m, fun _ m _ => m, fun _ => (w6 _ _ b).df, x.m, x.nφ⟩
  refine k v h' tk ki ⟨⟨fp, n, P, W, w1, b, w3, fun b' hb => ?_, fun j v d a b => (w5 j v d a b).mono ki.gr, w6⟩, x.m, x.nφ⟩ ((w5 j v d a e).mono ki.gr)
  rcases w4 b' hb with q | ⟨q, o, z⟩
  · exact .inl q
  · exact .inr ⟨q, o, ki.k b' o (fun z => q (z ▸ x.m)) z⟩
/-- the end -/
theorem It.done (x : It p A h M φ I items j) (e : items.length = j) : ∀ (s : Shared) (Q : Option Value → Shared → Prop) (E : Value → Shared → Prop), s.heap = h →
    (∀ h' tk, KI h M φ h' (M.filter fun b => decide (b ≠ I)) I → Q none { s with heap := h', toks := tk }) → wpAny (model p.prog p.w) A (pyNext (.ref I)) Q E s := fun s Q E hs k => by
  subst hs
  obtain ⟨fp, n, P, W, w1, w2, w3, w4, w5, w6⟩ := x.w
  have hj : j = n := by omega
  subst hj
  refine w1.done s Q E w2 fun h' tk c => k h' tk ⟨fun b o n e => c b o (by simpa using n) e, fun a m => (List.mem_filter.mp m).1, fun a m n => List.mem_filter.mpr ⟨m, decide_eq_true n⟩, fun m => absurd rfl (of_decide_eq_true (List.mem_filter.mp m).2), x.m, x.nφ⟩
theorem It.go (x : It p A h M φ I items j) {E : Value → Shared → Prop} {s : Shared} {Q : Unit → Shared → Prop} {target : Expr} {v : Value} (hs : s.heap = h) (k : Q () s) : wpAny (model p.prog p.w) A (letOwnedTupleGo target (.ref I) v) Q E s := by
  obtain ⟨fp, n, P, W, w1, w2, w3, w4, w5, w6⟩ := x.w
  exact (w6 _ _ w2).go hs k
/-- a for loop's turn is ahead -/
inductive FInv (p : Pm) (A : Around) (B : Heap) (env : Env) (own : Bool) (FA : List Addr) (names : List Str) (I : Addr) (items : List D) (h₀ : Heap) (M₀ : List Addr) (φ₀ : List (Option Addr)) (F : Fns) (tg : List Nat) (bt : List T) (fl : Fl) (ρ' : List (Option W)) (σ' : List C) (s : Shared) (n : Nat) (s' : Shared) : Prop
  | mk (h : Heap) (tk : Nat) (M : List Addr) (φ : List (Option Addr)) (ρ : List (Option W)) (σ : List C) (j : Nat) : s' = { s with heap := h, toks := tk } → FS p B env own FA names h M φ σ ρ → Mv FA h₀ M₀ φ₀ h M φ → It p A h M φ I items j → j ≤ items.length → forL F tg bt (items.drop j) ρ σ = some (fl, ρ', σ') → n = items.length - j →
    FInv p A B env own FA names I items h₀ M₀ φ₀ F tg bt fl ρ' σ' s n s'
/-- a for loop's turns -/
theorem for_turns {F : Fns} {target : Expr} {body : List Stmt} {tg : List Nat} {bt : List T} {fl : Fl} {ρ₀ ρ' : List (Option W)} {σ' : List C} (hh : A.handled = none) (ok : TgOk env own names target tg) (X₀ : FS p B env own FA names h₀ M₀ φ₀ σ₀ ρ₀)
    (h0 : h₀.get? I = none) (hF : I ∉ FA) (hc : ∀ y c, env.cells.lookup y = some c → c ≠ I)
    (bd : ∀ {ρ σ h M φ fl ρ' σ'}, xs F ρ σ bt = some (fl, ρ', σ') → FS p B env own FA names h M φ σ ρ → RunS p B A env own FA names (execs body env) h M φ σ' ρ' (fun f h' M' => FlR p h' M' fl f))
    (X : FS p B env own FA names h M φ σ ρ) (m : Mv FA h₀ M₀ φ₀ h M φ) (x : It p A h M φ I items 0) (e : forL F tg bt items ρ σ = some (fl, ρ', σ')) (s : Shared) (R : Result → Shared → Prop) (hs : s.heap = h)
    (k : ∀ f h' tk M' φ', FS p B env own FA names h' M' φ' σ' ρ' → Mv FA h₀ M₀ φ₀ h' M' φ' → FlR p h' M' fl f → R (.ok f) { s with heap := h', toks := tk }) :
    codeAny (model p.prog p.w) A (.forLoop target (.ref I) body [] env) R s := by
  have S₀ := X₀.S
  clear X₀
  refine codeAny_forLoop_any (FInv p A B env own FA names I items h₀ M₀ φ₀ F tg bt fl ρ' σ' s) ?_ items.length (.mk h s.toks M φ ρ σ 0 (by subst hs; rfl) X m x (Nat.zero_le _) e rfl)
  clear X m x e hs
  intro n s' inv
  cases inv with
  | mk h tk M φ ρ σ j hs' X m x hj e hn =>
  subst hs' hn
  by_cases hlt : j < items.length
  · rw [List.drop_eq_getElem_cons hlt] at e
    unfold forL at e
    split at e
    rotate_left
    · cases e
    rename_i ρ₁ q1
    refine x.next (List.getElem?_eq_getElem hlt) _ _ _ rfl fun v h1 tk1 ki x1 V => ?_
    have X1 := ki.FS X hF hc
    have m1 := ki.Mv S₀ h0 m
    clear X m x ki
    refine x1.go rfl ?_
    refine run_bindTg hh ok X1 V q1 { s with heap := h1, toks := tk1 } _ _ rfl fun _ h2 tk2 M2 φ2 X2 m2 _ => ?_
    have x2 := x1.step X1.S X1.fa m2 hF
    have m2 := m1.trans S₀ m2
    clear X1 m1 x1 V q1
    split at e
    · rename_i ρ₂ σ₂ q2
      refine bd q2 X2 { s with heap := h2, toks := tk2 } _ _ rfl fun f h3 tk3 M3 φ3 X3 m3 fr => ?_
      cases fr
      exact ⟨items.length - (j + 1), by omega, .mk h3 tk3 M3 φ3 ρ₂ σ₂ (j + 1) rfl X3 (m2.trans S₀ m3) (x2.step X2.S X2.fa m3 hF) hlt e rfl⟩
    · rename_i d' ρ₂ σ₂ q2
      cases e
      refine bd q2 X2 { s with heap := h2, toks := tk2 } _ _ rfl fun f h3 tk3 M3 φ3 X3 m3 fr => ?_
      cases fr with
      | ret r => exact k _ h3 tk3 M3 φ3 X3 (m2.trans S₀ m3) (.ret r)
    · cases e
  · have hj : items.length = j := by omega
    rw [List.drop_eq_nil_of_le (Nat.le_of_eq hj)] at e
    cases e
    refine x.done hj _ _ _ rfl fun h1 tk1 ki => ?_
    exact wpAny_execs_nil (k .next h1 tk1 _ φ (ki.FS X hF hc) (ki.Mv S₀ h0 m) .next)
end
end Mine

namespace Mine
open PySem PySem.W PyProof.Rows PySem.Calls PySem.SeqAt

section
variable {prog : Program} {w : World} {A : Around} {R : Result → Shared → Prop} {s : Shared}
theorem codeAny_compLoop_any {elt target iter : Expr} {ifs : List Expr} {scope : Scope} {pos : Pos} {it acc : Value} {env : Env} (I : Nat → Shared → Prop)
    (turn : ∀ n s, I n s → wpAny (model prog w) A (pyNext it) (fun r s₁ => match r with
      | none => R (.ok .next) s₁
      | some v => wpAny (model prog w) A (letOwnedTupleGo target it v) (fun _ s₁' => wpAny (model prog w) A (assign target env v) (fun _ s₂ =>
          wpAny (model prog w) A (forIn ifs true fun c r => if r = true then do let ok ← isTrue c env (eval c env); pure (ForInStep.yield ok) else pure (ForInStep.yield r)) (fun ok s₃ =>
            if ok = true then wpAny (model prog w) A (eval elt env) (fun x s₄ =>
              wpAny (model prog w) A (call (.builtin "list.append") [acc, x]) (fun _ s₅ => ∃ m, m < n ∧ I m s₅) (notedBy (model prog w) A env fun e s' => R (.error e) s') s₄) (notedBy (model prog w) A env fun e s' => R (.error e) s') s₃
            else ∃ m, m < n ∧ I m s₃) (notedBy (model prog w) A env fun e s' => R (.error e) s') s₂) (notedBy (model prog w) A env fun e s' => R (.error e) s') s₁') (notedBy (model prog w) A env fun e s' => R (.error e) s') s₁) (notedBy (model prog w) A env fun e s' => R (.error e) s') s)
    (n : Nat) (h : I n s) :
    codeAny (model prog w) A (.compLoop (.ListComp elt [⟨target, iter, ifs, 0⟩] scope pos) 0 it acc env) R s := by
  refine codeAny_loop rfl I (fun n s hI => ?_) n h
  show wpAny _ A ((compTurn (.ListComp elt [⟨target, iter, ifs, 0⟩] scope pos) 0 it acc env).onRaise (fun x => do noteFrame x env; theTreesLotGoes x)) _ _ s
  refine wpAny_noted ?_
  rw [compTurn_list]
  refine wpAny_bind (wpAny_standAt (wpAny_bind (wpAny_mono (turn n s hI) (fun r s₁ h₁ => ?_) fun _ _ h' => h')))
  cases r with
  | none => exact wpAny_pure h₁
  | some v =>
    refine wpAny_bind (wpAny_mono h₁ (fun _ s₁' h₁ => ?_) fun _ _ h' => h')
    refine wpAny_bind (wpAny_mono h₁ (fun _ s₂ h₂ => wpAny_bind (wpAny_mono h₂ (fun ok s₃ h₃ => ?_) fun _ _ h' => h')) fun _ _ h' => h')
    cases ok with
    | false => exact wpAny_pure ⟨rfl, h₃⟩
    | true =>
      exact wpAny_bind (wpAny_bind (wpAny_mono h₃ (fun x s₄ h₄ => wpAny_bind (wpAny_mono h₄ (fun _ s₅ h₅ => wpAny_pure (wpAny_pure ⟨rfl, h₅⟩)) fun _ _ h' => h')) fun _ _ h' => h'))
end
section
variable {p : Pm} {B : Heap} {A : Around} {env : Env} {own : Bool} {FA X : List Addr} {names : List Str} {h h' h₀ : Heap} {M M' M₀ : List Addr} {φ φ' φ₀ : List (Option Addr)} {σ σ' σ₀ σ₁ σ₂ : List C} {ρ ρ₀ : List (Option W)} {I D C : Addr} {items : List Mine.D} {j : Nat}
/-- what turned is new to the first -/
theorem Mv.freshTrans (S : St p B h₀ M₀ φ₀ σ₀) (x : Mv [] h₀ M₀ φ₀ h M φ) (y : Mv X h M φ h' M' φ') (hX : ∀ a ∈ X, h₀.get? a = none) : Mv [] h₀ M₀ φ₀ h' M' φ' := by
  have z := (x.mono (Y := X) (by simp)).trans S y
  exact { z with keep := fun b o _ h2 e => z.keep b o (fun m => get_lt e (hX b m)) h2 e }
/-- a value as data: a cell dies -/
theorem toD_at (S : St p B h M φ σ) {v : Value} {w : W} {d : Mine.D} (r : WRel p h M φ v w) (e : toD σ w = some (d, σ')) : ∃ M' φ', St p B h M' φ' σ' ∧ Mv [] h M φ h M' φ' ∧ VRel p h M' v d := by
  cases r with
  | d x => cases e; exact ⟨M, φ, S, Mv.refl, x⟩
  | shelf => cases e
  | @cell v k hk f =>
    change om1 (nth σ k) none (fun c => om1 c.data none fun d => some (d, setNth σ k .dead)) = some (d, σ') at e
    rw [nth_eq, setNth_eq] at e
    split at e
    · rename_i c q
      split at e
      · rename_i d' q1
        cases e
        cases C.data_eq q1 with
        | lst l h1 h2 =>
          subst h1 h2
          obtain ⟨a, x, y⟩ := S.cell_at q nofun
          obtain ⟨k1, k2, k3, k4⟩ := S.kill x
          cases y with | lst y z => rw [f a x]; exact ⟨_, _, k1, k2, .lst y k3 (z.mono k4)⟩
        | dct l h1 h2 =>
          subst h1 h2
          obtain ⟨a, x, y⟩ := S.cell_at q nofun
          obtain ⟨k1, k2, k3, k4⟩ := S.kill x
          cases y with | dct y n z => rw [f a x]; exact ⟨_, _, k1, k2, .dct y n k3 (z.mono k4)⟩
      · cases e
    · cases e
theorem It.ki (x : It p A h M φ I items j) (k : KI h M φ h' M' D) (n : D ≠ I) : It p A h' M' φ I items j where
  w := by
    obtain ⟨fp, m, P, W, w1, w2, w3, w4, w5, w6⟩ := x.w
    have nD : ∀ b ∈ fp, b ≠ D := fun b hb q => by
      rcases w4 b hb with z | ⟨z, _⟩
      · exact n (q.symm.trans z)
      · exact z (q ▸ k.m)
    refine ⟨fp, m, P, W, w1, w1.frame _ _ _ w2 fun b hb o e => k.k b o (nD b hb) e, w3, fun b hb => ?_, fun j v d a b => (w5 j v d a b).mono k.gr, w6⟩
    rcases w4 b hb with q | ⟨q, o, e⟩
    · exact .inl q
    · exact .inr ⟨fun z => q (k.s b z), o, k.k b o (nD b hb) e⟩
  m := k.s2 I x.m (Ne.symm n)
  nφ := x.nφ
/-- a loop's state: the frame, the iterator, the list that grows -/
structure LSt (p : Pm) (A : Around) (B : Heap) (cenv : Env) (cnames : List Str) (C D I : Addr) (items : List Mine.D) (h₀ : Heap) (M₀ : List Addr) (φ₀ : List (Option Addr)) (h : Heap) (M : List Addr) (φ : List (Option Addr)) (σ : List Mine.C) (ρ : List (Option W)) (j : Nat) (ys : List Value) (done : List Mine.D) : Prop where
  X : FS p B cenv false [C] cnames h M φ σ ρ
  m : Mv [] h₀ M₀ φ₀ h M φ
  x : It p A h M φ I items j
  hD : h.PlainList D ys.toArray
  DM : D ∈ M
  Dφ : some D ∉ φ
  V : VRels p h M ys done
/-- what stays the same in a loop -/
structure LFix (p : Pm) (B : Heap) (cenv : Env) (C D I : Addr) (h₀ : Heap) (M₀ : List Addr) (φ₀ : List (Option Addr)) (σ₀ : List Mine.C) : Prop where
  S₀ : St p B h₀ M₀ φ₀ σ₀
  hI0 : h₀.get? I = none
  hC0 : h₀.get? C = none
  hD0 : h₀.get? D = none
  hIC : I ≠ C
  hDC : D ≠ C
  hDI : D ≠ I
  hc : ∀ y c, cenv.cells.lookup y = some c → c ≠ I ∧ c ≠ D
theorem LFix.nI {cenv : Env} (k : LFix p B cenv C D I h₀ M₀ φ₀ σ₀) : I ∉ [C] := fun m => k.hIC (List.mem_singleton.mp m)
theorem LFix.nD {cenv : Env} (k : LFix p B cenv C D I h₀ M₀ φ₀ σ₀) : D ∉ [C] := fun m => k.hDC (List.mem_singleton.mp m)
section
variable {cenv : Env} {cnames : List Str} {ys : List Value} {done : List Mine.D} {ρ' : List (Option W)}
theorem LSt.step (k : LFix p B cenv C D I h₀ M₀ φ₀ σ₀) (Z : LSt p A B cenv cnames C D I items h₀ M₀ φ₀ h M φ σ ρ j ys done) (S' : St p B h' M' φ' σ') (m : Mv [] h M φ h' M' φ') : LSt p A B cenv cnames C D I items h₀ M₀ φ₀ h' M' φ' σ' ρ j ys done where
  X := Z.X.step S' m
  m := Z.m.trans k.S₀ m
  x := Z.x.step Z.X.S (by simp) m (by simp)
  hD := let ⟨n, z⟩ := Z.hD; ⟨n, m.keep _ _ (by simp) Z.Dφ z⟩
  DM := (m.sub D Z.DM).resolve_right Z.Dφ
  Dφ z := (Z.X.S.low D Z.DM).1.no (m.news D z Z.Dφ)
  V := Z.V.step Z.X.S m
theorem LSt.frame (k : LFix p B cenv C D I h₀ M₀ φ₀ σ₀) (Z : LSt p A B cenv cnames C D I items h₀ M₀ φ₀ h M φ σ ρ j ys done) (X' : FS p B cenv false [C] cnames h' M' φ' σ' ρ') (m : Mv [C] h M φ h' M' φ') : LSt p A B cenv cnames C D I items h₀ M₀ φ₀ h' M' φ' σ' ρ' j ys done where
  X := X'
  m := Z.m.freshTrans k.S₀ m fun a z => by rw [List.mem_singleton.mp z]; exact k.hC0
  x := Z.x.step Z.X.S Z.X.fa m k.nI
  hD := let ⟨n, z⟩ := Z.hD; ⟨n, m.keep _ _ k.nD Z.Dφ z⟩
  DM := (m.sub D Z.DM).resolve_right Z.Dφ
  Dφ z := (Z.X.S.low D Z.DM).1.no (m.news D z Z.Dφ)
  V := Z.V.mono (m.gr Z.X.fa Z.X.S.sub)
theorem LSt.next (k : LFix p B cenv C D I h₀ M₀ φ₀ σ₀) (Z : LSt p A B cenv cnames C D I items h₀ M₀ φ₀ h M φ σ ρ j ys done) (ki : KI h M φ h' M I) (x : It p A h' M φ I items (j + 1)) : LSt p A B cenv cnames C D I items h₀ M₀ φ₀ h' M φ σ ρ (j + 1) ys done where
  X := ki.FS Z.X k.nI fun y c e => (k.hc y c e).1
  m := ki.Mv k.S₀ k.hI0 Z.m
  x := x
  hD := let ⟨n, z⟩ := Z.hD; ⟨n, ki.k _ _ k.hDI z⟩
  DM := Z.DM
  Dφ := Z.Dφ
  V := Z.V.mono ki.gr
theorem LSt.app (k : LFix p B cenv C D I h₀ M₀ φ₀ σ₀) (Z : LSt p A B cenv cnames C D I items h₀ M₀ φ₀ h M φ σ ρ j ys done) {v : Value} {d : Mine.D} (v' : VRel p h M v d) (hp : h'.PlainList D (ys ++ [v]).toArray) (hs : Heap.SameBut D h h') : LSt p A B cenv cnames C D I items h₀ M₀ φ₀ h' M φ σ ρ j (ys ++ [v]) (done ++ [d]) := by
  have ki : KI h M φ h' M D := ⟨fun b o n e => hs.extBut b o n e, fun _ m => m, fun _ m _ => m, fun _ => let ⟨n, z⟩ := hp; ⟨_, z⟩, Z.DM, Z.Dφ⟩
  exact ⟨ki.FS Z.X k.nD fun y c e => (k.hc y c e).2, ki.Mv k.S₀ k.hD0 Z.m, Z.x.ki ki k.hDI, hp, Z.DM, Z.Dφ, (Z.V.mono ki.gr).append (.cons (v'.mono ki.gr) .nil)⟩
end
/-- one loop's turn is ahead -/
inductive LInv (p : Pm) (A : Around) (B : Heap) (cenv : Env) (cnames : List Str) (C D I : Addr) (items : List Mine.D) (h₀ : Heap) (M₀ : List Addr) (φ₀ : List (Option Addr)) (F : Fns) (tg : List Nat) (xe : Mine.X) (xc : Option Mine.X) (l : List Mine.D) (σe : List Mine.C) (s : Shared) (n : Nat) (s' : Shared) : Prop
  | mk (h : Heap) (tk : Nat) (M : List Addr) (φ : List (Option Addr)) (ρ : List (Option W)) (σ : List Mine.C) (j : Nat) (ys : List Value) (done rest : List Mine.D) : s' = { s with heap := h, toks := tk } → LSt p A B cenv cnames C D I items h₀ M₀ φ₀ h M φ σ ρ j ys done →
    j ≤ items.length → ys.length ≤ j → compL F tg xe xc (items.drop j) ρ σ = some (rest, σe) → l = done ++ rest → n = items.length - j → LInv p A B cenv cnames C D I items h₀ M₀ φ₀ F tg xe xc l σe s n s'
/-- the loop of a comprehension, in its own frame -/
theorem comp_turns {F : Fns} {target iter elt : Expr} {ifs : List Expr} {scope : Scope} {pos : Pos} {cenv : Env} {cnames : List Str} {tg : List Nat} {xe : Mine.X} {xc : Option Mine.X} {l : List Mine.D} {σe : List Mine.C} (hh : A.handled = none) (ok : TgOk cenv false cnames target tg)
    (S₀ : St p B h₀ M₀ φ₀ σ₀) (hI0 : h₀.get? I = none) (hC0 : h₀.get? C = none) (hD0 : h₀.get? D = none) (hIC : I ≠ C) (hDC : D ≠ C) (hDI : D ≠ I) (hc : ∀ y c, cenv.cells.lookup y = some c → c ≠ I ∧ c ≠ D)
    (ev : ∀ {ρ σ h M φ w σ'}, F.ev ρ σ xe = some (w, σ') → FS p B cenv false [C] cnames h M φ σ ρ → Run p B A (eval elt cenv) h M φ σ' (U p w))
    (ts : ∀ {ρ σ h M φ b σ'}, condL F ρ σ xc = some (b, σ') → FS p B cenv false [C] cnames h M φ σ ρ → Run p B A (forIn ifs true fun c r => if r = true then do let ok ← isTrue c cenv (eval c cenv); Pure.pure (ForInStep.yield ok) else Pure.pure (ForInStep.yield r)) h M φ σ' (fun x _ _ _ => x = b))
    (X₁ : FS p B cenv false [C] cnames h M φ σ ρ) (m : Mv [] h₀ M₀ φ₀ h M φ) (x : It p A h M φ I items 0) (hD : h.PlainList D #[]) (hDM : D ∈ M) (hDφ : some D ∉ φ) (hz : items.length ≤ sizeLine) (e : compL F tg xe xc items ρ σ = some (l, σe)) (s : Shared) (R : Result → Shared → Prop) (hs : s.heap = h)
    (k : ∀ h' tk M' φ' ρ' (ys : List Value), FS p B cenv false [C] cnames h' M' φ' σe ρ' → Mv [] h₀ M₀ φ₀ h' M' φ' → h'.PlainList D ys.toArray → D ∈ M' → some D ∉ φ' → VRels p h' M' ys l → R (.ok .next) { s with heap := h', toks := tk }) :
    codeAny (model p.prog p.w) A (.compLoop (.ListComp elt [⟨target, iter, ifs, 0⟩] scope pos) 0 (.ref I) (.ref D) cenv) R s := by
  have kk : LFix p B cenv C D I h₀ M₀ φ₀ σ₀ := ⟨S₀, hI0, hC0, hD0, hIC, hDC, hDI, hc⟩
  clear S₀ hI0 hC0 hD0 hIC hDC hDI hc
  refine codeAny_compLoop_any (LInv p A B cenv cnames C D I items h₀ M₀ φ₀ F tg xe xc l σe s) ?_ items.length (.mk h s.toks M φ ρ σ 0 [] [] l (by subst hs; rfl) ⟨X₁, m, x, hD, hDM, hDφ, .nil⟩ (Nat.zero_le _) (Nat.zero_le _) e rfl rfl)
  clear X₁ m x hD hDM hDφ e hs
  intro n s' inv
  cases inv with
  | mk h tk M φ ρ σ j ys done rest hs' Z hj hyl ec hl hn =>
  subst hs' hl hn
  by_cases hlt : j < items.length
  · rw [List.drop_eq_getElem_cons hlt] at ec
    unfold compL at ec
    split at ec
    rotate_left
    · cases ec
    rename_i ρ₁ q1
    refine Z.x.next (List.getElem?_eq_getElem hlt) _ _ _ rfl fun v h1 tk1 ki x1 Vv => ?_
    have Z1 := Z.next kk ki x1
    clear Z ki
    refine x1.go rfl ?_
    clear x1
    refine run_bindTg hh ok Z1.X Vv q1 { s with heap := h1, toks := tk1 } _ _ rfl fun _ h2 tk2 M2 φ2 X2 m2 _ => ?_
    have Z2 := Z1.frame kk X2 m2
    clear Z1 X2 m2 Vv q1
    split at ec
    · rename_i σ1 q2
      split at ec
      rotate_left
      · cases ec
      rename_i w σ2 q3
      split at ec
      rotate_left
      · cases ec
      rename_i xd σ3 q4
      split at ec
      rotate_left
      · cases ec
      rename_i xs σ4 q5
      cases ec
      refine ts q2 Z2.X { s with heap := h2, toks := tk2 } _ _ rfl fun b h3 tk3 M3 φ3 S3 m3 r3 => ?_
      subst r3
      rw [if_pos rfl]
      have Z3 := Z2.step kk S3 m3
      clear Z2 S3 m3
      refine ev q3 Z3.X { s with heap := h3, toks := tk3 } _ _ rfl fun xv h4 tk4 M4 φ4 S4 m4 r4 => ?_
      have Z4 := Z3.step kk S4 m4
      clear Z3 S4 m4
      obtain ⟨M5, φ5, S5, m5, v5⟩ := toD_at Z4.X.S r4 q4
      refine wpAny_list_append_plain (s := { s with heap := h4, toks := tk4 }) Z4.hD (fun h6 D6 hs6 => ?_) (by rw [List.size_toArray]; omega)
      have Z5 := Z4.step kk S5 m5
      exact ⟨items.length - (j + 1), by omega, .mk h6 tk4 M5 φ5 ρ₁ σ3 (j + 1) (ys ++ [xv]) (done ++ [xd]) xs rfl (Z5.app kk v5 (by rw [← List.push_toArray]; exact D6) hs6) hlt (by rw [List.length_append]; exact Nat.succ_le_succ hyl) q5 (List.append_assoc done [xd] xs).symm rfl⟩
    · rename_i σ1 q2
      refine ts q2 Z2.X { s with heap := h2, toks := tk2 } _ _ rfl fun b h3 tk3 M3 φ3 S3 m3 r3 => ?_
      subst r3
      rw [if_neg Bool.false_ne_true]
      exact ⟨items.length - (j + 1), by omega, .mk h3 tk3 M3 φ3 ρ₁ σ1 (j + 1) ys done rest rfl (Z2.step kk S3 m3) hlt (Nat.le_succ_of_le hyl) ec rfl rfl⟩
    · cases ec
  · have hj : items.length = j := by omega
    rw [List.drop_eq_nil_of_le (Nat.le_of_eq hj)] at ec
    cases ec
    refine Z.x.done hj _ _ _ rfl fun h1 tk1 ki => ?_
    refine k h1 tk1 _ φ ρ ys (ki.FS Z.X kk.nI (fun y c e => (kk.hc y c e).1)) (ki.Mv kk.S₀ kk.hI0 Z.m) ?_ (ki.s2 D Z.DM kk.hDI) Z.Dφ (by rw [List.append_nil]; exact Z.V.mono ki.gr)
    obtain ⟨n, z⟩ := Z.hD
    exact ⟨n, ki.k _ _ kk.hDI z⟩
end
end Mine

namespace Mine
open PySem PySem.W PyProof.Rows PySem.Calls PySem.SeqAt

theorem closure_go (env : Env) : ∀ (names : List (Str × NameKind)) (acc : List (Str × Addr)), (∀ y ∈ names, y.2 = .free → (env.cells.lookup y.1).isSome = true) → (∀ y c, acc.lookup y = some c → env.cells.lookup y = some c) →
    ∃ cl, (forIn names acc fun x r => (match x with | (name, kind) => if (kind == NameKind.free) = true then do let a ← cellOf env name; pure (ForInStep.yield ((name, a) :: r)) else pure (ForInStep.yield r) : Sem (ForInStep (List (Str × Addr))))) = pure cl ∧
      (∀ y c, cl.lookup y = some c → env.cells.lookup y = some c) ∧ (∀ y, ((y, NameKind.free) ∈ names ∨ (acc.lookup y).isSome = true) → cl.lookup y = env.cells.lookup y)
  | [], acc, _, ha => ⟨acc, rfl, ha, fun y q => by
      rcases q with q | q
      · simp at q
      · obtain ⟨c, hc⟩ := Option.isSome_iff_exists.mp q
        rw [hc, ha y c hc]⟩
  | (name, kind) :: names, acc, hn, ha => by
    have hn' : ∀ y ∈ names, y.2 = .free → (env.cells.lookup y.1).isSome = true := fun y m => hn y (.tail _ m)
    by_cases hk : kind = .free
    · subst hk
      obtain ⟨a, hca⟩ := Option.isSome_iff_exists.mp (hn (name, .free) (.head _) rfl)
      have hcell : cellOf env name = pure a := by unfold cellOf; dsimp only at hca; rw [hca]
      have ha' : ∀ y c, ((name, a) :: acc).lookup y = some c → env.cells.lookup y = some c := fun y c q => by
        rw [List.lookup_cons] at q
        split at q
        · rename_i z; have := eq_of_beq z; subst this; cases q; exact hca
        · exact ha y c q
      obtain ⟨cl, h1, h2, h3⟩ := closure_go env names ((name, a) :: acc) hn' ha'
      refine ⟨cl, ?_, h2, fun y q => h3 y ?_⟩
      · rw [List.forIn_cons]
        simp only [beq_self_eq_true, if_true, hcell, pure_bind]
        exact h1
      · rcases q with q | q
        · rcases List.mem_cons.mp q with q | q
          · cases q; right; rw [List.lookup_cons]; simp
          · exact .inl q
        · right
          rw [List.lookup_cons]
          split
          · rfl
          · exact q
    · have hb : (kind == NameKind.free) = false := by simpa using hk
      obtain ⟨cl, h1, h2, h3⟩ := closure_go env names acc hn' ha
      refine ⟨cl, ?_, h2, fun y q => h3 y ?_⟩
      · rw [List.forIn_cons]
        simp only [hb, Bool.false_eq_true, if_false, pure_bind]
        exact h1
      · rcases q with q | q
        · rcases List.mem_cons.mp q with q | q
          · cases q; exact absurd rfl hk
          · exact .inl q
        · exact .inr q
theorem closure_ok {scope : Scope} {env : Env} (hn : ∀ y ∈ scope.names, y.2 = .free → (env.cells.lookup y.1).isSome = true) :
    ∃ cl, closureFor scope env = pure cl ∧ (∀ y c, cl.lookup y = some c → env.cells.lookup y = some c) ∧ (∀ y, (y, NameKind.free) ∈ scope.names → cl.lookup y = env.cells.lookup y) := by
  obtain ⟨cl, h1, h2, h3⟩ := closure_go env scope.names [] hn (fun y c q => by simp at q)
  refine ⟨cl, ?_, h2, fun y q => h3 y (.inl q)⟩
  unfold closureFor
  have := congrArg (fun t : Sem (List (Str × Addr)) => t >>= fun x => pure x) h1
  exact this
end Mine

namespace Mine
open PySem PySem.W PyProof.Rows PySem.Calls PySem.SeqAt

/-- what is asked of a comprehension's scope -/
structure CompOk (env : Env) (names : List Str) (scope : Scope) (cnames : List Str) (caps : List Nat) : Prop where
  kind : scope.kind = .function
  nocell : ∀ y ∈ scope.names, y.2 ≠ .cell
  loc : ∀ y ∈ scope.names, y.2 = .local → scope.names.lookup y.1 = some .local
  free : ∀ y ∈ scope.names, y.2 = .free → (env.cells.lookup y.1).isSome = true
  caps : ∀ (i k : Nat), caps[i]? = some k → ∃ x, names[k]? = some x ∧ cnames[i]? = some x ∧ (x, NameKind.free) ∈ scope.names ∧ scope.names.lookup x = some .free ∧ env.kindOf x = some .cell
theorem lookup_relabel_free {env : Env} (hk : env.scope.kind = .function) : ∀ {names : List (Str × NameKind)} {x : Str}, names.lookup x = some .free → env.kindOf x = some .cell →
    (names.map fun (n, k) => if (k == NameKind.free && env.scope.kind == .function && env.kindOf n == some .cell) then (n, NameKind.cell) else (n, k)).lookup x = some .cell
  | [], _, h, _ => by simp at h
  | (n, k) :: r, x, h, hc => by
    have ih := @lookup_relabel_free env hk r x
    show List.lookup x ((if (k == NameKind.free && env.scope.kind == .function && env.kindOf n == some .cell) = true then (n, NameKind.cell) else (n, k)) :: _) = _
    cases hx : x == n with
    | true =>
      simp only [List.lookup_cons, hx] at h
      cases h
      have := eq_of_beq hx
      subst this
      simp [List.lookup_cons, hk, hc]
    | false =>
      simp only [List.lookup_cons, hx] at h
      by_cases hz : (k == NameKind.free && env.scope.kind == .function && env.kindOf n == some .cell) = true
      · rw [if_pos hz]; simp only [List.lookup_cons, hx]; exact ih h hc
      · rw [if_neg hz]; simp only [List.lookup_cons, hx]; exact ih h hc
theorem capsOf_get {ρ : List (Option W)} : ∀ {caps : List Nat} {i : Nat} {w : W}, (capsOf ρ caps)[i]? = some (some w) → ∃ k, caps[i]? = some k ∧ ρ[k]? = some (some w)
  | [], i, w, e => by simp [capsOf] at e
  | k :: r, 0, w, e => by
    simp only [capsOf, List.getElem?_cons_zero, Option.some.injEq] at e
    refine ⟨k, rfl, ?_⟩
    unfold getL at e
    rw [nth_eq] at e
    split at e
    · rename_i q; cases e; exact q
    · cases e
  | k :: r, i + 1, w, e => by
    simp only [capsOf, List.getElem?_cons_succ] at e
    obtain ⟨k', a, b⟩ := capsOf_get e
    exact ⟨k', by simpa using a, b⟩
theorem nones_get {α : Type} : ∀ (n i : Nat) (w : α), (nones n : List (Option α))[i]? ≠ some (some w)
  | 0, i, w => by simp [nones]
  | n + 1, 0, w => by simp [nones]
  | n + 1, i + 1, w => by simp only [nones, List.getElem?_cons_succ]; exact nones_get n i w
theorem capsLen {ρ : List (Option W)} : ∀ caps : List Nat, (capsOf ρ caps).length = caps.length
  | [] => rfl
  | _ :: r => by simp [capsOf, capsLen r]
section
variable {p : Pm} {B : Heap} {A : Around} {env : Env} {own : Bool} {FA : List Addr} {names cnames : List Str} {caps : List Nat} {scope : Scope} {h h' h₀ : Heap} {M M' M₀ : List Addr} {φ φ' φ₀ : List (Option Addr)} {σ σ' σ₀ σ₁ σe : List C} {ρ ρ₀ : List (Option W)} {I : Addr} {items : List Mine.D}
/-- the frame of a comprehension -/
theorem comp_frame {cl : List (Str × Addr)} {C : Addr} {k : Nat} (ok : CompOk env names scope cnames caps) (X : FS p B env own FA names h M φ σ ρ) (hcl : ∀ y c, cl.lookup y = some c → env.cells.lookup y = some c)
    (hcf : ∀ y, (y, NameKind.free) ∈ scope.names → cl.lookup y = env.cells.lookup y) (hk : ∀ (b : Addr) (o : Obj), h.get? b = some o → h'.get? b = some o) (hC : h.get? C = none) {m : Str → Option Value} (hn : h'.Ns C m) :
    FS p B (compEnvC scope cl C env) false [C] cnames h' (C :: M) φ σ (capsOf ρ caps ++ nones k) ∧ Mv [] h M φ h' (C :: M) φ := by
  obtain ⟨S', m'⟩ := X.S.newM hk hC (let ⟨o, _, _, e, _⟩ := hn; ⟨o, e⟩)
  refine ⟨⟨S', ⟨ok.kind, X.F.glob, X.F.bi, ⟨_, hn⟩, .head _, fun a ma => ?_, fun y c e => ?_, fun y z c e1 e2 => X.F.apart y z c (hcl y c e1) (hcl z c e2), fun q => by cases q⟩, fun i w e => ?_⟩, m'⟩
  · rw [List.mem_singleton.mp ma]; exact ⟨.head _, fun z => notM_none X.S hC (X.S.sub _ z)⟩
  · obtain ⟨⟨a1, a2⟩, b, v, o, ho, hd⟩ := X.F.cells y c (hcl y c e)
    exact ⟨⟨.tail _ a1, a2⟩, fun q => get_lt ho (by rw [q]; exact hC), v, o, hk c o ho, hd⟩
  · by_cases q : i < caps.length
    · rw [List.getElem?_append_left (by rw [capsLen]; exact q)] at e
      obtain ⟨k, a, b⟩ := capsOf_get e
      obtain ⟨x, c1, c2, c3, c4, c5⟩ := ok.caps i k a
      obtain ⟨y, v, d1, d2, d3⟩ := X.L k w b
      rw [c1] at d1; cases d1
      refine ⟨x, v, c2, ?_, d3.mono (gr_new hk hC) (Nat.le_refl _) (fun _ _ _ e => e)⟩
      cases d2 with
      | loc z _ _ => rw [c5] at z; cases z
      | cell _ z1 z2 =>
        obtain ⟨o, ho, hd⟩ := z2
        exact .cell (lookup_relabel_free X.F.kind c4 c5) (by show cl.lookup x = _; rw [hcf x c3]; exact z1) ⟨o, hk _ o ho, hd⟩
    · rw [List.getElem?_append_right (by rw [capsLen]; omega)] at e
      exact absurd e (nones_get _ _ _)
/-- from the iterator to the end of the loop -/
theorem comp_block {F : Fns} {target iter elt : Expr} {ifs : List Expr} {pos : Pos} {cl : List (Str × Addr)} {tg : List Nat} {xe : Mine.X} {xc : Option Mine.X} {l : List Mine.D} {k : Nat} {E : Value → Shared → Prop} {RR : Value → Addr → Result → Shared → Prop} (hh : A.handled = none)
    (ok : CompOk env names scope cnames caps) (hcl : ∀ y c, cl.lookup y = some c → env.cells.lookup y = some c) (hcf : ∀ y, (y, NameKind.free) ∈ scope.names → cl.lookup y = env.cells.lookup y) (htg : ∀ C, TgOk (compEnvC scope cl C env) false cnames target tg)
    (S₀ : St p B h₀ M₀ φ₀ σ₀) (X : FS p B env own FA names h M φ σ ρ) (m : Mv [] h₀ M₀ φ₀ h M φ) (x : It p A h M φ I items 0) (hI0 : h₀.get? I = none) (hcI : ∀ y c, env.cells.lookup y = some c → c ≠ I)
    (ev : ∀ {C ρ σ h M φ w σ'}, F.ev ρ σ xe = some (w, σ') → FS p B (compEnvC scope cl C env) false [C] cnames h M φ σ ρ → Run p B A (eval elt (compEnvC scope cl C env)) h M φ σ' (U p w))
    (ts : ∀ {C ρ σ h M φ b σ'}, condL F ρ σ xc = some (b, σ') → FS p B (compEnvC scope cl C env) false [C] cnames h M φ σ ρ → Run p B A (forIn ifs true fun c r => if r = true then do let ok ← isTrue c (compEnvC scope cl C env) (eval c (compEnvC scope cl C env)); Pure.pure (ForInStep.yield ok) else Pure.pure (ForInStep.yield r)) h M φ σ' (fun x _ _ _ => x = b))
    (hz : items.length ≤ sizeLine) (e : compL F tg xe xc items (capsOf ρ caps ++ nones k) σ = some (l, σe)) (s : Shared) (hs : s.heap = h)
    (hRR : ∀ D C h' tk M' φ' (ys : List Value), St p B h' M' φ' σe → Mv [] h₀ M₀ φ₀ h' M' φ' → h'.PlainList D ys.toArray → D ∈ M' → some D ∉ φ' → VRels p h' M' ys l → C ∈ M' → some C ∉ φ' → (∃ m, h'.Ns C m) → h₀.get? D = none → h₀.get? C = none → D ≠ C →
      RR (.ref D) C (.ok .next) { s with heap := h', toks := tk }) :
    wpAny (model p.prog p.w) A (newList []) (fun acc s₃ => wpAny (model p.prog p.w) A (newFunctionEnv scope env.globals cl [] env.qual none .none (some env)) (fun cenv s₄ =>
      codeAny (model p.prog p.w) A (.compStart (.ListComp elt [⟨target, iter, ifs, 0⟩] scope pos) 0 (.ref I) acc { cenv with scope := relabel scope env }) (RR acc cenv.locals) s₄) E s₃) E s := by
  subst hs
  refine wpAny_newObj_type (wpAny_newFunctionEnv ok.nocell (by intro y hy; simp at hy) (fun h₁ hns₁ hsb₁ => ?_) ok.kind)
  dsimp only at hns₁ hsb₁ ⊢
  generalize hH2 : s.heap.push { cls := .type "list", dict := none, data := .seq ([] : List Value).toArray } = H2 at hns₁ hsb₁ ⊢
  have hC : H2.objs.size = s.heap.objs.size + 1 := by rw [← hH2, Heap.size_push]
  have hDC : s.heap.objs.size ≠ H2.objs.size := by rw [hC]; exact Nat.ne_of_lt (Nat.lt_succ_self _)
  have k2 : ∀ (b : Addr) (o : Obj), s.heap.get? b = some o → H2.get? b = some o := fun b o e => by rw [← hH2]; exact Heap.get?_push_of_some _ e
  have k3 : ∀ (b : Addr) (o : Obj), H2.get? b = some o → h₁.get? b = some o := fun b o e => hsb₁.extBut b o (Nat.ne_of_lt (Heap.lt_size e)) (Heap.get?_push_of_some _ e)
  have hD0 : s.heap.get? s.heap.objs.size = none := none_ge (Nat.le_refl _)
  have hDpl : H2.PlainList s.heap.objs.size #[] := ⟨0, by rw [← hH2]; exact Heap.get?_push_size _ rfl⟩
  obtain ⟨S2, m2⟩ := X.S.newM k2 hD0 (let ⟨n, e⟩ := hDpl; ⟨_, e⟩)
  have X2 := X.step S2 m2
  have x2 := x.step X.S (by simp) m2 (by simp)
  obtain ⟨X3, m3⟩ := comp_frame (k := k) ok X2 hcl hcf k3 (none_ge (Nat.le_refl _)) hns₁
  have x3 := x2.step X2.S (by simp) m3 (by simp)
  have mm := (m.trans S₀ m2).trans S₀ m3
  have dfD : h₀.get? s.heap.objs.size = none := df_none (m.defd _) hD0
  have dfC : h₀.get? H2.objs.size = none := df_none (fun z => m2.defd _ (m.defd _ z)) (none_ge (Nat.le_refl _))
  have hID : s.heap.objs.size ≠ I := fun q => (X.S.low I x.m).1.no (q ▸ hD0)
  have hIC : I ≠ H2.objs.size := fun q => (m2.defd _ (X.S.low I x.m).1).no (q ▸ none_ge (Nat.le_refl _))
  have hcD : ∀ y c, cl.lookup y = some c → c ≠ I ∧ c ≠ s.heap.objs.size := fun y c e => ⟨hcI y c (hcl y c e), fun q => by
    obtain ⟨_, _, v, o, ho, _⟩ := X.F.cells y c (hcl y c e)
    exact get_lt ho (by rw [q]; exact hD0)⟩
  have loop : ∀ s₃ : Shared, s₃ = { s with heap := h₁, toks := s.toks + ([] : List (Str × Value)).length } →
      codeAny (model p.prog p.w) A (.compLoop (.ListComp elt [⟨target, iter, ifs, 0⟩] scope pos) 0 (.ref I) (.ref s.heap.objs.size) (compEnvC scope cl H2.objs.size env))
        (RR (.ref s.heap.objs.size) H2.objs.size) s₃ := by
    rintro s₃ rfl
    refine comp_turns hh (htg _) S₀ hI0 dfC dfD hIC hDC hID hcD ev ts X3 mm x3 (let ⟨n, e⟩ := hDpl; ⟨n, k3 _ _ e⟩) (.tail _ (.head _)) (fun z => X.S.notM (X.S.sub _ z)) hz e _ _ rfl (fun h' tk M' φ' ρ' ys X' m' a b c d => ?_)
    exact hRR _ _ h' tk M' φ' ys X'.S m' a b c d (X'.F.fa _ (.head _)).1 (X'.F.fa _ (.head _)).2 X'.F.ns dfD dfC hDC
  obtain ⟨fp, n, P, W, w1, w2, _⟩ := x3.w
  exact codeAny_compStart_list (loop _ rfl) (w1.self 0 _ _ _ w2 (loop _ rfl))
end
end Mine

namespace Mine
open PySem PySem.W PyProof.Rows PySem.Calls PySem.SeqAt

section
variable {p : Pm} {B : Heap} {A : Around} {env : Env} {own : Bool} {FA : List Addr} {names cnames : List Str} {caps : List Nat} {scope : Scope} {h h' h₀ : Heap} {M M' M₀ : List Addr} {φ φ' φ₀ : List (Option Addr)} {σ σ' σ₀ σ₁ σe : List C} {ρ ρ₀ : List (Option W)} {I : Addr} {items : List Mine.D}
/-- an object turns no more, or is of no more use -/
theorem KI.drop {D : Addr} (hD : D ∈ M) (hφ : some D ∉ φ) (k : ∀ (b : Addr) (o : Obj), b ≠ D → h.get? b = some o → h'.get? b = some o) : KI h M φ h' (M.filter fun b => decide (b ≠ D)) D :=
  ⟨k, fun a m => (List.mem_filter.mp m).1, fun a m n => List.mem_filter.mpr ⟨m, decide_eq_true n⟩, fun m => absurd rfl (of_decide_eq_true (List.mem_filter.mp m).2), hD, hφ⟩
theorem not_filter {D : Addr} : D ∉ M.filter fun b => decide (b ≠ D) := fun m => absurd rfl (of_decide_eq_true (List.mem_filter.mp m).2)
theorem run_comp {F : Fns} {target iter elt : Expr} {ifs : List Expr} {pos : Pos} {tg : List Nat} {xe : Mine.X} {xc : Option Mine.X} {l : List Mine.D} {k : Nat} (hh : A.handled = none)
    (ok : CompOk env names scope cnames caps) (htg : ∀ cl C, TgOk (compEnvC scope cl C env) false cnames target tg) (X : FS p B env own FA names h M φ σ ρ) (hs : ∀ x, foldedSetIterable iter env x = pure x)
    (src : Run p B A (eval iter env) h M φ σ₁ (Itb p B A FA h items σ₁))
    (ev : ∀ {cl C ρ σ h M φ w σ'}, F.ev ρ σ xe = some (w, σ') → FS p B (compEnvC scope cl C env) false [C] cnames h M φ σ ρ → Run p B A (eval elt (compEnvC scope cl C env)) h M φ σ' (U p w))
    (ts : ∀ {cl C ρ σ h M φ b σ'}, condL F ρ σ xc = some (b, σ') → FS p B (compEnvC scope cl C env) false [C] cnames h M φ σ ρ → Run p B A (forIn ifs true fun c r => if r = true then do let ok ← isTrue c (compEnvC scope cl C env) (eval c (compEnvC scope cl C env)); Pure.pure (ForInStep.yield ok) else Pure.pure (ForInStep.yield r)) h M φ σ' (fun x _ _ _ => x = b))
    (hz : items.length ≤ sizeLine) (e : compL F tg xe xc items (capsOf ρ caps ++ nones k) σ₁ = some (l, σe)) :
    Run p B A (eval (.ListComp elt [⟨target, iter, ifs, 0⟩] scope pos) env) h M φ σe (V p (.lst l)) := fun s Q E hs' kk => by
  obtain ⟨cl, hclos, hcl, hcf⟩ := closure_ok (scope := scope) (env := env) ok.free
  rw [eval_ListComp]
  refine wpAny_comprehension_free (use := none) (cl := cl) rfl hs hclos ok.kind ok.loc ?_
  refine src s _ E hs' fun v h1 tk1 M1 φ1 S1 m1 itb => itb { s with heap := h1, toks := tk1 } _ E rfl fun it h2 tk2 M2 φ2 S2 m2 r2 => ?_
  obtain ⟨I, rfl, hIF, hI0, x2⟩ := r2
  have X2 := (X.step S1 m1).step S2 m2
  have mm := m1.trans X.S m2
  refine comp_block (RR := fun acc C => compPost (model p.prog p.w) A E none Q acc C) hh ok hcl hcf (htg cl) X.S X2 mm x2 hI0 (fun y c e => ?_) ev ts hz e _ rfl ?_
  · rintro rfl
    obtain ⟨_, _, v, o, ho, _⟩ := X.F.cells y c e
    exact get_lt ho hI0
  · intro D C h' tk M' φ' ys S' m' hD hDM hDφ V' hCM hCφ hn hD0 hC0 hDC
    obtain ⟨mm', hn⟩ := hn
    refine ⟨mm', hn, fun h'' hsb => ?_⟩
    have k1 := KI.drop (h' := h') hDM hDφ fun b o _ e => e
    have k2 := KI.drop (M := M'.filter fun b => decide (b ≠ D)) (h' := h'') (List.mem_filter.mpr ⟨hCM, decide_eq_true (Ne.symm hDC)⟩) hCφ fun b o n e => hsb.extBut b o n e
    refine kk (.ref D) h'' tk _ φ' (k2.St (k1.St S')) (k2.Mv X.S hC0 (k1.Mv X.S hD0 m')) ?_
    obtain ⟨n, hD⟩ := hD
    exact .lst ⟨n, k2.k _ _ hDC hD⟩ (fun z => not_filter (k2.s _ z)) ((V'.mono k1.gr).mono k2.gr)
theorem comp_use {F : Fns} {target iter elt : Expr} {ifs : List Expr} {pos spos py : Pos} {y : Str} {i : Nat} {tg : List Nat} {xe : Mine.X} {xc : Option Mine.X} {l : List Mine.D} {k : Nat} (hh : A.handled = none) (hsw : swapsWith (.ListComp elt [⟨target, iter, ifs, 0⟩] scope pos) (some (.Name y py)) spos.line env = pure true)
    (sto : StOk env own names i y) (ok : CompOk env names scope cnames caps) (htg : ∀ cl C, TgOk (compEnvC scope cl C env) false cnames target tg) (X : FS p B env own FA names h M φ σ ρ) (hs : ∀ x, foldedSetIterable iter env x = pure x)
    (src : Run p B A (eval iter env) h M φ σ₁ (Itb p B A FA h items σ₁))
    (ev : ∀ {cl C ρ σ h M φ w σ'}, F.ev ρ σ xe = some (w, σ') → FS p B (compEnvC scope cl C env) false [C] cnames h M φ σ ρ → Run p B A (eval elt (compEnvC scope cl C env)) h M φ σ' (U p w))
    (ts : ∀ {cl C ρ σ h M φ b σ'}, condL F ρ σ xc = some (b, σ') → FS p B (compEnvC scope cl C env) false [C] cnames h M φ σ ρ → Run p B A (forIn ifs true fun c r => if r = true then do let ok ← isTrue c (compEnvC scope cl C env) (eval c (compEnvC scope cl C env)); Pure.pure (ForInStep.yield ok) else Pure.pure (ForInStep.yield r)) h M φ σ' (fun x _ _ _ => x = b))
    (hz : items.length ≤ sizeLine) (e : compL F tg xe xc items (capsOf ρ caps ++ nones k) σ₁ = some (l, σe)) :
    RunS p B A env own FA names (exec (.Assign [.Name y py] (.ListComp elt [⟨target, iter, ifs, 0⟩] scope pos) spos) env) h M φ σe (setNth ρ i (some (.d (.lst l)))) (fun f h' M' => FlR p h' M' .next f) := fun s Q E hs' kk => by
  obtain ⟨cl, hclos, hcl, hcf⟩ := closure_ok (scope := scope) (env := env) ok.free
  rw [exec_Assign_Name_used _ _ _ _ hsw]
  refine wpAny_bind (wpAny_standAt (wpAny_bind ?_))
  show wpAny _ A (do let _ ← comprehension (.ListComp elt [⟨target, iter, ifs, 0⟩] scope pos) scope env _ (newList []) false (eval iter env) (some (assign (.Name y py) env))) _ _ s
  refine wpAny_bind (wpAny_mono (wpAny_comprehension_free (use := some (assign (.Name y py) env)) (cl := cl) (Q := fun _ s' => Q .next s') rfl hs hclos ok.kind ok.loc ?_) (fun _ s' hq => wpAny_pure (wpAny_pure hq)) fun _ _ e => e)
  refine src s _ E hs' fun v h1 tk1 M1 φ1 S1 m1 itb => itb { s with heap := h1, toks := tk1 } _ E rfl fun it h2 tk2 M2 φ2 S2 m2 r2 => ?_
  obtain ⟨I, rfl, hIF, hI0, x2⟩ := r2
  have X2 := (X.step S1 m1).step S2 m2
  have mm := m1.trans X.S m2
  refine comp_block (RR := fun acc C => compPost (model p.prog p.w) A E (some (assign (.Name y py) env)) (fun _ s' => Q .next s') acc C) hh ok hcl hcf (htg cl) X.S X2 mm x2 hI0 (fun y c e => ?_) ev ts hz e _ rfl ?_
  · rintro rfl
    obtain ⟨_, _, v, o, ho, _⟩ := X.F.cells y c e
    exact get_lt ho hI0
  · intro D C h' tk M' φ' ys S' m' hD hDM hDφ V' hCM hCφ hn hD0 hC0 hDC
    obtain ⟨mm', hn⟩ := hn
    have k1 := KI.drop (h' := h') hDM hDφ fun b o _ e => e
    have X1 := X.step (k1.St S') (k1.Mv X.S hD0 m')
    have V1 : VRel p h' (M'.filter fun b => decide (b ≠ D)) (.ref D) (.lst l) := .lst hD not_filter (V'.mono k1.gr)
    have notFA : ∀ a, h.get? a = none → a ∉ FA := fun a z q => (X.S.low a (X.F.fa a q).1).1.no z
    show wpAny _ A (assign (.Name y py) env (.ref D)) _ _ _
    refine RunS.of_eq (assign_Name y py (.ref D)) (RunS.standAt (run_store X1 sto (.d V1))) { s with heap := h', toks := tk } _ E rfl fun _ h3 tk3 M3 φ3 X3 m3 _ => ?_
    have hCM1 : C ∈ M'.filter fun b => decide (b ≠ D) := List.mem_filter.mpr ⟨hCM, decide_eq_true (Ne.symm hDC)⟩
    refine ⟨mm', hn.at' fun o e => m3.keep C o (notFA C hC0) hCφ e, fun h'' hsb => ?_⟩
    have hCφ3 : some C ∉ φ3 := fun z => (X1.S.low C hCM1).1.no (m3.news C z hCφ)
    have k2 := KI.drop (M := M3) (h' := h'') ((m3.sub C hCM1).resolve_right hCφ) hCφ3 fun b o n e => hsb.extBut b o n e
    refine kk .next h'' tk3 _ φ3 (k2.FS X3 (notFA C hC0) (fun y c e => ?_)) (k2.Mv X.S hC0 (((k1.Mv X.S hD0 m').mono (by simp)).trans X.S m3)) .next
    rintro rfl
    obtain ⟨_, _, v, o, ho, _⟩ := X.F.cells y c e
    exact get_lt ho hC0
end
end Mine

namespace Mine
open PySem PySem.W PyProof.Rows PySem.Calls PySem.SeqAt

theorem lookup_none {α : Type} : ∀ {l : List (Str × α)} {n : Str}, n ∉ l.map (·.1) → l.lookup n = none
  | [], _, _ => rfl
  | (k, v) :: r, n, h => by
    simp only [List.map_cons, List.mem_cons, not_or] at h
    rw [List.lookup_cons, beq_eq_false_iff_ne.mpr h.1]
    exact lookup_none h.2
theorem lookup_app {α : Type} : ∀ {l r : List (Str × α)} {n : Str}, n ∉ l.map (·.1) → (l ++ r).lookup n = r.lookup n
  | [], _, _, _ => rfl
  | (k, v) :: l, r, n, h => by
    simp only [List.map_cons, List.mem_cons, not_or] at h
    rw [List.cons_append, List.lookup_cons, beq_eq_false_iff_ne.mpr h.1]
    exact lookup_app h.2
theorem zip_names {α : Type} : ∀ {ns : List Str} {vs : List α}, ns.length = vs.length → (ns.zip vs).map (·.1) = ns
  | [], _, _ => rfl
  | n :: ns, [], h => by simp at h
  | n :: ns, v :: vs, h => by simp only [List.zip_cons_cons, List.map_cons]; rw [zip_names (by simpa using h)]
theorem bind_filter {α : Type} : ∀ (ns : List Str) (vs : List α) (pre : List (Str × α)), ns.length = vs.length → ns.Nodup → (∀ n ∈ ns, n ∉ pre.map (·.1)) →
    (ns.filterMap fun n => ((pre ++ ns.zip vs).lookup n).map (n, ·)) = ns.zip vs
  | [], _, _, _, _, _ => rfl
  | n :: ns, [], _, h, _, _ => by simp at h
  | n :: ns, v :: vs, pre, h, hn, hp => by
    obtain ⟨h1, h2⟩ := List.nodup_cons.mp hn
    have e : (pre ++ (n :: ns).zip (v :: vs)).lookup n = some v := by
      rw [lookup_app (hp n (.head _))]
      simp [List.lookup_cons]
    rw [List.filterMap_cons, e]
    simp only [Option.map_some, List.zip_cons_cons]
    congr 1
    have := bind_filter ns vs (pre ++ [(n, v)]) (by simpa using h) h2 (fun m hm => by
      rw [List.map_append, List.mem_append]
      rintro (q | q)
      · exact hp m (.tail _ hm) q
      · simp at q; subst q; exact h1 hm)
    rw [List.append_assoc] at this
    exact this
theorem lookup_mem {α : Type} : ∀ {l : List (Str × α)} {n : Str}, n ∈ l.map (·.1) → (l.lookup n).isSome = true
  | [], n, m => by simp at m
  | (k, v) :: r, n, m => by
    rw [List.lookup_cons]
    cases q : n == k with
    | true => rfl
    | false =>
      rcases List.mem_cons.mp m with z | z
      · exact absurd z (by simpa using q)
      · exact lookup_mem z
theorem bind_lookup {α : Type} {ns : List Str} {vs : List α} (h : ns.length = vs.length) (n : Str) (m : n ∈ ns) : ((ns.zip vs).lookup n).isSome = true := lookup_mem (by rw [zip_names h]; exact m)
theorem forIn_fix {α β : Type} {l : List α} {c : β} {f : α → β → Sem (ForInStep β)} (h : ∀ x ∈ l, f x c = pure (.yield c)) : (forIn l c f : Sem β) = pure c := by
  induction l with
  | nil => rfl
  | cons x l ih =>
    rw [List.forIn_cons, h x (.head _)]
    simp only [pure_bind]
    exact ih fun y m => h y (.tail _ m)
/-- plain parameters -/
structure PlainP (p : Arguments) : Prop where
  a : p.posonlyargs = []
  b : p.kwonlyargs = []
  c : p.vararg = none
  d : p.kwarg = none
  n : (p.args.map (·.arg)).Nodup
section
variable {M : Model} {A : Around} {E : Value → Shared → Prop} {s : Shared}
theorem bind_all {fd : FuncData} {vals : List Value} {dl : Option (Array Value)} {Q : List (Str × Value) → Shared → Prop} (P : PlainP fd.params) (hl : (fd.params.args.map (·.arg)).length = vals.length)
    (hd : ∀ {Q : Option (Array Value) → Shared → Prop}, Q dl s → wpAny M A (seqItems? fd.defaults) Q E s) (h : Q ((fd.params.args.map (·.arg)).zip vals) s) : wpAny M A (bindArgs fd ⟨vals, []⟩) Q E s := by
  unfold bindArgs
  simp only [P.a, P.b, P.c, P.d, List.map_nil, List.nil_append, List.append_nil, List.forIn_nil, pure_bind]
  refine wpAny_bind (hd ?_)
  rw [if_neg (by rw [hl]; simp)]
  have hm : ((((fd.params.args.map (·.arg)).take ((fd.params.args.map (·.arg)).length - ((dl.getD #[]).toList.drop ((dl.getD #[]).toList.length - (fd.params.args.map (·.arg)).length)).length)).filter fun n => (((fd.params.args.map (·.arg)).zip vals).lookup n).isNone).isEmpty) = true := by
    rw [List.isEmpty_iff, List.filter_eq_nil_iff]
    intro n hn
    rw [Option.isNone_iff_eq_none]
    intro q
    have := bind_lookup hl n (List.mem_of_mem_take hn)
    rw [q] at this; cases this
  simp only [hm, Bool.not_true, Bool.false_eq_true, if_false]
  rw [forIn_fix (fun x hx => by
    obtain ⟨n, d⟩ := x
    have hn : n ∈ fd.params.args.map (·.arg) := List.mem_of_mem_drop (List.of_mem_zip hx).1
    have := bind_lookup hl n hn
    dsimp only
    rw [if_neg (by rw [Option.isNone_iff_eq_none]; intro q; rw [q] at this; cases this)])]
  simp only [pure_bind]
  rw [if_neg (by simp)]
  have := bind_filter (fd.params.args.map (·.arg)) vals [] hl P.n (by simp)
  rw [List.nil_append] at this
  rw [this]
  exact wpAny_pure h
theorem bind_one {fd : FuncData} {vals : List Value} {ms : List Str} {last : Str} {d : Value} {Q : List (Str × Value) → Shared → Prop} (P : PlainP fd.params) (hn : fd.params.args.map (·.arg) = ms ++ [last]) (hl : ms.length = vals.length)
    (hd : ∀ {Q : Option (Array Value) → Shared → Prop}, Q (some #[d]) s → wpAny M A (seqItems? fd.defaults) Q E s) (h : Q ((ms ++ [last]).zip (vals ++ [d])) s) : wpAny M A (bindArgs fd ⟨vals, []⟩) Q E s := by
  have hnd := P.n
  rw [hn] at hnd
  have hnd' : ms.Nodup ∧ last ∉ ms := by
    rw [List.nodup_append] at hnd
    exact ⟨hnd.1, fun q => hnd.2.2 _ q _ (by simp) rfl⟩
  have hz : (ms ++ [last]).zip vals = ms.zip vals := by
    have := List.zip_append (r₁ := [last]) (r₂ := ([] : List Value)) hl
    rw [List.append_nil] at this
    rw [this]; simp
  have hlast : (ms.zip vals).lookup last = none := lookup_none (by rw [zip_names hl]; exact hnd'.2)
  unfold bindArgs
  simp only [P.a, P.b, P.c, P.d, List.map_nil, List.nil_append, List.append_nil, List.forIn_nil, pure_bind]
  refine wpAny_bind (hd ?_)
  rw [hn]
  have e1 : (ms ++ [last]).length = vals.length + 1 := by simp [hl]
  rw [if_neg (by rw [e1]; simp), e1, hz]
  have hdrop : (((some #[d]).getD #[]).toList.drop (((some #[d]).getD #[] : Array Value).toList.length - (vals.length + 1))) = [d] := by
    rw [show ((some #[d]).getD #[] : Array Value).toList.length - (vals.length + 1) = 0 by simp]; rfl
  rw [hdrop]
  have hm : (((ms ++ [last]).take (vals.length + 1 - [d].length)).filter fun n => ((ms.zip vals).lookup n).isNone).isEmpty = true := by
    rw [List.isEmpty_iff, List.filter_eq_nil_iff]
    intro n hn'
    rw [Option.isNone_iff_eq_none]
    intro q
    have hm : n ∈ ms := by
      rw [show vals.length + 1 - [d].length = ms.length by simp [hl], List.take_left] at hn'
      exact hn'
    have := bind_lookup hl n hm
    rw [q] at this; cases this
  simp only [hm, Bool.not_true, Bool.false_eq_true, if_false]
  rw [show (ms ++ [last]).drop (vals.length + 1 - [d].length) = [last] by
    rw [show vals.length + 1 - [d].length = ms.length by simp [hl], List.drop_left]]
  show wpAny _ _ (forIn [(last, d)] (ms.zip vals) _ >>= _) _ _ _
  rw [List.forIn_cons]
  simp only [hlast, Option.isNone_none, if_true, pure_bind, List.forIn_nil]
  rw [if_neg (by simp)]
  have := bind_filter (ms ++ [last]) (vals ++ [d]) [] (by simp [hl]) hnd (by simp)
  rw [List.nil_append] at this
  rw [show ms.zip vals ++ [(last, d)] = (ms ++ [last]).zip (vals ++ [d]) by rw [List.zip_append hl]; rfl, this]
  exact wpAny_pure h
end
end Mine

namespace Mine
open PySem PySem.W PyProof.Rows PySem.Calls PySem.SeqAt

noncomputable def dflOf (K : Frag) : Value → Option (Option (Array Value))
  | .none => some none
  | .ref T => match K.lookup T with
    | some ⟨_, _, .seq items _, _⟩ => some (some items)
    | _ => none
  | _ => none
noncomputable def litV : Value → Mine.D → Bool
  | .none, .none => true
  | .bool a, .bool b => a == b
  | _, _ => false
/-- what is asked of a def -/
structure FnK (K : Frag) (f : Fn) (fd : FuncData) (body : List Stmt) : Prop where
  look : ∃ oc od osl, K.lookup f.addr = some ⟨oc, od, .func fd, osl⟩
  body : fd.body = .stmts body
  clo : fd.closure = []
  co : fd.scope.isCoroutine = false
  gen : fd.scope.isGenerator = false
  kind : fd.scope.kind = .function
  glob : fd.globals = mainGlobals
  bi : fd.builtins = builtinsNs
  code : codeIn K fd.code fd.qualname = true
  pp : PlainP fd.params
  params : fd.params.args.map (·.arg) = f.names.take f.params
  le : f.params ≤ f.names.length
  kinds : ∀ x ∈ f.names.take f.params, fd.scope.names.lookup x = some .local ∨ fd.scope.names.lookup x = some .cell
  dfl : ∃ dl, dflOf K fd.defaults = some dl ∧ ∀ d, f.defaults = [d] → ∃ v, dl = some #[v] ∧ litV v d = true
theorem cellsFrom_some : ∀ {names : List (Str × NameKind)} {n : Nat} {acc : List (Str × Addr)} {x : Str}, (names.lookup x = some .cell ∨ (acc.lookup x).isSome = true) → ((cellsFrom n names acc).lookup x).isSome = true
  | [], n, acc, x, h => by rcases h with h | h; cases h; exact h
  | (k, kd) :: r, n, acc, x, h => by
    unfold cellsFrom
    split
    · refine cellsFrom_some ?_
      by_cases q : x = k
      · subst q; right; rw [List.lookup_cons]; simp
      · have hb : (x == k) = false := beq_eq_false_iff_ne.mpr q
        rcases h with h | h
        · left; rw [List.lookup_cons, hb] at h; exact h
        · right; rw [List.lookup_cons, hb]; exact h
    · rename_i hk
      refine cellsFrom_some ?_
      rcases h with h | h
      · rw [List.lookup_cons] at h
        split at h
        · cases h; simp at hk
        · exact .inl h
      · exact .inr h
theorem bindL_other {k : Str → Option NameKind} : ∀ {b : List (Str × Value)} {m : Str → Option Value} {x : Str}, x ∉ b.map (·.1) → bindL k b m x = m x
  | [], _, _, _ => rfl
  | (n, v) :: r, m, x, h => by
    simp only [List.map_cons, List.mem_cons, not_or] at h
    show bindL k r _ x = _
    rw [bindL_other h.2]
    split
    · dsimp only; rw [if_neg h.1]
    · rfl
theorem bindC_other {k : Str → Option NameKind} : ∀ {b : List (Str × Value)} {m : Str → Option Value} {x : Str}, x ∉ b.map (·.1) → bindC k b m x = m x
  | [], _, _, _ => rfl
  | (n, v) :: r, m, x, h => by
    simp only [List.map_cons, List.mem_cons, not_or] at h
    show bindC k r _ x = _
    rw [bindC_other h.2]
    split
    · rfl
    · dsimp only; rw [if_neg h.1]
theorem bindL_get {k : Str → Option NameKind} : ∀ {b : List (Str × Value)} {m : Str → Option Value} {x : Str} {v : Value}, (b.map (·.1)).Nodup → (x, v) ∈ b → k x = some .local → bindL k b m x = some v
  | [], _, _, _, _, h, _ => by simp at h
  | (n, u) :: r, m, x, v, hn, h, hk => by
    obtain ⟨h1, h2⟩ := List.nodup_cons.mp hn
    rcases List.mem_cons.mp h with q | q
    · obtain ⟨rfl, rfl⟩ := Prod.mk.inj q
      show bindL k r _ x = _
      rw [bindL_other h1, if_pos hk]; simp
    · exact bindL_get (b := r) h2 q hk
theorem bindC_get {k : Str → Option NameKind} : ∀ {b : List (Str × Value)} {m : Str → Option Value} {x : Str} {v : Value}, (b.map (·.1)).Nodup → (x, v) ∈ b → k x ≠ some .local → bindC k b m x = some v
  | [], _, _, _, _, h, _ => by simp at h
  | (n, u) :: r, m, x, v, hn, h, hk => by
    obtain ⟨h1, h2⟩ := List.nodup_cons.mp hn
    rcases List.mem_cons.mp h with q | q
    · obtain ⟨rfl, rfl⟩ := Prod.mk.inj q
      show bindC k r _ x = _
      rw [bindC_other h1, if_neg hk]; simp
    · exact bindC_get (b := r) h2 q hk
section
variable {p : Pm} {K : Frag} {mg mb : Str → Option Value} {B : Heap} {A : Around} {h h' : Heap} {M M' : List Addr} {φ φ' : List (Option Addr)} {σ σ' : List C}
theorem WRels.length {vs : List Value} {ws : List W} (r : WRels p h M φ vs ws) : vs.length = ws.length := by
  induction r with
  | nil => rfl
  | cons _ _ ih => simp [ih]
theorem WRels.get {vs : List Value} {ws : List W} (r : WRels p h M φ vs ws) {n : Nat} {w : W} (e : ws[n]? = some w) : ∃ v, vs[n]? = some v ∧ WRel p h M φ v w := by
  induction r generalizing n with
  | nil => simp at e
  | cons a _ ih =>
    cases n with
    | zero => simp at e; subst e; exact ⟨_, rfl, a⟩
    | succ n => simp at e; exact ih e
theorem litV_rel {v : Value} {d : Mine.D} (e : litV v d = true) : VRel p h M v d := by
  unfold litV at e
  split at e
  · exact .none
  · rw [eq_of_beq e]; exact .bool _
  · cases e
/-- the frame of a def -/
theorem fn_frame {f : Fn} {fd : FuncData} {body : List Stmt} {s s₁ : Shared} {vs : List Value} (fk : FnK K f fd body) (S : St p B s.heap M φ σ) (hl : vs.length = f.params)
    (x : InCallC s (callEnvC fd s.heap.objs.size f.addr).locals (bindL (callEnvC fd s.heap.objs.size f.addr).kindOf ((fd.params.args.map (·.arg)).zip vs) fun _ => none) (callEnvC fd s.heap.objs.size f.addr).cells
      (bindC (callEnvC fd s.heap.objs.size f.addr).kindOf ((fd.params.args.map (·.arg)).zip vs) fun _ => none) s₁) :
    ∃ FA, (∀ a ∈ FA, s.heap.get? a = none) ∧ St p B s₁.heap (FA ++ M) φ σ ∧ Fr' (callEnvC fd s.heap.objs.size f.addr) true s₁.heap (FA ++ M) φ FA ∧ Mv [] s.heap M φ s₁.heap (FA ++ M) φ ∧
      ∀ (i : Nat) (v : Value), vs[i]? = some v → ∃ y, f.names[i]? = some y ∧ Has (callEnvC fd s.heap.objs.size f.addr) s₁.heap y v := by
  let env := callEnvC fd s.heap.objs.size f.addr
  let FA := env.locals :: env.cells.filterMap fun y => env.cells.lookup y.1
  have mem : ∀ y c, env.cells.lookup y = some c → c ∈ FA := fun y c e => List.mem_cons_of_mem _ (List.mem_filterMap.mpr ⟨(y, c), mem_of_lookup e, e⟩)
  have inv : ∀ c ∈ FA, c = env.locals ∨ ∃ y, env.cells.lookup y = some c := fun c m => by
    rcases List.mem_cons.mp m with q | q
    · exact .inl q
    · obtain ⟨y, _, e⟩ := List.mem_filterMap.mp q; exact .inr ⟨_, e⟩
  have hFA : ∀ a ∈ FA, s.heap.get? a = none := fun a m => by
    rcases inv a m with q | ⟨y, e⟩
    · rw [q]; exact none_ge (Nat.le_refl _)
    · have := x.above y a (mem_of_lookup e); exact none_ge (Nat.le_of_lt this)
  have hk := x.toInCall.keep
  have dfA : ∀ a ∈ FA, Df s₁.heap a := fun a m => by
    rcases inv a m with q | ⟨y, e⟩
    · obtain ⟨o, _, _, e, _⟩ := x.toInCall.ns; exact ⟨o, q ▸ e⟩
    · obtain ⟨o, e, _⟩ := x.cell y a e; exact ⟨o, e⟩
  have nφ : ∀ a ∈ FA, some a ∉ φ := fun a m z => (S.low a (S.sub a z)).1.no (hFA a m)
  have gr : Gr s.heap M s₁.heap (FA ++ M) := ⟨fun b o _ e => hk b o e, fun b o n e m => by
    rcases List.mem_append.mp m with q | q
    · exact get_lt e (hFA b q)
    · exact n q⟩
  have hnames : (fd.params.args.map (·.arg)).length = vs.length := by rw [fk.params, List.length_take, Nat.min_eq_left fk.le, hl]
  refine ⟨FA, hFA, ⟨fun b o e => hk b o (S.base b o e), fun a m => ?_, fun a m => List.mem_append_right _ (S.sub a m), S.nd, S.len, S.dead, fun j a c e1 e2 => (S.cells j a c e1 e2).mono gr fun o e => hk a o e⟩,
    ⟨fk.kind, fk.glob, fk.bi, ⟨_, x.toInCall.ns⟩, .head _, fun a m => ⟨List.mem_append_left _ m, nφ a m⟩, fun y c e => ⟨⟨List.mem_append_left _ (mem y c e), nφ c (mem y c e)⟩, Nat.ne_of_gt (x.above y c (mem_of_lookup e)), _, x.cell y c e⟩,
      fun y z c e1 e2 => name_of_addr x.apart (mem_of_lookup e1) (mem_of_lookup e2), fun _ y c e => mem y c e⟩,
    ⟨fun b o _ _ e => hk b o e, fun b m => .inl (List.mem_append_right _ m), fun b m n => ?_, fun _ _ _ e => e, Nat.le_refl _, fun b a n => absurd a n, fun b ⟨o, e⟩ => ⟨o, hk b o e⟩⟩, fun i v hv => ?_⟩
  · rcases List.mem_append.mp m with q | q
    · exact ⟨dfA a q, base_none S (hFA a q)⟩
    · exact ⟨let ⟨o, e⟩ := (S.low a q).1; ⟨o, hk a o e⟩, (S.low a q).2⟩
  · rcases List.mem_append.mp m with q | q
    · exact hFA b q
    · exact absurd q n
  · have hi : i < f.params := by have := (List.getElem?_eq_some_iff.mp hv).1; omega
    have hx : i < f.names.length := by have := fk.le; omega
    have hnx : f.names[i]? = some f.names[i] := List.getElem?_eq_getElem hx
    have hpx : (fd.params.args.map (·.arg))[i]? = some f.names[i] := by rw [fk.params, List.getElem?_take_of_lt hi]; exact hnx
    have hmem : (f.names[i], v) ∈ (fd.params.args.map (·.arg)).zip vs := by
      refine List.mem_of_getElem? (i := i) ?_
      rw [List.getElem?_zip_eq_some]
      exact ⟨hpx, hv⟩
    have hnd : (((fd.params.args.map (·.arg)).zip vs).map (·.1)).Nodup := by rw [zip_names hnames]; exact fk.pp.n
    have hin : f.names[i] ∈ f.names.take f.params := by rw [← fk.params]; exact List.mem_of_getElem? hpx
    refine ⟨f.names[i], hnx, ?_⟩
    rcases fk.kinds _ hin with kd | kd
    · exact .loc kd x.toInCall.ns (bindL_get hnd hmem kd)
    · have hsome : (env.cells.lookup f.names[i]).isSome = true := cellsFrom_some (.inl kd)
      obtain ⟨c, hc⟩ := Option.isSome_iff_exists.mp hsome
      have := x.cell _ c hc
      rw [bindC_get hnd hmem (by show fd.scope.names.lookup _ ≠ _; rw [kd]; simp)] at this
      exact .cell kd hc this
end
end Mine

namespace Mine
open PySem PySem.W PyProof.Rows PySem.Calls PySem.SeqAt

section
variable {p : Pm} {K : Frag} {mg mb : Str → Option Value} {B : Heap} {A : Around} {h h' : Heap} {M M' : List Addr} {φ φ' : List (Option Addr)} {σ σ' : List C}
theorem take_get {α : Type} {l : List α} {n k : Nat} {x : α} (e : (l.take n)[k]? = some x) : k < n ∧ l[k]? = some x := by
  rw [List.getElem?_take] at e
  split at e
  · rename_i q; exact ⟨q, e⟩
  · cases e
theorem St.take (S : St p B h M φ σ) (n : Nat) : St p B h M (φ.take n) (σ.take n) where
  base := S.base
  low := S.low
  sub a m := S.sub a (List.mem_of_mem_take m)
  nd i j a e1 e2 := S.nd i j a (take_get e1).2 (take_get e2).2
  len := by rw [List.length_take, List.length_take, S.len]
  dead k := by
    rw [List.getElem?_take, List.getElem?_take]
    split
    · exact S.dead k
    · simp
  cells k a c e1 e2 := S.cells k a c (take_get e1).2 (take_get e2).2
theorem Mv.take {X : List Addr} (m : Mv X h M φ h' M' φ') : Mv X h M φ h' M' (φ'.take φ.length) where
  keep := m.keep
  sub := m.sub
  fresh := m.fresh
  phi k a l e := m.phi k a l (take_get e).2
  len := by rw [List.length_take]; exact Nat.le_min.mpr ⟨Nat.le_refl _, m.len⟩
  news b e n := m.news b (List.mem_of_mem_take e) n
  defd := m.defd

/-- what a call of the def at a gives -/
noncomputable def CallR (p : Pm) (B : Heap) (A : Around) (a : Addr) (ws : List W) (σ : List C) (d : Mine.D) (σ' : List C) : Prop :=
  ∀ (s : Shared) (vs : List Value) (M : List Addr) (φ : List (Option Addr)) (R : Result → Shared → Prop), St p B s.heap M φ σ → WRels p s.heap M φ vs ws →
    (∀ v h' tk M' φ', St p B h' M' φ' σ' → Mv [] s.heap M φ h' M' φ' → φ'.length = φ.length → VRel p h' M' v d → R (.ok (.ret v)) { s with heap := h', toks := tk }) →
    codeAny (model p.prog p.w) A (.call (.ref a) ⟨vs, []⟩) R s

theorem dfl_items {fd : FuncData} {s : Shared} {dl : Option (Array Value)} {M : Model} {E : Value → Shared → Prop} {Q : Option (Array Value) → Shared → Prop} (X : K.In s.heap) (e : dflOf K fd.defaults = some dl) (h : Q dl s) : wpAny M A (seqItems? fd.defaults) Q E s := by
  unfold dflOf at e
  split at e
  · rename_i q; cases e; rw [q]; simp only [seqItems?]; exact wpAny_pure h
  · rename_i T q
    rw [q]
    split at e
    · rename_i items n x z; cases e; exact wpAny_seqItems (X _ _ z) rfl h
    · cases e
  · cases e
theorem bind_kinds {f : Fn} {fd : FuncData} {body : List Stmt} {vs : List Value} {n : Nat} (fk : FnK K f fd body) : ∀ x ∈ (fd.params.args.map (·.arg)).zip vs, fd.scope.names.lookup x.1 = some .local ∨ (fd.scope.names.lookup x.1 = some .cell ∧ ((cellsFrom n fd.scope.names []).lookup x.1).isSome = true) := fun x hx => by
  have hm : x.1 ∈ f.names.take f.params := by rw [← fk.params]; exact (List.of_mem_zip hx).1
  rcases fk.kinds _ hm with q | q
  · exact .inl q
  · exact .inr ⟨q, cellsFrom_some (.inl q)⟩
theorem FnK.len {f : Fn} {fd : FuncData} {body : List Stmt} (fk : FnK K f fd body) : (fd.params.args.map (·.arg)).length = f.params := by rw [fk.params, List.length_take, Nat.min_eq_left fk.le]
/-- what an argument's place holds -/
noncomputable def Arg (vs us : List Value) (ws : List W) (i : Nat) (w : W) : Prop := ∃ v, us[i]? = some v ∧ ((vs[i]? = some v ∧ ws[i]? = some w) ∨ ∃ d, w = .d d ∧ litV v d = true)
/-- what is known behind the call of a def, ahead of its first statement -/
structure Ent (p : Pm) (B : Heap) (f : Fn) (env : Env) (s s₁ : Shared) (vs us : List Value) (ws : List W) (ρ : List (Option W)) (M FA : List Addr) (φ : List (Option Addr)) (σ : List C) : Prop where
  arg : ∀ (i : Nat) (w : W), ρ[i]? = some (some w) → Arg vs us ws i w
  same : ∀ (i : Nat) (v : Value), vs[i]? = some v → us[i]? = some v
  new : ∀ a ∈ FA, s.heap.get? a = none
  S : St p B s₁.heap (FA ++ M) φ σ
  F : Fr' env true s₁.heap (FA ++ M) φ FA
  m : Mv [] s.heap M φ s₁.heap (FA ++ M) φ
  has : ∀ (i : Nat) (v : Value), us[i]? = some v → ∃ y, f.names[i]? = some y ∧ Has env s₁.heap y v
  eq : ∃ h t, s₁ = { s with heap := h, toks := t }
theorem places_get {ws : List W} {k i : Nat} {w : W} (e : (ws.map some ++ nones k)[i]? = some (some w)) : ws[i]? = some w := by
  by_cases q : i < (ws.map some).length
  · rw [List.getElem?_append_left q, List.getElem?_map] at e
    cases z : ws[i]? with
    | none => rw [z] at e; cases e
    | some w' => rw [z] at e; cases e; rfl
  · rw [List.getElem?_append_right (Nat.le_of_not_lt q)] at e
    exact absurd e (nones_get _ _ _)
/-- a def is called: from its frame on -/
theorem call_enter {f : Fn} {fd : FuncData} {body : List Stmt} {s : Shared} {vs us : List Value} {ws : List W} {ρ : List (Option W)} {R : Result → Shared → Prop} (Y : Bs K mg mb B) (fk : FnK K f fd body) (S : St p B s.heap M φ σ) (hl : us.length = f.params)
    (ha : ∀ (i : Nat) (w : W), ρ[i]? = some (some w) → Arg vs us ws i w) (hu : ∀ (i : Nat) (v : Value), vs[i]? = some v → us[i]? = some v)
    (k : ∀ FA s₁ E, Ent p B f (callEnvC fd s.heap.objs.size f.addr) s s₁ vs us ws ρ M FA φ σ → wpAny (model p.prog p.w) (A.deeper (callEnvC fd s.heap.objs.size f.addr)) (execs body (callEnvC fd s.heap.objs.size f.addr)) (fun fl s' => R (.ok (.ret (match fl with | .ret v => v | _ => .none))) s') E s₁) :
    wpAny (model p.prog p.w) A.in1 (newFunctionEnv fd.scope fd.globals fd.closure ((fd.params.args.map (·.arg)).zip us) (fd.qualname ++ ".<locals>.") (some f.addr) fd.code none fd.builtins)
        (fun env s₂ => s₂.heap.NoLimit ∧ codeAny (model p.prog p.w) A (.func body env) R s₂) (fun e s' => R (.error e) s') s := by
  rw [fk.clo]
  refine wpAny_newFunctionEnv_cells fk.kind (bind_kinds fk) fun env he s₁ x => ?_
  have he' : env = callEnvC fd s.heap.objs.size f.addr := he
  subst he'
  clear he
  obtain ⟨FA, hFA, S₁, F₁, m, H⟩ := fn_frame fk S hl x
  obtain ⟨h₁, t₁, o₁⟩ := x.toInCall.same
  exact ⟨(Y.nolimit.keeps S.base).keeps x.toInCall.keep, codeAny_func (k FA s₁ _ ⟨ha, hu, hFA, S₁, F₁, m, H, h₁, t₁, o₁⟩)⟩
theorem call_gen {f : Fn} {fd : FuncData} {body : List Stmt} {s : Shared} {vs : List Value} {ws : List W} {ρ : List (Option W)} {R : Result → Shared → Prop} (hA : A.depth < recursionLimit) (Y : Bs K mg mb B) (fk : FnK K f fd body) (S : St p B s.heap M φ σ) (hl : vs.length = ws.length) (hb : bindArgs' f ws = some ρ)
    (k : ∀ FA s₁ us E, Ent p B f (callEnvC fd s.heap.objs.size f.addr) s s₁ vs us ws ρ M FA φ σ → wpAny (model p.prog p.w) (A.deeper (callEnvC fd s.heap.objs.size f.addr)) (execs body (callEnvC fd s.heap.objs.size f.addr)) (fun fl s' => R (.ok (.ret (match fl with | .ret v => v | _ => .none))) s') E s₁) :
    codeAny (model p.prog p.w) A (.call (.ref f.addr) ⟨vs, []⟩) R s := by
  obtain ⟨oc, od, osl, ho⟩ := fk.look
  have X := Y.K.keeps S.base
  refine codeAny_call_function (fd := fd) (body := body) hA (X _ _ ho) rfl fk.co fk.gen fk.body (codeRec_of X fk.code) ?_
  obtain ⟨dl, hdl, hd⟩ := fk.dfl
  unfold bindArgs' at hb
  split at hb
  · rename_i hq
    cases hb
    have hl' : vs.length = f.params := hl.trans (Nat.eq_of_beq_eq_true hq)
    refine bind_all fk.pp (fk.len.trans hl'.symm) (fun h => dfl_items X hdl h) ?_
    refine call_enter Y fk S hl' (fun i w e => ?_) (fun i v e => e) fun FA s₁ E en => k FA s₁ vs E en
    have e' := places_get e
    have hi : i < vs.length := by rw [hl]; exact (List.getElem?_eq_some_iff.mp e').1
    exact ⟨vs[i], List.getElem?_eq_getElem hi, .inl ⟨List.getElem?_eq_getElem hi, e'⟩⟩
  · split at hb
    · rename_i dd hdd
      split at hb
      · rename_i hq
        cases hb
        obtain ⟨v, hv, hlit⟩ := hd _ (one_eq hdd)
        have hl2 : ws.length + 1 = f.params := Nat.eq_of_beq_eq_true hq
        have hpl := fk.len
        obtain ⟨ms, last, hms⟩ : ∃ ms last, fd.params.args.map (·.arg) = ms ++ [last] := by
          rcases List.eq_nil_or_concat (fd.params.args.map (·.arg)) with q | ⟨a, b, q⟩
          · rw [q] at hpl; simp at hpl; omega
          · exact ⟨a, b, by rw [q]; simp⟩
        have hml : ms.length = vs.length := by rw [hms] at hpl; simp at hpl; omega
        refine bind_one fk.pp hms hml (fun h => dfl_items X hdl (by rw [hv]; exact h)) ?_
        rw [← hms]
        refine call_enter Y fk S (by rw [List.length_append]; simp; omega) (fun i w e => ?_) (fun i v e => ?_) fun FA s₁ E en => k FA s₁ (vs ++ [v]) E en
        · have e' := places_get e
          rcases Nat.lt_or_ge i ws.length with q | q
          · rw [List.getElem?_append_left q] at e'
            have hi : i < vs.length := by rw [hl]; exact q
            exact ⟨vs[i], by rw [List.getElem?_append_left hi]; exact List.getElem?_eq_getElem hi, .inl ⟨List.getElem?_eq_getElem hi, e'⟩⟩
          · rw [List.getElem?_append_right q] at e'
            have hi : i = ws.length := by have := (List.getElem?_eq_some_iff.mp e').1; simp at this; omega
            subst hi
            simp at e'
            exact ⟨v, by rw [← hl, List.getElem?_append_right (Nat.le_refl _)]; simp, .inr ⟨dd, e'.symm, hlit⟩⟩
        · rw [List.getElem?_append_left (List.getElem?_eq_some_iff.mp e).1]; exact e
      · cases hb
    · cases hb
/-- the arguments as a frame's names -/
theorem Ent.L {f : Fn} {env : Env} {s s₁ : Shared} {vs us : List Value} {ws : List W} {ρ : List (Option W)} {FA : List Addr} (en : Ent p B f env s s₁ vs us ws ρ M FA φ σ) (S : St p B s.heap M φ σ)
    (V : ∀ (i : Nat) (w : W) (v : Value), vs[i]? = some v → ws[i]? = some w → ρ[i]? = some (some w) → WRel p s.heap M φ v w) : LRel p env s₁.heap (FA ++ M) φ f.names ρ := fun i w e => by
  obtain ⟨v, hv, q⟩ := en.arg i w e
  obtain ⟨y, a, b⟩ := en.has i v hv
  refine ⟨y, v, a, b, ?_⟩
  rcases q with ⟨q1, q2⟩ | ⟨d, rfl, q⟩
  · exact (V i w v q1 q2 e).step S en.m
  · exact .d (litV_rel q)
/-- a def is called: what fnBody gives -/
theorem call_fn {F : Fns} {f : Fn} {fd : FuncData} {body : List Stmt} {ws : List W} {d : Mine.D} (hA : A.depth < recursionLimit) (Y : Bs K mg mb B) (fk : FnK K f fd body) (e : fnBody F f ws σ = some (d, σ'))
    (hx : ∀ {L FA h M φ ρ fl ρ' σ'}, xs F ρ σ f.body = some (fl, ρ', σ') → FS p B (callEnvC fd L f.addr) true FA f.names h M φ σ ρ →
      RunS p B (A.deeper (callEnvC fd L f.addr)) (callEnvC fd L f.addr) true FA f.names (execs body (callEnvC fd L f.addr)) h M φ σ' ρ' (fun fl' h M => FlR p h M fl fl')) : CallR p B A f.addr ws σ d σ' := by
  intro s vs M φ R S V hR
  unfold fnBody at e
  split at e
  · rename_i ρ hb
    have hxs : ∃ fl ρ' σ₁, xs F ρ σ f.body = some (fl, ρ', σ₁) ∧ ((fl = .ret d) ∨ (fl = .next ∧ d = .none)) ∧ σ' = σ₁.take σ.length := by
      split at e
      · rename_i q; cases e; exact ⟨_, _, _, q, .inr ⟨rfl, rfl⟩, rfl⟩
      · rename_i q; cases e; exact ⟨_, _, _, q, .inl rfl, rfl⟩
      · cases e
    obtain ⟨fl, ρ', σ₁, hxs, hfl, rfl⟩ := hxs
    refine call_gen hA Y fk S V.length hb fun FA s₁ us E en => ?_
    obtain ⟨h₁, t₁, o₁⟩ := en.eq
    have X : FS p B (callEnvC fd s.heap.objs.size f.addr) true FA f.names s₁.heap (FA ++ M) φ σ ρ := ⟨en.S, en.F, en.L S fun i w v a b _ => by
      obtain ⟨v', c, r⟩ := V.get b
      rw [a] at c; cases c; exact r⟩
    refine hx hxs X s₁ _ E rfl fun fl' h' tk M' φ' X' m' r => ?_
    have mm := (Mv.freshTrans S en.m m' en.new).take
    have hlen : (φ'.take φ.length).length = φ.length := by rw [List.length_take]; exact Nat.min_eq_left (Nat.le_trans en.m.len m'.len)
    have hz : ({ s₁ with heap := h', toks := tk } : Shared) = { s with heap := h', toks := tk } := by rw [o₁]
    have st := X'.S.take σ.length
    rw [← S.len] at st hR
    rcases hfl with rfl | ⟨rfl, rfl⟩
    · cases r with
      | ret v => rw [hz]; exact hR _ h' tk M' _ st mm hlen v
    · cases r with
      | next => rw [hz]; exact hR _ h' tk M' _ st mm hlen .none
  · cases e
end
end Mine

namespace Mine
open PySem PySem.W PyProof.Rows PySem.Calls PySem.SeqAt

noncomputable def putB {α : Type} : List α → List Nat → List α → List α
  | l, k :: ks, c :: cs => putB (l.set k c) ks cs
  | l, _, _ => l
theorem putBack_eq : ∀ (ks : List Nat) (l cs : List C), putBack l ks cs = putB l ks cs
  | [], _, _ => by simp [putBack, putB]
  | _ :: _, _, [] => rfl
  | k :: ks, l, c :: cs => by show putBack (setNth l k c) ks cs = _; rw [setNth_eq, putBack_eq ks]; rfl
theorem putB_len {α : Type} : ∀ (ks : List Nat) (l cs : List α), (putB l ks cs).length = l.length
  | [], _, _ => by simp [putB]
  | _ :: _, _, [] => rfl
  | k :: ks, l, c :: cs => by show (putB (l.set k c) ks cs).length = _; rw [putB_len ks]; simp
theorem putB_out {α : Type} {k : Nat} : ∀ {ks : List Nat} {l cs : List α}, k ∉ ks → (putB l ks cs)[k]? = l[k]?
  | [], _, _, _ => by simp [putB]
  | _ :: _, _, [], _ => rfl
  | j :: ks, l, c :: cs, h => by
    simp only [List.mem_cons, not_or] at h
    show (putB (l.set j c) ks cs)[k]? = _
    rw [putB_out h.2, List.getElem?_set_ne (Ne.symm h.1)]
theorem putB_in {α : Type} {k : Nat} : ∀ {ks : List Nat} {l cs : List α} {i : Nat}, ks.Nodup → ks.length = cs.length → ks[i]? = some k → k < l.length → (putB l ks cs)[k]? = cs[i]?
  | [], _, _, i, _, _, h, _ => by simp at h
  | _ :: _, _, [], _, _, h, _, _ => by simp at h
  | j :: ks, l, c :: cs, i, hn, hl, h, hk => by
    obtain ⟨h1, h2⟩ := List.nodup_cons.mp hn
    show (putB (l.set j c) ks cs)[k]? = _
    cases i with
    | zero =>
      simp at h; subst h
      rw [putB_out h1, List.getElem?_set_self hk]; rfl
    | succ i =>
      simp at h
      rw [putB_in h2 (by simpa using hl) h (by simpa using hk)]; rfl
theorem pick_get : ∀ {ks : List Nat} {σ σc : List C}, pick σ ks = some σc → ks.length = σc.length ∧ ∀ (i k : Nat), ks[i]? = some k → ∃ c, σ[k]? = some c ∧ σc[i]? = some c
  | [], σ, σc, e => by cases e; exact ⟨rfl, fun i k h => by simp at h⟩
  | k :: ks, σ, σc, e => by
    unfold pick at e
    split at e
    · rename_i c h1
      split at e
      rotate_left
      · cases e
      rename_i l h2
      cases e
      obtain ⟨q1, q2⟩ := pick_get h2
      refine ⟨by simp [q1], fun i j h => ?_⟩
      cases i with
      | zero => simp at h; subst h; rw [nth_eq] at h1; exact ⟨c, h1, rfl⟩
      | succ i => simp at h; obtain ⟨x, a, b⟩ := q2 i j h; exact ⟨x, a, by simpa using b⟩
    · cases e
theorem hasN_iff {k : Nat} : ∀ {l : List Nat}, hasN k l = true ↔ k ∈ l
  | [] => by simp [hasN]
  | j :: r => by
    unfold hasN
    cases h : Nat.beq j k with
    | true => have := Nat.eq_of_beq_eq_true h; subst this; simp
    | false =>
      have hne : j ≠ k := Nat.ne_of_beq_eq_false h
      rw [bt_false, hasN_iff]; simp [Ne.symm hne]
theorem addN_nd {k : Nat} {l : List Nat} (h : l.Nodup) : (addN k l).Nodup ∧ k ∈ addN k l ∧ ∀ j ∈ l, j ∈ addN k l := by
  unfold addN
  cases q : hasN k l with
  | true => exact ⟨h, hasN_iff.mp q, fun _ m => m⟩
  | false =>
    have hn : k ∉ l := fun m => by rw [hasN_iff.mpr m] at q; cases q
    refine ⟨?_, by simp, fun j m => by simp [m]⟩
    rw [bt_false, List.nodup_append]
    refine ⟨h, by simp, fun a ha b hb z => ?_⟩
    simp at hb; subst hb; exact hn (z ▸ ha)
/-- the cells that w names -/
noncomputable def WIn (w : W) (cs : List Nat) : Prop := match w with
  | .d _ => True
  | .cell k => k ∈ cs
  | .shelf t r => t ∈ cs ∧ r ∈ cs
theorem cellsOf_ok : ∀ {ws : List W} {l : List Nat}, l.Nodup → (cellsOf ws l).Nodup ∧ (∀ k ∈ l, k ∈ cellsOf ws l) ∧ ∀ w ∈ ws, WIn w (cellsOf ws l)
  | [], l, h => ⟨h, fun _ m => m, by simp⟩
  | w :: r, l, h => by
    cases w with
    | d x =>
      obtain ⟨a, b, c⟩ := cellsOf_ok (ws := r) h
      refine ⟨a, b, fun w m => ?_⟩
      rcases List.mem_cons.mp m with rfl | m
      · trivial
      · exact c w m
    | cell k =>
      obtain ⟨x, y, z⟩ := addN_nd (k := k) h
      obtain ⟨a, b, c⟩ := cellsOf_ok (ws := r) x
      refine ⟨a, fun j m => b j (z j m), fun w m => ?_⟩
      rcases List.mem_cons.mp m with rfl | m
      · exact b k y
      · exact c w m
    | shelf t u =>
      obtain ⟨x, y, z⟩ := addN_nd (k := t) h
      obtain ⟨x', y', z'⟩ := addN_nd (k := u) x
      obtain ⟨a, b, c⟩ := cellsOf_ok (ws := r) x'
      refine ⟨a, fun j m => b j (z' j (z j m)), fun w m => ?_⟩
      rcases List.mem_cons.mp m with rfl | m
      · exact ⟨b t (z' t y), b u y'⟩
      · exact c w m
theorem idxN_get {k : Nat} : ∀ {cs : List Nat}, k ∈ cs → cs[idxN k cs]? = some k
  | [], h => by simp at h
  | j :: r, h => by
    unfold idxN
    cases q : Nat.beq j k with
    | true => rw [Nat.eq_of_beq_eq_true q]; rfl
    | false =>
      have hne : j ≠ k := Nat.ne_of_beq_eq_false q
      rcases List.mem_cons.mp h with z | z
      · exact absurd z.symm hne
      · rw [bt_false, List.getElem?_cons_succ]; exact idxN_get z
noncomputable def phis (φ : List (Option Addr)) (cs : List Nat) : List (Option Addr) := cs.map fun k => (φ[k]?).getD none
theorem phis_get {φ : List (Option Addr)} {cs : List Nat} {i : Nat} {a : Addr} (e : (phis φ cs)[i]? = some (some a)) : ∃ k, cs[i]? = some k ∧ φ[k]? = some (some a) := by
  unfold phis at e
  rw [List.getElem?_map] at e
  cases q : cs[i]? with
  | none => rw [q] at e; cases e
  | some k =>
    rw [q] at e
    refine ⟨k, rfl, ?_⟩
    cases z : φ[k]? with
    | none => simp [z] at e
    | some x => simp [z] at e; rw [e]
section
variable {p : Pm} {K : Frag} {mg mb : Str → Option Value} {B : Heap} {A : Around} {h h' : Heap} {M M' : List Addr} {φ φ' : List (Option Addr)} {σ σ' σc σc' : List C} {cs : List Nat}
theorem St.picked (S : St p B h M φ σ) (hn : cs.Nodup) (e : pick σ cs = some σc) : St p B h M (phis φ cs) σc := by
  obtain ⟨hl, hg⟩ := pick_get e
  refine ⟨S.base, S.low, fun a m => ?_, fun i j a e1 e2 => ?_, by simp [phis, hl], fun i => ?_, fun i a c e1 e2 => ?_⟩
  · obtain ⟨i, hi⟩ := List.getElem?_of_mem m
    obtain ⟨k, _, z⟩ := phis_get hi
    exact S.sub a (List.mem_of_getElem? z)
  · obtain ⟨k, a1, b1⟩ := phis_get e1
    obtain ⟨k', a2, b2⟩ := phis_get e2
    have := S.nd _ _ _ b1 b2
    subst this
    have hi : i < cs.length := (List.getElem?_eq_some_iff.mp a1).1
    exact (List.getElem?_inj hi hn).mp (a1.trans a2.symm)
  · cases q : cs[i]? with
    | none =>
      have h1 : (phis φ cs)[i]? = none := by unfold phis; rw [List.getElem?_map, q]; rfl
      have h2 : σc[i]? = none := by rw [List.getElem?_eq_none_iff] at q ⊢; omega
      rw [h1, h2]; simp
    | some k =>
      obtain ⟨c, z1, z2⟩ := hg i k q
      have hlt : k < φ.length := by rw [S.len]; exact (List.getElem?_eq_some_iff.mp z1).1
      have h1 : (phis φ cs)[i]? = φ[k]? := by unfold phis; rw [List.getElem?_map, q, List.getElem?_eq_getElem hlt]; simp [List.getElem?_eq_getElem hlt]
      rw [h1, z2, ← z1]; exact S.dead k
  · obtain ⟨k, a1, b1⟩ := phis_get e1
    obtain ⟨c', z1, z2⟩ := hg i k a1
    rw [z2] at e2; cases e2
    exact S.cells k a c' b1 z1
theorem WRel.ren {v : Value} {w : W} (r : WRel p h M φ v w) (hi : WIn w cs) : WRel p h M (phis φ cs) v (renW cs w) := by
  have key : ∀ k ∈ cs, idxN k cs < (phis φ cs).length ∧ ∀ a, (phis φ cs)[idxN k cs]? = some (some a) → φ[k]? = some (some a) := fun k m => by
    have := idxN_get m
    refine ⟨by unfold phis; rw [List.length_map]; exact (List.getElem?_eq_some_iff.mp this).1, fun a e => ?_⟩
    obtain ⟨j, x, y⟩ := phis_get e
    rw [this] at x; cases x; exact y
  cases r with
  | d x => exact .d x
  | cell l f => exact .cell (key _ hi).1 fun a e => f a ((key _ hi).2 a e)
  | shelf e1 e2 m1 m2 l1 f1 l2 f2 => exact .shelf e1 e2 m1 m2 (key _ hi.1).1 (fun a e => f1 a ((key _ hi.1).2 a e)) (key _ hi.2).1 (fun a e => f2 a ((key _ hi.2).2 a e))
theorem WRels.ren {vs : List Value} {ws : List W} (r : WRels p h M φ vs ws) (hi : ∀ w ∈ ws, WIn w cs) : WRels p h M (phis φ cs) vs (ws.map (renW cs)) := by
  induction r with
  | nil => exact .nil
  | cons a _ ih => exact .cons (a.ren (hi _ (.head _))) (ih fun w m => hi w (.tail _ m))
/-- back from a call -/
theorem St.back (S : St p B h M φ σ) (hn : cs.Nodup) (e : pick σ cs = some σc) (S' : St p B h' M' φ' σc') (m : Mv [] h M (phis φ cs) h' M' φ') (hl : φ'.length = (phis φ cs).length) :
    St p B h' M' (putB φ cs φ') (putBack σ cs σc') ∧ Mv [] h M φ h' M' (putB φ cs φ') := by
  obtain ⟨hl1, hg⟩ := pick_get e
  have hcs : cs.length = φ'.length := by rw [hl]; simp [phis]
  have hcs2 : cs.length = σc'.length := by rw [hcs, S'.len]
  have lt : ∀ i k, cs[i]? = some k → k < σ.length := fun i k q => let ⟨c, z, _⟩ := hg i k q; (List.getElem?_eq_some_iff.mp z).1
  rw [putBack_eq]
  have inn : ∀ i k, cs[i]? = some k → (putB φ cs φ')[k]? = φ'[i]? ∧ (putB σ cs σc')[k]? = σc'[i]? := fun i k q => ⟨putB_in hn hcs q (by rw [S.len]; exact lt i k q), putB_in hn hcs2 q (lt i k q)⟩
  have old : ∀ i k a, cs[i]? = some k → φ'[i]? = some (some a) → φ[k]? = some (some a) := fun i k a q z => by
    have hi : i < (phis φ cs).length := by rw [← hl]; exact (List.getElem?_eq_some_iff.mp z).1
    obtain ⟨k', x, y⟩ := phis_get (m.phi i a hi z)
    rw [q] at x; cases x; exact y
  have dec : ∀ k, (∃ i, cs[i]? = some k) ∨ k ∉ cs := fun k => by
    by_cases q : k ∈ cs
    · exact .inl (List.getElem?_of_mem q)
    · exact .inr q
  have phi : ∀ k a, (putB φ cs φ')[k]? = some (some a) → φ[k]? = some (some a) := fun k a z => by
    rcases dec k with ⟨i, q⟩ | q
    · rw [(inn i k q).1] at z; exact old i k a q z
    · rw [putB_out q] at z; exact z
  have notc : ∀ k a, k ∉ cs → φ[k]? = some (some a) → some a ∉ phis φ cs := fun k a q z w => by
    obtain ⟨i, hi⟩ := List.getElem?_of_mem w
    obtain ⟨k', x, y⟩ := phis_get hi
    have := S.nd _ _ _ z y
    exact q (this ▸ List.mem_of_getElem? x)
  have subc : ∀ a, some a ∈ phis φ cs → some a ∈ φ := fun a w => by
    obtain ⟨i, hi⟩ := List.getElem?_of_mem w
    obtain ⟨k', x, y⟩ := phis_get hi
    exact List.mem_of_getElem? y
  refine ⟨⟨S'.base, S'.low, fun a w => ?_, fun i j a e1 e2 => S.nd i j a (phi i a e1) (phi j a e2), by rw [putB_len, putB_len, S.len], fun k => ?_, fun k a c e1 e2 => ?_⟩,
    ⟨fun b o n1 n2 e => m.keep b o n1 (fun q => n2 (subc b q)) e, fun b q => (m.sub b q).imp id (subc b), m.fresh, fun k a _ z => phi k a z, by rw [putB_len]; exact Nat.le_refl _, fun b w n => ?_, m.defd⟩⟩
  · obtain ⟨k, hk⟩ := List.getElem?_of_mem w
    rcases dec k with ⟨i, q⟩ | q
    · rw [(inn i k q).1] at hk; exact S'.sub a (List.mem_of_getElem? hk)
    · rw [putB_out q] at hk; exact (m.sub a (S.sub a (List.mem_of_getElem? hk))).resolve_right (notc k a q hk)
  · rcases dec k with ⟨i, q⟩ | q
    · rw [(inn i k q).1, (inn i k q).2]; exact S'.dead i
    · rw [putB_out q, putB_out q]; exact S.dead k
  · rcases dec k with ⟨i, q⟩ | q
    · rw [(inn i k q).1] at e1; rw [(inn i k q).2] at e2; exact S'.cells i a c e1 e2
    · rw [putB_out q] at e1 e2
      have hna := notc k a q e1
      exact (S.cells k a c e1 e2).mono (m.gr (by simp) fun a w => S.sub a (subc a w)) fun o e => m.keep a o (by simp) hna e
  · obtain ⟨k, hk⟩ := List.getElem?_of_mem w
    exact absurd (List.mem_of_getElem? (phi k b hk)) n
/-- the call as an expression sees it -/
theorem run_callFn {F : Fns} {i : Nat} {a : Addr} {ws : List W} {w : W} {vs : List Value} (e : callFn F i ws σ = some (w, σ')) (S : St p B h M φ σ) (V : WRels p h M φ vs ws)
    (hc : ∀ {ws σ d σ'}, F.fn i ws σ = some (d, σ') → CallR p B A a ws σ d σ') : Run p B A (call (.ref a) vs) h M φ σ' (U p w) := by
  unfold callFn at e
  split at e
  · rename_i σc hp
    split at e
    · rename_i d σ₁ hf
      cases e
      obtain ⟨n1, _, n3⟩ := cellsOf_ok (ws := ws) (l := []) (by simp)
      intro s Q E hs k
      subst hs
      refine wpAny_call (kw := []) (hc hf s vs M (phis φ (cellsOf ws [])) _ (S.picked n1 hp) (V.ren n3) fun v h' tk M' φ' S' m hl r => ?_)
      obtain ⟨S2, m2⟩ := S.back n1 hp S' m hl
      exact k v h' tk M' _ S2 m2 (.d r)
    · cases e
  · cases e
end
end Mine

namespace Mine
open PySem PySem.W PyProof.Rows PySem.Calls PySem.SeqAt

set_option backward.match.sparseCases false in
noncomputable def noStar : Expr → Bool
  | .Starred _ _ => false
  | _ => true
theorem star_cons {e : Expr} {rest : List Expr} {env : Env} (h : noStar e = true) : starEach (e :: rest) env = (false, eval e env) :: starEach rest env := by
  induction e using PySem.Expr.casesOn <;> first | rfl | exact nof h
set_option backward.match.sparseCases false in
noncomputable def noSuper : Expr → Bool
  | .Call (.Name _ _) [] [] _ => false
  | _ => true
theorem base_plain {o : Expr} {attr : Str} {env : Env} {t : Sem Value} (h : noSuper o = true) : attributeBase o attr env t = t := by
  induction o using PySem.Expr.casesOn with
  | Call f es ks pos =>
    induction f using PySem.Expr.casesOn with
    | Name =>
      cases es with
      | cons => rfl
      | nil =>
        cases ks with
        | cons => rfl
        | nil => exact nof h
    | _ => rfl
  | _ => rfl
set_option backward.match.sparseCases false in
noncomputable def constD : Const → Option Mine.D
  | .none => some .none
  | .bool b => some (.bool b)
  | .int i => some (.int i)
  | .str s => some (.str s)
  | .bytes b => some (.byt b)
  | _ => none
section
variable {p : Pm} {K : Frag} {mg mb : Str → Option Value} {tb : Tb} {B : Heap} {A : Around} {env : Env} {own : Bool} {FA : List Addr} {names : List Str} {F : Fns} {h h' : Heap} {M M' : List Addr} {φ φ' : List (Option Addr)} {σ σ' σ₁ : List C} {ρ : List (Option W)}
/-- an expression is walked -/
noncomputable def EvS (p : Pm) (B : Heap) (A : Around) (env : Env) (own : Bool) (FA : List Addr) (names : List Str) (F : Fns) (e : Expr) (x : Mine.X) : Prop :=
  ∀ {ρ σ h M φ w σ'}, F.ev ρ σ x = some (w, σ') → FS p B env own FA names h M φ σ ρ → Run p B A (eval e env) h M φ σ' (U p w)
/-- a test is walked -/
noncomputable def TsS (p : Pm) (B : Heap) (A : Around) (env : Env) (own : Bool) (FA : List Addr) (names : List Str) (F : Fns) (e : Expr) (x : Mine.X) : Prop :=
  ∀ {ρ σ h M φ b σ'}, F.ts ρ σ x = some (b, σ') → FS p B env own FA names h M φ σ ρ → Run p B A (isTrue e env (eval e env)) h M φ σ' (fun r _ _ _ => r = b)
inductive EvsS (p : Pm) (B : Heap) (A : Around) (env : Env) (own : Bool) (FA : List Addr) (names : List Str) (F : Fns) : List Expr → List Mine.X → Prop
  | nil : EvsS p B A env own FA names F [] []
  | cons {e : Expr} {x : Mine.X} {es : List Expr} {xs : List Mine.X} : noStar e = true → EvS p B A env own FA names F e x → EvsS p B A env own FA names F es xs → EvsS p B A env own FA names F (e :: es) (x :: xs)
theorem run_args {es : List Expr} {xs : List Mine.X} (E : EvsS p B A env own FA names F es xs) {pos : Pos} : ∀ {σ h M φ ws σ'}, evs F ρ σ xs = some (ws, σ') → FS p B env own FA names h M φ σ ρ →
    Run p B A (spliced (backTo pos (starEach es env))) h M φ σ' (fun vs h M φ => WRels p h M φ vs ws) := by
  induction E with
  | nil =>
    intro σ h M φ ws σ' e X
    cases e
    exact fun s Q E hs k => by subst hs; exact args_nil (k [] s.heap s.toks M φ X.S Mv.refl .nil)
  | @cons e x es xs hn h1 _ ih =>
    intro σ h M φ ws σ' ev X
    unfold evs at ev
    split at ev
    · rename_i d σ₁ e1
      split at ev
      · rename_i ds σ₂ e2
        cases ev
        intro s Q E hs k
        refine args_cons (h1 e1 X s _ E hs fun v h₁ tk M₁ φ₁ S₁ m₁ r₁ => ?_) (star_cons hn)
        exact ih e2 (X.step S₁ m₁) _ _ E rfl fun vs h₂ tk₂ M₂ φ₂ S₂ m₂ r₂ => k (v :: vs) h₂ tk₂ M₂ φ₂ S₂ (m₁.trans X.S m₂) (.cons (r₁.step S₁ m₂) r₂)
      · cases ev
    · cases ev
theorem EvsS.noStars {es : List Expr} {xs : List Mine.X} (E : EvsS p B A env own FA names F es xs) {pos : Pos} : (backTo pos (starEach es env)).any (·.1) = false := by
  induction E with
  | nil => rfl
  | cons hn _ _ ih => rw [star_cons hn]; show (false || _) = false; exact ih
/-- a call: the arguments, then the call itself -/
theorem run_callWith {es : List Expr} {xs : List Mine.X} {pos : Pos} {f : Value} {first : List Value} {ws : List W} {R : Value → Heap → List Addr → List (Option Addr) → Prop} (Y : Bs K mg mb B) (E : EvsS p B A env own FA names F es xs) (hk : ∀ {M : Model} {h : Heap}, K.In h → ∃ k, (k = Keeper.frame ∨ k = Keeper.machine ∨ k = Keeper.boundFrame) ∧ Looks M h (keeperOf f) k)
    (e : evs F ρ σ xs = some (ws, σ₁)) (X : FS p B env own FA names h M φ σ ρ)
    (hc : ∀ vs h₁ M₁ φ₁, St p B h₁ M₁ φ₁ σ₁ → Mv [] h M φ h₁ M₁ φ₁ → WRels p h₁ M₁ φ₁ vs ws → Run p B A (call f (first ++ vs)) h₁ M₁ φ₁ σ' R) :
    Run p B A (callWith pos f first (backTo pos (starEach es env)) []) h M φ σ' R := by
  intro s Q Ex hs k
  refine callWith_of (P := K.In) (by rw [E.noStars]; rfl) (fun h X => hk X) ?_
  have key := run_args E (pos := pos) e X s (fun vs s₁ => K.In s₁.heap ∧ wpAny (model p.prog p.w) A (call f (first ++ vs)) Q Ex s₁) Ex hs (fun vs h₁ tk M₁ φ₁ S₁ m₁ r₁ =>
    ⟨Y.K.keeps S₁.base, hc vs h₁ M₁ φ₁ S₁ m₁ r₁ _ Q Ex rfl fun a h₂ tk₂ M₂ φ₂ S₂ m₂ r₂ => k a h₂ tk₂ M₂ φ₂ S₂ (m₁.trans X.S m₂) r₂⟩)
  cases E with
  | nil => cases e; subst hs; exact evalArgs_nil3 ⟨Y.K.keeps X.S.base, hc [] s.heap M φ X.S Mv.refl .nil _ Q Ex rfl k⟩
  | cons hn _ _ => rw [star_cons hn] at key ⊢; exact evalArgs_plain key
theorem run_const {c : Const} {k : Nat} {pos : Pos} {d : Mine.D} (S : St p B h M φ σ) (e : constD c = some d) : Run p B A (eval (.Constant c k pos) env) h M φ σ (V p d) := fun s Q E hs kk => by
  subst hs
  show wpAny _ _ (constValue env c) _ _ _
  induction c using PySem.Const.casesOn with
  | none => cases e; exact wpAny_pure (kk _ s.heap s.toks M φ S Mv.refl .none)
  | bool => cases e; exact wpAny_pure (kk _ s.heap s.toks M φ S Mv.refl (.bool _))
  | int => cases e; exact wpAny_mkInt (kk _ s.heap _ M φ S Mv.refl (.int _ _))
  | str => cases e; exact wpAny_mkText (kk _ s.heap _ M φ S Mv.refl (.str _ _))
  | bytes => cases e; exact wpAny_mkTextBytes (kk _ s.heap _ M φ S Mv.refl (.byt _ _))
  | _ => exact nos e
theorem run_loc {x : Str} {i : Nat} {w : W} {pos : Pos} (X : FS p B env own FA names h M φ σ ρ) (hn : names[i]? = some x) (hd : (x == ("__debug__" : Str)) = false) (e : evLoc ρ σ i = some (w, σ')) : Run p B A (eval (.Name x pos) env) h M φ σ' (U p w) := fun s Q E hs k => by
  subst hs
  unfold evLoc at e
  split at e
  · rename_i d q
    cases e
    unfold getL at q
    rw [nth_eq] at q
    split at q
    · rename_i z
      cases q
      obtain ⟨y, v, a, b, c⟩ := X.L i _ z
      rw [hn] at a; cases a
      exact load_has X.F b (k v s.heap s.toks M φ X.S Mv.refl c) hd
    · cases q
  · cases e
/-- a field is read -/
theorem run_attr {o : Expr} {xo : Mine.X} {f : Str} {pos : Pos} {w : W} (Y : Bs K mg mb B) (G : CkC K tb) (G' : CkS p tb) (X : FS p B env own FA names h M φ σ ρ) (hf : fldOk K tb f = true) (hs : noSuper o = true) (ih : EvS p B A env own FA names F o xo)
    (e : evAttr tb F ρ σ xo f = some (w, σ')) : Run p B A (eval (.Attribute o f pos) env) h M φ σ' (U p w) := by
  unfold evAttr at e
  split at e
  · rename_i v σ₁ e1
    split at e
    · rename_i r e2
      cases e
      show Run p B A (do let ov ← attributeBase o f env (eval o env); standAt pos.atName; let r ← holding [ov] (getAttr ov f true); letTemporaryGo o ov r; Pure.pure r) _ _ _ _ _
      rw [base_plain hs]
      refine Run.bind X.S (ih e1 X) fun ov h₁ M₁ φ₁ S₁ m₁ r₁ => Run.standAt ?_
      refine Run.bind S₁ (Run.holding (attr_at Y G G' S₁ hf r₁ e2)) fun r h₂ M₂ φ₂ S₂ m₂ r₂ => ?_
      intro s Q E hs k
      subst hs
      exact wpAny_bind (wpAny_letTemporaryGo (wpAny_pure (k r s.heap s.toks M₂ φ₂ S₂ Mv.refl r₂)))
    · cases e
  · cases e
end
end Mine

namespace Mine
open PySem PySem.W PyProof.Rows PySem.Calls PySem.SeqAt

set_option backward.match.sparseCases false in
/-- the right side of a comparison is no display of a set -/
noncomputable def noMark : Expr → Bool
  | .Set _ _ _ => false
  | _ => true
theorem unmarked {op : CmpOp} {e : Expr} {t : Sem Value} (h : noMark e = true) : markedBehindIn op e t = t := by
  unfold markedBehindIn behindInMarks
  induction e using PySem.Expr.casesOn <;> first | rfl | exact nof h
set_option backward.match.sparseCases false in
/-- a test that is read from its value -/
noncomputable def isVal : Expr → Bool
  | .UnaryOp .Not _ _ => false
  | .BoolOp _ _ _ => false
  | .IfExp _ _ _ _ => false
  | .Compare _ _ _ _ => false
  | _ => true
theorem isTrue_val {e : Expr} {env : Env} {t : Sem Value} (h : isVal e = true) : isTrue e env t = (do let v ← t; standAt e.pos; holding [v] (truthy v)) := by
  induction e using PySem.Expr.casesOn with
  | UnaryOp op x pos => cases op <;> first | rfl | exact nof h
  | BoolOp => exact nof h
  | IfExp => exact nof h
  | Compare => exact nof h
  | _ => rfl
section
variable {p : Pm} {K : Frag} {mg mb : Str → Option Value} {tb : Tb} {B : Heap} {A : Around} {env : Env} {own : Bool} {FA : List Addr} {names : List Str} {F : Fns} {h h' : Heap} {M M' : List Addr} {φ φ' : List (Option Addr)} {σ σ' σ₁ : List C} {ρ : List (Option W)}
theorem WRel.dat {v : Value} {x : Mine.D} (r : WRel p h M φ v (.d x)) : VRel p h M v x := by cases r with | d x => exact x
theorem run_BinOp {o : BO} {l r : Expr} {xl xr : Mine.X} {pos : Pos} {w : W} (X : FS p B env own FA names h M φ σ ρ) (il : EvS p B A env own FA names F l xl) (ir : EvS p B A env own FA names F r xr)
    (e : evBin F ρ σ o xl xr = some (w, σ')) : Run p B A (eval (.BinOp l o.op r pos) env) h M φ σ' (U p w) := by
  unfold evBin at e
  split at e
  · rename_i x σ₁ e1
    split at e
    · rename_i y σ₂ e2
      split at e
      · rename_i d e3
        cases e
        show Run p B A (do let a ← eval l env; let b ← holding [a] (eval r env); standAt pos; operate [a, b] (binaryOp o.op a b)) _ _ _ _ _
        refine Run.bind X.S (il e1 X) fun a h₁ M₁ φ₁ S₁ m₁ r₁ => ?_
        refine Run.bind S₁ (Run.holding (ir e2 (X.step S₁ m₁))) fun b h₂ M₂ φ₂ S₂ m₂ r₂ => Run.standAt ?_
        exact Run.operate S₂ (run_V (run_bin S₂ (r₁.dat.step S₁ m₂) r₂.dat e3))
      · cases e
    · cases e
  · cases e
theorem run_Compare {o : CO} {l r : Expr} {xl xr : Mine.X} {pos : Pos} {w : W} (H0 : Sym0 p) (hu : A.units + 21 < cLine) (hm : noMark r = true) (X : FS p B env own FA names h M φ σ ρ) (il : EvS p B A env own FA names F l xl) (ir : EvS p B A env own FA names F r xr)
    (e : evCmp F ρ σ o xl xr = some (w, σ')) : Run p B A (eval (.Compare l [o.op] [r] pos) env) h M φ σ' (U p w) := by
  unfold evCmp at e
  split at e
  · rename_i x σ₁ e1
    split at e
    · rename_i y σ₂ e2
      split at e
      · rename_i x' v1
        split at e
        · rename_i y' v2
          split at e
          · rename_i d e3
            cases e
            show Run p B A (do let a ← eval l env; let b ← holding [a] (markedBehindIn o.op r (eval r env)); standAt pos; operate [a, b] (compareOp o.op a b)) _ _ _ _ _
            rw [unmarked hm]
            refine Run.bind X.S (il e1 X) fun a h₁ M₁ φ₁ S₁ m₁ r₁ => ?_
            refine Run.bind S₁ (Run.holding (ir e2 (X.step S₁ m₁))) fun b h₂ M₂ φ₂ S₂ m₂ r₂ => Run.standAt ?_
            exact Run.operate S₂ (run_V (run_cmp H0 hu S₂ (view_reads S₂ (r₁.step S₁ m₂) v1) (view_reads S₂ r₂ v2) e3))
          · cases e
        · cases e
      · cases e
    · cases e
  · cases e
theorem run_Is {neg : Bool} {l : Expr} {xl : Mine.X} {k : Nat} {pos pos' : Pos} {w : W} (X : FS p B env own FA names h M φ σ ρ) (il : EvS p B A env own FA names F l xl)
    (e : evIsN F ρ σ neg xl = some (w, σ')) : Run p B A (eval (.Compare l [if neg then .IsNot else .Is] [.Constant .none k pos'] pos) env) h M φ σ' (U p w) := by
  unfold evIsN at e
  split at e
  · rename_i x σ₁ e1
    split at e
    · rename_i b e2
      cases e
      show Run p B A (do let a ← eval l env; let b ← holding [a] (eval (.Constant .none k pos') env); standAt pos; operate [a, b] (compareOp (if neg then .IsNot else .Is) a b)) _ _ _ _ _
      refine Run.bind X.S (il e1 X) fun a h₁ M₁ φ₁ S₁ m₁ r₁ => ?_
      refine Run.bind S₁ (Run.holding (R := fun v _ _ _ => v = .none) (Run.pure S₁ rfl)) fun b h₂ M₂ φ₂ S₂ m₂ r₂ => Run.standAt ?_
      subst r₂
      exact Run.operate S₂ (run_V (run_isNone S₂ (r₁.step S₁ m₂) e2 neg))
    · cases e
  · cases e
theorem run_Not {a : Expr} {xa : Mine.X} {pos : Pos} {w : W} (X : FS p B env own FA names h M φ σ ρ) (ia : EvS p B A env own FA names F a xa)
    (e : evNot F ρ σ xa = some (w, σ')) : Run p B A (eval (.UnaryOp .Not a pos) env) h M φ σ' (U p w) := by
  unfold evNot at e
  split at e
  · rename_i x σ₁ e1
    split at e
    · rename_i b e2
      cases e
      show Run p B A (do let v ← eval a env; standAt pos; holding [v] (holding [v] (do let t ← truthy v; Pure.pure (Value.bool (!t))))) _ _ _ _ _
      refine Run.bind X.S (ia e1 X) fun v h₁ M₁ φ₁ S₁ m₁ r₁ => Run.standAt (Run.holding (Run.holding ?_))
      refine Run.bind S₁ (run_truthy S₁ r₁ e2) fun t h₂ M₂ φ₂ S₂ m₂ r₂ => ?_
      subst r₂
      exact Run.pure S₂ (.d (.bool _))
    · cases e
  · cases e
theorem run_IfExp {c a b : Expr} {xc xa xb : Mine.X} {pos : Pos} {w : W} (X : FS p B env own FA names h M φ σ ρ) (ic : TsS p B A env own FA names F c xc) (ia : EvS p B A env own FA names F a xa) (ib : EvS p B A env own FA names F b xb)
    (e : evIte F ρ σ xc xa xb = some (w, σ')) : Run p B A (eval (.IfExp c a b pos) env) h M φ σ' (U p w) := by
  unfold evIte at e
  show Run p B A (do let t ← isTrue c env (eval c env); if t = true then eval a env else eval b env) _ _ _ _ _
  split at e
  · rename_i σ₁ e1
    refine Run.bind X.S (ic e1 X) fun t h₁ M₁ φ₁ S₁ m₁ r₁ => ?_
    subst r₁
    exact ia e (X.step S₁ m₁)
  · rename_i σ₁ e1
    refine Run.bind X.S (ic e1 X) fun t h₁ M₁ φ₁ S₁ m₁ r₁ => ?_
    subst r₁
    exact ib e (X.step S₁ m₁)
  · cases e
/-- and, or: a value -/
theorem run_and {es : List Expr} {xs : List Mine.X} (E : EvsS p B A env own FA names F es xs) {pos : Pos} : ∀ {σ h M φ w σ'}, andL F ρ σ xs = some (w, σ') → FS p B env own FA names h M φ σ ρ → Run p B A (boolOp pos .And (evalEach es env)) h M φ σ' (U p w) := by
  induction E with
  | nil => intro σ h M φ w σ' e X; cases e
  | @cons e x es xs hn h1 E' ih =>
    intro σ h M φ w σ' ev X
    unfold andL at ev
    split at ev
    · rename_i d σ₁ e1
      cases E' with
      | nil => cases ev; exact h1 e1 X
      | @cons e' x' es' xs' hn' h1' E'' =>
        change omb (truthW σ₁ d) none (andL F ρ σ₁ (x' :: xs')) (some (d, σ₁)) = some (w, σ') at ev
        show Run p B A (do let v ← eval e env; standAt pos; let t ← holding [v] (truthy v); match BoolOp.And, t with | .And, false | .Or, true => Pure.pure v | _, _ => boolOp pos .And (evalEach (e' :: es') env)) _ _ _ _ _
        refine Run.bind X.S (h1 e1 X) fun v h₁ M₁ φ₁ S₁ m₁ r₁ => Run.standAt ?_
        split at ev
        · rename_i q
          refine Run.bind S₁ (Run.holding (run_truthy S₁ r₁ q)) fun t h₂ M₂ φ₂ S₂ m₂ r₂ => ?_
          subst r₂
          exact ih ev ((X.step S₁ m₁).step S₂ m₂)
        · rename_i q
          cases ev
          refine Run.bind S₁ (Run.holding (run_truthy S₁ r₁ q)) fun t h₂ M₂ φ₂ S₂ m₂ r₂ => ?_
          subst r₂
          exact Run.pure S₂ (r₁.step S₁ m₂)
        · cases ev
    · cases ev
theorem run_or {es : List Expr} {xs : List Mine.X} (E : EvsS p B A env own FA names F es xs) {pos : Pos} : ∀ {σ h M φ w σ'}, orL F ρ σ xs = some (w, σ') → FS p B env own FA names h M φ σ ρ → Run p B A (boolOp pos .Or (evalEach es env)) h M φ σ' (U p w) := by
  induction E with
  | nil => intro σ h M φ w σ' e X; cases e
  | @cons e x es xs hn h1 E' ih =>
    intro σ h M φ w σ' ev X
    unfold orL at ev
    split at ev
    · rename_i d σ₁ e1
      cases E' with
      | nil => cases ev; exact h1 e1 X
      | @cons e' x' es' xs' hn' h1' E'' =>
        change omb (truthW σ₁ d) none (some (d, σ₁)) (orL F ρ σ₁ (x' :: xs')) = some (w, σ') at ev
        show Run p B A (do let v ← eval e env; standAt pos; let t ← holding [v] (truthy v); match BoolOp.Or, t with | .And, false | .Or, true => Pure.pure v | _, _ => boolOp pos .Or (evalEach (e' :: es') env)) _ _ _ _ _
        refine Run.bind X.S (h1 e1 X) fun v h₁ M₁ φ₁ S₁ m₁ r₁ => Run.standAt ?_
        split at ev
        · rename_i q
          cases ev
          refine Run.bind S₁ (Run.holding (run_truthy S₁ r₁ q)) fun t h₂ M₂ φ₂ S₂ m₂ r₂ => ?_
          subst r₂
          exact Run.pure S₂ (r₁.step S₁ m₂)
        · rename_i q
          refine Run.bind S₁ (Run.holding (run_truthy S₁ r₁ q)) fun t h₂ M₂ φ₂ S₂ m₂ r₂ => ?_
          subst r₂
          exact ih ev ((X.step S₁ m₁).step S₂ m₂)
        · cases ev
    · cases ev
/-! tests -/
theorem ts_val {e : Expr} {x : Mine.X} {b : Bool} (hv : isVal e = true) (X : FS p B env own FA names h M φ σ ρ) (ie : EvS p B A env own FA names F e x) (ev : tsVal F ρ σ x = some (b, σ')) : Run p B A (isTrue e env (eval e env)) h M φ σ' (fun r _ _ _ => r = b) := by
  unfold tsVal at ev
  split at ev
  · rename_i d σ₁ e1
    split at ev
    · rename_i c e2
      cases ev
      rw [isTrue_val hv]
      exact Run.bind X.S (ie e1 X) fun v h₁ M₁ φ₁ S₁ m₁ r₁ => Run.standAt (Run.holding (run_truthy S₁ r₁ e2))
    · cases ev
  · cases ev
/-- a comparison as a test: its value, then its truth -/
theorem ts_cmp {l r : Expr} {op : CmpOp} {x : Mine.X} {b : Bool} {pos : Pos} (X : FS p B env own FA names h M φ σ ρ) (ie : EvS p B A env own FA names F (.Compare l [op] [r] pos) x) (ev : tsVal F ρ σ x = some (b, σ')) :
    Run p B A (isTrue (.Compare l [op] [r] pos) env (eval (.Compare l [op] [r] pos) env)) h M φ σ' (fun r _ _ _ => r = b) := by
  unfold tsVal at ev
  split at ev
  · rename_i d σ₁ e1
    split at ev
    · rename_i c e2
      cases ev
      have hb : isTrue (.Compare l [op] [r] pos) env (eval (.Compare l [op] [r] pos) env) = (do let c ← eval (.Compare l [op] [r] pos) env; holding [c] (truthy c)) := by
        show (do let a ← eval l env; let b ← holding [a] (markedBehindIn op r (eval r env)); standAt pos; let c ← operate [a, b] (compareOp op a b); holding [c] (truthy c)) = (do let c ← (do let a ← eval l env; let b ← holding [a] (markedBehindIn op r (eval r env)); standAt pos; operate [a, b] (compareOp op a b)); holding [c] (truthy c))
        simp only [bind_assoc]
      rw [hb]
      exact Run.bind X.S (ie e1 X) fun v h₁ M₁ φ₁ S₁ m₁ r₁ => Run.holding (run_truthy S₁ r₁ e2)
    · cases ev
  · cases ev
theorem ts_not {a : Expr} {xa : Mine.X} {pos : Pos} {b : Bool} (X : FS p B env own FA names h M φ σ ρ) (ia : TsS p B A env own FA names F a xa) (ev : tsNot F ρ σ xa = some (b, σ')) : Run p B A (isTrue (.UnaryOp .Not a pos) env (eval (.UnaryOp .Not a pos) env)) h M φ σ' (fun r _ _ _ => r = b) := by
  unfold tsNot at ev
  split at ev
  · rename_i c σ₁ e1
    cases ev
    show Run p B A (do let t ← isTrue a env (eval a env); Pure.pure (!t)) _ _ _ _ _
    refine Run.bind X.S (ia e1 X) fun t h₁ M₁ φ₁ S₁ m₁ r₁ => ?_
    subst r₁
    exact Run.pure S₁ rfl
  · cases ev
theorem ts_ite {c a b : Expr} {xc xa xb : Mine.X} {pos : Pos} {r : Bool} (X : FS p B env own FA names h M φ σ ρ) (ic : TsS p B A env own FA names F c xc) (ia : TsS p B A env own FA names F a xa) (ib : TsS p B A env own FA names F b xb)
    (e : tsIte F ρ σ xc xa xb = some (r, σ')) : Run p B A (isTrue (.IfExp c a b pos) env (eval (.IfExp c a b pos) env)) h M φ σ' (fun t _ _ _ => t = r) := by
  unfold tsIte at e
  show Run p B A (do let t ← isTrue c env (eval c env); if t = true then isTrue a env (eval a env) else isTrue b env (eval b env)) _ _ _ _ _
  split at e
  · rename_i σ₁ e1
    refine Run.bind X.S (ic e1 X) fun t h₁ M₁ φ₁ S₁ m₁ r₁ => ?_
    subst r₁
    exact ia e (X.step S₁ m₁)
  · rename_i σ₁ e1
    refine Run.bind X.S (ic e1 X) fun t h₁ M₁ φ₁ S₁ m₁ r₁ => ?_
    subst r₁
    exact ib e (X.step S₁ m₁)
  · cases e
inductive TssS (p : Pm) (B : Heap) (A : Around) (env : Env) (own : Bool) (FA : List Addr) (names : List Str) (F : Fns) : List Expr → List Mine.X → Prop
  | nil : TssS p B A env own FA names F [] []
  | cons {e : Expr} {x : Mine.X} {es : List Expr} {xs : List Mine.X} : TsS p B A env own FA names F e x → TssS p B A env own FA names F es xs → TssS p B A env own FA names F (e :: es) (x :: xs)
theorem ts_and {es : List Expr} {xs : List Mine.X} (E : TssS p B A env own FA names F es xs) : ∀ {σ h M φ b σ'}, andT F ρ σ xs = some (b, σ') → FS p B env own FA names h M φ σ ρ → Run p B A (allTrue .And es env) h M φ σ' (fun r _ _ _ => r = b) := by
  induction E with
  | nil => intro σ h M φ b σ' e X; cases e; exact Run.pure X.S rfl
  | @cons e x es xs h1 E' ih =>
    intro σ h M φ b σ' ev X
    unfold andT at ev
    show Run p B A (do match BoolOp.And, ← isTrue e env (eval e env) with | .And, false => Pure.pure false | .Or, true => Pure.pure true | _, _ => allTrue .And es env) _ _ _ _ _
    split at ev
    · rename_i σ₁ e1
      refine Run.bind X.S (h1 e1 X) fun t h₁ M₁ φ₁ S₁ m₁ r₁ => ?_
      subst r₁
      exact ih ev (X.step S₁ m₁)
    · rename_i σ₁ e1
      cases ev
      refine Run.bind X.S (h1 e1 X) fun t h₁ M₁ φ₁ S₁ m₁ r₁ => ?_
      subst r₁
      exact Run.pure S₁ rfl
    · cases ev
theorem ts_or {es : List Expr} {xs : List Mine.X} (E : TssS p B A env own FA names F es xs) : ∀ {σ h M φ b σ'}, orT F ρ σ xs = some (b, σ') → FS p B env own FA names h M φ σ ρ → Run p B A (allTrue .Or es env) h M φ σ' (fun r _ _ _ => r = b) := by
  induction E with
  | nil => intro σ h M φ b σ' e X; cases e; exact Run.pure X.S rfl
  | @cons e x es xs h1 E' ih =>
    intro σ h M φ b σ' ev X
    unfold orT at ev
    show Run p B A (do match BoolOp.Or, ← isTrue e env (eval e env) with | .And, false => Pure.pure false | .Or, true => Pure.pure true | _, _ => allTrue .Or es env) _ _ _ _ _
    split at ev
    · rename_i σ₁ e1
      cases ev
      refine Run.bind X.S (h1 e1 X) fun t h₁ M₁ φ₁ S₁ m₁ r₁ => ?_
      subst r₁
      exact Run.pure S₁ rfl
    · rename_i σ₁ e1
      refine Run.bind X.S (h1 e1 X) fun t h₁ M₁ φ₁ S₁ m₁ r₁ => ?_
      subst r₁
      exact ih ev (X.step S₁ m₁)
    · cases ev
end
end Mine

namespace Mine
open PySem PySem.W PyProof.Rows PySem.Calls PySem.SeqAt

set_option backward.match.sparseCases false in
/-- what is asked for is no slice -/
noncomputable def noSlice : Expr → Bool
  | .Slice _ _ _ _ => false
  | _ => true
theorem subscripted_plain {sl : Expr} {o i : Value} (h : noSlice sl = true) : subscripted sl false o i = operate [o, i] (getItem o i) := by
  unfold subscripted
  induction sl using PySem.Expr.casesOn <;> first | rfl | exact nof h
section
variable {p : Pm} {K : Frag} {mg mb : Str → Option Value} {tb : Tb} {B : Heap} {A : Around} {env : Env} {own : Bool} {FA : List Addr} {names : List Str} {F : Fns} {h h' : Heap} {M M' : List Addr} {φ φ' : List (Option Addr)} {σ σ' σ₁ : List C} {ρ : List (Option W)}
/-- a value of a built-in type whose [] is a builtin -/
noncomputable def SubT (h : Heap) (v : Value) : Prop := ∃ T id, (∀ s : Shared, s.heap = h → s.TypeIs v T) ∧ typeLookup (.type T) "__getitem__" = pure (some (.builtin id))
theorem sub_type {v : Value} {d j r : Mine.D} (X : Reads p h M v d) (e : subEv d j = some r) : SubT h v := by
  unfold subEv at e
  split at e
  · rename_i q
    rw [D.l?_eq q] at X
    obtain ⟨a, vs, rfl, y, z⟩ := X.lst_inv
    exact ⟨"list", _, fun s hs => by subst hs; exact y.isList.typeIs, list_getitem_lookup⟩
  · split at e
    · rename_i q
      rw [D.t?_eq q] at X
      obtain ⟨a, vs, rfl, y, z⟩ := X.tup_inv
      exact ⟨"tuple", _, fun s hs => by subst hs; exact y.isTuple.typeIs, F.slot_tuple_getitem.lookup⟩
    · split at e
      · rename_i q
        rw [D.y?_eq q] at X
        obtain ⟨t, rfl⟩ := X.byt_inv
        exact ⟨"bytes", _, fun s hs => typeIs_bytes s _ _, FB.slot_bytes_getitem.lookup⟩
      · split at e
        · rename_i q
          rw [D.d?_eq q] at X
          obtain ⟨a, kvs, rfl, y, y0, z⟩ := X.dct_inv
          exact ⟨"dict", _, fun s hs => by subst hs; exact y.typeIs, slot_dict_getitem.lookup⟩
        · cases e
theorem sub_tail {value sl : Expr} {o i : Value} {R : Value → Heap → List Addr → List (Option Addr) → Prop} (S : St p B h M φ σ) (hs : SubT h o) (hq : subscripted sl false o i = operate ops (getItem o i)) (x : Run p B A (getItem o i) h M φ σ' R) :
    Run p B A (do let r ← subscripted sl (← getitemInPython o) o i; letTemporaryGo value o r; Pure.pure r) h M φ σ' R := by
  obtain ⟨T, id, hT, hl⟩ := hs
  intro s Q E hs k
  refine wpAny_bind ?_
  rw [getitemInPython_of_ne (hT s hs).not_modules]
  refine wpAny_bind (wpAny_specialOf (hT s hs) hl ?_)
  refine wpAny_pure ?_
  refine wpAny_bind ?_
  rw [hq]
  refine wpAny_operating (x s _ E hs fun a h' tk M' φ' S' m r => ?_)
  exact wpAny_bind (wpAny_letTemporaryGo (wpAny_pure (k a h' tk M' φ' S' m r)))
theorem run_Sub {v sl : Expr} {xv xs : Mine.X} {pos : Pos} {w : W} (hn : noSlice sl = true) (X : FS p B env own FA names h M φ σ ρ) (iv : EvS p B A env own FA names F v xv) (is : EvS p B A env own FA names F sl xs)
    (e : evSub F ρ σ xv xs = some (w, σ')) : Run p B A (eval (.Subscript v sl pos) env) h M φ σ' (U p w) := by
  unfold evSub at e
  split at e
  · rename_i d σ₁ e1
    split at e
    · rename_i j σ₂ e2
      split at e
      · rename_i x v1
        split at e
        · rename_i r e3
          cases e
          rw [eval_Subscript]
          refine Run.bind X.S (iv e1 X) fun o h₁ M₁ φ₁ S₁ m₁ r₁ => ?_
          refine Run.bind S₁ (Run.holding (is e2 (X.step S₁ m₁))) fun i h₂ M₂ φ₂ S₂ m₂ r₂ => Run.standAt ?_
          have rd := view_reads S₂ (r₁.step S₁ m₂) v1
          exact sub_tail S₂ (sub_type rd e3) (subscripted_plain hn) (run_V (run_getItem S₂ rd r₂.dat e3))
        · cases e
      · cases e
    · cases e
  · cases e
end
end Mine

namespace Mine
open PySem PySem.W PyProof.Rows PySem.Calls PySem.SeqAt

section
variable {p : Pm} {K : Frag} {mg mb : Str → Option Value} {tb : Tb} {B : Heap} {A : Around} {env : Env} {own : Bool} {FA : List Addr} {names : List Str} {F : Fns} {h h' : Heap} {M M' : List Addr} {φ φ' : List (Option Addr)} {σ σ' σ₁ : List C} {ρ : List (Option W)}
/-- a name that is read to a known value: a global, or a builtin -/
inductive NmV (K : Frag) (env : Env) (x : Str) (v : Value) : Prop
  | glob : env.kindOf x = some .globalImplicit → nsIn K mainGlobals x = some (some v) → (x == ("__debug__" : Str)) = false → NmV K env x v
  | bi : env.kindOf x = some .globalImplicit → nsIn K mainGlobals x = some none → bootBuiltins x = some v → x ≠ "__name__" → (x == ("__debug__" : Str)) = false → NmV K env x v
theorem load_nm {x : Str} {pos : Pos} {v : Value} {s : Shared} {Q : Value → Shared → Prop} {E : Value → Shared → Prop} (Y : Bs K mg mb B) (X : FS p B env own FA names s.heap M φ σ ρ) (n : NmV K env x v) (k : Q v s) : wpAny (model p.prog p.w) A (eval (.Name x pos) env) Q E s := by
  cases n with
  | glob a b c => exact load_global Y X.F X.S.base a b k c
  | bi a b c d e => exact load_builtin Y X.F X.S.base a b c d k e
theorem keep_b (i : String) {M : Model} {h : Heap} : ∃ k, (k = Keeper.frame ∨ k = Keeper.machine ∨ k = Keeper.boundFrame) ∧ Looks M h (keeperOf (.builtin i)) k := ⟨.machine, .inr (.inl rfl), .now⟩
theorem keep_t (i : String) {M : Model} {h : Heap} : ∃ k, (k = Keeper.frame ∨ k = Keeper.machine ∨ k = Keeper.boundFrame) ∧ Looks M h (keeperOf (.type i)) k := ⟨.machine, .inr (.inl rfl), .now⟩
/-- a call by name -/
theorem run_CallN {x : Str} {f : Value} {es : List Expr} {xs : List Mine.X} {np pos : Pos} {ws : List W} {R : Value → Heap → List Addr → List (Option Addr) → Prop} (Y : Bs K mg mb B) (n : NmV K env x f) (E : EvsS p B A env own FA names F es xs)
    (hk : ∀ {M : Model} {h : Heap}, K.In h → ∃ k, (k = Keeper.frame ∨ k = Keeper.machine ∨ k = Keeper.boundFrame) ∧ Looks M h (keeperOf f) k) (e : evs F ρ σ xs = some (ws, σ₁)) (X : FS p B env own FA names h M φ σ ρ)
    (hc : ∀ vs h₁ M₁ φ₁, St p B h₁ M₁ φ₁ σ₁ → Mv [] h M φ h₁ M₁ φ₁ → WRels p h₁ M₁ φ₁ vs ws → Run p B A (call f vs) h₁ M₁ φ₁ σ' R) :
    Run p B A (eval (.Call (.Name x np) es [] pos) env) h M φ σ' R := by
  intro s Q Ex hs k
  subst hs
  refine Call_ ?_
  exact load_nm Y X n (run_callWith (first := []) Y E hk e X hc s Q Ex rfl k)
theorem run_call {x : Str} {i a : Nat} {es : List Expr} {xs : List Mine.X} {np pos : Pos} {w : W} (Y : Bs K mg mb B) (n : NmV K env x (.ref a)) (hk : keepIn K (.ref a) = true) (E : EvsS p B A env own FA names F es xs)
    (hc : ∀ {ws σ d σ'}, F.fn i ws σ = some (d, σ') → CallR p B A a ws σ d σ') (X : FS p B env own FA names h M φ σ ρ) (e : evCall F ρ σ i xs = some (w, σ')) : Run p B A (eval (.Call (.Name x np) es [] pos) env) h M φ σ' (U p w) := by
  unfold evCall at e
  split at e
  · rename_i ws σ₁ e1
    exact run_CallN Y n E (fun X => keeps_K hk _ X) e1 X fun vs h₁ M₁ φ₁ S₁ m₁ r₁ => run_callFn e S₁ r₁ hc
  · cases e
/-- the builtins of one argument -/
theorem run_bi1W {b : BI} {w r : W} {v : Value} (hh : A.handled = none) (S : St p B h M φ σ) (X : WRel p h M φ v w) (e : bi1W b w σ = some (r, σ')) : Run p B A (call b.v [v]) h M φ σ' (U p r) := by
  unfold bi1W at e
  split at e
  · split at e
    · rename_i z; cases e; exact run_V (run_bi1 hh S X.dat z)
    · cases e
  · cases e
theorem run_bi {b : BI} {w r : W} {v : Value} (Y : Bs K mg mb B) (hh : A.handled = none) (S : St p B h M φ σ) (X : WRel p h M φ v w) (e : biEv b w σ = some (r, σ')) : Run p B A (call b.v [v]) h M φ σ' (U p r) := by
  unfold biEv at e
  cases b with
  | len =>
    dsimp only at e
    split at e
    · rename_i d q
      split at e
      · rename_i z; cases e; exact run_V (run_len S (view_reads S X q) z)
      · cases e
    · cases e
  | sorted =>
    dsimp only at e
    split at e
    · rename_i d q
      split at e
      · rename_i z; cases e; exact run_V (run_sorted hh S (view_reads S X q) z)
      · cases e
    · cases e
  | dict cell =>
    dsimp only at e
    split at e
    · rename_i d q
      split at e
      · rename_i es z
        have := run_dict (cell := cell) Y hh S (view_reads S X q) z
        rw [Option.some.inj e] at this
        exact this
      · cases e
    · cases e
  | tuple => exact run_bi1W hh S X e
  | bytes => exact run_bi1W hh S X e
  | ord => exact run_bi1W hh S X e
  | chr => exact run_bi1W hh S X e
  | str => exact run_bi1W hh S X e
theorem keep_bi (b : BI) {M : Model} {h : Heap} : ∃ k, (k = Keeper.frame ∨ k = Keeper.machine ∨ k = Keeper.boundFrame) ∧ Looks M h (keeperOf b.v) k := by
  cases b <;> first | exact keep_b _ | exact keep_t _
theorem run_Bi {x : Str} {b : BI} {es : List Expr} {xs : List Mine.X} {np pos : Pos} {w : W} (Y : Bs K mg mb B) (hh : A.handled = none) (n : NmV K env x b.v) (E : EvsS p B A env own FA names F es xs)
    (X : FS p B env own FA names h M φ σ ρ) (e : evBi F ρ σ b xs = some (w, σ')) : Run p B A (eval (.Call (.Name x np) es [] pos) env) h M φ σ' (U p w) := by
  unfold evBi at e
  split at e
  · rename_i ws σ₁ e1
    split at e
    · rename_i w' q
      rw [one_eq q] at e1
      refine run_CallN Y n E (fun _ => keep_bi b) e1 X fun vs h₁ M₁ φ₁ S₁ m₁ r₁ => ?_
      cases r₁ with
      | cons a r => cases r with | nil => exact run_bi Y hh S₁ a e
    · cases e
  · cases e
/-- isinstance -/
theorem run_Isi {x y : Str} {a : Expr} {xa : Mine.X} {t : IT} {np tp pos : Pos} {w : W} {c : Ty} (Y : Bs K mg mb B) (G : CkC K tb) (n : NmV K env x (.builtin "isinstance")) (hc : itTy tb t = some c) (n2 : NmV K env y c.v) (hn : noStar a = true) (ia : EvS p B A env own FA names F a xa)
    (X : FS p B env own FA names h M φ σ ρ) (e : evIsi tb F ρ σ xa t = some (w, σ')) : Run p B A (eval (.Call (.Name x np) [a, .Name y tp] [] pos) env) h M φ σ' (U p w) := by
  unfold evIsi at e
  split at e
  · rename_i v σ₁ e1
    split at e
    · rename_i d q
      split at e
      · rename_i b z
        cases e
        intro s Q Ex hs k
        subst hs
        refine Call_ ?_
        refine load_nm Y X n ?_
        refine callWith_of (P := fun _ => True) (by rw [star_cons hn]; rfl) (fun h _ => keep_b "isinstance") ?_
        rw [star_cons hn]
        refine evalArgs_plain ?_
        refine spliced_cons ?_
        refine ia e1 X s _ Ex rfl fun v h₁ tk M₁ φ₁ S₁ m₁ r₁ => ?_
        refine args_cons (load_nm Y (X.step S₁ m₁) n2 (args_nil ⟨trivial, ?_⟩))
        exact run_isi Y G S₁ (view_reads S₁ r₁ q) z hc _ Q Ex rfl fun a h₂ tk₂ M₂ φ₂ S₂ m₂ r₂ => k a h₂ tk₂ M₂ φ₂ S₂ (m₁.trans X.S m₂) (.d r₂)
      · cases e
    · cases e
  · cases e
end
end Mine

namespace Mine
open PySem PySem.W PyProof.Rows PySem.Calls PySem.SeqAt

section
variable {p : Pm} {K : Frag} {mg mb : Str → Option Value} {tb : Tb} {B : Heap} {A : Around} {env : Env} {own : Bool} {FA : List Addr} {names : List Str} {F : Fns} {h h' : Heap} {M M' : List Addr} {φ φ' : List (Option Addr)} {σ σ' σ₁ : List C} {ρ : List (Option W)}
theorem EvsS.form {es : List Expr} {xs : List Mine.X} (E : EvsS p B A env own FA names F es xs) (hl : es.length < 30) {pos : Pos} {kws : List (Option Str × Sem Value)} (hk : kws = []) : methodCallForm (es.length + 0) (backTo pos (starEach es env)) kws = true := by
  subst hk
  unfold methodCallForm
  have h1 : (backTo pos (starEach es env)).all (!·.1) = true := by
    have := E.noStars (pos := pos)
    rw [List.any_eq_false] at this
    rw [List.all_eq_true]
    intro x m
    have := this x m
    simpa using this
  rw [h1]
  simp [hl]
/-- a method's call -/
theorem run_Method {o : Expr} {m : Str} {f : Value} {xo : Mine.X} {es : List Expr} {xs : List Mine.X} {apos pos : Pos} {w : W} {ws : List W} {σ₂ : List C} {R : Value → Heap → List Addr → List (Option Addr) → Prop} (Y : Bs K mg mb B) (hl : es.length < 30) (hline : (apos.endLine == pos.line) = true) (hsup : noSuper o = true) (io : EvS p B A env own FA names F o xo) (E : EvsS p B A env own FA names F es xs)
    (hk : ∀ {M : Model} {h : Heap}, K.In h → ∃ k, (k = Keeper.frame ∨ k = Keeper.machine ∨ k = Keeper.boundFrame) ∧ Looks M h (keeperOf f) k) (X : FS p B env own FA names h M φ σ ρ) (e1 : F.ev ρ σ xo = some (w, σ₁)) (e2 : evs F ρ σ₁ xs = some (ws, σ₂))
    (hm : ∀ v h₁ M₁ φ₁ (pl : Sem Bool), St p B h₁ M₁ φ₁ σ₁ → WRel p h₁ M₁ φ₁ v w → Run p B A (getMethod v m pl) h₁ M₁ φ₁ σ₁ (fun r _ _ _ => r = (f, [v])))
    (hc : ∀ v vs h₁ M₁ φ₁, St p B h₁ M₁ φ₁ σ₂ → WRel p h₁ M₁ φ₁ v w → WRels p h₁ M₁ φ₁ vs ws → Run p B A (call f (v :: vs)) h₁ M₁ φ₁ σ' R) :
    Run p B A (eval (.Call (.Attribute o m apos) es [] pos) env) h M φ σ' R := by
  show Run p B A (do let ov ← attributeBase o m env (eval o env); standAt apos.atName; methodCall o m apos pos env ov (es.length + 0) (backTo pos (starEach es env)) (backToKw pos (keywordEach [] env))) _ _ _ _ _
  rw [base_plain hsup]
  refine Run.bind X.S (io e1 X) fun ov h₁ M₁ φ₁ S₁ m₁ r₁ => Run.standAt ?_
  show Run p B A (methodCall o m apos pos env ov (es.length + 0) (backTo pos (starEach es env)) []) _ _ _ _ _
  unfold methodCall
  rw [E.form hl rfl]
  unfold calleeOf methodCallPos
  refine Run.bind S₁ (Run.holding (hm ov h₁ M₁ φ₁ _ S₁ r₁)) fun r h₂ M₂ φ₂ S₂ m₂ r₂ => ?_
  subst r₂
  dsimp only
  rw [hline]
  refine Run.bind S₂ (R₁ := fun q _ _ _ => q = pos) (Run.pure S₂ rfl) fun q h₃ M₃ φ₃ S₃ m₃ r₃ => ?_
  subst r₃
  have X₃ := ((X.step S₁ m₁).step S₂ m₂).step S₃ m₃
  refine run_callWith (first := [ov]) Y E hk e2 X₃ fun vs h₄ M₄ φ₄ S₄ m₄ r₄ => ?_
  exact hc ov vs h₄ M₄ φ₄ S₄ (((r₁.step S₁ m₂).step S₂ m₃).step S₃ m₄) r₄
theorem run_Meth {o : Expr} {m : Str} {xo : Mine.X} {es : List Expr} {xs : List Mine.X} {apos pos : Pos} {w : W} (Y : Bs K mg mb B) (G : CkC K tb) (Gm : methsOk K tb = true) (G' : CkS p tb) (hl : es.length < 30) (hline : (apos.endLine == pos.line) = true) (hsup : noSuper o = true) (io : EvS p B A env own FA names F o xo) (E : EvsS p B A env own FA names F es xs)
    (hc : ∀ {i f}, nth tb.fns i = some f → keepIn K (.ref f.addr) = true ∧ ∀ {ws σ d σ'}, F.fn i ws σ = some (d, σ') → CallR p B A f.addr ws σ d σ') (hb : ∀ w i, methW tb w m = some i → ∃ f, nth tb.fns i = some f) (X : FS p B env own FA names h M φ σ ρ) (e : evMeth tb F ρ σ xo m xs = some (w, σ')) :
    Run p B A (eval (.Call (.Attribute o m apos) es [] pos) env) h M φ σ' (U p w) := by
  unfold evMeth at e
  split at e
  · rename_i w₀ σ₁ e1
    split at e
    · rename_i i hi
      split at e
      · rename_i ws σ₂ e2
        obtain ⟨f, hf⟩ := hb _ _ hi
        obtain ⟨k1, k2⟩ := hc hf
        exact run_Method Y hl hline hsup io E (fun X => keeps_K k1 _ X) X e1 e2 (fun v h₁ M₁ φ₁ pl S₁ r₁ => meth_at Y G Gm G' S₁ r₁ hi hf) fun v vs h₁ M₁ φ₁ S₁ r₁ r₂ => run_callFn e S₁ (.cons r₁ r₂) k2
      · cases e
    · cases e
  · cases e
theorem asDs_rel : ∀ {ws : List W} {ds : List Mine.D} {vs : List Value}, asDs ws = some ds → WRels p h M φ vs ws → VRels p h M vs ds
  | [], ds, vs, e, r => by cases e; cases r; exact .nil
  | w :: ws, ds, vs, e, r => by
    unfold asDs at e
    split at e
    · split at e
      · rename_i l q
        cases e
        cases r with | cons a b => exact .cons a.dat (asDs_rel q b)
      · cases e
    · cases e
theorem run_Bm {o : Expr} {b : BM} {xo : Mine.X} {es : List Expr} {xs : List Mine.X} {apos pos : Pos} {w : W} (Y : Bs K mg mb B) (hu : A.units + 21 < cLine) (hl : es.length < 30) (hline : (apos.endLine == pos.line) = true) (hsup : noSuper o = true) (io : EvS p B A env own FA names F o xo) (E : EvsS p B A env own FA names F es xs)
    (X : FS p B env own FA names h M φ σ ρ) (e : evBm F ρ σ b xo xs = some (w, σ')) : Run p B A (eval (.Call (.Attribute o b.name apos) es [] pos) env) h M φ σ' (U p w) := by
  unfold evBm at e
  split at e
  · rename_i w₀ σ₁ e1
    split at e
    · rename_i kd hkd
      split at e
      · rename_i ws σ₂ e2
        split at e
        · rename_i ds hds
          exact run_Method (f := .builtin (bmId b kd)) Y hl hline hsup io E (fun _ => keep_b _) X e1 e2 (fun v h₁ M₁ φ₁ pl S₁ r₁ => meth_builtin S₁ (kd_at S₁ r₁ hkd) (bmEv_has e)) fun v vs h₁ M₁ φ₁ S₁ r₁ r₂ => run_bm hu S₁ r₁ (asDs_rel hds r₂) e
        · cases e
      · cases e
    · cases e
  · cases e
/-- values become data: cells die -/
theorem toDs_at : ∀ {ws : List W} {vs : List Value} {ds : List Mine.D} {σ σ' : List C} {M : List Addr} {φ : List (Option Addr)}, St p B h M φ σ → WRels p h M φ vs ws → toDs σ ws = some (ds, σ') → ∃ M' φ', St p B h M' φ' σ' ∧ Mv [] h M φ h M' φ' ∧ VRels p h M' vs ds
  | [], vs, ds, σ, σ', M, φ, S, V, e => by cases e; cases V; exact ⟨M, φ, S, Mv.refl, .nil⟩
  | w :: ws, vs, ds, σ, σ', M, φ, S, V, e => by
    cases V with
    | @cons v _ vs _ a V =>
      unfold toDs at e
      split at e
      · rename_i d σ₁ e1
        split at e
        · rename_i ds' σ₂ e2
          cases e
          obtain ⟨M₁, φ₁, S₁, m₁, r₁⟩ := toD_at S a e1
          obtain ⟨M₂, φ₂, S₂, m₂, r₂⟩ := toDs_at S₁ (V.step S m₁) e2
          exact ⟨M₂, φ₂, S₂, m₁.trans S m₂, .cons (r₁.step S₁ m₂) r₂⟩
        · cases e
      · cases e
/-- what is given ahead: the state turned at once -/
theorem Run.turned {α : Type} {t : Sem α} {R : α → Heap → List Addr → List (Option Addr) → Prop} (S : St p B h M φ σ) (m : Mv [] h M φ h M' φ') (x : Run p B A t h M' φ' σ' R) : Run p B A t h M φ σ' R := fun s Q E e k =>
  x s Q E e fun a h₁ tk M₁ φ₁ S₁ m₁ r₁ => k a h₁ tk M₁ φ₁ S₁ (m.trans S m₁) r₁
end
end Mine

namespace Mine
open PySem PySem.W PyProof.Rows PySem.Calls PySem.SeqAt

section
variable {p : Pm} {K : Frag} {mg mb : Str → Option Value} {tb : Tb} {B : Heap} {A : Around} {env : Env} {own : Bool} {FA : List Addr} {names : List Str} {F : Fns} {h h' : Heap} {M M' : List Addr} {φ φ' : List (Option Addr)} {σ σ' σ₁ : List C} {ρ : List (Option W)}
theorem EvsS.length {es : List Expr} {xs : List Mine.X} (E : EvsS p B A env own FA names F es xs) : es.length = xs.length := by
  induction E with
  | nil => rfl
  | cons _ _ _ ih => simp [ih]
theorem evs_len : ∀ {xs : List Mine.X} {σ : List C} {ws : List W} {σ' : List C}, evs F ρ σ xs = some (ws, σ') → ws.length = xs.length
  | [], σ, ws, σ', e => by cases e; rfl
  | x :: xs, σ, ws, σ', e => by
    unfold evs at e
    split at e
    · split at e
      · rename_i q; cases e; have := evs_len q; simp [this]
      · cases e
    · cases e
theorem run_Tup {es : List Expr} {xs : List Mine.X} {k : Nat} {pos : Pos} {w : W} (hl : es.length ≤ sizeLine) (E : EvsS p B A env own FA names F es xs) (X : FS p B env own FA names h M φ σ ρ) (e : evTup F ρ σ xs = some (w, σ')) :
    Run p B A (eval (.Tuple es k pos) env) h M φ σ' (U p w) := by
  unfold evTup at e
  split at e
  · rename_i ws σ₁ e1
    split at e
    · rename_i ds σ₂ e2
      cases e
      show Run p B A (do standAt pos; newTuple (← spliced (backTo pos (starEach es env)))) _ _ _ _ _
      refine Run.standAt ?_
      refine Run.bind X.S (run_args E e1 X) fun vs h₁ M₁ φ₁ S₁ m₁ r₁ => ?_
      obtain ⟨M₂, φ₂, S₂, m₂, r₂⟩ := toDs_at S₁ r₁ e2
      exact Run.turned S₁ m₂ (run_V (run_tuple S₂ r₂ (by rw [r₁.length, evs_len e1, ← E.length]; exact hl)))
    · cases e
  · cases e
theorem run_Lst {es : List Expr} {xs : List Mine.X} {cell : Bool} {pos : Pos} {w : W} (hl : es.length ≤ sizeLine) (E : EvsS p B A env own FA names F es xs) (X : FS p B env own FA names h M φ σ ρ) (e : evLst F ρ σ cell xs = some (w, σ')) :
    Run p B A (eval (.List es pos) env) h M φ σ' (U p w) := by
  unfold evLst at e
  split at e
  · rename_i ws σ₁ e1
    split at e
    · rename_i ds σ₂ e2
      show Run p B A (do standAt pos; newList (← spliced (backTo pos (starEach es env)))) _ _ _ _ _
      refine Run.standAt ?_
      refine Run.bind X.S (run_args E e1 X) fun vs h₁ M₁ φ₁ S₁ m₁ r₁ => ?_
      obtain ⟨M₂, φ₂, S₂, m₂, r₂⟩ := toDs_at S₁ r₁ e2
      have hz : vs.length ≤ sizeLine := by rw [r₁.length, evs_len e1, ← E.length]; exact hl
      cases cell with
      | true => cases e; exact Run.turned S₁ m₂ (run_newListCell S₂ r₂ hz)
      | false => cases e; exact Run.turned S₁ m₂ (run_V (run_list S₂ r₂ hz))
    · cases e
  · cases e
/-- the empty dict -/
theorem run_Dct0 {cell : Bool} {pos : Pos} {w : W} (Y : Bs K mg mb B) (X : FS p B env own FA names h M φ σ ρ) (e : evDct F ρ σ cell [] [] = some (w, σ')) : Run p B A (eval (.Dict [] [] pos) env) h M φ σ' (U p w) := by
  injection e with e
  have key : Run p B A newDict h M φ (newCell cell σ (.dct []) (.dct [])).2 (U p (newCell cell σ (.dct []) (.dct [])).1) := by
    refine run_newDict X.S fun s Q E hs k => ?_
    subst hs
    refine wpAny_newObj_type ?_ (Nat.zero_le _)
    exact k s.heap.objs.size _ s.toks [] (fun b o e => Heap.get?_push_of_some _ e) (none_ge (Nat.le_refl _)) (X.S.notSys Y) (Heap.DictOf.new ..) .nil
  rw [e] at key
  show Run p B A (do standAt pos; dictDisplay []) _ _ _ _ _
  exact Run.standAt (Run.of_eq rfl key)
end
end Mine

namespace Mine
open PySem PySem.W PyProof.Rows PySem.Calls PySem.SeqAt

set_option backward.match.sparseCases false in
noncomputable def noComp : Expr → Bool
  | .ListComp _ _ _ _ => false
  | .SetComp _ _ _ _ => false
  | .DictComp _ _ _ _ _ => false
  | _ => true
theorem swaps_no {e : Expr} {t : Option Expr} {l : Nat} {env : Env} (h : noComp e = true) : swapsWith e t l env = pure false := by
  unfold swapsWith
  induction e using PySem.Expr.casesOn <;> first | rfl | exact nof h
section
variable {p : Pm} {K : Frag} {mg mb : Str → Option Value} {tb : Tb} {B : Heap} {A : Around} {env : Env} {own : Bool} {FA : List Addr} {names : List Str} {F : Fns} {h h' : Heap} {M M' : List Addr} {φ φ' : List (Option Addr)} {σ σ' σ₁ : List C} {ρ ρ' : List (Option W)} {fl : Fl}
/-- a statement is walked -/
noncomputable def ExS (p : Pm) (B : Heap) (A : Around) (env : Env) (own : Bool) (FA : List Addr) (names : List Str) (F : Fns) (s : Stmt) (t : T) : Prop :=
  ∀ {ρ σ h M φ fl ρ' σ'}, F.ex ρ σ t = some (fl, ρ', σ') → FS p B env own FA names h M φ σ ρ → RunS p B A env own FA names (exec s env) h M φ σ' ρ' (fun f h M => FlR p h M fl f)
/-- a block is walked -/
noncomputable def XsS (p : Pm) (B : Heap) (A : Around) (env : Env) (own : Bool) (FA : List Addr) (names : List Str) (F : Fns) (b : List Stmt) (ts : List T) : Prop :=
  ∀ {ρ σ h M φ fl ρ' σ'}, xs F ρ σ ts = some (fl, ρ', σ') → FS p B env own FA names h M φ σ ρ → RunS p B A env own FA names (execs b env) h M φ σ' ρ' (fun f h M => FlR p h M fl f)
theorem xs_nil : XsS p B A env own FA names F [] [] := fun e X => by
  cases e; exact RunS.pure X .next
theorem xs_cons {s : Stmt} {b : List Stmt} {t : T} {ts : List T} (h1 : ExS p B A env own FA names F s t) (h2 : XsS p B A env own FA names F b ts) : XsS p B A env own FA names F (s :: b) (t :: ts) := fun {ρ σ h M φ fl ρ' σ'} e X => by
  unfold xs at e
  show RunS p B A env own FA names (do match ← exec s env with | .next => execs b env | f => Pure.pure f) _ _ _ _ _ _
  split at e
  · rename_i ρ₁ σ₁ e1
    refine RunS.bind X (h1 e1 X) fun f h₁ M₁ φ₁ X₁ m₁ r₁ => ?_
    cases r₁
    exact h2 e X₁
  · rename_i d ρ₁ σ₁ e1
    cases e
    refine RunS.bind X (h1 e1 X) fun f h₁ M₁ φ₁ X₁ m₁ r₁ => ?_
    cases r₁ with
    | ret v => exact RunS.pure X₁ (.ret v)
  · cases e
theorem ex_asg {x : Str} {i : Nat} {py pos : Pos} {e : Expr} {xe : Mine.X} (hn : swapsWith e (some (.Name x py)) pos.line env = pure false) (sto : StOk env own names i x) (ie : EvS p B A env own FA names F e xe) (X : FS p B env own FA names h M φ σ ρ) (ev : exAsg F ρ σ i xe = some (fl, ρ', σ')) :
    RunS p B A env own FA names (exec (.Assign [.Name x py] e pos) env) h M φ σ' ρ' (fun f h M => FlR p h M fl f) := by
  unfold exAsg at ev
  split at ev
  · rename_i w σ₁ e1
    cases ev
    rw [exec_Assign_Name _ _ _ _ _ hn]
    refine RunS.standAt ?_
    refine RunS.ev X (ie e1 X) fun v h₁ M₁ φ₁ X₁ m₁ r₁ => ?_
    refine RunS.standAt (RunS.bind X₁ (run_store X₁ sto r₁) fun _ h₂ M₂ φ₂ X₂ m₂ _ => ?_)
    exact RunS.pure X₂ .next
  · cases ev
theorem ex_ite {c : Expr} {xc : Mine.X} {a b : List Stmt} {ta tb : List T} {pos : Pos} (ic : TsS p B A env own FA names F c xc) (ia : XsS p B A env own FA names F a ta) (ib : XsS p B A env own FA names F b tb) (X : FS p B env own FA names h M φ σ ρ) (ev : exIte F ρ σ xc ta tb = some (fl, ρ', σ')) :
    RunS p B A env own FA names (exec (.If c a b pos) env) h M φ σ' ρ' (fun f h M => FlR p h M fl f) := by
  unfold exIte at ev
  show RunS p B A env own FA names (do standAt pos; if ← isTrue c env (eval c env) then execs a env else execs b env) _ _ _ _ _ _
  refine RunS.standAt ?_
  split at ev
  · rename_i σ₁ e1
    refine RunS.ev X (ic e1 X) fun t h₁ M₁ φ₁ X₁ m₁ r₁ => ?_
    subst r₁
    exact ia ev X₁
  · rename_i σ₁ e1
    refine RunS.ev X (ic e1 X) fun t h₁ M₁ φ₁ X₁ m₁ r₁ => ?_
    subst r₁
    exact ib ev X₁
  · cases ev
theorem RunS.turned {α : Type} {t : Sem α} {R : α → Heap → List Addr → Prop} (X : FS p B env own FA names h M φ σ ρ) (m : Mv FA h M φ h' M' φ') (x : RunS p B A env own FA names t h' M' φ' σ' ρ' R) (e : h' = h) : RunS p B A env own FA names t h M φ σ' ρ' R := fun s Q E hs k =>
  x s Q E (hs.trans e.symm) fun a h₁ tk M₁ φ₁ X₁ m₁ r₁ => k a h₁ tk M₁ φ₁ X₁ (m.trans X.S m₁) r₁
theorem ex_ret {e : Expr} {xe : Mine.X} {pos : Pos} (ie : EvS p B A env own FA names F e xe) (X : FS p B env own FA names h M φ σ ρ) (ev : exRet F ρ σ xe = some (fl, ρ', σ')) :
    RunS p B A env own FA names (exec (.Return (some e) pos) env) h M φ σ' ρ' (fun f h M => FlR p h M fl f) := by
  unfold exRet at ev
  split at ev
  · rename_i w σ₁ e1
    split at ev
    · rename_i d σ₂ e2
      cases ev
      rw [exec_Return_some]
      refine RunS.standAt (RunS.ev X (ie e1 X) fun v h₁ M₁ φ₁ X₁ m₁ r₁ => ?_)
      obtain ⟨M₂, φ₂, S₂, m₂, r₂⟩ := toD_at X₁.S r₁ e2
      exact RunS.turned X₁ (m₂.mono (by simp)) (RunS.pure (X₁.step S₂ m₂) (.ret r₂)) rfl
    · cases ev
  · cases ev
theorem ex_frz_at {i : Nat} {x : Str} (X : FS p B env own FA names h M φ σ ρ) (ev : exFrz ρ σ i = some (fl, ρ', σ')) : fl = .next ∧ ∃ M' φ', FS p B env own FA names h M' φ' σ' ρ' ∧ Mv FA h M φ h M' φ' := by
  unfold exFrz at ev
  split at ev
  · rename_i w hw
    split at ev
    · rename_i d σ₁ e1
      cases ev
      refine ⟨rfl, ?_⟩
      unfold getL at hw
      rw [nth_eq] at hw
      split at hw
      · rename_i q; cases hw
        obtain ⟨y, v, a, b, c⟩ := X.L i _ q
        obtain ⟨M₂, φ₂, S₂, m₂, r₂⟩ := toD_at X.S c e1
        have X₂ := X.step S₂ m₂
        refine ⟨M₂, φ₂, ⟨X₂.S, X₂.F, fun j w hj => ?_⟩, m₂.mono (by simp)⟩
        rw [setNth_eq] at hj
        by_cases z : j = i
        · subst z
          rw [List.getElem?_set_self (List.getElem?_eq_some_iff.mp q).1] at hj
          cases hj
          exact ⟨y, v, a, b, .d r₂⟩
        · rw [List.getElem?_set_ne (Ne.symm z)] at hj
          exact X₂.L j w hj
      · cases hw
    · cases ev
  · cases ev
theorem drop_value {E : Value → Shared → Prop} {s : Shared} {Q : Flow → Shared → Prop} {e : Expr} {pos : Pos} {v : Value} (k : Q .next s) : wpAny (model p.prog p.w) A (dropValue e pos v) Q E s := by
  unfold dropValue
  split
  · exact wpAny_pure k
  · exact wpAny_bind (wpAny_standAt (wpAny_bind (wpAny_runValue (codeAny_builtin entry_let_go (show wpAny _ _ (ret .none) _ _ s from wpAny_pure (wpAny_pure k))))))
  · exact wpAny_pure k
theorem ex_exp {e : Expr} {xe : Mine.X} {pos : Pos} (hn : noComp e = true) (ie : EvS p B A env own FA names F e xe) (X : FS p B env own FA names h M φ σ ρ) (ev : exExp F ρ σ xe = some (fl, ρ', σ')) :
    RunS p B A env own FA names (exec (.Expr e pos) env) h M φ σ' ρ' (fun f h M => FlR p h M fl f) := by
  unfold exExp at ev
  split at ev
  · rename_i w σ₁ e1
    cases ev
    have hi : interactive env = false := by unfold interactive; rw [X.F.kind]; rfl
    rw [exec_Expr _ _ _ hi (swaps_no hn)]
    refine RunS.standAt (RunS.ev X (ie e1 X) fun v h₁ M₁ φ₁ X₁ m₁ r₁ => ?_)
    intro s Q E hs k
    subst hs
    exact drop_value (k _ s.heap s.toks M₁ φ₁ X₁ Mv.refl .next)
  · cases ev
theorem ex_try {a : List Stmt} {hs : List ExceptHandler} {ta : List T} {pos : Pos} (ia : XsS p B A env own FA names F a ta) (X : FS p B env own FA names h M φ σ ρ) (ev : xs F ρ σ ta = some (fl, ρ', σ')) :
    RunS p B A env own FA names (exec (.Try a hs [] [] pos) env) h M φ σ' ρ' (fun f h M => FlR p h M fl f) := fun s Q E hh k => by
  show wpAny _ _ (do standAt pos; tryStmt false (execs a env) hs (execs [] env) [] env) _ _ _
  refine wpAny_bind (wpAny_standAt ?_)
  show wpAny _ _ ((execs a env).attempt >>= _) _ _ _
  refine wpAny_bind (wpAny_attempt (ia ev X s _ _ hh fun f h' tk M' φ' X' m' r => ?_))
  cases r with
  | next => exact wpAny_pure (k _ h' tk M' φ' X' m' .next)
  | ret v => exact wpAny_pure (k _ h' tk M' φ' X' m' (.ret v))
end
end Mine

namespace Mine
open PySem PySem.W PyProof.Rows PySem.Calls PySem.SeqAt

set_option backward.match.sparseCases false in
noncomputable def noTup : Expr → Bool
  | .Tuple _ _ _ => false
  | _ => true
theorem swapped_no {es : List Expr} {k : Nat} {tp : Pos} {e : Expr} {env : Env} (h : noTup e = true) : swappedStores [.Tuple es k tp] e env = pure none := by
  induction e using PySem.Expr.casesOn <;> first | rfl | exact nof h
section
variable {p : Pm} {K : Frag} {mg mb : Str → Option Value} {tb : Tb} {B : Heap} {A : Around} {env : Env} {own : Bool} {FA : List Addr} {names : List Str} {F : Fns} {h h' : Heap} {M M' : List Addr} {φ φ' : List (Option Addr)} {σ σ' σ₁ : List C} {ρ ρ' : List (Option W)} {fl : Fl}
theorem ex_unp' {es : List Expr} {is : List Nat} {k : Nat} {tp pos : Pos} {e : Expr} {xe : Mine.X} (hh : A.handled = none) (hn : noComp e = true) (ht : swappedStores [.Tuple es k tp] e env = pure none) (ok : NmsOk env own names es is) (ie : EvS p B A env own FA names F e xe) (X : FS p B env own FA names h M φ σ ρ) (ev : exUnp F ρ σ is xe = some (fl, ρ', σ')) :
    RunS p B A env own FA names (exec (.Assign [.Tuple es k tp] e pos) env) h M φ σ' ρ' (fun f h M => FlR p h M fl f) := by
  unfold exUnp at ev
  split at ev
  · rename_i d σ₁ e1
    split at ev
    rotate_left
    · cases ev
    rename_i ds e0
    rw [D.t?_eq e0] at e1
    split at ev
    · rename_i ρ₁ e2
      cases ev
      rw [exec_Assign]
      refine RunS.standAt ?_
      rw [show swapsWithSole [.Tuple es k tp] e pos.line env = pure false from (show swapsWith e (some (.Tuple es k tp)) pos.line env = pure false from swaps_no hn)]
      show RunS p B A env own FA names (do let v ← eval e env; assignStores env v (← swappedStores [.Tuple es k tp] e env) ((assignEach [.Tuple es k tp] env).map (·.2))) _ _ _ _ _ _
      rw [ht]
      refine RunS.ev X (ie e1 X) fun v h₁ M₁ φ₁ X₁ m₁ r₁ => ?_
      show RunS p B A env own FA names (do assign (.Tuple es k tp) env v; Pure.pure Flow.next) _ _ _ _ _ _
      refine RunS.bind X₁ (run_unpack hh ok X₁ r₁.dat e2) fun _ h₂ M₂ φ₂ X₂ m₂ _ => ?_
      exact RunS.pure X₂ .next
    · cases ev
  · cases ev
theorem ex_unp {es : List Expr} {is : List Nat} {k : Nat} {tp pos : Pos} {e : Expr} {xe : Mine.X} (hh : A.handled = none) (hn : noComp e = true) (ht : noTup e = true) (ok : NmsOk env own names es is) (ie : EvS p B A env own FA names F e xe) (X : FS p B env own FA names h M φ σ ρ) (ev : exUnp F ρ σ is xe = some (fl, ρ', σ')) :
    RunS p B A env own FA names (exec (.Assign [.Tuple es k tp] e pos) env) h M φ σ' ρ' (fun f h M => FlR p h M fl f) := ex_unp' hh hn (swapped_no ht) ok ie X ev
theorem run_putCell {v iv ov : Value} {w : W} {j x : Mine.D} (S : St p B h M φ σ) (O : WRel p h M φ ov w) (J : VRel p h M iv j) (V : VRel p h M v x) (e : putCell σ w j x = some σ') : Run p B A (setItem ov iv v) h M φ σ' (fun _ _ _ _ => True) := by
  unfold putCell at e
  split at e
  rotate_left
  · cases e
  rename_i c l q
  split at e
  rotate_left
  · cases e
  rename_i ky hk
  split at e
  rotate_left
  · cases e
  rename_i g
  cases e
  obtain ⟨a, kvs, rfl, ha, y, y0, z⟩ := cellD_at S O q
  have hkey := key_rel J hk
  have hn : (kvs.map (·.1)).Nodup := let ⟨_, _, _, _, _, _, _, _, hn⟩ := y; hn
  intro s Q E hs kk
  subst hs
  refine wpAny_setItem_pairs (knd := knd p.prog p.w) (hsz := by rw [z.length]; exact small_line g) hkey y fun h' hd hsb => ?_
  have haM := S.sub a (List.mem_of_getElem? ha)
  have gr : Gr s.heap M h' M := ⟨fun b o n e => (hsb.2 b (fun q => n (q ▸ haM))).trans e, fun b o n _ => n⟩
  obtain ⟨S', m'⟩ := S.set (c := .dct (putK ky x l)) ha (let ⟨o, _, _, e, _⟩ := hd; ⟨o, e⟩) hsb (by simp) (.dct hd y0 ((z.put hn V).mono gr))
  rw [setNth_eq] at kk
  exact kk () h' _ M φ S' m' trivial
theorem ex_setI {o i e : Expr} {xo xi xe : Mine.X} {tp pos : Pos} (hn : noComp e = true) (io : EvS p B A env own FA names F o xo) (ii : EvS p B A env own FA names F i xi) (ie : EvS p B A env own FA names F e xe) (X : FS p B env own FA names h M φ σ ρ) (ev : exSetI F ρ σ xo xi xe = some (fl, ρ', σ')) :
    RunS p B A env own FA names (exec (.Assign [.Subscript o i tp] e pos) env) h M φ σ' ρ' (fun f h M => FlR p h M fl f) := by
  unfold exSetI at ev
  split at ev
  · rename_i x σ₁ e1
    split at ev
    · rename_i w σ₂ e2
      split at ev
      · rename_i j σ₃ e3
        split at ev
        · rename_i σ₄ e4
          cases ev
          rw [exec_Assign_Subscript _ _ _ _ _ (swaps_no hn)]
          refine RunS.standAt (RunS.ev X (ie e1 X) fun v h₁ M₁ φ₁ X₁ m₁ r₁ => ?_)
          rw [assign_Subscript]
          simp only [bind_assoc]
          refine RunS.ev X₁ (Run.holding (io e2 X₁)) fun ov h₂ M₂ φ₂ X₂ m₂ r₂ => ?_
          refine RunS.ev X₂ (Run.holding (ii e3 X₂)) fun iv h₃ M₃ φ₃ X₃ m₃ r₃ => RunS.standAt ?_
          have V : VRel p h₃ M₃ v x := (r₁.dat.step X₁.S m₂).step X₂.S m₃
          refine RunS.ev X₃ (Run.holding (run_putCell X₃.S (r₂.step X₂.S m₃) r₃.dat V e4)) fun _ h₄ M₄ φ₄ X₄ m₄ _ => ?_
          intro s Q E hs k
          subst hs
          exact wpAny_bind (wpAny_release (wpAny_pure (k _ s.heap s.toks M₄ φ₄ X₄ Mv.refl .next)))
        · cases ev
      · cases ev
    · cases ev
  · cases ev
end
end Mine

namespace Mine
open PySem PySem.W PyProof.Rows PySem.Calls PySem.SeqAt

theorem folded_no {e : Expr} {env : Env} (h : noMark e = true) (x : Value) : foldedSetIterable e env x = pure x := by
  unfold foldedSetIterable
  induction e using PySem.Expr.casesOn <;> first | rfl | exact nof h
section
variable {p : Pm} {K : Frag} {mg mb : Str → Option Value} {tb : Tb} {B : Heap} {A : Around} {env : Env} {own : Bool} {FA : List Addr} {names : List Str} {F : Fns} {h h' : Heap} {M M' : List Addr} {φ φ' : List (Option Addr)} {σ σ' σ₁ : List C} {ρ ρ' : List (Option W)} {fl : Fl}
/-- a source is walked -/
noncomputable def SrcS (p : Pm) (B : Heap) (A : Around) (env : Env) (own : Bool) (FA : List Addr) (names : List Str) (F : Fns) (e : Expr) (x : Mine.X) : Prop :=
  ∀ {ρ σ h M φ items σ'}, srcEv F ρ σ x = some (items, σ') → FS p B env own FA names h M φ σ ρ → Run p B A (eval e env) h M φ σ' (Itb p B A FA h items σ')
theorem src_val {e : Expr} {x : Mine.X} (hh : A.handled = none) (q0 : isRng x = none) (q1 : isRev x = none) (ie : EvS p B A env own FA names F e x) : SrcS p B A env own FA names F e x := fun {ρ σ h M φ items σ'} ev X => by
  have ev' : (om2 (F.ev ρ σ x) none fun w σ₁ => (om1 (itemsOf w) none fun l => some (l, σ₁))) = some (items, σ') := by
    unfold srcEv at ev; rw [q0, q1] at ev; exact ev
  split at ev'
  · rename_i w σ₁ e1
    split at ev'
    · rename_i l e2
      cases ev'
      refine Run.mono (ie e1 X) fun v h₁ M₁ φ₁ S₁ m₁ r₁ => ?_
      cases w with
      | d d => exact itb_items (fun b q => m₁.defd b q) hh S₁ (X.step S₁ m₁).fa r₁.dat e2
      | _ => cases e2
    · cases ev'
  · cases ev'
theorem src_range {x : Str} {es : List Expr} {xs : List Mine.X} {np pos : Pos} (Y : Bs K mg mb B) (hh : A.handled = none) (n : NmV K env x (.type "range")) (E : EvsS p B A env own FA names F es xs) : SrcS p B A env own FA names F (.Call (.Name x np) es [] pos) (.range xs) := fun {ρ σ h M φ items σ'} ev X => by
  change om2 (evs F ρ σ xs) none (fun ws σ₁ => om1 (rangeItems ws) none fun l => some (l, σ₁)) = some (items, σ') at ev
  split at ev
  · rename_i ws σ₁ e1
    split at ev
    · rename_i l e2
      cases ev
      exact run_CallN Y n E (fun _ => keep_t _) e1 X fun vs h₁ M₁ φ₁ S₁ m₁ r₁ => run_range (fun b q => m₁.defd b q) hh S₁ (X.step S₁ m₁).fa r₁ e2
    · cases ev
  · cases ev
theorem src_rev {x : Str} {a : Expr} {xa : Mine.X} {np pos : Pos} (Y : Bs K mg mb B) (hh : A.handled = none) (n : NmV K env x (.type "reversed")) (hn : noStar a = true) (ia : EvS p B A env own FA names F a xa) : SrcS p B A env own FA names F (.Call (.Name x np) [a] [] pos) (.rev xa) := fun {ρ σ h M φ items σ'} ev X => by
  change om2 (F.ev ρ σ xa) none (fun w σ₁ => om1 (revItems w) none fun l => some (l, σ₁)) = some (items, σ') at ev
  split at ev
  · rename_i w σ₁ e1
    split at ev
    · rename_i l e2
      cases ev
      refine run_CallN (xs := [xa]) (ws := [w]) (σ₁ := σ₁) Y n (.cons hn ia .nil) (fun _ => keep_t _) (by unfold evs; rw [e1]; rfl) X fun vs h₁ M₁ φ₁ S₁ m₁ r₁ => ?_
      cases r₁ with
      | cons r r' => cases r' with | nil => exact run_reversed (fun b q => m₁.defd b q) hh S₁ (X.step S₁ m₁).fa r e2
    · cases ev
  · cases ev
theorem ex_for {target iter : Expr} {body : List Stmt} {tg : List Nat} {xi : Mine.X} {bt : List T} {pos : Pos} (hh : A.handled = none) (ok : TgOk env own names target tg) (hm : noMark iter = true) (is : SrcS p B A env own FA names F iter xi)
    (ib : XsS p B A env own FA names F body bt) (X : FS p B env own FA names h M φ σ ρ) (ev : exFor F ρ σ tg xi bt = some (fl, ρ', σ')) :
    RunS p B A env own FA names (exec (.For target iter body [] pos) env) h M φ σ' ρ' (fun f h M => FlR p h M fl f) := by
  unfold exFor at ev
  split at ev
  · rename_i items σ₁ e1
    intro s Q E hs k
    subst hs
    refine wpAny_For ?_ (folded_no hm)
    refine is e1 X s _ E rfl fun v h₁ tk M₁ φ₁ S₁ m₁ itb => itb { s with heap := h₁, toks := tk } _ E rfl fun it h₂ tk₂ M₂ φ₂ S₂ m₂ r₂ => ?_
    obtain ⟨I, rfl, hIF, hI0, x₂⟩ := r₂
    have X₂ := (X.step S₁ m₁).step S₂ m₂
    have mm := m₁.trans X.S m₂
    refine for_turns hh ok X hI0 hIF (fun y c e => ?_) ib X₂ (mm.mono (by simp)) x₂ ev _ _ rfl (fun f h₃ tk₃ M₃ φ₃ X₃ m₃ fr => k f h₃ tk₃ M₃ φ₃ X₃ m₃ fr)
    rintro rfl
    obtain ⟨_, _, v, o, ho, _⟩ := X.F.cells y c e
    exact get_lt ho hI0
  · cases ev
/-- a while loop's turn is ahead -/
inductive WInv (p : Pm) (B : Heap) (env : Env) (own : Bool) (FA : List Addr) (names : List Str) (tb : Tb) (orc : Orc) (xc : Mine.X) (bt : List T) (n : Nat) (fl : Fl) (ρ' : List (Option W)) (σ' : List C) (s : Shared) (M_ : List Addr) (φ_ : List (Option Addr)) (j : Nat) (s' : Shared) : Prop
  | mk (h : Heap) (tk : Nat) (M : List Addr) (φ : List (Option Addr)) (ρ : List (Option W)) (σ : List C) : s' = { s with heap := h, toks := tk } → FS p B env own FA names h M φ σ ρ → Mv FA s.heap M_ φ_ h M φ → j ≤ n → (run tb orc j).ex ρ σ (.whl xc bt) = some (fl, ρ', σ') → WInv p B env own FA names tb orc xc bt n fl ρ' σ' s M_ φ_ j s'
/-- while: the turns go down in n -/
theorem ex_whl {tb : Tb} {orc : Orc} {c : Expr} {xc : Mine.X} {body : List Stmt} {bt : List T} {pos : Pos} {n : Nat} (its : ∀ m, m < n → TsS p B A env own FA names (run tb orc m) c xc) (ibs : ∀ m, m < n → XsS p B A env own FA names (run tb orc m) body bt)
    {M_ : List Addr} {φ_ : List (Option Addr)} (X₀ : FS p B env own FA names h M_ φ_ σ ρ) (ev : (run tb orc n).ex ρ σ (.whl xc bt) = some (fl, ρ', σ')) :
    RunS p B A env own FA names (exec (.While c body [] pos) env) h M_ φ_ σ' ρ' (fun f h M => FlR p h M fl f) := fun s Q E hs k => by
  subst hs
  refine wpAny_While ?_
  have S₀ := X₀.S
  refine codeAny_whileLoop (WInv p B env own FA names tb orc xc bt n fl ρ' σ' s M_ φ_) ?_ n (.mk s.heap s.toks M_ φ_ ρ σ rfl X₀ Mv.refl (Nat.le_refl _) ev)
  clear X₀ ev
  intro j s' inv
  cases inv with
  | mk h tk M φ ρ σ hs' X m hj ev =>
  subst hs'
  cases j with
  | zero => cases ev
  | succ j =>
    have ev : exWhl (run tb orc j) ρ σ xc bt = some (fl, ρ', σ') := ev
    have its : TsS p B A env own FA names (run tb orc j) c xc := fun {_ _ _ _ _ _ _} => its j hj
    have ibs : XsS p B A env own FA names (run tb orc j) body bt := fun {_ _ _ _ _ _ _ _} => ibs j hj
    unfold exWhl at ev
    split at ev
    · rename_i σ₁ e1
      refine its e1 X { s with heap := h, toks := tk } _ _ rfl fun b h₁ tk₁ M₁ φ₁ S₁ m₁ r₁ => ?_
      subst r₁
      have X₁ := X.step S₁ m₁
      have m₁ := m.trans S₀ (m₁.mono (by simp))
      clear X m
      rw [if_pos rfl]
      split at ev
      · rename_i ρ₂ σ₂ e2
        refine ibs e2 X₁ { s with heap := h₁, toks := tk₁ } _ _ rfl fun f h₂ tk₂ M₂ φ₂ X₂ m₂ fr => ?_
        cases fr
        exact ⟨j, Nat.lt_succ_self j, .mk h₂ tk₂ M₂ φ₂ ρ₂ σ₂ rfl X₂ (m₁.trans S₀ m₂) (Nat.le_of_succ_le hj) ev⟩
      · rename_i d ρ₂ σ₂ e2
        cases ev
        refine ibs e2 X₁ { s with heap := h₁, toks := tk₁ } _ _ rfl fun f h₂ tk₂ M₂ φ₂ X₂ m₂ fr => ?_
        cases fr with
        | ret v => exact k _ h₂ tk₂ M₂ φ₂ X₂ (m₁.trans S₀ m₂) (.ret v)
      · cases ev
    · rename_i σ₁ e1
      cases ev
      refine its e1 X { s with heap := h, toks := tk } _ _ rfl fun b h₁ tk₁ M₁ φ₁ S₁ m₁ r₁ => ?_
      subst r₁
      rw [if_neg Bool.false_ne_true]
      exact wpAny_pure (k _ h₁ tk₁ M₁ φ₁ (X.step S₁ m₁) (m.trans S₀ (m₁.mono (by simp))) .next)
    · cases ev
end
end Mine

namespace Mine
open PySem PySem.W PyProof.Rows PySem.Calls PySem.SeqAt

section
variable {p : Pm} {K : Frag} {mg mb : Str → Option Value} {tb : Tb} {B : Heap} {A : Around} {env : Env} {own : Bool} {FA : List Addr} {names cnames : List Str} {caps : List Nat} {scope : Scope} {F : Fns} {h h' : Heap} {M M' : List Addr} {φ φ' : List (Option Addr)} {σ σ' σ₁ : List C} {ρ ρ' : List (Option W)} {fl : Fl}
/-- the conditions of a comprehension: none, or one -/
inductive IfsS (p : Pm) (B : Heap) (A : Around) (env : Env) (own : Bool) (FA : List Addr) (names : List Str) (F : Fns) : List Expr → Option Mine.X → Prop
  | none : IfsS p B A env own FA names F [] none
  | one {c : Expr} {x : Mine.X} : TsS p B A env own FA names F c x → IfsS p B A env own FA names F [c] (some x)
theorem run_ifs {ifs : List Expr} {xc : Option Mine.X} {b : Bool} (I : IfsS p B A env own FA names F ifs xc) (e : condL F ρ σ xc = some (b, σ')) (X : FS p B env own FA names h M φ σ ρ) :
    Run p B A (forIn ifs true fun c r => if r = true then do let ok ← isTrue c env (eval c env); Pure.pure (ForInStep.yield ok) else Pure.pure (ForInStep.yield r)) h M φ σ' (fun x _ _ _ => x = b) := by
  cases I with
  | none => cases e; rw [List.forIn_nil]; exact Run.pure X.S rfl
  | @one c x t =>
    rw [List.forIn_cons]
    simp only [if_true, bind_assoc, pure_bind]
    refine Run.bind X.S (t e X) fun r h₁ M₁ φ₁ S₁ m₁ r₁ => ?_
    rw [List.forIn_nil]
    exact Run.pure S₁ r₁
/-- a comprehension, as an expression -/
theorem run_Comp {target iter elt : Expr} {ifs : List Expr} {pos : Pos} {tg : List Nat} {xe xi : Mine.X} {xc : Option Mine.X} {w : W} (hh : A.handled = none) (ok : CompOk env names scope cnames caps) (htg : ∀ cl C, TgOk (compEnvC scope cl C env) false cnames target tg) (hm : noMark iter = true)
    (is : SrcS p B A env own FA names F iter xi) (ie : ∀ cl C, EvS p B A (compEnvC scope cl C env) false [C] cnames F elt xe) (ic : ∀ cl C, IfsS p B A (compEnvC scope cl C env) false [C] cnames F ifs xc)
    (X : FS p B env own FA names h M φ σ ρ) (e : evComp F ρ σ xe tg xi xc cnames caps = some (w, σ')) : Run p B A (eval (.ListComp elt [⟨target, iter, ifs, 0⟩] scope pos) env) h M φ σ' (U p w) := by
  unfold evComp at e
  split at e
  · rename_i items σ₁ e1
    split at e
    · rename_i g
      split at e
      · rename_i l σ₂ e2
        cases e
        exact run_V (run_comp hh ok htg X (folded_no hm) (is e1 X) (fun a b => ie _ _ a b) (fun a b => run_ifs (ic _ _) a b) (small_line g) e2)
      · cases e
    · cases e
  · cases e
/-- x = [comp], where the value is stored before the frame goes -/
theorem ex_comp {target iter elt : Expr} {ifs : List Expr} {pos spos py : Pos} {y : Str} {i : Nat} {tg : List Nat} {xe xi : Mine.X} {xc : Option Mine.X} (hh : A.handled = none) (hsw : swapsWith (.ListComp elt [⟨target, iter, ifs, 0⟩] scope pos) (some (.Name y py)) spos.line env = pure true)
    (sto : StOk env own names i y) (ok : CompOk env names scope cnames caps) (htg : ∀ cl C, TgOk (compEnvC scope cl C env) false cnames target tg) (hm : noMark iter = true)
    (is : SrcS p B A env own FA names F iter xi) (ie : ∀ cl C, EvS p B A (compEnvC scope cl C env) false [C] cnames F elt xe) (ic : ∀ cl C, IfsS p B A (compEnvC scope cl C env) false [C] cnames F ifs xc)
    (X : FS p B env own FA names h M φ σ ρ) {e' : Option (W × List C)} (he : e' = evComp F ρ σ xe tg xi xc cnames caps) {w : W} (e : e' = some (w, σ')) (hρ : ρ' = setNth ρ i (some w)) :
    RunS p B A env own FA names (exec (.Assign [.Name y py] (.ListComp elt [⟨target, iter, ifs, 0⟩] scope pos) spos) env) h M φ σ' ρ' (fun f h M => FlR p h M .next f) := by
  subst he hρ
  unfold evComp at e
  split at e
  · rename_i items σ₁ e1
    split at e
    · rename_i g
      split at e
      · rename_i l σ₂ e2
        cases e
        exact comp_use hh hsw sto ok htg X (folded_no hm) (is e1 X) (fun a b => ie _ _ a b) (fun a b => run_ifs (ic _ _) a b) (small_line g) e2
      · cases e
    · cases e
  · cases e
end
end Mine

namespace Mine
open PySem PySem.W PyProof.Rows PySem.Calls PySem.SeqAt

/-- a value that is no object -/
noncomputable def flatV (v : Value) (d : Mine.D) : Bool := om1 d.key? (om1 d.b? (d.isN && v == .none) fun b => v == .bool b) fun k => k.is v
noncomputable def flatVs (vs : List Value) (ds : List Mine.D) : Bool := all2 flatV vs ds
/-- a global's value, told from the frozen heap -/
noncomputable def globV (K : Frag) (v : Value) (d : Mine.D) : Bool := match v with
  | .ref a => match K.lookup a, d with
    | some ⟨.type T, .none, .seq items _, sl⟩, .tup ds => T == "tuple" && sl.isEmpty && flatVs items.toList ds
    | _, _ => false
  | v => flatV v d
section
variable {p : Pm} {K : Frag} {mg mb : Str → Option Value} {tb : Tb} {B : Heap} {A : Around} {env : Env} {own : Bool} {FA : List Addr} {names : List Str} {F : Fns} {h h' : Heap} {M M' : List Addr} {φ φ' : List (Option Addr)} {σ σ' σ₁ : List C} {ρ ρ' : List (Option W)}
theorem flatV_rel {v : Value} {d : Mine.D} (e : flatV v d = true) : VRel p h M v d := by
  unfold flatV at e
  split at e
  · rename_i k q
    rw [key?_d q]; exact rel_key e
  · split at e
    · rename_i b q
      rw [D.b?_eq q, eq_of_beq e]; exact .bool _
    · rw [D.isN_eq (and2 e).1, eq_of_beq (and2 e).2]; exact .none
theorem flatVs_rel {vs : List Value} {ds : List Mine.D} (h' : flatVs vs ds = true) : VRels p h M vs ds := by
  replace h' := all2_F2 h'
  induction h' with
  | nil => exact .nil
  | cons a _ ih => exact .cons (flatV_rel a) ih
theorem globV_rel {v : Value} {d : Mine.D} (Y : Bs K mg mb B) (S : St p B h M φ σ) (e : globV K v d = true) : VRel p h M v d := by
  unfold globV at e
  split at e
  · rename_i a
    split at e
    · rename_i T items n sl ds q
      rw [Bool.and_eq_true, Bool.and_eq_true] at e
      obtain ⟨⟨e1, e2⟩, e3⟩ := e
      have hT := eq_of_beq e1
      subst hT
      have hsl : sl = #[] := Array.isEmpty_iff.mp e2
      subst hsl
      have hb := Y.K _ _ q
      have hh := S.base _ _ hb
      have := flatVs_rel (p := p) (h := h) (M := M) e3
      exact .tup (vs := items.toList) ⟨n, by simpa using hh⟩ (S.base_notM hb) this
    · cases e
  · exact flatV_rel e
theorem run_Glob {x : Str} {pos : Pos} {v : Value} {d : Mine.D} (Y : Bs K mg mb B) (X : FS p B env own FA names h M φ σ ρ) (n : NmV K env x v) (e : VRel p h M v d) : Run p B A (eval (.Name x pos) env) h M φ σ (U p (.d d)) := fun s Q E hs k => by
  subst hs
  exact load_nm Y X n (k v s.heap s.toks M φ X.S Mv.refl (.d e))
end
end Mine

namespace Mine
open PySem PySem.W PyProof.Rows PySem.Calls PySem.SeqAt

/-- the keys of a display: constants -/
inductive KeysS : List (Option Expr) → List Key → Prop
  | nil : KeysS [] []
  | cons {c : Const} {n : Nat} {pos : Pos} {d : Mine.D} {k : Key} {es : List (Option Expr)} {ks : List Key} : constD c = some d → d.key? = some k → KeysS es ks → KeysS (some (.Constant c n pos) :: es) (k :: ks)
noncomputable def pairsAt (pos : Pos) (env : Env) : List (Option Expr) → List Expr → List (Sem Value × Sem Value)
  | some k :: ks, v :: vs => (eval k env, do let x ← eval v env; standAt pos; pure x) :: pairsAt pos env ks vs
  | _, _ => []
section
variable {p : Pm} {K : Frag} {mg mb : Str → Option Value} {tb : Tb} {B : Heap} {A : Around} {env : Env} {own : Bool} {FA : List Addr} {names : List Str} {F : Fns} {h h' : Heap} {M M' : List Addr} {φ φ' : List (Option Addr)} {σ σ' σ₁ : List C} {ρ ρ' : List (Option W)}
theorem KeysS.shape {keys : List (Option Expr)} {ks : List Key} (k : KeysS keys ks) {pos : Pos} {env : Env} : ∀ {vs : List Expr}, (evalEachOpt keys env).zip ((evalEach vs env).map fun v => do let x ← v; standAt pos; pure x) = (pairsAt pos env keys vs).map fun p => (some p.1, p.2) := by
  induction k with
  | nil => intro vs; rfl
  | cons a b _ ih =>
    intro vs
    cases vs with
    | nil => rfl
    | cons v vs =>
      show (_ :: _) = (_ :: _)
      rw [← ih]
      rfl
theorem run_pairs {keys : List (Option Expr)} {ks : List Key} (k : KeysS keys ks) {pos : Pos} : ∀ {es : List Expr} {xs : List Mine.X} {σ h M φ ws σ'}, EvsS p B A env own FA names F es xs → es.length = ks.length → evs F ρ σ xs = some (ws, σ') → FS p B env own FA names h M φ σ ρ →
    Run p B A (evalPairs (pairsAt pos env keys es)) h M φ σ' (fun vs h M φ => ∃ us, Carries (knd p.prog p.w) vs (ks.zip us) ∧ WRels p h M φ us ws) := by
  induction k with
  | nil =>
    intro es xs σ h M φ ws σ' E hl e X
    cases E with
    | nil => cases e; exact fun s Q E hs k => evalPairs_nil (by subst hs; exact k [] s.heap s.toks M φ X.S Mv.refl ⟨[], trivial, .nil⟩)
    | cons => simp at hl
  | @cons c n kp d key es' ks hc hk _ ih =>
    intro es xs σ h M φ ws σ' E hl ev X
    cases E with
    | nil => simp at hl
    | @cons e x es xs hn h1 E' =>
      unfold evs at ev
      split at ev
      · rename_i w σ₁ e1
        split at ev
        · rename_i ws' σ₂ e2
          cases ev
          intro s Q Ex hs k
          refine evalPairs_cons ?_
          refine run_const X.S hc s _ Ex hs fun kv h₁ tk M₁ φ₁ S₁ m₁ r₁ => ?_
          refine wpAny_bind (h1 e1 (X.step S₁ m₁) { s with heap := h₁, toks := tk } _ Ex rfl fun v h₂ tk₂ M₂ φ₂ S₂ m₂ r₂ => wpAny_bind (wpAny_standAt (wpAny_pure ?_)))
          refine ih E' (by simpa using hl) e2 ((X.step S₁ m₁).step S₂ m₂) { s with heap := h₂, toks := tk₂ } _ Ex rfl fun vs h₃ tk₃ M₃ φ₃ S₃ m₃ r₃ => ?_
          obtain ⟨us, a, b⟩ := r₃
          refine k _ h₃ tk₃ M₃ φ₃ S₃ ((m₁.trans X.S m₂).trans X.S m₃) ⟨v :: us, ⟨key_rel r₁ hk, rfl, a⟩, .cons (r₂.step S₂ m₃) b⟩
        · cases ev
      · cases ev
end
end Mine

namespace Mine
open PySem PySem.W PyProof.Rows PySem.Calls PySem.SeqAt

section
variable {p : Pm} {K : Frag} {mg mb : Str → Option Value} {tb : Tb} {B : Heap} {A : Around} {env : Env} {own : Bool} {FA : List Addr} {names : List Str} {F : Fns} {h h' h₀ : Heap} {M M' M₀ : List Addr} {φ φ' φ₀ : List (Option Addr)} {σ σ' σ₁ : List C} {ρ ρ' : List (Option W)}
theorem zipK_putAll : ∀ {ks : List Key} {ds : List Mine.D} {acc es : List (Key × Mine.D)}, zipK ks ds acc = some es → ks.length = ds.length ∧ es = putAll (ks.zip ds) acc
  | [], [], acc, es, e => by cases e; exact ⟨rfl, rfl⟩
  | [], _ :: _, _, _, e => by cases e
  | _ :: _, [], _, _, e => by cases e
  | k :: ks, d :: ds, acc, es, e => by
    obtain ⟨a, b⟩ := zipK_putAll (ks := ks) (ds := ds) (acc := putK k d acc) e
    exact ⟨by simp [a], b⟩
theorem zip_rel : ∀ {ks : List Key} {us : List Value} {ds : List Mine.D}, VRels p h M us ds → ERels p h M (ks.zip us) (ks.zip ds)
  | [], _, _, _ => .nil
  | k :: ks, _, _, .nil => .nil
  | k :: ks, _, _, .cons a b => .cons a (zip_rel b)
theorem Mv.addCell {D : Addr} (m : Mv [] h M φ h' M' φ') (h0 : h.get? D = none) : Mv [] h M φ h' (D :: M') (φ' ++ [some D]) where
  keep := m.keep
  sub b hb := (m.sub b hb).imp (.tail _) id
  fresh b hb n := by
    rcases List.mem_cons.mp hb with rfl | q
    · exact h0
    · exact m.fresh b q n
  phi k a l e := m.phi k a l (phi_append k a (Nat.lt_of_lt_of_le l m.len) e)
  len := by rw [List.length_append]; exact Nat.le_trans m.len (Nat.le_add_right _ _)
  news b hb n := by
    rcases List.mem_append.mp hb with q | q
    · exact m.news b q n
    · cases List.mem_singleton.mp q; exact h0
  defd := m.defd
/-- a dict's display with keys -/
theorem run_Dct {keys : List (Option Expr)} {ks : List Key} {kxs : List Mine.X} {es : List Expr} {xs : List Mine.X} {cell : Bool} {pos : Pos} {w : W} (Y : Bs K mg mb B) (k : KeysS keys ks) (hk : keysLit kxs = some ks) (E : EvsS p B A env own FA names F es xs) (hl : es.length = ks.length) (h0 : pairsAt pos env keys es ≠ []) (hlen : (pairsAt pos env keys es).length ≤ 15)
    (X : FS p B env own FA names h M φ σ ρ) (e : evDct F ρ σ cell kxs xs = some (w, σ')) : Run p B A (eval (.Dict keys es pos) env) h M φ σ' (U p w) := by
  unfold evDct at e
  rw [hk] at e
  dsimp only at e
  split at e
  rotate_left
  · cases e
  rename_i ws σ₁ e1
  split at e
  rotate_left
  · cases e
  rename_i ds σ₂ e2
  split at e
  rotate_left
  · cases e
  rename_i en e3
  injection e with e
  obtain ⟨hz, hen⟩ := zipK_putAll e3
  intro s Q Ex hs kk
  subst hs
  refine wpAny_Dict_pairs (knd := knd p.prog p.w) k.shape h0 hlen ?_
  have kp : ∀ (b : Addr) (o : Obj), s.heap.get? b = some o → (s.heap.push { cls := .type "dict", data := .dict #[] }).get? b = some o := fun b o e => Heap.get?_push_of_some _ e
  have hD0 : s.heap.get? s.heap.objs.size = none := none_ge (Nat.le_refl _)
  have hd0 : (s.heap.push { cls := .type "dict", data := .dict #[] }).DictOf (knd p.prog p.w) s.heap.objs.size [] := Heap.DictOf.new ..
  have hDf : Df (s.heap.push { cls := .type "dict", data := .dict #[] }) s.heap.objs.size := let ⟨o, _, _, e, _⟩ := hd0; ⟨o, e⟩
  obtain ⟨S1, m1⟩ := X.S.newM kp hD0 hDf
  have X1 := X.step S1 m1
  have hDφ : some s.heap.objs.size ∉ φ := fun z => X.S.notM (X.S.sub _ z)
  refine run_pairs k E hl e1 X1 { s with heap := s.heap.push { cls := .type "dict", data := .dict #[] } } _ Ex rfl fun vs h2 tk2 M2 φ2 S2 m2 r2 => ?_
  obtain ⟨us, ca, V⟩ := r2
  obtain ⟨M3, φ3, S3, m3, r3⟩ := toDs_at S2 V e2
  have hDM2 : s.heap.objs.size ∈ M2 := (m2.sub _ (.head _)).resolve_right hDφ
  have hDφ2 : some s.heap.objs.size ∉ φ2 := fun z => hDf.no (m2.news _ z hDφ)
  have hDM3 : s.heap.objs.size ∈ M3 := (m3.sub _ hDM2).resolve_right hDφ2
  have hDφ3 : some s.heap.objs.size ∉ φ3 := fun z => (m2.defd _ hDf).no (m3.news _ z hDφ2)
  refine ⟨ks.zip us, ca, (let ⟨o, es, ep, e, r⟩ := hd0; ⟨o, es, ep, m2.keep _ o (by simp) hDφ e, r⟩), fun h' hd hsb => ?_⟩
  have hsys := X.S.notSys Y
  have er : ∀ {h : Heap} {M : List Addr}, VRels p h M us ds → ERels p h M (merged [] (ks.zip us)) en := fun V => by rw [hen]; exact putAll_rel .nil (zip_rel V) (by simp)
  have ki := KI.drop (h' := h') hDM3 hDφ3 fun b o n e => (hsb.2 b n).trans e
  have S4 := ki.St S3
  have m4 : Mv [] s.heap M φ h' (M3.filter fun b => decide (b ≠ s.heap.objs.size)) φ3 := ki.Mv X.S hD0 ((m1.trans X.S m2).trans X.S m3)
  have V4 := er (r3.mono ki.gr)
  cases cell with
  | false =>
    cases e
    exact kk _ h' _ _ φ3 S4 m4 (.d (.dct hd hsys not_filter V4))
  | true =>
    cases e
    have g : ∀ b ∈ s.heap.objs.size :: M3.filter (fun b => decide (b ≠ s.heap.objs.size)), b ∈ M3 := fun b hb => by
      rcases List.mem_cons.mp hb with rfl | q
      · exact hDM3
      · exact (List.mem_filter.mp q).1
    have hdf' : Df h' s.heap.objs.size := let ⟨o, _, _, e, _⟩ := hd; ⟨o, e⟩
    have ki3 : KI h2 M3 φ3 h' M3 s.heap.objs.size := ⟨fun b o n e => (hsb.2 b n).trans e, fun _ m => m, fun _ m _ => m, fun _ => hdf', hDM3, hDφ3⟩
    have S5 := ki3.St S3
    have S6 := S4.newCell (c := .dct en) hdf' (base_none X.S hD0) not_filter (by simp) (.dct hd hsys (er (r3.mono ki3.gr |>.mono (Gr.less g)))) fun j b c' a1 a2 => (S5.cells j b c' a1 a2).mono (Gr.less g) fun o e => e
    refine kk _ h' _ _ _ S6 (m4.addCell hD0) (.cell (by rw [List.length_append, S4.len]; exact Nat.lt_succ_self _) fun a e => ?_)
    rw [← S4.len, List.getElem?_append_right (Nat.le_refl _), Nat.sub_self] at e
    cases e; rfl
end
end Mine

namespace Mine
open PySem PySem.W PyProof.Rows PySem.Calls PySem.SeqAt

section
variable {p : Pm} {B : Heap} {A : Around} {env : Env} {h : Heap} {M : List Addr} {φ : List (Option Addr)} {σ : List C}
/-- a number below nought -/
theorem run_Neg {i : Int} {k : Nat} {cp pos : Pos} (S : St p B h M φ σ) : Run p B A (eval (.UnaryOp .USub (.Constant (.int i) k cp) pos) env) h M φ σ (U p (.d (.int (-i)))) := fun s Q E hs kk => by
  subst hs
  show wpAny _ _ (do let v ← mkInt i; standAt pos; holding [v] (unaryOp .USub v)) _ _ _
  refine wpAny_bind (wpAny_mkInt (wpAny_bind (wpAny_standAt (wpAny_holding (PySem.P.neg_int ?_)))))
  exact kk _ s.heap _ M φ S Mv.refl (.d (.int _ _))
end
end Mine

namespace Mine
open PySem PySem.W PyProof.Rows PySem.Calls PySem.SeqAt

/-- a class whose objects take fields into their own dict -/
noncomputable def setOk (K : Frag) (C : Addr) : Bool := plainOver K C && (clsIn K C).any (·.hasDict) && (findIn K (.ref C) "__setattr__" == some (some (.builtin "object.__setattr__")))
section
variable {prog : Program} {w : World} {K : Frag} {A : Around} {E : Value → Shared → Prop} {s : Shared}
theorem look_str {name : Str} {es : List DictEntry} {n : Nat} (b : es.any (·.refKey) = false) : (lookIn name (dictOf es n)).isSome = true := by
  unfold lookIn
  show (match es.toArray.toList.find? _ with | some e => some (some e.val) | none => if es.toArray.toList.any _ then none else some none).isSome = true
  rw [List.toList_toArray, b]
  split <;> rfl
/-- a field is laid -/
theorem store_field {x dx C : Addr} {es : List DictEntry} {n : Nat} {name : Str} {v : Value} {Q : Unit → Shared → Prop} (X : K.In s.heap) (hx : s.heap.get? x = some (instObj C dx)) (hdx : s.heap.get? dx = some (dictOf es n))
    (hC : setOk K C = true) (ht : takerIn K C name = some none) (hb : es.any (·.refKey) = false) (hz : (putL name (PyData.keyHash w.params name) (.str name (s.toks + 1)) v es).length ≤ 1000)
    (h : ∀ h' tk, Heap.SameBut dx s.heap h' → h'.get? dx = some (dictOf (putL name (PyData.keyHash w.params name) (.str name (s.toks + 1)) v es) (putN name es n)) → Q () { s with heap := h', toks := tk }) :
    wpAny (model prog w) A (setAttr (.ref x) name v) Q E s := by
  unfold setOk at hC
  rw [Bool.and_eq_true, Bool.and_eq_true] at hC
  obtain ⟨⟨hp, hh⟩, hs⟩ := hC
  have I := instAt hx hdx
  refine set_plain X I (beq_iff_eq.mp hs) ?_
  refine osa_open (s := { s with toks := s.toks + 1 }) X I hp ht fun b => ?_
  obtain ⟨cd, hc, hd'⟩ := any_some hh
  have hl := look_str (name := name) (n := n) hb
  refine wpAny_bind (wpAny_pure (wpAny_bind (wpAny_bind (wpAny_loadPart hx (wpAny_bind (Looks.here (s := { s with toks := s.toks + 1 }) (looks_clsIn X hc) ?_))))))
  rw [hd']
  refine wpAny_pure (a := some dx) (wpAny_bind (wpAny_pure (wpAny_bind ?_)))
  unfold nsSet
  refine wpAny_bind (wpAny_bind (wpAny_askSetting (wpAny_pure (wpAny_bind (wpAny_mkText (wpAny_bind (wpAny_loadPart hdx ?_)))))))
  have c : (!es.toArray.any (·.key.isStr name) && es.toArray.any (·.refKey)) = false := by
    rw [← Array.any_toList (p := fun e : DictEntry => e.refKey), List.toList_toArray, hb, Bool.and_false]
  rw [show (dictOf es n).data = .dict es.toArray n from rfl]
  dsimp only
  rw [aRefKeyMayBeTheName_at, c]
  have hput : (Obj.putName name (PyData.keyHash w.params name) (.str name (s.toks + 1)) v (dictOf es n)) = dictOf (putL name (PyData.keyHash w.params name) (.str name (s.toks + 1)) v es) (putN name es n) := putName_dict ..
  have D' : (s.heap.update dx (Obj.putName name (PyData.keyHash w.params name) (.str name (s.toks + 1)) v)).get? dx = some (dictOf (putL name (PyData.keyHash w.params name) (.str name (s.toks + 1)) v es) (putN name es n)) := by
    rw [← hput]; exact Heap.get?_update_self _ hdx (by rw [hput]; rfl)
  refine wpAny_updatePart hdx ?_
  refine wpAny_bind (wpAny_lookBehind D' (pastItsLine_dict (by rw [List.size_toArray, sizeLine_eq]; omega)) ?_)
  exact wpAny_pure (h _ _ (Heap.SameBut.update ..) D')
end
end Mine

namespace Mine
open PySem PySem.W PyProof.Rows PySem.Calls PySem.SeqAt

section
variable {p : Pm} {K : Frag} {mg mb : Str → Option Value} {tb : Tb} {B : Heap} {A : Around} {env : Env} {own : Bool} {FA : List Addr} {names : List Str} {F : Fns} {h h' : Heap} {M M' : List Addr} {φ φ' : List (Option Addr)} {σ σ' σ₁ : List C} {ρ ρ' : List (Option W)}
/-- the fields of an object that is being made -/
inductive GRels (p : Pm) (h : Heap) (M : List Addr) (φ : List (Option Addr)) : List DictEntry → List (Str × W) → Prop
  | nil : GRels p h M φ [] []
  | cons {f : Str} {t : Tok} {v : Value} {w : W} {hsh : Int} {es : List DictEntry} {fs : List (Str × W)} : WRel p h M φ v w → GRels p h M φ es fs → GRels p h M φ (⟨hsh, .str f t, v⟩ :: es) ((f, w) :: fs)
theorem GRels.mono (g : Gr h M h' M') (hl : φ.length ≤ φ'.length) (hp : ∀ (k : Nat) (a : Addr), k < φ.length → φ'[k]? = some (some a) → φ[k]? = some (some a)) {es : List DictEntry} {fs : List (Str × W)} (r : GRels p h M φ es fs) : GRels p h' M' φ' es fs := by
  induction r with
  | nil => exact .nil
  | cons a _ ih => exact .cons (a.mono g hl hp) ih
theorem GRels.noRef {es : List DictEntry} {fs : List (Str × W)} (r : GRels p h M φ es fs) : es.any (·.refKey) = false := by
  induction r with
  | nil => rfl
  | cons a _ ih => rw [List.any_cons, ih]; rfl
theorem GRels.len {es : List DictEntry} {fs : List (Str × W)} (r : GRels p h M φ es fs) : es.length = fs.length := by
  induction r with
  | nil => rfl
  | cons a _ ih => simp [ih]
theorem GRels.put {es : List DictEntry} {fs : List (Str × W)} {name : Str} {hsh : Int} {t : Tok} {v : Value} {w : W} (r : GRels p h M φ es fs) (e : lookW name fs = none) (V : WRel p h M φ v w) : GRels p h M φ (putL name hsh (.str name t) v es) (fs ++ [(name, w)]) := by
  induction r with
  | nil => exact .cons V .nil
  | @cons f t' v' w' hsh' es fs a b ih =>
    unfold lookW at e
    split at e
    · cases e
    · rename_i q
      have hne : ((Value.str f t').isStr name) = false := by
        show (f == name) = false
        cases z : f == name with
        | false => rfl
        | true => rw [strEq_iff.mpr (eq_of_beq z)] at q; cases q
      unfold putL
      rw [hne]
      exact .cons a (ih e)
/-- an object that is being made: x, its dict dx, its fields so far -/
structure Ini (p : Pm) (h : Heap) (M : List Addr) (φ : List (Option Addr)) (C x dx : Addr) (fs : List (Str × W)) : Prop where
  o : h.get? x = some (instObj C dx)
  d : ∃ es n, h.get? dx = some (dictOf es n) ∧ GRels p h M φ es fs
  m : x ∈ M ∧ dx ∈ M
  n : some x ∉ φ ∧ some dx ∉ φ
theorem Ini.step {C x dx : Addr} {fs : List (Str × W)} (I : Ini p h M φ C x dx fs) (S : St p B h M φ σ) (m : Mv [] h M φ h' M' φ') : Ini p h' M' φ' C x dx fs where
  o := m.keep x _ (by simp) I.n.1 I.o
  d := let ⟨es, n, a, b⟩ := I.d; ⟨es, n, m.keep dx _ (by simp) I.n.2 a, b.mono (m.gr (by simp) S.sub) m.len m.phi⟩
  m := ⟨(m.sub x I.m.1).resolve_right I.n.1, (m.sub dx I.m.2).resolve_right I.n.2⟩
  n := ⟨fun z => (S.low x I.m.1).1.no (m.news x z I.n.1), fun z => (S.low dx I.m.2).1.no (m.news dx z I.n.2)⟩
end
end Mine

namespace Mine
open PySem PySem.W PyProof.Rows PySem.Calls PySem.SeqAt

section
variable {p : Pm} {K : Frag} {mg mb : Str → Option Value} {tb : Tb} {B : Heap} {A : Around} {env : Env} {FA : List Addr} {names : List Str} {F : Fns} {h h' h₀ : Heap} {M M' M₀ : List Addr} {φ φ' φ₀ : List (Option Addr)} {σ σ' σ₀ σ₁ : List C} {ρ ρ' : List (Option W)} {D x dx : Addr} {self : Str}
/-- the statements of an __init__: fields are laid -/
inductive InitS (p : Pm) (K : Frag) (B : Heap) (A : Around) (env : Env) (FA : List Addr) (names : List Str) (F : Fns) (D : Addr) (self : Str) : List Stmt → List T → Prop
  | nil : InitS p K B A env FA names F D self [] []
  | cons {f : Str} {e : Expr} {xe : Mine.X} {np ap pos : Pos} {b : List Stmt} {ts : List T} : noComp e = true → EvS p B A env true FA names F e xe → takerIn K D f = some none → InitS p K B A env FA names F D self b ts →
      InitS p K B A env FA names F D self (.Assign [.Attribute (.Name self np) f ap] e pos :: b) (.setA f xe :: ts)
theorem run_init {b : List Stmt} {ts : List T} (I : InitS p K B A env FA names F D self b ts) (Y : Bs K mg mb B) (hd : (self == ("__debug__" : Str)) = false) (hC : setOk K D = true) (S₀ : St p B h₀ M₀ φ₀ σ₀) (h0 : h₀.get? dx = none) (hF : dx ∉ FA) (hc : ∀ y c, env.cells.lookup y = some c → c ≠ dx) :
    ∀ {σ h M φ} {fs fs' : List (Str × W)} {σ'}, initL F ρ σ ts fs = some (fs', σ') → FS p B env true FA names h M φ σ ρ → Has env h self (.ref x) → Ini p h M φ D x dx fs → fs.length + ts.length ≤ 100 → Mv [] h₀ M₀ φ₀ h M φ →
      ∀ (s : Shared) (Q : Flow → Shared → Prop) (E : Value → Shared → Prop), s.heap = h → (∀ h' tk M' φ', FS p B env true FA names h' M' φ' σ' ρ → Ini p h' M' φ' D x dx fs' → Mv [] h₀ M₀ φ₀ h' M' φ' → Q .next { s with heap := h', toks := tk }) →
        wpAny (model p.prog p.w) A (execs b env) Q E s := by
  induction I with
  | nil =>
    intro σ h M φ fs fs' σ' e X H J hl m s Q E hs k
    cases e; subst hs
    exact wpAny_pure (k s.heap s.toks M φ X J m)
  | @cons f e xe np ap pos b ts hn he ht _ ih =>
    intro σ h M φ fs fs' σ' ev X H J hl m s Q E hs k
    change om2 (F.ev ρ σ xe) none (fun d σ₁ => om1 (lookW f fs) (initL F ρ σ₁ ts (fs ++ [(f, d)])) fun _ => none) = some (fs', σ') at ev
    split at ev
    rotate_left
    · cases ev
    rename_i w σ₁ e1
    split at ev
    · cases ev
    rename_i e2
    show wpAny _ _ (do match ← exec (.Assign [.Attribute (.Name self np) f ap] e pos) env with | .next => execs b env | f => Pure.pure f) _ _ _
    refine wpAny_bind (plainObj_wpAny_Assign_Attribute (hs := swaps_no hn) ?_)
    refine he e1 X s _ E hs fun v h₁ tk₁ M₁ φ₁ S₁ m₁ r₁ => ?_
    have X₁ := X.step S₁ m₁
    have H₁ := H.step X.F m₁
    have J₁ := J.step X.S m₁
    have mm := m.trans S₀ m₁
    refine load_has X₁.F H₁ ?_ hd
    obtain ⟨es, n, hdx, G⟩ := J₁.d
    have hne : x ≠ dx := fun q => by have := J₁.o; rw [q, hdx] at this; cases this
    have Gp := fun hsh t => G.put (hsh := hsh) (t := t) e2 r₁
    refine store_field (Y.K.keeps S₁.base) J₁.o hdx hC ht G.noRef (by rw [(Gp _ _).len, List.length_append]; simp at hl ⊢; omega) fun h₂ tk₂ hsb hdx₂ => ?_
    have hdf : Df h₂ dx := ⟨_, hdx₂⟩
    have ki : KI h₁ M₁ φ₁ h₂ M₁ dx := ⟨fun b o n e => (hsb.2 b n).trans e, fun _ m => m, fun _ m _ => m, fun _ => hdf, J₁.m.2, J₁.n.2⟩
    have X₂ := ki.FS X₁ hF hc
    have hLne : env.locals ≠ dx := fun q => hF (q ▸ X₁.F.L)
    have H₂ : Has env h₂ self (.ref x) := H₁.keeps (fun o e => (hsb.2 _ hLne).trans e) fun c hcc o e => (hsb.2 c (hc _ c hcc)).trans e
    refine ih ev X₂ H₂ ⟨(hsb.2 x hne).trans J₁.o, ⟨_, _, hdx₂, (Gp _ _).mono ki.gr (Nat.le_refl _) fun _ _ _ e => e⟩, J₁.m, J₁.n⟩ (by rw [List.length_append]; simp at hl ⊢; omega) (ki.Mv S₀ h0 mm) { s with heap := h₂, toks := tk₂ } Q E rfl fun h' tk M' φ' X' J' m' => k h' tk M' φ' X' J' m'
/-- fields become data: cells die -/
theorem toDF_at : ∀ {fs : List (Str × W)} {es : List DictEntry} {ds : List (Str × Mine.D)} {σ σ' : List C} {M : List Addr} {φ : List (Option Addr)}, St p B h M φ σ → GRels p h M φ es fs → toDF σ fs = some (ds, σ') → ∃ M' φ', St p B h M' φ' σ' ∧ Mv [] h M φ h M' φ' ∧ FRels p h M' es ds
  | [], es, ds, σ, σ', M, φ, S, V, e => by cases e; cases V; exact ⟨M, φ, S, Mv.refl, .nil⟩
  | w :: fs, es, ds, σ, σ', M, φ, S, V, e => by
    cases V with
    | @cons f t v w hsh es fs a V =>
      unfold toDF at e
      split at e
      · rename_i d σ₁ e1
        split at e
        · rename_i ds' σ₂ e2
          cases e
          obtain ⟨M₁, φ₁, S₁, m₁, r₁⟩ := toD_at S a e1
          obtain ⟨M₂, φ₂, S₂, m₂, r₂⟩ := toDF_at S₁ (V.mono (m₁.gr (by simp) S.sub) m₁.len m₁.phi) e2
          exact ⟨M₂, φ₂, S₂, m₁.trans S m₂, .cons (r₁.step S₁ m₂) r₂⟩
        · cases e
      · cases e
/-- two objects leave the cells -/
inductive Drop2 (p : Pm) (B h₀ : Heap) (M₀ : List Addr) (φ₀ : List (Option Addr)) (h : Heap) (M : List Addr) (φ : List (Option Addr)) (σ : List C) (x dx : Addr) : Prop
  | mk (M' : List Addr) : St p B h M' φ σ → Mv [] h₀ M₀ φ₀ h M' φ → x ∉ M' → dx ∉ M' → Gr h M h M' → Drop2 p B h₀ M₀ φ₀ h M φ σ x dx
theorem drop2 (S₀ : St p B h₀ M₀ φ₀ σ₀) (hx0 : h₀.get? x = none) (h0 : h₀.get? dx = none) (S : St p B h M φ σ) (m : Mv [] h₀ M₀ φ₀ h M φ) (hm : x ∈ M ∧ dx ∈ M) (hn : some x ∉ φ ∧ some dx ∉ φ) (hne : x ≠ dx) : Drop2 p B h₀ M₀ φ₀ h M φ σ x dx := by
  have k1 : KI h M φ h _ dx := KI.drop hm.2 hn.2 fun b o _ e => e
  have hx1 : x ∈ M.filter fun b => decide (b ≠ dx) := List.mem_filter.mpr ⟨hm.1, decide_eq_true hne⟩
  have k2 : KI h _ φ h _ x := KI.drop hx1 hn.1 fun b o _ e => e
  exact ⟨_, k2.St (k1.St S), k2.Mv S₀ hx0 (k1.Mv S₀ h0 m), not_filter, fun q => not_filter (List.mem_filter.mp q).1, .less fun b q => (List.mem_filter.mp (List.mem_filter.mp q).1).1⟩
theorem shelf_end {f g : Str} {t r k1 k2 : Nat} {l1 l2 : List (Key × Mine.D)} (G' : CkS p tb) (hD : D = tb.sh) (q1 : strEq f tb.tn = true) (q2 : strEq g tb.rn = true) (S : St p B h M φ σ) (I : Ini p h M φ D x dx [(f, .cell t), (g, .cell r)]) (c1 : cellD σ (.cell t) = some (k1, l1)) (c2 : cellD σ (.cell r) = some (k2, l2)) (d : Drop2 p B h₀ M₀ φ₀ h M φ σ x dx) :
    ∃ M' φ', St p B h M' φ' σ ∧ Mv [] h₀ M₀ φ₀ h M' φ' ∧ WRel p h M' φ' (.ref x) (.shelf t r) := by
  obtain ⟨es, n, hdx, G⟩ := I.d
  cases G with | cons V1 G => cases G with | cons V2 G => cases G with | nil =>
  obtain ⟨a1, _, r1, p1, _⟩ := cellD_at S V1 c1
  obtain ⟨a2, _, r2, p2, _⟩ := cellD_at S V2 c2
  subst r1 r2
  obtain ⟨M', S', m', n1, n2, gr⟩ := d
  rw [strEq_iff.mp q1, strEq_iff.mp q2, G'.tn, G'.rn] at hdx
  have o := I.o
  rw [hD, G'.sh] at o
  cases V1 with | cell x1 y1 => cases V2 with | cell x2 y2 =>
  exact ⟨M', φ, S', m', .shelf o hdx n1 n2 x1 (fun a e => Value.ref.inj (y1 a e)) x2 (fun a e => Value.ref.inj (y2 a e))⟩
/-- an object is made: it turns no more -/
theorem ini_end {fs : List (Str × W)} {w : W} (G' : CkS p tb) (S : St p B h M φ σ) (I : Ini p h M φ D x dx fs) (S₀ : St p B h₀ M₀ φ₀ σ₀) (hx0 : h₀.get? x = none) (h0 : h₀.get? dx = none) (m : Mv [] h₀ M₀ φ₀ h M φ) (e : mkInst tb D fs σ = some (w, σ')) :
    ∃ M' φ', St p B h M' φ' σ' ∧ Mv [] h₀ M₀ φ₀ h M' φ' ∧ WRel p h M' φ' (.ref x) w := by
  have hne : x ≠ dx := fun q => by obtain ⟨es, n, hdx, G⟩ := I.d; have := I.o; rw [q, hdx] at this; cases this
  unfold mkInst at e
  split at e
  · rename_i hq
    have hD : D = tb.sh := Nat.eq_of_beq_eq_true hq
    split at e
    · rename_i u v z
      split at e
      · rename_i t z1
        split at e
        · rename_i r z2
          obtain ⟨f, u⟩ := u
          obtain ⟨g, v⟩ := v
          rw [two_eq z, show u = _ from W.c?_eq z1, show v = _ from W.c?_eq z2] at I
          unfold mkShelf at e
          split at e
          · rename_i q1
            split at e
            · rename_i q2
              split at e
              · rename_i k1 l1 c1
                split at e
                · rename_i k2 l2 c2
                  cases e
                  exact shelf_end G' hD q1 q2 S I c1 c2 (drop2 S₀ hx0 h0 S m I.m I.n hne)
                · cases e
              · cases e
            · cases e
          · cases e
        · cases e
      · cases e
    · cases e
  · split at e
    · rename_i ds σ₁ e1
      cases e
      obtain ⟨es, n, hdx, G⟩ := I.d
      obtain ⟨M₁, φ₁, S₁, m₁, r₁⟩ := toDF_at S G e1
      have I₁ := I.step S m₁
      obtain ⟨M', S', m', n1, n2, gr⟩ := drop2 S₀ hx0 h0 S₁ (m.trans S₀ m₁) I₁.m I₁.n hne
      exact ⟨M', φ₁, S', m', .d (.inst I.o hdx n1 n2 (r₁.mono gr))⟩
    · cases e
end
end Mine

namespace Mine
open PySem PySem.W PyProof.Rows PySem.Calls PySem.SeqAt

/-- what is asked of a class that is called -/
structure MkOk (K : Frag) (D : Addr) (f : Fn) : Prop where
  makes : makesIn K D = true
  init : findIn K (.ref D) "__init__" = some (some (.ref f.addr))
  fn : typeIn K (.ref f.addr) = some (.type "function")
  set : setOk K D = true
section
variable {p : Pm} {K : Frag} {mg mb : Str → Option Value} {tb : Tb} {B : Heap} {A : Around} {F : Fns} {h h' : Heap} {M M' : List Addr} {φ φ' : List (Option Addr)} {σ σ' σ₁ : List C} {n : Nat}
theorem AOk.made {D : Addr} {vals : List Value} {env : Env} (a : AOk A (n + 1)) : AOk ((A.under (.builtin "type.__call__" ⟨.ref D :: vals, []⟩)).deeper env) n :=
  ⟨a.handled, by have := a.depth; show A.depth + 1 + 1 + _ < _; omega, by have := a.units; show A.units + 1 + 3 + _ + _ < _; omega⟩
theorem nth_set_none {ρ : List (Option W)} {i : Nat} {w : W} (e : (setNth ρ 0 none)[i]? = some (some w)) : i ≠ 0 ∧ ρ[i]? = some (some w) := by
  rw [setNth_eq] at e
  by_cases q : i = 0
  · subst q
    rw [List.getElem?_set_self'] at e
    cases z : ρ[0]? with
    | none => rw [z] at e; cases e
    | some y => rw [z] at e; cases e
  · rw [List.getElem?_set_ne (Ne.symm q)] at e; exact ⟨q, e⟩
theorem run_mkEv {f : Fn} {fd : FuncData} {body : List Stmt} {c : Cl} {ws : List W} {w : W} {vs : List Value} {self : Str} (a : AOk A (n + 1)) (Y : Bs K mg mb B) (G' : CkS p tb) (mk : MkOk K c.addr f) (fk : FnK K f fd body) (hself : f.names[0]? = some self) (hd : (self == ("__debug__" : Str)) = false) (hlen : f.body.length ≤ 100)
    (hI : ∀ A' L FA, AOk A' n → InitS p K B A' (callEnvC fd L f.addr) FA f.names F c.addr self body f.body) (hf : nth tb.fns c.init = some f) (e : mkEv tb F c ws σ = some (w, σ')) (S : St p B h M φ σ) (V : WRels p h M φ vs ws) : Run p B A (call (.ref c.addr) vs) h M φ σ' (U p w) := by
  unfold mkEv at e
  rw [hf] at e
  dsimp only at e
  split at e
  rotate_left
  · cases e
  rename_i ρ hb
  split at e
  rotate_left
  · cases e
  rename_i fs σ₁ e1
  intro s Q E hs k
  refine wpAny_call (kw := []) ?_
  obtain ⟨hh, g, d, t, os⟩ := s
  subst hs
  dsimp only at S V k ⊢
  have X := Y.K.keeps S.base
  refine make_core (makes_of X mk.makes) (looks_findIn X mk.init) (fun self => bind_fn X self mk.fn) (.inl rfl) ?_
  have kp1 : ∀ (b : Addr) (o : Obj), hh.get? b = some o → (hh.push emptyDict).get? b = some o := fun b o e => Heap.get?_push_of_some _ e
  have kp2 : ∀ (b : Addr) (o : Obj), (hh.push emptyDict).get? b = some o → ((hh.push emptyDict).push (instObj c.addr hh.objs.size)).get? b = some o := fun b o e => Heap.get?_push_of_some _ e
  have hz : (hh.push emptyDict).objs.size = hh.objs.size + 1 := Heap.size_push ..
  have hd0 : hh.get? hh.objs.size = none := none_ge (Nat.le_refl _)
  have hx0 : hh.get? (hh.objs.size + 1) = none := none_ge (Nat.le_succ _)
  have hx1 : (hh.push emptyDict).get? (hh.objs.size + 1) = none := none_ge (by rw [hz]; exact Nat.le_refl _)
  have gd : (hh.push emptyDict).get? hh.objs.size = some emptyDict := Heap.get?_push_size _ rfl
  have gx : ((hh.push emptyDict).push (instObj c.addr hh.objs.size)).get? (hh.objs.size + 1) = some (instObj c.addr hh.objs.size) := by
    have := Heap.get?_push_size (o := instObj c.addr hh.objs.size) (hh.push emptyDict) rfl
    rwa [hz] at this
  obtain ⟨S1, m1⟩ := S.newM kp1 hd0 ⟨_, gd⟩
  obtain ⟨S2, m2⟩ := S1.newM kp2 hx1 ⟨_, gx⟩
  have mm := m1.trans S m2
  have nφ : ∀ a, hh.get? a = none → some a ∉ φ := fun a e z => (S.low a (S.sub a z)).1.no e
  refine call_gen (ws := .d .none :: ws) (s := ⟨(hh.push emptyDict).push (instObj c.addr hh.objs.size), g, d, t, os⟩) (f := f) (by have := a.depth; show A.depth + 1 < _; omega) Y fk S2 (by simp [V.length]) hb fun FA s₁ us E₁ en => ?_
  obtain ⟨h₁, t₁, o₁⟩ := en.eq
  have ne : ∀ a, hh.get? a = none → Df ((hh.push emptyDict).push (instObj c.addr hh.objs.size)) a → a ∉ FA := fun a e df q => df.no (en.new a q)
  have dfd : Df ((hh.push emptyDict).push (instObj c.addr hh.objs.size)) hh.objs.size := ⟨_, kp2 _ _ gd⟩
  have dfx : Df ((hh.push emptyDict).push (instObj c.addr hh.objs.size)) (hh.objs.size + 1) := ⟨_, gx⟩
  have en' : Ent p B f (callEnvC fd ((hh.push emptyDict).push (instObj c.addr hh.objs.size)).objs.size f.addr) ⟨(hh.push emptyDict).push (instObj c.addr hh.objs.size), g, d, t, os⟩ s₁ (.ref (hh.objs.size + 1) :: vs) us (.d .none :: ws) (setNth ρ 0 none) ((hh.objs.size + 1) :: hh.objs.size :: M) FA φ σ :=
    { en with arg := fun i w e => en.arg i w (nth_set_none e).2 }
  have L := en'.L S2 (fun i w v e1 e2 e3 => by
    cases i with
    | zero => exact absurd rfl (nth_set_none e3).1
    | succ i =>
      obtain ⟨v', q, r⟩ := V.get (n := i) (by simpa using e2)
      have : some v = some v' := by rw [← q]; simpa using e1.symm
      cases this
      exact r.step S mm)
  have X₁ : FS p B (callEnvC fd ((hh.push emptyDict).push (instObj c.addr hh.objs.size)).objs.size f.addr) true FA f.names s₁.heap (FA ++ ((hh.objs.size + 1) :: hh.objs.size :: M)) φ σ (setNth ρ 0 none) := ⟨en.S, en.F, L⟩
  obtain ⟨y, hy, H⟩ := en.has 0 _ (en.same 0 (.ref (hh.objs.size + 1)) rfl)
  rw [hself] at hy
  cases hy
  have J : Ini p s₁.heap (FA ++ ((hh.objs.size + 1) :: hh.objs.size :: M)) φ c.addr (hh.objs.size + 1) hh.objs.size [] :=
    ⟨en.m.keep _ _ (by simp) (nφ _ hx0) gx, ⟨[], 0, en.m.keep _ _ (by simp) (nφ _ hd0) (kp2 _ _ gd), .nil⟩, ⟨List.mem_append_right _ (.head _), List.mem_append_right _ (.tail _ (.head _))⟩, nφ _ hx0, nφ _ hd0⟩
  refine run_init (hI _ _ FA a.made) Y hd mk.set S hd0 (ne _ hd0 dfd) (fun y c' hy q => ?_) e1 X₁ H J (by simpa using hlen) (mm.trans S en.m) s₁ _ E₁ rfl fun h' tk M' φ' X' J' m' => ?_
  · have := en.F.own rfl y c' hy
    exact ne _ hd0 dfd (q ▸ this)
  · obtain ⟨M'', φ'', S'', m'', r''⟩ := ini_end G' X'.S J' S hx0 hd0 m' e
    refine ⟨rfl, ?_⟩
    have hz' : ({ s₁ with heap := h', toks := tk } : Shared) = ⟨h', g, d, tk, os⟩ := by rw [o₁]
    rw [hz']
    exact k _ h' tk M'' φ'' S'' m'' r''
end
end Mine

namespace Mine
open PySem PySem.W PyProof.Rows PySem.Calls PySem.SeqAt

section
variable {prog : Program} {w : World} {A : Around} {E : Value → Shared → Prop} {s : Shared}
theorem adjust_upto (b n : Nat) (hb : b ≤ n) : Builtin.Slice.sliceAdjust none (some (b : Int)) 1 (n : Int) = (0, (b : Int)) := by
  unfold Builtin.Slice.sliceAdjust
  have h1 : ¬ ((1 : Int) < 0) := by omega
  have h2 : ¬ ((b : Int) < 0) := by omega
  simp only [h1, h2, if_false]
  congr 1
  omega
theorem places_upto (b : Nat) : Builtin.Slice.slicePlaces 0 (b : Int) 1 = b := by
  unfold Builtin.Slice.slicePlaces
  have h1 : (1 : Int) > 0 := by omega
  simp only [h1, if_true, Int.ediv_one]
  split <;> omega
theorem sliceApplied_upto {sl : Addr} {b n : Nat} {u : Tok} {Q : Int × Int × Nat → Shared → Prop} (hs : s.heap.IsSliceOf sl .none (.int b u) .none) (hb : b ≤ n) (h : Q (0, 1, b) s) :
    wpAny (model prog w) A (Builtin.Slice.sliceApplied (.ref sl) (pure (n : Int))) Q E s := by
  obtain ⟨os, hos, hcs, hds⟩ := id hs
  unfold Builtin.Slice.sliceApplied Builtin.Slice.sliceFields
  refine wpAny_bind (wpAny_bind (wpAny_field hos hds (x := .none) rfl (wpAny_bind (wpAny_field hos hds (x := .int b u) rfl (wpAny_bind (wpAny_field hos hds (x := .none) rfl (wpAny_pure ?_)))))))
  refine wpAny_bind (slicePart_none ?_)
  show wpAny _ _ (if ((1 : Int) == 0) = true then _ else _) _ _ s
  rw [if_neg (by decide)]
  refine wpAny_bind (slicePart_none (wpAny_bind (slicePart_int (wpAny_bind (wpAny_pure ?_)))))
  show wpAny _ _ (match Builtin.Slice.sliceAdjust none (some (b : Int)) 1 (n : Int) with | (lo, hi) => pure (lo, (1 : Int), Builtin.Slice.slicePlaces lo hi 1)) _ _ s
  rw [adjust_upto b n hb]
  show wpAny _ _ (pure ((0 : Int), (1 : Int), Builtin.Slice.slicePlaces 0 (b : Int) 1)) _ _ s
  rw [places_upto b]
  exact wpAny_pure h
theorem pick_upto (xs : Array Value) (b : Nat) : ((List.range b).filterMap fun (k : Nat) => xs[((0 : Int) + (k : Int) * 1).toNat]?).toArray = (xs.toList.take b).toArray := by
  have e : (fun (k : Nat) => xs[((0 : Int) + (k : Int) * 1).toNat]?) = fun k => xs[0 + k]? := by
    funext k
    have : ((0 : Int) + (k : Int) * 1).toNat = 0 + k := by omega
    rw [this]
  rw [e]
  have := pick_run xs 0 b
  rw [List.filterMap_map] at this
  have e2 : ((fun x => xs[x]?) ∘ fun x => 0 + x) = fun k => xs[0 + k]? := rfl
  rw [e2] at this
  rw [this, List.drop_zero]
theorem getItem_tuple_upto {t sl : Addr} {items : Array Value} {b : Nat} {u : Tok} {Q : Value → Shared → Prop} (ht : IsTup s.heap t items) (hs : s.heap.IsSliceOf sl .none (.int b u) .none) (hb : b ≤ items.size)
    (h0 : b = items.size → Q (.ref t) s) (h : Q (.ref s.heap.objs.size) { s with heap := s.heap.push { cls := .type "tuple", data := .seq (items.toList.take b).toArray } })
    (hsz : items.size ≤ sizeLine) : wpAny (model prog w) A (getItem (.ref t) (.ref sl)) Q E s := by
  have htake : sizeOk (.seq (items.toList.take b).toArray) := by
    show (items.toList.take b).toArray.size ≤ sizeLine
    rw [List.size_toArray, List.length_take, Array.length_toList]
    omega
  obtain ⟨os, hos, hcs, hds⟩ := id hs
  have hTs : s.TypeIs (.ref sl) "slice" := ⟨os, hos, hcs⟩
  unfold getItem
  try with_reducible refine wpAny_holding ?_
  first | refine wpAny_bind (wpAny_pure ?_) | skip
  refine wpAny_bind (wpAny_sequenceKey ht.typeIs (by decide) ?_)
  refine wpAny_bind (wpAny_callSpecial?_slot (name := Str.ofString "__getitem__") ht.typeIs slot_tuple_getitem
    (wpAny_call_entry slot_tuple_getitem ht.typeIs entry_tuple_getitem ?_ (args_tuple_getitem _ _)))
  show wpAny _ _ (Builtin.Tuple.tupleItemsOf (.ref t) >>= _) _ _ s
  refine wpAny_bind (tupleItemsOf_ ht ?_)
  refine wpAny_bind (wpAny_typeOf hTs ?_)
  rw [if_pos (by decide)]
  refine wpAny_bind (sliceApplied_upto hs hb ?_)
  show wpAny _ _ (if ((0 : Int) == 0 && (1 : Int) == 1 && b == items.size) = true then _ else _) _ _ s
  by_cases q : b = items.size
  · rw [if_pos (by simp [q])]
    refine wpAny_bind (m := Builtin.Tuple.tupleIsExact _) (wpAny_bind (wpAny_typeOf ht.typeIs (wpAny_pure ?_)))
    show wpAny _ _ (if ((Value.type "tuple" == Value.type "tuple") = true) then _ else _) _ _ s
    rw [if_pos (by decide)]
    first
      | exact wpAny_bind (wpAny_rule (wpAny_pure ⟨_, rfl, wpAny_pure (h0 q)⟩))
      | exact wpAny_bind (wpAny_rule (wpAny_bind (wpAny_pure (wpAny_pure ⟨_, rfl, wpAny_pure (h0 q)⟩))))
  · rw [if_neg (by simp [q]), pick_upto items b]
    first
      | exact wpAny_bind (m := Builtin.Tuple.tupleExact _) (wpAny_newObj_type (wpAny_pure ⟨_, rfl, wpAny_pure h⟩) htake)
      | exact wpAny_bind (m := Builtin.Tuple.tupleExact _) (wpAny_newObj_type (wpAny_bind (wpAny_pure (wpAny_pure ⟨_, rfl, wpAny_pure h⟩))) htake)
      | exact wpAny_bind (wpAny_bind (m := Builtin.Tuple.tupleExact _) (wpAny_newObj_type (wpAny_pure (wpAny_pure ⟨_, rfl, wpAny_pure h⟩)) htake))
      | exact wpAny_bind (wpAny_bind (m := Builtin.Tuple.tupleExact _) (wpAny_newObj_type (wpAny_pure ⟨_, rfl, wpAny_pure h⟩) htake))
end
section
variable {p : Pm} {K : Frag} {mg mb : Str → Option Value} {tb : Tb} {B : Heap} {A : Around} {env : Env} {own : Bool} {FA : List Addr} {names : List Str} {F : Fns} {h h' : Heap} {M M' : List Addr} {φ φ' : List (Option Addr)} {σ σ' σ₁ : List C} {ρ : List (Option W)}
inductive PartS (p : Pm) (B : Heap) (A : Around) (env : Env) (own : Bool) (FA : List Addr) (names : List Str) (F : Fns) : Option Expr → Option Mine.X → Prop
  | none : PartS p B A env own FA names F none none
  | some {e : Expr} {x : Mine.X} : EvS p B A env own FA names F e x → PartS p B A env own FA names F (some e) (some x)
theorem run_part {e : Option Expr} {x : Option Mine.X} {d : Mine.D} (P : PartS p B A env own FA names F e x) (ev : evOpt F ρ σ x = some (d, σ')) (X : FS p B env own FA names h M φ σ ρ) : Run p B A (evalPart e env) h M φ σ' (V p d) := by
  cases P with
  | none => cases ev; exact fun s Q E hs k => by subst hs; rw [evalPart_none]; exact wpAny_pure (k _ s.heap s.toks M φ X.S Mv.refl .none)
  | some ie =>
    change omD (F.ev ρ σ _) none (fun x σ₁ => some (x, σ₁)) = _ at ev
    split at ev
    · rename_i q; cases ev; exact Run.mono (ie q X) fun v h₁ M₁ φ₁ S₁ m₁ r₁ => r₁.dat
    · cases ev
theorem slice_sub {lo hi : Option Expr} {ps : Pos} {o i : Value} : subscripted (.Slice lo hi none ps) false o i = operate [i, o] (getItem o i) := rfl
theorem none_of {v : Value} {d : Mine.D} (q : d.isN = true) (X : VRel p h M v d) : v = .none := by rw [D.isN_eq q] at X; exact (Reads.d X).none_inv
theorem nat_of {v : Value} {d : Mine.D} {n : Nat} (q : d.nat? = some n) (X : VRel p h M v d) : ∃ t, v = .int (Int.ofNat n) t := by rw [D.nat?_eq q] at X; exact int_of' X
theorem slice_lst {o : Value} {l : List Mine.D} {n : Nat} {t : Tok} {sl : Addr} (S : St p B h M φ σ) (X : VRel p h M o (.lst l)) (hs : h.IsSliceOf sl (.int (Int.ofNat n) t) .none .none) (g : small l.length = true) :
    SubT h o ∧ Run p B A (getItem o (.ref sl)) h M φ σ (V p (.lst (l.drop n))) := by
  obtain ⟨ad, vs, rfl, y, m, z⟩ := lst_of' X
  refine ⟨⟨"list", _, fun s hs => by subst hs; exact y.isList.typeIs, list_getitem_lookup⟩, run_push (o := { cls := .type "list", data := .seq (vs.drop n).toArray }) S (fun s Q E hs' k => ?_) (vrel_lst_new S (z.drop n))⟩
  subst hs'
  refine wpAny_getItem_list_slice y.isList hs (.int _ _) .none .none (by simp) ?_ (by rw [List.size_toArray, z.length]; exact small_line g)
  have := slicePick_from' vs.toArray n
  rw [show (Int.ofNat n) = (n : Int) from rfl, this]
  exact k
theorem slice_tup {o : Value} {l : List Mine.D} {n : Nat} {t : Tok} {sl : Addr} (S : St p B h M φ σ) (X : VRel p h M o (.tup l)) (hs : h.IsSliceOf sl .none (.int (Int.ofNat n) t) .none) (g1 : small l.length = true) (g2 : Nat.ble n l.length = true) :
    SubT h o ∧ Run p B A (getItem o (.ref sl)) h M φ σ (V p (.tup (l.take n))) := by
  obtain ⟨ad, vs, rfl, y, m, z⟩ := tup_of' X
  have hn : n ≤ vs.length := by rw [z.length]; exact Nat.le_of_ble_eq_true g2
  have tup : IsTup h ad vs.toArray := let ⟨n, e⟩ := y; ⟨_, e, rfl, n, rfl⟩
  refine ⟨⟨"tuple", _, fun s hs => by subst hs; exact y.isTuple.typeIs, F.slot_tuple_getitem.lookup⟩, Run.grown S fun s Q E hs' k => ?_⟩
  subst hs'
  refine getItem_tuple_upto tup hs (by rw [List.size_toArray]; exact hn) (fun q => ?_) ?_ (by rw [List.size_toArray, z.length]; exact small_line g1)
  · refine k _ s.heap s.toks (fun _ _ e => e) ?_
    rw [List.size_toArray] at q
    rw [List.take_of_length_le (by rw [← z.length, q]; exact Nat.le_refl _)]
    exact .tup y m z
  · exact k _ _ s.toks (fun _ _ e => Heap.get?_push_of_some _ e) (vrel_tup_new S (z.take n))
theorem run_getSlice {o : Value} {d a b r : Mine.D} {sl : Addr} {vl vu : Value} (S : St p B h M φ σ) (X : VRel p h M o d) (hs : h.IsSliceOf sl vl vu .none) (L : VRel p h M vl a) (U : VRel p h M vu b) (e : slcEv d a b = some r) :
    SubT h o ∧ Run p B A (getItem o (.ref sl)) h M φ σ (V p r) := by
  unfold slcEv at e
  split at e
  · rename_i l q
    rw [D.l?_eq q] at X
    split at e
    · rename_i n q1
      split at e
      · rename_i q2
        split at e
        · rename_i g
          cases e
          obtain ⟨t, rfl⟩ := nat_of q1 L
          rw [none_of q2 U] at hs
          exact slice_lst S X hs g
        · cases e
      · cases e
    · cases e
  · split at e
    · rename_i l q
      rw [D.t?_eq q] at X
      split at e
      · rename_i q1
        split at e
        · rename_i n q2
          split at e
          · rename_i g1
            split at e
            · rename_i g2
              cases e
              obtain ⟨t, rfl⟩ := nat_of q2 U
              rw [none_of q1 L] at hs
              exact slice_tup S X hs g1 g2
            · cases e
          · cases e
        · cases e
      · cases e
    · cases e
theorem run_Slc {v : Expr} {xv : Mine.X} {lo hi : Option Expr} {xl xh : Option Mine.X} {ps pos : Pos} {w : W} (X : FS p B env own FA names h M φ σ ρ) (iv : EvS p B A env own FA names F v xv) (il : PartS p B A env own FA names F lo xl) (ih : PartS p B A env own FA names F hi xh)
    (e : evSlc F ρ σ xv xl xh = some (w, σ')) : Run p B A (eval (.Subscript v (.Slice lo hi none ps) pos) env) h M φ σ' (U p w) := by
  unfold evSlc at e
  split at e
  · rename_i d σ₁ e1
    split at e
    · rename_i a σ₂ e2
      split at e
      · rename_i b σ₃ e3
        split at e
        · rename_i r e4
          cases e
          rw [eval_Subscript]
          refine Run.bind X.S (iv e1 X) fun o h₁ M₁ φ₁ S₁ m₁ r₁ => ?_
          have X₁ := X.step S₁ m₁
          have key : Run p B A (eval (.Slice lo hi none ps) env) h₁ M₁ φ₁ σ₃ (fun i h M φ => ∃ sl vl vu, i = .ref sl ∧ h.IsSliceOf sl vl vu .none ∧ VRel p h M vl a ∧ VRel p h M vu b) := by
            intro s Q E hs k
            subst hs
            refine wpAny_Slice (run_part il e2 X₁ s _ E rfl fun vl h₂ t₂ M₂ φ₂ S₂ m₂ r₂ => ?_)
            refine run_part ih e3 (X₁.step S₂ m₂) _ _ E rfl fun vu h₃ t₃ M₃ φ₃ S₃ m₃ r₃ => ?_
            rw [evalPart_none]
            refine wpAny_pure ?_
            refine k _ _ t₃ M₃ φ₃ (S₃.push _) ((m₂.trans S₁ m₃).trans S₁ (Mv.push _)) ⟨_, vl, vu, rfl, Heap.IsSliceOf.new .., (r₂.step S₂ m₃).mono (.grow fun _ _ e => Heap.get?_push_of_some _ e), r₃.mono (.grow fun _ _ e => Heap.get?_push_of_some _ e)⟩
          refine Run.bind S₁ (Run.holding key) fun i h₂ M₂ φ₂ S₂ m₂ r₂ => Run.standAt ?_
          obtain ⟨sl, vl, vu, rfl, hsl, L, U⟩ := r₂
          obtain ⟨ht, hr⟩ := run_getSlice (A := A) S₂ (r₁.dat.step S₁ m₂) hsl L U e4
          exact sub_tail S₂ ht slice_sub (run_V hr)
        · cases e
      · cases e
    · cases e
  · cases e
end
end Mine

namespace Mine
open PySem PySem.W PyProof.Rows PySem.Calls PySem.SeqAt

/-! parts of an expression: fields by name, the kind by its number -/
section
set_option backward.match.sparseCases false
noncomputable def gA : Expr → Expr
  | .BinOp l _ _ _ => l | .UnaryOp _ a _ => a | .IfExp a _ _ _ => a | .ListComp a _ _ _ => a | .Compare a _ _ _ => a | .Call a _ _ _ => a | .Attribute a _ _ => a | .Subscript a _ _ => a | e => e
noncomputable def gB : Expr → Expr
  | .BinOp _ _ r _ => r | .IfExp _ b _ _ => b | .Subscript _ s _ => s | e => e
noncomputable def gC : Expr → Expr
  | .IfExp _ _ c _ => c | e => e
noncomputable def gX : Expr → Str
  | .Attribute _ g _ => g | .Name x _ => x | _ => default
noncomputable def gL : Expr → List Expr
  | .BoolOp _ l _ => l | .Compare _ _ l _ => l | .Call _ l _ _ => l | .List l _ => l | .Tuple l _ _ => l | .Dict _ l _ => l | _ => []
noncomputable def gK : Expr → Nat
  | .Constant _ k _ => k | .Tuple _ k _ => k | _ => 0
noncomputable def gCt : Expr → Const
  | .Constant c _ _ => c | _ => default
noncomputable def gO : Expr → Operator
  | .BinOp _ o _ _ => o | _ => default
noncomputable def gU : Expr → UnaryOp
  | .UnaryOp o _ _ => o | _ => default
noncomputable def gBo : Expr → BoolOp
  | .BoolOp o _ _ => o | _ => default
noncomputable def gCs : Expr → List CmpOp
  | .Compare _ l _ _ => l | _ => []
noncomputable def gKw : Expr → List Keyword
  | .Call _ _ l _ => l | _ => []
noncomputable def gKs : Expr → List (Option Expr)
  | .Dict l _ _ => l | _ => []
noncomputable def gS : Expr → Option Expr × Option Expr × Option Expr
  | .Slice a b c _ => (a, b, c) | _ => (none, none, none)
noncomputable def gG : Expr → List Comprehension × Scope
  | .ListComp _ g s _ => (g, s) | _ => ([], default)
end
/-- an expression of a kind, built again of its fields -/
noncomputable def rb (e : Expr) (n : Nat) : Expr :=
  bt (Nat.beq n 0) (bt (Nat.beq n 2) (bt (Nat.beq n 3) (bt (Nat.beq n 5) (bt (Nat.beq n 6) (bt (Nat.beq n 8) (bt (Nat.beq n 15) (bt (Nat.beq n 16) (bt (Nat.beq n 19) (bt (Nat.beq n 20) (bt (Nat.beq n 21) (bt (Nat.beq n 23) (bt (Nat.beq n 24) (bt (Nat.beq n 25) (bt (Nat.beq n 26) e
    (.Slice (gS e).1 (gS e).2.1 (gS e).2.2 e.pos)) (.Tuple (gL e) (gK e) e.pos)) (.List (gL e) e.pos)) (.Name (gX e) e.pos)) (.Subscript (gA e) (gB e) e.pos)) (.Attribute (gA e) (gX e) e.pos)) (.Constant (gCt e) (gK e) e.pos)) (.Call (gA e) (gL e) (gKw e) e.pos)) (.Compare (gA e) (gCs e) (gL e) e.pos))
    (.ListComp (gA e) (gG e).1 (gG e).2 e.pos)) (.Dict (gKs e) (gL e) e.pos)) (.IfExp (gA e) (gB e) (gC e) e.pos)) (.UnaryOp (gU e) (gA e) e.pos)) (.BinOp (gA e) (gO e) (gB e) e.pos)) (.BoolOp (gBo e) (gL e) e.pos)
theorem rb_eq (e : Expr) : e = rb e e.ctorIdx := by
  induction e using _root_.PySem.Expr.casesOn <;> rfl
theorem of_idx {e : Expr} {n : Nat} (h : Nat.beq e.ctorIdx n = true) : e = rb e n := (rb_eq e).trans (congrArg (rb e) (Nat.eq_of_beq_eq_true h))
noncomputable def asConst (e : Expr) : Option Const := bt (Nat.beq e.ctorIdx 19) none (some (gCt e))
noncomputable def asNeg (e : Expr) : Option Expr := bt (Nat.beq e.ctorIdx 3 && decide (gU e = .USub)) none (some (gA e))
noncomputable def asNot (e : Expr) : Option Expr := bt (Nat.beq e.ctorIdx 3 && decide (gU e = .Not)) none (some (gA e))
noncomputable def asName (e : Expr) : Option Str := bt (Nat.beq e.ctorIdx 23) none (some (gX e))
noncomputable def asAttr (e : Expr) : Option (Expr × Str × Pos) := bt (Nat.beq e.ctorIdx 20) none (some (gA e, gX e, e.pos))
noncomputable def asCall (e : Expr) : Option (Expr × List Expr × Pos) := bt (Nat.beq e.ctorIdx 16 && isNil (gKw e)) none (some (gA e, gL e, e.pos))
noncomputable def asBin (e : Expr) : Option (Expr × Operator × Expr) := bt (Nat.beq e.ctorIdx 2) none (some (gA e, gO e, gB e))
noncomputable def asCmp (e : Expr) : Option (Expr × CmpOp × Expr) := bt (Nat.beq e.ctorIdx 15) none (om1 (one (gCs e)) none fun o => om1 (one (gL e)) none fun r => some (gA e, o, r))
noncomputable def asBool (e : Expr) : Option (BoolOp × List Expr) := bt (Nat.beq e.ctorIdx 0) none (some (gBo e, gL e))
noncomputable def asIf (e : Expr) : Option (Expr × Expr × Expr) := bt (Nat.beq e.ctorIdx 5) none (some (gA e, gB e, gC e))
noncomputable def asSub (e : Expr) : Option (Expr × Expr) := bt (Nat.beq e.ctorIdx 21) none (some (gA e, gB e))
noncomputable def asSlice (e : Expr) : Option (Option Expr × Option Expr) := bt (Nat.beq e.ctorIdx 26 && noneO (gS e).2.2) none (some ((gS e).1, (gS e).2.1))
noncomputable def asTup (e : Expr) : Option (List Expr) := bt (Nat.beq e.ctorIdx 25) none (some (gL e))
noncomputable def asLst (e : Expr) : Option (List Expr) := bt (Nat.beq e.ctorIdx 24) none (some (gL e))
noncomputable def asDct (e : Expr) : Option (List (Option Expr) × List Expr) := bt (Nat.beq e.ctorIdx 6) none (some (gKs e, gL e))
noncomputable def asComp (e : Expr) : Option (Expr × Comprehension × Scope × Pos) := bt (Nat.beq e.ctorIdx 8) none (om1 (one (gG e).1) none fun g => some (gA e, g, (gG e).2, e.pos))
theorem asIf_some {β : Type} {b : Bool} {x y : β} (h : bt b none (some x) = some y) : b = true ∧ x = y := by
  cases b with
  | true => exact ⟨rfl, Option.some.inj h⟩
  | false => exact nos h
theorem un_idx {e : Expr} {o : UnaryOp} (h : Nat.beq e.ctorIdx 3 = true) (z : gU e = o) : e = .UnaryOp o (gA e) e.pos := z ▸ (show e = PySem.Expr.UnaryOp (gU e) (gA e) e.pos from of_idx h)
theorem asConst_eq {e : Expr} {c : Const} (h : asConst e = some c) : ∃ k p, e = .Constant c k p := by
  obtain ⟨q, z⟩ := asIf_some h; subst z; exact ⟨_, _, of_idx q⟩
theorem asNeg_eq {e a : Expr} (h : asNeg e = some a) : ∃ p, e = .UnaryOp .USub a p := by
  obtain ⟨q, z⟩ := asIf_some h; subst z; exact ⟨_, un_idx (and2 q).1 (of_decide_eq_true (and2 q).2)⟩
theorem asNot_eq {e a : Expr} (h : asNot e = some a) : ∃ p, e = .UnaryOp .Not a p := by
  obtain ⟨q, z⟩ := asIf_some h; subst z; exact ⟨_, un_idx (and2 q).1 (of_decide_eq_true (and2 q).2)⟩
theorem asName_eq {e : Expr} {x : Str} (h : asName e = some x) : ∃ p, e = .Name x p := by
  obtain ⟨q, z⟩ := asIf_some h; subst z; exact ⟨_, of_idx q⟩
theorem asAttr_eq {e o : Expr} {g : Str} {p : Pos} (h : asAttr e = some (o, g, p)) : e = .Attribute o g p := by
  obtain ⟨q, z⟩ := asIf_some h; cases z; exact of_idx q
theorem asCall_eq {e f : Expr} {es : List Expr} {p : Pos} (h : asCall e = some (f, es, p)) : e = .Call f es [] p := by
  obtain ⟨q, z⟩ := asIf_some h; cases z; exact (isNil_eq (and2 q).2) ▸ (show e = PySem.Expr.Call (gA e) (gL e) (gKw e) e.pos from of_idx (and2 q).1)
theorem asBin_eq {e l r : Expr} {o : Operator} (h : asBin e = some (l, o, r)) : ∃ p, e = .BinOp l o r p := by
  obtain ⟨q, z⟩ := asIf_some h; cases z; exact ⟨_, of_idx q⟩
theorem asCmp_eq {e l r : Expr} {o : CmpOp} (h : asCmp e = some (l, o, r)) : ∃ p, e = .Compare l [o] [r] p := by
  unfold asCmp at h
  split at h
  · rename_i q
    split at h
    · rename_i q1
      split at h
      · rename_i q2; cases h; exact ⟨_, one_eq q1 ▸ one_eq q2 ▸ (show e = PySem.Expr.Compare (gA e) (gCs e) (gL e) e.pos from of_idx q)⟩
      · cases h
    · cases h
  · cases h
theorem asBool_eq {e : Expr} {o : BoolOp} {es : List Expr} (h : asBool e = some (o, es)) : ∃ p, e = .BoolOp o es p := by
  obtain ⟨q, z⟩ := asIf_some h; cases z; exact ⟨_, of_idx q⟩
theorem asIf_eq {e c a b : Expr} (h : asIf e = some (c, a, b)) : ∃ p, e = .IfExp c a b p := by
  obtain ⟨q, z⟩ := asIf_some h; cases z; exact ⟨_, of_idx q⟩
theorem asSub_eq {e v s : Expr} (h : asSub e = some (v, s)) : ∃ p, e = .Subscript v s p := by
  obtain ⟨q, z⟩ := asIf_some h; cases z; exact ⟨_, of_idx q⟩
theorem asSlice_eq {e : Expr} {l u : Option Expr} (h : asSlice e = some (l, u)) : ∃ p, e = .Slice l u none p := by
  obtain ⟨q, z⟩ := asIf_some h; cases z; exact ⟨_, noneO_eq (and2 q).2 ▸ (show e = PySem.Expr.Slice (gS e).1 (gS e).2.1 (gS e).2.2 e.pos from of_idx (and2 q).1)⟩
theorem asTup_eq {e : Expr} {es : List Expr} (h : asTup e = some es) : ∃ k p, e = .Tuple es k p := by
  obtain ⟨q, z⟩ := asIf_some h; subst z; exact ⟨_, _, of_idx q⟩
theorem asLst_eq {e : Expr} {es : List Expr} (h : asLst e = some es) : ∃ p, e = .List es p := by
  obtain ⟨q, z⟩ := asIf_some h; subst z; exact ⟨_, of_idx q⟩
theorem asDct_eq {e : Expr} {ks : List (Option Expr)} {vs : List Expr} (h : asDct e = some (ks, vs)) : ∃ p, e = .Dict ks vs p := by
  obtain ⟨q, z⟩ := asIf_some h; cases z; exact ⟨_, of_idx q⟩
theorem asComp_eq {e x : Expr} {g : Comprehension} {s : Scope} {p : Pos} (h : asComp e = some (x, g, s, p)) : e = .ListComp x [g] s p := by
  unfold asComp at h
  split at h
  · rename_i q
    split at h
    · rename_i q1; cases h; exact one_eq q1 ▸ (show e = PySem.Expr.ListComp (gA e) (gG e).1 (gG e).2 e.pos from of_idx q)
    · cases h
  · cases h

/-! parts of a statement -/
section
set_option backward.match.sparseCases false
noncomputable def sE : Stmt → Expr
  | .Assign _ e _ => e | .Expr e _ => e | .If c _ _ _ => c | .For t _ _ _ _ => t | .While c _ _ _ => c | _ => default
noncomputable def sI : Stmt → Expr
  | .For _ i _ _ _ => i | _ => default
noncomputable def sT : Stmt → List Expr
  | .Assign l _ _ => l | _ => []
noncomputable def sO : Stmt → Option Expr
  | .Return o _ => o | _ => none
noncomputable def sA : Stmt → List Stmt
  | .If _ a _ _ => a | .For _ _ a _ _ => a | .While _ a _ _ => a | .Try a _ _ _ _ => a | _ => []
noncomputable def sB : Stmt → List Stmt
  | .If _ _ b _ => b | .For _ _ _ b _ => b | .While _ _ b _ => b | .Try _ _ b _ _ => b | _ => []
noncomputable def sF : Stmt → List Stmt
  | .Try _ _ _ b _ => b | _ => []
noncomputable def sH : Stmt → List ExceptHandler
  | .Try _ h _ _ _ => h | _ => []
noncomputable def sP : Stmt → Pos
  | .Assign _ _ p => p | .Expr _ p => p | .If _ _ _ p => p | .For _ _ _ _ p => p | .While _ _ _ p => p | .Return _ p => p | .Try _ _ _ _ p => p | _ => default
end
noncomputable def rbS (s : Stmt) (n : Nat) : Stmt :=
  bt (Nat.beq n 3) (bt (Nat.beq n 5) (bt (Nat.beq n 9) (bt (Nat.beq n 11) (bt (Nat.beq n 12) (bt (Nat.beq n 17) (bt (Nat.beq n 24) s
    (.Expr (sE s) (sP s))) (.Try (sA s) (sH s) (sB s) (sF s) (sP s))) (.If (sE s) (sA s) (sB s) (sP s))) (.While (sE s) (sA s) (sB s) (sP s))) (.For (sE s) (sI s) (sA s) (sB s) (sP s))) (.Assign (sT s) (sE s) (sP s))) (.Return (sO s) (sP s))
theorem rbS_eq (s : Stmt) : s = rbS s s.ctorIdx := by
  induction s using _root_.PySem.Stmt.casesOn <;> rfl
theorem of_idxS {s : Stmt} {n : Nat} (h : Nat.beq s.ctorIdx n = true) : s = rbS s n := (rbS_eq s).trans (congrArg (rbS s) (Nat.eq_of_beq_eq_true h))
noncomputable def asAsg (s : Stmt) : Option (Expr × Expr × Pos) := bt (Nat.beq s.ctorIdx 5) none (om1 (one (sT s)) none fun t => some (t, sE s, sP s))
theorem asAsg_eq {s : Stmt} {t e : Expr} {p : Pos} (h : asAsg s = some (t, e, p)) : s = .Assign [t] e p := by
  unfold asAsg at h
  split at h
  · rename_i q
    split at h
    · rename_i q1; cases h; exact one_eq q1 ▸ (show s = PySem.Stmt.Assign (sT s) (sE s) (sP s) from of_idxS q)
    · cases h
  · cases h
noncomputable def asExpS (s : Stmt) : Option Expr := bt (Nat.beq s.ctorIdx 24) none (some (sE s))
noncomputable def asIfS (s : Stmt) : Option (Expr × List Stmt × List Stmt) := bt (Nat.beq s.ctorIdx 12) none (some (sE s, sA s, sB s))
noncomputable def asFor (s : Stmt) : Option (Expr × Expr × List Stmt) := bt (Nat.beq s.ctorIdx 9 && isNil (sB s)) none (some (sE s, sI s, sA s))
noncomputable def asWhl (s : Stmt) : Option (Expr × List Stmt) := bt (Nat.beq s.ctorIdx 11 && isNil (sB s)) none (some (sE s, sA s))
noncomputable def asRet (s : Stmt) : Option Expr := bt (Nat.beq s.ctorIdx 3) none (sO s)
noncomputable def asTry (s : Stmt) : Option (List Stmt) := bt (Nat.beq s.ctorIdx 17 && (isNil (sB s) && isNil (sF s))) none (some (sA s))
theorem asExpS_eq {s : Stmt} {e : Expr} (h : asExpS s = some e) : ∃ p, s = .Expr e p := by
  obtain ⟨q, z⟩ := asIf_some h; subst z; exact ⟨_, of_idxS q⟩
theorem asIfS_eq {s : Stmt} {c : Expr} {a b : List Stmt} (h : asIfS s = some (c, a, b)) : ∃ p, s = .If c a b p := by
  obtain ⟨q, z⟩ := asIf_some h; cases z; exact ⟨_, of_idxS q⟩
theorem asFor_eq {s : Stmt} {t i : Expr} {b : List Stmt} (h : asFor s = some (t, i, b)) : ∃ p, s = .For t i b [] p := by
  obtain ⟨q, z⟩ := asIf_some h; cases z; exact ⟨_, isNil_eq (and2 q).2 ▸ (show s = PySem.Stmt.For (sE s) (sI s) (sA s) (sB s) (sP s) from of_idxS (and2 q).1)⟩
theorem asWhl_eq {s : Stmt} {c : Expr} {b : List Stmt} (h : asWhl s = some (c, b)) : ∃ p, s = .While c b [] p := by
  obtain ⟨q, z⟩ := asIf_some h; cases z; exact ⟨_, isNil_eq (and2 q).2 ▸ (show s = PySem.Stmt.While (sE s) (sA s) (sB s) (sP s) from of_idxS (and2 q).1)⟩
theorem asRet_eq {s : Stmt} {e : Expr} (h : asRet s = some e) : ∃ p, s = .Return (some e) p := by
  unfold asRet at h
  split at h
  · rename_i q; exact ⟨_, h ▸ (show s = PySem.Stmt.Return (sO s) (sP s) from of_idxS q)⟩
  · cases h
theorem asTry_eq {s : Stmt} {a : List Stmt} (h : asTry s = some a) : ∃ hs p, s = .Try a hs [] [] p := by
  obtain ⟨q, z⟩ := asIf_some h; subst z; exact ⟨_, _, isNil_eq (and3 q).2.1 ▸ isNil_eq (and3 q).2.2 ▸ (show s = PySem.Stmt.Try (sA s) (sH s) (sB s) (sF s) (sP s) from of_idxS (and3 q).1)⟩
noncomputable def asNameP (e : Expr) : Option (Str × Pos) := bt (Nat.beq e.ctorIdx 23) none (some (gX e, e.pos))
theorem asNameP_eq {e : Expr} {x : Str} {p : Pos} (h : asNameP e = some (x, p)) : e = .Name x p := by
  obtain ⟨q, z⟩ := asIf_some h; cases z; exact of_idx q
/-! parts of my own terms -/
section
set_option backward.match.sparseCases false
noncomputable def isFrz : T → Option Nat
  | .frz i => some i
  | _ => none
noncomputable def isBump : T → Option (Nat × Nat)
  | .bump i j => some (i, j)
  | _ => none
noncomputable def isDead : T → Bool
  | .dead => true
  | _ => false
end
theorem isFrz_eq {t : T} {i : Nat} (h : isFrz t = some i) : t = .frz i := by induction t using T.casesOn <;> first | exact nos h | (cases h; rfl)
theorem isBump_eq {t : T} {i j : Nat} (h : isBump t = some (i, j)) : t = .bump i j := by induction t using T.casesOn <;> first | exact nos h | (cases h; rfl)
theorem isDead_eq {t : T} (h : isDead t = true) : t = .dead := by induction t using T.casesOn <;> first | rfl | exact nof h
/-- what is known of a frame's names -/
structure Cx where
  kd : List (Str × NameKind)
  names : List Str
  own : Bool
noncomputable def kindL : List (Str × NameKind) → Str → Option NameKind
  | [], _ => none
  | y :: r, x => bt (strEq y.1 x) (kindL r x) (some y.2)
theorem kindL_eq : ∀ (l : List (Str × NameKind)) (x : Str), kindL l x = l.lookup x
  | [], _ => rfl
  | y :: r, x => by
    unfold kindL
    rw [List.lookup_cons]
    split
    · rename_i q; rw [strEq_iff.mp q]; simp
    · rename_i q
      have hne : (x == y.1) = false := by rw [beq_eq_false_iff_ne]; exact fun e => strEq_false q e.symm
      rw [hne, kindL_eq r x]
noncomputable def isK (c : Cx) (x : Str) (k : NameKind) : Bool := decide (kindL c.kd x = some k)
theorem isK_eq {c : Cx} {x : Str} {k : NameKind} (h : isK c x k = true) : c.kd.lookup x = some k := (kindL_eq _ _).symm.trans (of_decide_eq_true h)
noncomputable def hasS (x : Str) : List Str → Bool
  | [] => false
  | y :: r => bt (strEq y x) (hasS x r) true
theorem hasS_iff {x : Str} : ∀ {l : List Str}, hasS x l = true ↔ x ∈ l
  | [] => by simp [hasS]
  | y :: r => by
    unfold hasS
    cases q : strEq y x with
    | true => simp [strEq_iff.mp q]
    | false => rw [bt_false, hasS_iff]; simp [Ne.symm (strEq_false q)]
noncomputable def uniq : List Str → Bool
  | [] => true
  | y :: r => bt (hasS y r) (uniq r) false
theorem uniq_nd : ∀ {l : List Str}, uniq l = true → l.Nodup
  | [], _ => by simp
  | y :: r, h => by
    unfold uniq at h
    split at h
    · cases h
    · rename_i q
      rw [List.nodup_cons]
      exact ⟨fun m => (by rw [hasS_iff.mpr m] at q; cases q), uniq_nd h⟩
/-- a context says what an environment is -/
structure CxOk (c : Cx) (env : Env) : Prop where
  kind : ∀ x, env.kindOf x = c.kd.lookup x
  cell : c.own = true → ∀ x, c.kd.lookup x = some .cell → (env.cells.lookup x).isSome = true
  blk : env.blockKind = .function
  nd : c.names.Nodup
noncomputable def nmAt (c : Cx) (i : Nat) (x : Str) : Bool := om1 (nth c.names i) false fun y => strEq y x
theorem nmAt_eq {c : Cx} {i : Nat} {x : Str} (h : nmAt c i x = true) : c.names[i]? = some x := by
  unfold nmAt at h
  rw [nth_eq] at h
  split at h
  · rename_i q; rw [q, strEq_iff.mp h]
  · cases h
noncomputable def notDbg (x : Str) : Bool := !strEq x "__debug__"
theorem notDbg_eq {x : Str} (h : notDbg x = true) : (x == ("__debug__" : Str)) = false := by
  unfold notDbg at h
  rw [Bool.not_eq_true'] at h
  rw [beq_eq_false_iff_ne]; exact strEq_false h
noncomputable def stOk (c : Cx) (i : Nat) (x : Str) : Bool := nmAt c i x && (isK c x .local || (isK c x .cell && c.own))
theorem stOk_eq {c : Cx} {env : Env} {i : Nat} {x : Str} (C : CxOk c env) (h : stOk c i x = true) : StOk env c.own c.names i x := by
  unfold stOk at h
  rw [Bool.and_eq_true, Bool.or_eq_true, Bool.and_eq_true] at h
  have a := nmAt_eq h.1
  refine ⟨a, fun j e => ?_, ?_⟩
  · have hj : j < c.names.length := (List.getElem?_eq_some_iff.mp e).1
    exact (List.getElem?_inj hj C.nd).mp (e.trans a.symm)
  · rw [C.kind]
    rcases h.2 with q | ⟨q1, q2⟩
    · exact .inl (isK_eq q)
    · exact .inr ⟨isK_eq q1, q2, C.cell q2 x (isK_eq q1)⟩
noncomputable def nmsOk (c : Cx) (es : List Expr) (is : List Nat) : Bool := all2 (fun e i => om1 (asName e) false fun x => stOk c i x) es is
theorem nmsOk_eq {c : Cx} {env : Env} (C : CxOk c env) {es : List Expr} {is : List Nat} (h : nmsOk c es is = true) : NmsOk env c.own c.names es is := by
  replace h := all2_F2 h
  induction h with
  | nil => exact .nil
  | cons a _ ih =>
    split at a
    · rename_i x q
      obtain ⟨p, rfl⟩ := asName_eq q
      exact .cons (stOk_eq C a) ih
    · cases a
noncomputable def tgOk (c : Cx) (t : Expr) (is : List Nat) : Bool := match is with
  | [] => false
  | i :: r => match r with
    | [] => om1 (asName t) false fun x => stOk c i x
    | j :: r => om1 (asTup t) false fun es => nmsOk c es (i :: j :: r)
theorem tgOk_eq {c : Cx} {env : Env} {t : Expr} {is : List Nat} (C : CxOk c env) (h : tgOk c t is = true) : TgOk env c.own c.names t is := by
  unfold tgOk at h
  split at h
  · cases h
  · split at h
    · split at h
      · rename_i q; obtain ⟨p, rfl⟩ := asName_eq q; exact .one (stOk_eq C h)
      · cases h
    · split at h
      · rename_i q; obtain ⟨k, p, rfl⟩ := asTup_eq q; exact .tup (nmsOk_eq C h)
      · cases h
noncomputable def litEq (a b : D) : Bool := om1 a.key? (om1 a.b? (a.isN && b.isN) fun x => om1 b.b? false fun y => x == y) fun k => om1 b.key? false fun l => keyEq k l
theorem litEq_eq {a b : D} (h : litEq a b = true) : a = b := by
  unfold litEq at h
  split at h
  · rename_i k q
    split at h
    · rename_i l q2
      rw [key?_d q, key?_d q2, keyEq_eq h]
    · cases h
  · split at h
    · rename_i x q
      split at h
      · rename_i y q2
        rw [D.b?_eq q, D.b?_eq q2, eq_of_beq h]
      · cases h
    · rw [D.isN_eq (and2 h).1, D.isN_eq (and2 h).2]
noncomputable def intOf (c : Const) : Option Int := om1 (constD c) none fun d => d.i?
theorem intOf_eq {c : Const} {i : Int} (h : intOf c = some i) : c = .int i := by induction c using PySem.Const.casesOn <;> first | exact nos h | exact congrArg PySem.Const.int (Option.some.inj h)
noncomputable def litOk (e : Expr) (d : D) : Bool := om1 (asConst e) (om1 (asNeg e) false fun a => om1 (asConst a) false fun c => om1 (intOf c) false fun i => litEq (.int (-i)) d) fun c => om1 (constD c) false fun d' => litEq d' d
end Mine

namespace Mine
open PySem PySem.W PyProof.Rows PySem.Calls PySem.SeqAt

/-- the tables of names: defs, classes, fields; the globals that are read -/
structure Gt where
  fnm : List (Str × Nat)
  cnm : List (Str × Nat)
  fld : List Str
  gl : List (Str × D)
noncomputable def idxS (x : Str) : List (Str × Nat) → Option Nat
  | [] => none
  | y :: r => bt (strEq y.1 x) (idxS x r) (some y.2)
noncomputable def isIdx (x : Str) (l : List (Str × Nat)) (i : Nat) : Bool := om1 (idxS x l) false fun j => Nat.beq j i
noncomputable def BI.nm : BI → Str
  | .len => "len" | .sorted => "sorted" | .dict _ => "dict" | .tuple => "tuple" | .bytes => "bytes" | .ord => "ord" | .chr => "chr" | .str => "str"
noncomputable def opOk (o : BO) (p : Operator) : Bool := decide (p = o.op)
theorem opOk_eq {o : BO} {p : Operator} (h : opOk o p = true) : p = o.op := of_decide_eq_true h
noncomputable def coOk (o : CO) (p : CmpOp) : Bool := decide (p = o.op)
theorem coOk_eq {o : CO} {p : CmpOp} (h : coOk o p = true) : p = o.op := of_decide_eq_true h
noncomputable def isOk (neg : Bool) (p : CmpOp) : Bool := decide (p = if neg then .IsNot else .Is)
theorem isOk_eq {neg : Bool} {p : CmpOp} (h : isOk neg p = true) : p = if neg then .IsNot else .Is := of_decide_eq_true h
noncomputable abbrev Rec := Bool → Cx → Expr → X → Bool
noncomputable def okL (r : Rec) (c : Cx) (es : List Expr) (xs : List X) : Bool := all2 (fun e x => noStar e && r false c e x) es xs
noncomputable def okTs (r : Rec) (c : Cx) (es : List Expr) (xs : List X) : Bool := all2 (fun e x => r true c e x) es xs
noncomputable def okLoc (c : Cx) (e : Expr) (i : Nat) : Bool := om1 (asName e) false fun x => nmAt c i x && notDbg x
noncomputable def okGlob (G : Gt) (c : Cx) (e : Expr) (i : Nat) : Bool := om1 (asName e) false fun x => om1 (nth G.gl i) false fun g => strEq g.1 x && (isK c x .globalImplicit && notDbg x)
noncomputable def okAttr (G : Gt) (r : Rec) (c : Cx) (e : Expr) (a : X) (f : Str) : Bool := om3 (asAttr e) false fun o g _ => strEq g f && (hasS f G.fld && (noSuper o && r false c o a))
/-- a name that stands for a global -/
noncomputable def okNm (c : Cx) (k : Str → Bool) (e : Expr) : Bool := om1 (asName e) false fun x => k x && (isK c x .globalImplicit && notDbg x)
noncomputable def okCall (r : Rec) (c : Cx) (k : Str → Bool) (e : Expr) (args : List X) : Bool := om3 (asCall e) false fun f es _ => okNm c k f && okL r c es args
noncomputable def okMeth (r : Rec) (c : Cx) (m : Str) (e : Expr) (o : X) (args : List X) : Bool := om3 (asCall e) false fun f es p => om3 (asAttr f) false fun oe g ap => strEq g m && (Nat.blt es.length 30 && ((ap.endLine == p.line) && (noSuper oe && (r false c oe o && okL r c es args))))
noncomputable def itNm (G : Gt) (t : IT) (x : Str) : Bool := match t with
  | .bool => strEq x "bool"
  | .int => strEq x "int"
  | .list => strEq x "list"
  | .dict => strEq x "dict"
  | .cls k => isIdx x G.cnm k
noncomputable def okIsi (G : Gt) (r : Rec) (c : Cx) (e : Expr) (a : X) (t : IT) : Bool := om3 (asCall e) false fun f es _ => om2 (two es) false fun ae z => okNm c (strEq · "isinstance") f && (okNm c (itNm G t) z && (noStar ae && r false c ae a))
noncomputable def okBin (r : Rec) (c : Cx) (e : Expr) (o : BO) (a b : X) : Bool := om3 (asBin e) false fun l op u => opOk o op && (r false c l a && r false c u b)
noncomputable def okCmp (r : Rec) (c : Cx) (e : Expr) (o : CO) (a b : X) : Bool := om3 (asCmp e) false fun l op u => coOk o op && (noMark u && (r false c l a && r false c u b))
noncomputable def isNoneC (c : Const) : Bool := decide (c = .none)
noncomputable def okIsN (r : Rec) (c : Cx) (e : Expr) (neg : Bool) (a : X) : Bool := om3 (asCmp e) false fun l op u => om1 (asConst u) false fun k => isNoneC k && (isOk neg op && r false c l a)
noncomputable def okNot (t : Bool) (r : Rec) (c : Cx) (e : Expr) (a : X) : Bool := om1 (asNot e) false fun ae => r t c ae a
noncomputable def isAnd (o : BoolOp) : Bool := decide (o = .And)
noncomputable def okBool (r : Rec) (c : Cx) (e : Expr) (b : Bool) (as : List X) : Bool := om2 (asBool e) false fun o es => (isAnd o == b) && okL r c es as
noncomputable def okBoolT (r : Rec) (c : Cx) (e : Expr) (b : Bool) (as : List X) : Bool := om2 (asBool e) false fun o es => (isAnd o == b) && okTs r c es as
noncomputable def okIte (t : Bool) (r : Rec) (c : Cx) (e : Expr) (k a b : X) : Bool := om3 (asIf e) false fun ce ae be => r true c ce k && (r t c ae a && r t c be b)
noncomputable def okSub (r : Rec) (c : Cx) (e : Expr) (v i : X) : Bool := om2 (asSub e) false fun ve s => noSlice s && (r false c ve v && r false c s i)
noncomputable def okPart (r : Rec) (c : Cx) (e : Option Expr) (x : Option X) : Bool := om1 e (noneO x) fun e => om1 x false fun x => r false c e x
noncomputable def okSlc (r : Rec) (c : Cx) (e : Expr) (v : X) (lo hi : Option X) : Bool := om2 (asSub e) false fun ve s => om2 (asSlice s) false fun l h => r false c ve v && (okPart r c l lo && okPart r c h hi)
noncomputable def okTup (r : Rec) (c : Cx) (e : Expr) (xs : List X) : Bool := om1 (asTup e) false fun es => small es.length && okL r c es xs
noncomputable def okLst (r : Rec) (c : Cx) (e : Expr) (xs : List X) : Bool := om1 (asLst e) false fun es => small es.length && okL r c es xs
noncomputable def okKey (o : Option Expr) (x : X) : Bool := om1 o false fun e => om1 x.lit? false fun d => om1 (asConst e) false fun k => om1 (constD k) false fun d' => litEq d' d
noncomputable def okKeys (es : List (Option Expr)) (ks : List X) : Bool := all2 okKey es ks
noncomputable def okDct (r : Rec) (c : Cx) (e : Expr) (ks vs : List X) : Bool := om2 (asDct e) false fun ke ve => bt (isNil ke) (okKeys ke ks && (okL r c ve vs && (Nat.beq ve.length ke.length && Nat.ble ke.length 15))) (isNil ve && (isNil ks && isNil vs))
noncomputable def okSrc (r : Rec) (c : Cx) (e : Expr) (x : X) : Bool := noMark e && om1 (isRng x) (om1 (isRev x) (r false c e x) fun a => om3 (asCall e) false fun f es _ => om1 (one es) false fun ae => okNm c (strEq · "reversed") f && (noStar ae && r false c ae a)) fun args => okCall r c (strEq · "range") e args
noncomputable def relab (kd : List (Str × NameKind)) : List (Str × NameKind) → List (Str × NameKind)
  | [] => []
  | y :: r => bt (decide (y.2 = .free) && decide (kindL kd y.1 = some .cell)) y (y.1, .cell) :: relab kd r
noncomputable def scOk (c : Cx) (s : Scope) : List (Str × NameKind) → Bool
  | [] => true
  | y :: r => bt (decide (y.2 = .cell)) (bt (decide (y.2 = .local)) (bt (decide (y.2 = .free)) true (isK c y.1 .cell)) (decide (kindL s.names y.1 = some .local))) false && scOk c s r
noncomputable def capsOk (c : Cx) (s : Scope) : List Str → List Nat → Bool
  | _, [] => true
  | [], _ :: _ => false
  | x :: xs, k :: ks => nmAt c k x && (isK c x .cell && (decide (kindL s.names x = some .free) && capsOk c s xs ks))
noncomputable def isFun (k : ScopeKind) : Bool := decide (k = .function)
noncomputable def compOk (c : Cx) (s : Scope) (cn : List Str) (caps : List Nat) : Bool := c.own && (isFun s.kind && (scOk c s s.names && (capsOk c s cn caps && uniq cn)))
noncomputable def compCx (c : Cx) (s : Scope) (cn : List Str) : Cx := ⟨relab c.kd s.names, cn, false⟩
noncomputable def okIfs (r : Rec) (c : Cx) (es : List Expr) (o : Option X) : Bool := om1 o (isNil es) fun x => om1 (one es) false fun e => r true c e x
noncomputable def okComp (r : Rec) (c : Cx) (e : Expr) (elt : X) (tg : List Nat) (src : X) (cond : Option X) (cn : List Str) (caps : List Nat) : Bool := match asComp e with
  | some (ee, g, s, _) => match g with
    | ⟨t, it, ifs, a⟩ => Z.eqB a 0 && (compOk c s cn caps && (tgOk (compCx c s cn) t tg && (okSrc r c it src && (r false (compCx c s cn) ee elt && okIfs r (compCx c s cn) ifs cond))))
  | none => false
noncomputable def okExpr (G : Gt) (r : Rec) (c : Cx) (e : Expr) (x : X) : Bool := match x with
  | .lit d => litOk e d
  | .loc i => okLoc c e i
  | .glob i => okGlob G c e i
  | .attr a f => okAttr G r c e a f
  | .call f args => okCall r c (isIdx · G.fnm f) e args
  | .mk k args => okCall r c (isIdx · G.cnm k) e args
  | .meth o m args => okMeth r c m e o args
  | .isi a t => okIsi G r c e a t
  | .bi b args => okCall r c (strEq · b.nm) e args
  | .bm b o args => okMeth r c b.name e o args
  | .bin o a b => okBin r c e o a b
  | .cmp o a b => okCmp r c e o a b
  | .isN neg a => okIsN r c e neg a
  | .not a => okNot false r c e a
  | .and as => okBool r c e true as
  | .or as => okBool r c e false as
  | .ite k a b => okIte false r c e k a b
  | .sub v i => okSub r c e v i
  | .slc v lo hi => okSlc r c e v lo hi
  | .tup es => okTup r c e es
  | .lst _ es => okLst r c e es
  | .dct _ ks vs => okDct r c e ks vs
  | .comp elt tg src cond cn caps => okComp r c e elt tg src cond cn caps
  | .range _ => true
  | .rev _ => true
  | .dead => true
noncomputable def isCmpE (e : Expr) : Bool := om1 (asCmp e) false fun _ => true
noncomputable def okVal (r : Rec) (c : Cx) (e : Expr) (x : X) : Bool := (isVal e || isCmpE e) && r false c e x
noncomputable def okTest (r : Rec) (c : Cx) (e : Expr) (x : X) : Bool := match x with
  | .not a => okNot true r c e a
  | .and as => okBoolT r c e true as
  | .or as => okBoolT r c e false as
  | .ite k a b => okIte true r c e k a b
  | .dead => true
  | x => okVal r c e x
noncomputable def okX (G : Gt) : Nat → Rec
  | 0 => fun _ _ _ _ => false
  | n + 1 => fun t c e x => bt t (okExpr G (okX G n) c e x) (okTest (okX G n) c e x)
end Mine

namespace Mine
open PySem PySem.W PyProof.Rows PySem.Calls PySem.SeqAt

/-- the body of an __init__ -/
noncomputable def okIni1 (G : Gt) (K : Frag) (D : Addr) (n : Nat) (c : Cx) (self : Str) (s : Stmt) (t : T) : Bool := om2 t.setA? false fun f xe => om3 (asAsg s) false fun t e _ => om3 (asAttr t) false fun o g _ => om1 (asName o) false fun x => strEq x self && (strEq g f && (noComp e && (okX G n false c e xe && (takerIn K D f == some none))))
noncomputable def okIni (G : Gt) (K : Frag) (D : Addr) (n : Nat) (c : Cx) (self : Str) (b : List Stmt) (ts : List T) : Bool := all2 (okIni1 G K D n c self) b ts
/-- all that is known of the tables -/
structure Gd (p : Pm) (K : Frag) (mg mb : Str → Option Value) (tb : Tb) (B : Heap) (G : Gt) : Prop where
  Y : Bs K mg mb B
  C : CkC K tb
  M : methsOk K tb = true
  S : CkS p tb
  H0 : Sym0 p
  fld : ∀ f ∈ G.fld, fldOk K tb f = true
  bi : ∀ x ∈ (["len", "sorted", "dict", "tuple", "bytes", "ord", "chr", "str", "isinstance", "bool", "int", "list", "range", "reversed"] : List Str), nsIn K mainGlobals x = some none
  fnm : ∀ x i, idxS x G.fnm = some i → ∃ f, nth tb.fns i = some f ∧ nsIn K mainGlobals x = some (some (.ref f.addr))
  cnm : ∀ x i, idxS x G.cnm = some i → ∃ c, nth tb.cls i = some c ∧ nsIn K mainGlobals x = some (some (.ref c.addr)) ∧ keepIn K (.ref c.addr) = true
  keep : ∀ i f, nth tb.fns i = some f → keepIn K (.ref f.addr) = true
  glob : ∀ i g, nth tb.globs i = some g → ∃ v, nsIn K mainGlobals g.1 = some (some v) ∧ ∀ h M φ σ, St p B h M φ σ → VRel p h M v g.2
  gl : G.gl = tb.globs
  make : ∀ k cl f, nth tb.cls k = some cl → nth tb.fns cl.init = some f → ∃ fd body self no, FnK K f fd body ∧ MkOk K cl.addr f ∧ f.names[0]? = some self ∧ (self == ("__debug__" : Str)) = false ∧ f.body.length ≤ 100 ∧ uniq f.names = true ∧ okIni G K cl.addr no ⟨fd.scope.names, f.names, true⟩ self body f.body = true
theorem boot_b (b : BI) : bootBuiltins b.nm = some b.v := by cases b <;> kernel_rfl
theorem boot_i : bootBuiltins "isinstance" = some (.builtin "isinstance") := by kernel_rfl
theorem boot_bool : bootBuiltins "bool" = some (.type "bool") := by kernel_rfl
theorem boot_int : bootBuiltins "int" = some (.type "int") := by kernel_rfl
theorem boot_list : bootBuiltins "list" = some (.type "list") := by kernel_rfl
theorem boot_range : bootBuiltins "range" = some (.type "range") := by kernel_rfl
theorem boot_rev : bootBuiltins "reversed" = some (.type "reversed") := by kernel_rfl
section
variable {p : Pm} {K : Frag} {mg mb : Str → Option Value} {tb : Tb} {B : Heap} {G : Gt} {A : Around} {env : Env} {FA : List Addr} {F : Fns} {c : Cx} {r : Rec} {h h' : Heap} {M M' : List Addr} {φ φ' : List (Option Addr)} {σ σ' σ₁ : List C} {ρ : List (Option W)}
theorem isIdx_eq {x : Str} {l : List (Str × Nat)} {i : Nat} (h : isIdx x l i = true) : idxS x l = some i := by
  unfold isIdx at h
  split at h
  · rename_i j q; rw [q, Nat.eq_of_beq_eq_true h]
  · cases h
/-- a name as okNm looks at it -/
theorem okNm_eq {k : Str → Bool} {e : Expr} (C : CxOk c env) (h : okNm c k e = true) : ∃ x q, e = .Name x q ∧ k x = true ∧ env.kindOf x = some .globalImplicit ∧ (x == ("__debug__" : Str)) = false := by
  unfold okNm at h
  split at h
  · rename_i x q
    replace h := and3 h
    obtain ⟨z, rfl⟩ := asName_eq q
    exact ⟨x, z, rfl, h.1, (C.kind x).trans (isK_eq h.2.1), notDbg_eq h.2.2⟩
  · cases h
theorem nm_fn (D : Gd p K mg mb tb B G) {x : Str} {i : Nat} (hk : env.kindOf x = some .globalImplicit) (hd : (x == ("__debug__" : Str)) = false) (h : isIdx x G.fnm i = true) : ∃ f, nth tb.fns i = some f ∧ NmV K env x (.ref f.addr) := by
  obtain ⟨f, a, b⟩ := D.fnm x i (isIdx_eq h)
  exact ⟨f, a, .glob hk b hd⟩
theorem nm_cl (D : Gd p K mg mb tb B G) {x : Str} {i : Nat} (hk : env.kindOf x = some .globalImplicit) (hd : (x == ("__debug__" : Str)) = false) (h : isIdx x G.cnm i = true) : ∃ c, nth tb.cls i = some c ∧ keepIn K (.ref c.addr) = true ∧ NmV K env x (.ref c.addr) := by
  obtain ⟨f, a, b, d⟩ := D.cnm x i (isIdx_eq h)
  exact ⟨f, a, d, .glob hk b hd⟩
theorem nm_bi (D : Gd p K mg mb tb B G) {x y : Str} {v : Value} (hk : env.kindOf x = some .globalImplicit) (hd : (x == ("__debug__" : Str)) = false) (h : strEq x y = true) (hm : y ∈ (["len", "sorted", "dict", "tuple", "bytes", "ord", "chr", "str", "isinstance", "bool", "int", "list", "range", "reversed"] : List Str))
    (hb : bootBuiltins y = some v) : NmV K env x v := by
  rw [strEq_iff.mp h] at hk hd ⊢
  refine .bi hk (D.bi y hm) hb (fun e => ?_) hd
  subst e
  exact absurd (hasS_iff.mpr hm) (by decide)
theorem mem_b (b : BI) : b.nm ∈ (["len", "sorted", "dict", "tuple", "bytes", "ord", "chr", "str", "isinstance", "bool", "int", "list", "range", "reversed"] : List Str) := by
  cases b <;> exact hasS_iff.mp (by kernel_rfl)
theorem okL_evs (ie : ∀ {e x}, r false c e x = true → EvS p B A env c.own FA c.names F e x) {es : List Expr} {xs : List X} (h : okL r c es xs = true) : EvsS p B A env c.own FA c.names F es xs := by
  replace h := all2_F2 h
  induction h with
  | nil => exact .nil
  | cons a _ ih => exact .cons (and2 a).1 (ie (and2 a).2) ih
theorem okTs_tss (it : ∀ {e x}, r true c e x = true → TsS p B A env c.own FA c.names F e x) {es : List Expr} {xs : List X} (h : okTs r c es xs = true) : TssS p B A env c.own FA c.names F es xs := by
  replace h := all2_F2 h
  induction h with
  | nil => exact .nil
  | cons a _ ih => exact .cons (it a) ih
/-- a key as it stands in a display -/
inductive KeyAt (o : Option Expr) (x : X) : Prop
  | mk (c : Const) (n : Nat) (z : Pos) (d : D) : o = some (.Constant c n z) → x.lit? = some d → constD c = some d → KeyAt o x
theorem okKey_at {o : Option Expr} {x : X} (h : okKey o x = true) : KeyAt o x := by
  unfold okKey at h
  split at h
  · rename_i e
    split at h
    · rename_i d q1
      split at h
      · rename_i k q2
        split at h
        · rename_i d' q3
          obtain ⟨n, z, rfl⟩ := asConst_eq q2
          exact .mk k n z d rfl q1 (litEq_eq h ▸ q3)
        · cases h
      · cases h
    · cases h
  · cases h
theorem okKeys_eq {es : List (Option Expr)} {ks : List X} (h : okKeys es ks = true) : ∀ {kk}, keysLit ks = some kk → KeysS es kk := by
  replace h := all2_F2 h
  induction h with
  | nil => intro kk e; cases e; exact .nil
  | cons a _ ih =>
    intro kk ek
    obtain ⟨c, n, z, d, rfl, q1, q2⟩ := okKey_at a
    unfold keysLit at ek
    rw [q1] at ek
    dsimp only at ek
    split at ek
    · rename_i k q3
      split at ek
      · rename_i l q4
        cases ek
        exact .cons q2 q3 (ih q4)
      · cases ek
    · cases ek
theorem lit_ev {e : Expr} {d : D} (h : litOk e d = true) (e2 : some (W.d d, σ) = some (w, σ')) (X : FS p B env c.own FA c.names h₀ M φ σ ρ) : Run p B A (eval e env) h₀ M φ σ' (U p w) := by
  cases e2
  unfold litOk at h
  split at h
  · rename_i q
    split at h
    · rename_i q2
      obtain ⟨n, z, rfl⟩ := asConst_eq q
      rw [← litEq_eq h]
      exact run_V (run_const X.S q2)
    · cases h
  · split at h
    · rename_i a q
      split at h
      · rename_i k q2
        split at h
        · rename_i i q3
          obtain ⟨z, rfl⟩ := asNeg_eq q
          obtain ⟨n, z2, rfl⟩ := asConst_eq q2
          rw [intOf_eq q3, ← litEq_eq h]
          exact run_Neg X.S
        · cases h
      · cases h
    · cases h
end
end Mine

namespace Mine
open PySem PySem.W PyProof.Rows PySem.Calls PySem.SeqAt

section
variable {p : Pm} {K : Frag} {mg mb : Str → Option Value} {tb : Tb} {B : Heap} {G : Gt} {A : Around} {env : Env} {FA : List Addr} {F : Fns} {c : Cx} {r : Rec} {h h' : Heap} {M M' : List Addr} {φ φ' : List (Option Addr)} {σ σ' σ₁ : List C} {ρ : List (Option W)}
theorem relab_eq {c : Cx} {env : Env} (C : CxOk c env) (hk : env.scope.kind = .function) : ∀ l : List (Str × NameKind), (l.map fun (n, k) => if (k == NameKind.free && env.scope.kind == .function && env.kindOf n == some .cell) then (n, NameKind.cell) else (n, k)) = relab c.kd l
  | [] => rfl
  | (n, k) :: r => by
    rw [List.map_cons, relab_eq C hk r]
    refine congrArg (· :: relab c.kd r) (?_ : (if (k == NameKind.free && env.scope.kind == .function && env.kindOf n == some .cell) = true then (n, NameKind.cell) else (n, k)) = bt (decide (k = .free) && decide (kindL c.kd n = some .cell)) (n, k) (n, .cell))
    rw [C.kind, ← kindL_eq, hk]
    rw [show (k == NameKind.free && ScopeKind.function == ScopeKind.function && kindL c.kd n == some NameKind.cell) = (decide (k = .free) && decide (kindL c.kd n = some .cell)) by rw [Bool.eq_iff_iff]; simp]
    cases decide (k = NameKind.free) && decide (kindL c.kd n = some .cell) <;> rfl
theorem scOk_eq {c : Cx} {s : Scope} : ∀ {l : List (Str × NameKind)}, scOk c s l = true → ∀ y ∈ l, y.2 ≠ .cell ∧ (y.2 = .local → s.names.lookup y.1 = some .local) ∧ (y.2 = .free → c.kd.lookup y.1 = some .cell)
  | [], _, y, m => by simp at m
  | z :: l, h, y, m => by
    unfold scOk at h
    replace h := and2 h
    rcases List.mem_cons.mp m with rfl | m
    · have h1 := h.1
      refine ⟨fun q => ?_, fun q => ?_, fun q => ?_⟩
      · rw [decide_eq_true q] at h1; exact nof h1
      · rw [q] at h1; exact (kindL_eq _ _).symm.trans (of_decide_eq_true h1)
      · rw [q] at h1; exact isK_eq h1
    · exact scOk_eq h.2 y m
theorem capsOk_eq {c : Cx} {s : Scope} : ∀ {cn : List Str} {caps : List Nat}, capsOk c s cn caps = true → ∀ (i k : Nat), caps[i]? = some k → ∃ x, c.names[k]? = some x ∧ cn[i]? = some x ∧ (x, NameKind.free) ∈ s.names ∧ s.names.lookup x = some .free ∧ c.kd.lookup x = some .cell
  | _, [], _, i, k, e => by simp at e
  | [], _ :: _, h, _, _, _ => by cases h
  | x :: xs, j :: ks, h, i, k, e => by
    unfold capsOk at h
    replace h := and4 h
    obtain ⟨h1, h2, h3, h4⟩ := h
    cases i with
    | zero =>
      simp at e
      subst e
      have hf : s.names.lookup x = some .free := (kindL_eq _ _).symm.trans (of_decide_eq_true h3)
      exact ⟨x, nmAt_eq h1, rfl, mem_of_lookup hf, hf, isK_eq h2⟩
    | succ i =>
      obtain ⟨y, a, b, d⟩ := capsOk_eq h4 i k (by simpa using e)
      exact ⟨y, a, by simpa using b, d⟩
theorem isFun_eq {k : ScopeKind} (h : isFun k = true) : k = .function := of_decide_eq_true h
theorem comp_cx {s : Scope} {cn : List Str} {caps : List Nat} (C : CxOk c env) (hk : env.scope.kind = .function) (h : compOk c s cn caps = true) : CompOk env c.names s cn caps ∧ ∀ cl L, CxOk (compCx c s cn) (compEnvC s cl L env) := by
  unfold compOk at h
  replace h := and5 h
  obtain ⟨h1, h2, h3, h4, h5⟩ := h
  have hs := isFun_eq h2
  have sc := scOk_eq h3
  refine ⟨⟨hs, fun y m => (sc y m).1, fun y m => (sc y m).2.1, fun y m q => C.cell h1 _ ((sc y m).2.2 q), fun i k e => ?_⟩, fun cl L => ⟨fun x => ?_, fun q => (by cases q), ?_, uniq_nd h5⟩⟩
  · obtain ⟨x, a, b, d, e, f⟩ := capsOk_eq h4 i k e
    exact ⟨x, a, b, d, e, (C.kind x).trans f⟩
  · show (relabel s env).names.lookup x = (relab c.kd s.names).lookup x
    rw [← relab_eq C hk]
    rfl
  · show Env.blockKind _ = _
    unfold Env.blockKind
    show (if (relabel s env).kind.isAnnotationScope = true then _ else (relabel s env).kind) = _
    rw [show (relabel s env).kind = .function from hs]
    rfl
theorem methW_fn (D : Gd p K mg mb tb B G) {w : W} {m : Str} {i : Nat} (h : methW tb w m = some i) : ∃ f, nth tb.fns i = some f := by
  have key : ∀ {a}, methOf tb a m = some i → ∃ f, nth tb.fns i = some f := fun {a} e => by
    unfold methOf at e
    split at e
    · rename_i cl hc
      obtain ⟨h1, _, _⟩ := clAt_mem hc
      have h2 := methAt_mem e
      have h3 := List.all_eq_true.mp (List.all_eq_true.mp D.M cl h1) _ h2
      unfold methOk at h3
      split at h3
      · exact ⟨_, ‹_›⟩
      · cases h3
    · cases e
  unfold methW at h
  cases w with
  | cell => exact nos h
  | d x =>
    dsimp only at h
    split at h
    · split at h
      · cases h
      · exact key h
    · cases h
  | shelf =>
    dsimp only at h
    split at h
    · cases h
    · split at h
      · cases h
      · exact key h
/-- what is shown of fuel m -/
structure IH (p : Pm) (B : Heap) (tb : Tb) (orc : Orc) (G : Gt) (N m : Nat) : Prop where
  ev : ∀ {A : Around} {env : Env} {FA : List Addr} {c : Cx} {e : Expr} {x : X} {n : Nat}, AOk A (m + N) → CxOk c env → okX G n false c e x = true → EvS p B A env c.own FA c.names (run tb orc m) e x
  ts : ∀ {A : Around} {env : Env} {FA : List Addr} {c : Cx} {e : Expr} {x : X} {n : Nat}, AOk A (m + N) → CxOk c env → okX G n true c e x = true → TsS p B A env c.own FA c.names (run tb orc m) e x
  fn : ∀ {A : Around} {i : Nat} {f : Fn}, AOk A (m + N) → nth tb.fns i = some f → ∀ {ws σ d σ'}, (run tb orc m).fn i ws σ = some (d, σ') → CallR p B A f.addr ws σ d σ'
theorem okSrc_src {e : Expr} {x : X} (D : Gd p K mg mb tb B G) (hh : A.handled = none) (C : CxOk c env) (ie : ∀ {e x}, r false c e x = true → EvS p B A env c.own FA c.names F e x) (h : okSrc r c e x = true) : noMark e = true ∧ SrcS p B A env c.own FA c.names F e x := by
  unfold okSrc at h
  replace h := and2 h
  refine ⟨h.1, ?_⟩
  have h := h.2
  split at h
  · rename_i args q
    rw [isRng_eq q]
    unfold okCall at h
    split at h
    · rename_i f es pos q
      rw [asCall_eq q]
      replace h := and2 h
      obtain ⟨x, z, rfl, a1, a2, a3⟩ := okNm_eq C h.1
      have hn := nm_bi D a2 a3 a1 (hasS_iff.mp (by kernel_rfl)) boot_range
      intro ρ σ h' M φ items σ' ev X
      exact src_range D.Y hh hn (okL_evs ie h.2) ev X
    · cases h
  · rename_i q0
    split at h
    · rename_i a q
      rw [isRev_eq q]
      split at h
      · rename_i f es pos q
        rw [asCall_eq q]
        split at h
        · rename_i ae q2
          rw [one_eq q2]
          replace h := and3 h
          obtain ⟨x, z, rfl, a1, a2, a3⟩ := okNm_eq C h.1
          have hn := nm_bi D a2 a3 a1 (hasS_iff.mp (by kernel_rfl)) boot_rev
          intro ρ σ h' M φ items σ' ev X
          exact src_rev D.Y hh hn h.2.1 (ie h.2.2) ev X
        · cases h
      · cases h
    · rename_i q1
      intro ρ σ h' M φ items σ' ev X
      exact src_val hh q0 q1 (ie h) ev X
theorem okIfs_ifs {ifs : List Expr} {xc : Option X} (it : ∀ {e x}, r true c e x = true → TsS p B A env c.own FA c.names F e x) (h : okIfs r c ifs xc = true) : IfsS p B A env c.own FA c.names F ifs xc := by
  unfold okIfs at h
  split at h
  · split at h
    · rename_i q; rw [one_eq q]; exact .one (it h)
    · cases h
  · rw [isNil_eq h]; exact .none
theorem okPart_part {e : Option Expr} {x : Option X} (ie : ∀ {e x}, r false c e x = true → EvS p B A env c.own FA c.names F e x) (h : okPart r c e x = true) : PartS p B A env c.own FA c.names F e x := by
  unfold okPart at h
  split at h
  · split at h
    · exact .some (ie h)
    · cases h
  · rw [noneO_eq h]; exact .none
theorem okIni_init {D₀ : Addr} {self : Str} {n N m : Nat} {orc : Orc} (I : IH p B tb orc G N m) (a : AOk A (m + N)) (C : CxOk c env) (ho : c.own = true) {b : List Stmt} {ts : List T} (h : okIni G K D₀ n c self b ts = true) : InitS p K B A env FA c.names (run tb orc m) D₀ self b ts := by
  replace h := all2_F2 h
  induction h with
  | nil => exact .nil
  | cons h _ ih =>
    unfold okIni1 at h
    split at h
    · rename_i f xe q0
      rw [T.setA?_eq q0]
      split at h
      · rename_i t e pos q
        rw [asAsg_eq q]
        split at h
        · rename_i o g ap q
          rw [asAttr_eq q]
          split at h
          · rename_i x q
            obtain ⟨z, rfl⟩ := asName_eq q
            replace h := and5 h
            obtain ⟨h1, h2, h3, h4, h5⟩ := h
            rw [strEq_iff.mp h1, strEq_iff.mp h2]
            have ee : EvS p B A env c.own FA c.names (run tb orc m) e xe := I.ev a C h4
            rw [ho] at ee
            exact .cons h3 ee (eq_of_beq h5) ih
          · cases h
        · cases h
      · cases h
    · cases h
end
end Mine

namespace Mine
open PySem PySem.W PyProof.Rows PySem.Calls PySem.SeqAt

section
variable {p : Pm} {K : Frag} {mg mb : Str → Option Value} {tb : Tb} {B : Heap} {G : Gt} {orc : Orc} {N m : Nat} {A : Around} {env : Env} {FA : List Addr} {c : Cx} {h h' : Heap} {M M' : List Addr} {φ φ' : List (Option Addr)} {σ σ' σ₁ : List C} {ρ : List (Option W)}
theorem AOk.hu {n : Nat} (a : AOk A (n + 2)) : A.units + 21 < cLine := by have := a.units; omega
theorem mk_step (D : Gd p K mg mb tb B G) (I : IH p B tb orc G N m) (a : AOk A (m + 1 + N)) {k : Nat} {cl : Cl} {ws : List W} {w : W} {vs : List Value} (hk : nth tb.cls k = some cl) (e : mkEv tb (run tb orc m) cl ws σ = some (w, σ')) (S : St p B h M φ σ) (V : WRels p h M φ vs ws) : Run p B A (call (.ref cl.addr) vs) h M φ σ' (U p w) := by
  cases hf : nth tb.fns cl.init with
  | none => unfold mkEv at e; rw [hf] at e; cases e
  | some f =>
    obtain ⟨fd, body, self, no, fk, mk, h1, h2, h3, h4, h5⟩ := D.make k cl f hk hf
    refine run_mkEv (n := m + N) (by rw [Nat.add_right_comm]; exact a) D.Y D.S mk fk h1 h2 h3 (fun A' L FA' a' => ?_) hf e S V
    have C : CxOk ⟨fd.scope.names, f.names, true⟩ (callEnvC fd L f.addr) := ⟨fun x => rfl, fun _ x q => cellsFrom_some (.inl q), by
      show Env.blockKind _ = _
      unfold Env.blockKind
      show (if fd.scope.kind.isAnnotationScope = true then _ else fd.scope.kind) = _
      rw [fk.kind]; rfl, uniq_nd h4⟩
    exact okIni_init I a' C rfl h5
theorem ev_step (D : Gd p K mg mb tb B G) (I : IH p B tb orc G N m) (hN : 1 ≤ N) (a : AOk A (m + 1 + N)) (C : CxOk c env) {e : Expr} {x : X} {n : Nat} (hk : okX G n false c e x = true) : EvS p B A env c.own FA c.names (run tb orc (m + 1)) e x := by
  intro ρ σ h M φ w σ' ev X
  cases n with
  | zero => cases hk
  | succ n =>
  have a0 := a
  have am : AOk A (m + N) := a.le (by omega)
  have hh := a.handled
  have hu : A.units + 21 < cLine := AOk.hu (n := m) (a.le (by omega))
  have ie : ∀ {e x}, okX G n false c e x = true → EvS p B A env c.own FA c.names (run tb orc m) e x := fun q => I.ev am C q
  have it : ∀ {e x}, okX G n true c e x = true → TsS p B A env c.own FA c.names (run tb orc m) e x := fun q => I.ts am C q
  change stepEv tb (run tb orc m) ρ σ x = some (w, σ') at ev
  change okExpr G (okX G n) c e x = true at hk
  have hs : env.scope.kind = .function := X.F.kind
  cases x with
  | lit d => exact lit_ev hk ev X
  | loc i =>
    change okLoc c e i = true at hk
    unfold okLoc at hk
    split at hk
    · rename_i q
      replace hk := and2 hk
      obtain ⟨z, rfl⟩ := asName_eq q
      exact run_loc X (nmAt_eq hk.1) (notDbg_eq hk.2) ev
    · cases hk
  | glob i =>
    change okGlob G c e i = true at hk
    change evGlob tb i σ = some (w, σ') at ev
    unfold okGlob at hk
    unfold evGlob at ev
    rw [D.gl] at hk
    split at ev
    rotate_left
    · cases ev
    rename_i g hg
    cases ev
    rw [hg] at hk
    split at hk
    · rename_i q
      replace hk := and3 hk
      obtain ⟨z, rfl⟩ := asName_eq q
      obtain ⟨v, q1, q2⟩ := D.glob i g hg
      rw [strEq_iff.mp hk.1] at q1
      exact run_Glob D.Y X (.glob ((C.kind _).trans (isK_eq hk.2.1)) q1 (notDbg_eq hk.2.2)) (q2 _ _ _ _ X.S)
    · cases hk
  | attr o f =>
    change okAttr G (okX G n) c e o f = true at hk
    unfold okAttr at hk
    split at hk
    · rename_i q
      rw [asAttr_eq q]
      replace hk := and4 hk
      rw [strEq_iff.mp hk.1]
      exact run_attr D.Y D.C D.S X (D.fld f (hasS_iff.mp hk.2.1)) hk.2.2.1 (ie hk.2.2.2) ev
    · cases hk
  | call f args =>
    change okCall (okX G n) c (isIdx · G.fnm f) e args = true at hk
    unfold okCall at hk
    split at hk
    · rename_i q
      rw [asCall_eq q]
      replace hk := and2 hk
      obtain ⟨x, z, rfl, q1, q2, q3⟩ := okNm_eq C hk.1
      obtain ⟨fn, hf, nm⟩ := nm_fn D q2 q3 q1
      exact run_call D.Y nm (D.keep f fn hf) (okL_evs ie hk.2) (fun e => I.fn am hf e) X ev
    · cases hk
  | mk k args =>
    change okCall (okX G n) c (isIdx · G.cnm k) e args = true at hk
    change evMk tb (run tb orc m) ρ σ k args = some (w, σ') at ev
    unfold okCall at hk
    split at hk
    · rename_i q
      rw [asCall_eq q]
      replace hk := and2 hk
      obtain ⟨x, z, rfl, q1, q2, q3⟩ := okNm_eq C hk.1
      obtain ⟨cl, hc, kp, nm⟩ := nm_cl D q2 q3 q1
      unfold evMk at ev
      rw [hc] at ev
      dsimp only at ev
      split at ev
      · rename_i ds σ₁ e1
        exact run_CallN D.Y nm (okL_evs ie hk.2) (fun X => keeps_K kp _ X) e1 X fun vs h₁ M₁ φ₁ S₁ m₁ r₁ => mk_step D I a0 hc ev S₁ r₁
      · cases ev
    · cases hk
  | meth o mm args =>
    change okMeth (okX G n) c mm e o args = true at hk
    unfold okMeth at hk
    split at hk
    · rename_i q
      rw [asCall_eq q]
      split at hk
      · rename_i q2
        rw [asAttr_eq q2]
        replace hk := and6 hk
        obtain ⟨k1, k2, k3, k4, k5, k6⟩ := hk
        rw [strEq_iff.mp k1]
        exact run_Meth D.Y D.C D.M D.S (Nat.le_of_ble_eq_true k2) k3 k4 (ie k5) (okL_evs ie k6) (fun {i f} hf => ⟨D.keep i f hf, fun e => I.fn am hf e⟩) (fun w i q => methW_fn D q) X ev
      · cases hk
    · cases hk
  | isi o t =>
    change okIsi G (okX G n) c e o t = true at hk
    unfold okIsi at hk
    split at hk
    · rename_i q
      rw [asCall_eq q]
      split at hk
      · rename_i q2
        rw [two_eq q2]
        replace hk := and4 hk
        obtain ⟨k1, k2, k3, k4⟩ := hk
        obtain ⟨x, z, rfl, u1, u2, u3⟩ := okNm_eq C k1
        obtain ⟨y, z', rfl, y1, y2, y3⟩ := okNm_eq C k2
        have n1 := nm_bi D u2 u3 u1 (hasS_iff.mp (by kernel_rfl)) boot_i
        have key : ∃ ty, itTy tb t = some ty ∧ NmV K env y ty.v := by
          cases t with
          | bool => exact ⟨.bool, rfl, nm_bi (y := "bool") D y2 y3 y1 (hasS_iff.mp (by kernel_rfl)) boot_bool⟩
          | int => exact ⟨.int, rfl, nm_bi (y := "int") D y2 y3 y1 (hasS_iff.mp (by kernel_rfl)) boot_int⟩
          | list => exact ⟨.lst, rfl, nm_bi (y := "list") D y2 y3 y1 (hasS_iff.mp (by kernel_rfl)) boot_list⟩
          | dict => exact ⟨.dct, rfl, nm_bi (y := "dict") D y2 y3 y1 (hasS_iff.mp (by kernel_rfl)) (boot_b (.dict true))⟩
          | cls k =>
            obtain ⟨cl, hc, _, nm⟩ := nm_cl D y2 y3 y1
            exact ⟨.cls cl.addr, by unfold itTy; dsimp only; rw [hc]; rfl, nm⟩
        obtain ⟨ty, t1, t2⟩ := key
        exact run_Isi D.Y D.C n1 t1 t2 k3 (ie k4) X ev
      · cases hk
    · cases hk
  | bi b args =>
    change okCall (okX G n) c (strEq · b.nm) e args = true at hk
    unfold okCall at hk
    split at hk
    · rename_i q
      rw [asCall_eq q]
      replace hk := and2 hk
      obtain ⟨x, z, rfl, q1, q2, q3⟩ := okNm_eq C hk.1
      exact run_Bi D.Y hh (nm_bi D q2 q3 q1 (mem_b b) (boot_b b)) (okL_evs ie hk.2) X ev
    · cases hk
  | bm b o args =>
    change okMeth (okX G n) c b.name e o args = true at hk
    unfold okMeth at hk
    split at hk
    · rename_i q
      rw [asCall_eq q]
      split at hk
      · rename_i q2
        rw [asAttr_eq q2]
        replace hk := and6 hk
        obtain ⟨k1, k2, k3, k4, k5, k6⟩ := hk
        rw [strEq_iff.mp k1]
        exact run_Bm D.Y hu (Nat.le_of_ble_eq_true k2) k3 k4 (ie k5) (okL_evs ie k6) X ev
      · cases hk
    · cases hk
  | bin o l u =>
    change okBin (okX G n) c e o l u = true at hk
    unfold okBin at hk
    split at hk
    · rename_i q
      obtain ⟨z, rfl⟩ := asBin_eq q
      replace hk := and3 hk
      rw [opOk_eq hk.1]
      exact run_BinOp X (ie hk.2.1) (ie hk.2.2) ev
    · cases hk
  | cmp o l u =>
    change okCmp (okX G n) c e o l u = true at hk
    unfold okCmp at hk
    split at hk
    · rename_i q
      obtain ⟨z, rfl⟩ := asCmp_eq q
      replace hk := and4 hk
      rw [coOk_eq hk.1]
      exact run_Compare D.H0 hu hk.2.1 X (ie hk.2.2.1) (ie hk.2.2.2) ev
    · cases hk
  | isN neg l =>
    change okIsN (okX G n) c e neg l = true at hk
    unfold okIsN at hk
    split at hk
    · rename_i q
      obtain ⟨z, rfl⟩ := asCmp_eq q
      split at hk
      · rename_i k q2
        obtain ⟨nn, z2, rfl⟩ := asConst_eq q2
        replace hk := and3 hk
        have hc : k = .none := of_decide_eq_true hk.1
        rw [hc, isOk_eq hk.2.1]
        exact run_Is X (ie hk.2.2) ev
      · cases hk
    · cases hk
  | not l =>
    change okNot false (okX G n) c e l = true at hk
    unfold okNot at hk
    split at hk
    · rename_i q
      obtain ⟨z, rfl⟩ := asNot_eq q
      exact run_Not X (ie hk) ev
    · cases hk
  | and as =>
    change okBool (okX G n) c e true as = true at hk
    unfold okBool at hk
    split at hk
    · rename_i o es q
      obtain ⟨z, rfl⟩ := asBool_eq q
      replace hk := and2 hk
      cases o with
      | And => exact run_and (okL_evs ie hk.2) ev X
      | Or => cases hk.1
    · cases hk
  | or as =>
    change okBool (okX G n) c e false as = true at hk
    unfold okBool at hk
    split at hk
    · rename_i o es q
      obtain ⟨z, rfl⟩ := asBool_eq q
      replace hk := and2 hk
      cases o with
      | Or => exact run_or (okL_evs ie hk.2) ev X
      | And => cases hk.1
    · cases hk
  | ite k l u =>
    change okIte false (okX G n) c e k l u = true at hk
    unfold okIte at hk
    split at hk
    · rename_i q
      obtain ⟨z, rfl⟩ := asIf_eq q
      replace hk := and3 hk
      exact run_IfExp X (it hk.1) (ie hk.2.1) (ie hk.2.2) ev
    · cases hk
  | sub v i =>
    change okSub (okX G n) c e v i = true at hk
    unfold okSub at hk
    split at hk
    · rename_i q
      obtain ⟨z, rfl⟩ := asSub_eq q
      replace hk := and3 hk
      exact run_Sub hk.1 X (ie hk.2.1) (ie hk.2.2) ev
    · cases hk
  | slc v lo hi =>
    change okSlc (okX G n) c e v lo hi = true at hk
    unfold okSlc at hk
    split at hk
    · rename_i q
      obtain ⟨z, rfl⟩ := asSub_eq q
      split at hk
      · rename_i q2
        obtain ⟨z2, rfl⟩ := asSlice_eq q2
        replace hk := and3 hk
        exact run_Slc X (ie hk.1) (okPart_part ie hk.2.1) (okPart_part ie hk.2.2) ev
      · cases hk
    · cases hk
  | tup xs =>
    change okTup (okX G n) c e xs = true at hk
    unfold okTup at hk
    split at hk
    · rename_i q
      obtain ⟨k, z, rfl⟩ := asTup_eq q
      replace hk := and2 hk
      exact run_Tup (small_line hk.1) (okL_evs ie hk.2) X ev
    · cases hk
  | lst cell xs =>
    change okLst (okX G n) c e xs = true at hk
    unfold okLst at hk
    split at hk
    · rename_i q
      obtain ⟨z, rfl⟩ := asLst_eq q
      replace hk := and2 hk
      exact run_Lst (small_line hk.1) (okL_evs ie hk.2) X ev
    · cases hk
  | dct cell ks xs =>
    change okDct (okX G n) c e ks xs = true at hk
    change evDct (run tb orc m) ρ σ cell ks xs = some (w, σ') at ev
    unfold okDct at hk
    split at hk
    · rename_i ke ve q
      obtain ⟨z, rfl⟩ := asDct_eq q
      split at hk
      · rename_i q1
        replace hk := and3 hk
        have nil : ∀ {α : Type} {l : List α}, isNil l = true → l = [] := fun {α l} q => by cases l with | nil => rfl | cons => cases q
        rw [nil q1, nil hk.1]
        rw [nil hk.2.1, nil hk.2.2] at ev
        exact run_Dct0 D.Y X ev
      · rename_i q1
        replace hk := and4 hk
        obtain ⟨k1, k2, k3, k4⟩ := hk
        cases hkk : keysLit ks with
        | none => unfold evDct at ev; rw [hkk] at ev; cases ev
        | some kk =>
          have kS := okKeys_eq k1 hkk
          have hl1 : ke.length = kk.length := by
            have : ∀ {a : List (Option Expr)} {b : List Key}, KeysS a b → a.length = b.length := fun x => by induction x with | nil => rfl | cons _ _ _ ih => simp [ih]
            exact this kS
          have hl2 : ve.length = ke.length := Nat.eq_of_beq_eq_true k3
          have hpl : ∀ (a : List (Option Expr)) (b : List Key) (v : List Expr) (pos : Pos), KeysS a b → v.length = a.length → (pairsAt pos env a v).length = a.length := fun a b v pos x => by
            induction x generalizing v with
            | nil => intro _; cases v <;> rfl
            | cons _ _ _ ih =>
              intro q
              cases v with
              | nil => simp at q
              | cons v vs => unfold pairsAt; rw [List.length_cons, ih vs (by simpa using q)]; rfl
          refine run_Dct D.Y kS hkk (okL_evs ie k2) (hl2.trans hl1) (fun q => ?_) (by rw [hpl _ _ _ _ kS hl2]; exact Nat.le_of_ble_eq_true k4) X ev
          have := hpl _ _ ve z kS hl2
          rw [q] at this
          cases ke with
          | nil => cases q1
          | cons => simp at this
    · cases hk
  | comp elt tg src cond cn caps =>
    change okComp (okX G n) c e elt tg src cond cn caps = true at hk
    unfold okComp at hk
    split at hk
    · rename_i ee g s pos q
      rw [asComp_eq q]
      obtain ⟨t, iter, ifs, aa⟩ := g
      dsimp only at hk
      replace hk := and6 hk
      obtain ⟨k1, k2, k3, k4, k5, k6⟩ := hk
      have haa : aa = 0 := (Z.eqB_iff _ _).mp k1
      subst haa
      obtain ⟨cok, cx⟩ := comp_cx C hs k2
      obtain ⟨nm, sS⟩ := okSrc_src D hh C ie k4
      exact run_Comp hh cok (fun cl L => tgOk_eq (cx cl L) k3) nm sS (fun cl L => I.ev am (cx cl L) k5) (fun cl L => okIfs_ifs (fun q => I.ts am (cx cl L) q) k6) X ev
    · cases hk
  | range _ => cases ev
  | rev _ => cases ev
  | dead => cases ev
end
end Mine

namespace Mine
open PySem PySem.W PyProof.Rows PySem.Calls PySem.SeqAt

/-- is the value stored before the comprehension's frame goes -/
noncomputable def swapB (c : Cx) (x : Str) (py : Pos) (v : Expr) : Bool := match asComp v with
  | some (_, _, s, p) => kindL c.kd x == some .local && (py.line == p.line) && !(s.names.any fun (n, k) => n == x && (k == .local || k == .cell))
  | none => false
theorem swapB_eq {c : Cx} {env : Env} (C : CxOk c env) {x : Str} {py : Pos} {v : Expr} {l : Nat} (h : (noComp v || (asComp v).isSome) = true) : swapsWith v (some (.Name x py)) l env = pure (swapB c x py v) := by
  unfold swapB
  split
  · rename_i q
    rw [asComp_eq q]
    show (pure (env.blockKind == .function && env.kindOf x == some .local && py.line == _ && !_) : Sem Bool) = _
    rw [C.blk, C.kind, kindL_eq]
    rfl
  · rename_i q
    rw [q] at h
    exact swaps_no (by simpa using h)
noncomputable def asCompX : X → Option (X × List Nat × X × Option X × List Str × List Nat)
  | .comp elt tg src cond cn caps => some (elt, tg, src, cond, cn, caps)
  | _ => none
theorem asCompX_eq {x elt : X} {tg : List Nat} {src : X} {cond : Option X} {cn : List Str} {caps : List Nat} (h : asCompX x = some (elt, tg, src, cond, cn, caps)) : x = .comp elt tg src cond cn caps := by unfold asCompX at h; split at h <;> cases h; rfl
noncomputable def okAsg (r : Rec) (c : Cx) (x : Str) (py : Pos) (v : Expr) (e : X) : Bool := (noComp v || (asComp v).isSome) && match swapB c x py v with
  | false => r false c v e
  | true => match asCompX e with
    | some (elt, tg, src, cond, cn, caps) => okComp r c v elt tg src cond cn caps
    | none => false
noncomputable abbrev Blk := Cx → List Stmt → List T → Bool
noncomputable def okSt (r : Rec) (b : Blk) (c : Cx) (s : Stmt) (t : T) : Bool := match t with
  | .asg i e => om3 (asAsg s) false fun tg v _ => om2 (asNameP tg) false fun x py => stOk c i x && okAsg r c x py v e
  | .unp is e => om3 (asAsg s) false fun tg v _ => om1 (asTup tg) false fun es => nmsOk c es is && (noComp v && (noTup v && r false c v e))
  | .setI o i v => om3 (asAsg s) false fun tg ve _ => om2 (asSub tg) false fun oe ie => noComp ve && (r false c oe o && (r false c ie i && r false c ve v))
  | .exp e => om1 (asExpS s) false fun v => noComp v && r false c v e
  | .ite k a u => om3 (asIfS s) false fun ce ae be => r true c ce k && (b c ae a && b c be u)
  | .for_ tg src body => om3 (asFor s) false fun t it be => tgOk c t tg && (okSrc r c it src && b c be body)
  | .whl k body => om2 (asWhl s) false fun ce be => r true c ce k && b c be body
  | .ret e => om1 (asRet s) false fun v => r false c v e
  | .try_ body => om1 (asTry s) false fun be => b c be body
  | .setA _ _ => true
  | .frz _ => false
  | .bump _ _ => false
  | .dead => true
/-- the two statements that count a place: times[place] = times.get(place, 0) + 1; if times[place] > MOST: .. -/
noncomputable def nameIs (c : Cx) (i : Nat) (e : Expr) : Bool := om1 (asName e) false fun x => nmAt c i x && notDbg x
noncomputable def intIs (i : Int) (e : Expr) : Bool := om1 (asConst e) false fun k => om1 (intOf k) false fun j => Z.eqB j i
noncomputable def okBump1 (c : Cx) (i j : Nat) (s : Stmt) : Bool := om3 (asAsg s) false fun t v _ => om2 (asSub t) false fun o ix => nameIs c i o && (nameIs c j ix && om3 (asBin v) false fun l op u => opOk .add op && (intIs 1 u && om3 (asCall l) false fun f es p => match asAttr f, two es with
          | some (o2, g, ap), some (a1, a2) => nameIs c i o2 && (strEq g "get" && ((ap.endLine == p.line) && (nameIs c j a1 && intIs 0 a2)))
          | _, _ => false))
noncomputable def okBump2 (c : Cx) (i j : Nat) (s : Stmt) : Bool := om3 (asIfS s) false fun k _ u => isNil u && om3 (asCmp k) false fun l op m => coOk .gt op && om2 (asSub l) false fun o ix => nameIs c i o && (nameIs c j ix && okNm c (strEq · "MOST_PLACES") m)
noncomputable def okB (st : Stmt → T → Bool) (c : Cx) : List T → List Stmt → Bool
  | [], b => isNil b
  | t :: ts, b => match isFrz t with
    | some _ => okB st c ts b
    | none => match isDead t with
      | true => true
      | false => match b with
        | [] => false
        | s :: b => om2 (isBump t) (st s t && okB st c ts b) fun i j => match b with
            | [] => false
            | s2 :: b => okBump1 c i j s && (okBump2 c i j s2 && okB st c ts b)
noncomputable def okY (G : Gt) : Nat → Blk
  | 0 => fun _ _ _ => false
  | n + 1 => fun c b ts => okB (okSt (okX G n) (okY G n) c) c ts b
end Mine

namespace Mine
open PySem PySem.W PyProof.Rows PySem.Calls PySem.SeqAt

section
variable {p : Pm} {K : Frag} {mg mb : Str → Option Value} {tb : Tb} {B : Heap} {G : Gt} {orc : Orc} {N m : Nat} {A : Around} {env : Env} {own : Bool} {FA : List Addr} {names : List Str} {c : Cx} {h h' : Heap} {M M' : List Addr} {φ φ' : List (Option Addr)} {σ σ' σ₁ : List C} {ρ : List (Option W)} {i j : Nat} {x y : Str}
noncomputable def noO : Orc := fun _ _ _ => none
noncomputable abbrev TK (p : Pm) : HeapKind p.prog p.w (List Int) := tupleKind (intKind p.prog p.w)
theorem has_at (X : FS p B env own FA names h M φ σ ρ) {w : W} (hx : names[i]? = some x) (e : getL ρ i = some w) : ∃ v, Has env h x v ∧ WRel p h M φ v w := by
  unfold getL at e
  rw [nth_eq] at e
  split at e
  · rename_i z
    cases e
    obtain ⟨x', v, a, b, c⟩ := X.L i _ z
    rw [hx] at a; cases a
    exact ⟨v, b, c⟩
  · cases e
theorem tup_key {v : Value} {a b : Int} (V : VRel p h M v (.tup [.int a, .int b])) : ∃ t, v = .ref t ∧ (TK p).is h [a, b] t := by
  obtain ⟨t, vs, rfl, ⟨n, e⟩, _, r⟩ := tup_of' V
  refine ⟨t, rfl, ?_⟩
  cases r with | cons r1 r => cases r with | cons r2 r => cases r with | nil =>
  obtain ⟨u1, rfl⟩ := int_of' r1
  obtain ⟨u2, rfl⟩ := int_of' r2
  exact ⟨_, _, n, e, rfl, rfl, .cons (by exact (Key.is_val (.i a) u1)) (.cons (by exact (Key.is_val (.i b) u2)) .nil)⟩
theorem empty_H {d : Addr} (y : h.DictOf (knd p.prog p.w) d []) : h.DictOfH (TK p) d [] := by
  obtain ⟨o, es, ep, e, x1, x2, x3, x4, x5⟩ := y
  refine ⟨o, es, ep, e, x1, x2, ?_, fun z m => (by simp at m), by simp⟩
  generalize es.toList = l at x4
  cases x4
  rfl
theorem bump1 (D : Gd p K mg mb tb B G) (hu : A.units + 21 < cLine) (X : FS p B env own FA names h M φ σ ρ) {k : Nat} {a b : Int} (hx : names[i]? = some x) (hy : names[j]? = some y) (dx : (x == ("__debug__" : Str)) = false) (dy : (y == ("__debug__" : Str)) = false)
    (ei : getL ρ i = some (.cell k)) (ek : nth σ k = some (.dct [])) (ej : getL ρ j = some (.d (.tup [.int a, .int b]))) {px py px2 py2 tp ap cp bp pos p0 p1 : Pos} {k0 k1 : Nat} (hl : (ap.endLine == cp.line) = true) :
    RunS p B A env own FA names (exec (.Assign [.Subscript (.Name x px) (.Name y py) tp] (.BinOp (.Call (.Attribute (.Name x px2) "get" ap) [.Name y py2, .Constant (.int 0) k0 p0] [] cp) .Add (.Constant (.int 1) k1 p1) bp) pos) env) h M φ (setNth σ k .any) ρ
      (fun f h' _ => f = .next ∧ ∃ d t u, h'.DictOfH (TK p) d [([a, b], t, .int 1 u)] ∧ Has env h' x (.ref d) ∧ Has env h' y (.ref t) ∧ (TK p).is h' [a, b] t) := by
  have evx : ∀ {ρ : List (Option W)} {σ : List C} {h M φ w σ'}, (run tb noO 1).ev ρ σ (.loc i) = some (w, σ') → FS p B env own FA names h M φ σ ρ → Run p B A (eval (.Name x px2) env) h M φ σ' (U p w) := fun e X => run_loc X hx dx e
  have evy : ∀ {ρ : List (Option W)} {σ : List C} {h M φ w σ'}, (run tb noO 1).ev ρ σ (.loc j) = some (w, σ') → FS p B env own FA names h M φ σ ρ → Run p B A (eval (.Name y py2) env) h M φ σ' (U p w) := fun e X => run_loc X hy dy e
  have ev0 : ∀ {ρ : List (Option W)} {σ : List C} {h M φ w σ'}, (run tb noO 1).ev ρ σ (.lit (.int 0)) = some (w, σ') → FS p B env own FA names h M φ σ ρ → Run p B A (eval (.Constant (.int 0) k0 p0) env) h M φ σ' (U p w) := fun e X => by
    cases e; exact run_V (run_const X.S rfl)
  have gx : (run tb noO 1).ev ρ σ (.loc i) = some (.cell k, σ) := by show evLoc ρ σ i = _; unfold evLoc; rw [ei]; rfl
  have gy : (run tb noO 1).ev ρ σ (.loc j) = some (.d (.tup [.int a, .int b]), σ) := by show evLoc ρ σ j = _; unfold evLoc; rw [ej]; rfl
  have gs : evs (run tb noO 1) ρ σ [.loc j, .lit (.int 0)] = some ([.d (.tup [.int a, .int b]), .d (.int 0)], σ) := by
    unfold evs; rw [gy]; rfl
  have hkd : kdOf σ (.cell k) = some .dct := by show om1 (om1 (nth σ k) none fun c => c.data) none (fun d => kdD d) = _; rw [ek]; rfl
  have hcD : cellD σ (.cell k) = some (k, []) := by show om1 (nth σ k) none (fun c => om1 c.d? none fun l => some (k, l)) = _; rw [ek]; rfl
  have call_ : Run p B A (eval (.Call (.Attribute (.Name x px2) "get" ap) [.Name y py2, .Constant (.int 0) k0 p0] [] cp) env) h M φ σ (V p (.int 0)) := by
    refine run_Method (F := run tb noO 1) (xo := .loc i) (xs := [.loc j, .lit (.int 0)]) (f := .builtin (bmId .get .dct)) D.Y ((Nat.le_of_ble_eq_true rfl)) hl rfl evx (.cons rfl evy (.cons rfl ev0 .nil)) (fun _ => keep_b _) X gx gs (fun v h₁ M₁ φ₁ pl S₁ r₁ => meth_builtin (b := .get) (kd := .dct) S₁ (kd_at S₁ r₁ hkd) rfl) fun v vs h₁ M₁ φ₁ S₁ r₁ r₂ => ?_
    obtain ⟨d, kvs, rfl, _, yd, ys, z⟩ := cellD_at S₁ r₁ hcD
    cases z
    cases r₂ with | cons q1 r₂ => cases r₂ with | cons q2 r₂ => cases r₂ with | nil =>
    obtain ⟨t, rfl, tk⟩ := tup_key q1.dat
    refine Run.keep S₁ fun s Q E hs kk => ?_
    subst hs
    have hm := empty_H yd
    refine call_meetsIn PySem.F.slot_dict_get hm.typeIs PySem.F.entry_dict_get (PySem.F.args_dict_get_3 _ _ _) (meetsH_dict_get_default (TK p) d t ys _) ⟨tupleKind_room_in1 (by omega), [a, b], [], tk, hm, ?_⟩
    exact kk _ _ q2.dat
  rw [exec_Assign_Subscript _ _ _ _ _ (swaps_no rfl)]
  refine RunS.standAt ?_
  refine RunS.ev (σ₁ := σ) X (R₁ := V p (.int 1)) ?_ fun v h₁ M₁ φ₁ X₁ m₁ r₁ => ?_
  · show Run p B A (do let a ← eval _ env; let b ← holding [a] (eval _ env); standAt bp; operate [a, b] (binaryOp .Add a b)) _ _ _ _ _
    refine Run.bind X.S call_ fun v h₁ M₁ φ₁ S₁ m₁ r₁ => ?_
    refine Run.bind S₁ (Run.holding (run_const (d := .int 1) S₁ rfl)) fun u h₂ M₂ φ₂ S₂ m₂ r₂ => Run.standAt ?_
    exact Run.operate S₂ (run_bin (o := .add) S₂ (r₁.step S₁ m₂) r₂ rfl)
  rw [assign_Subscript]
  simp only [bind_assoc]
  intro s Q E hs kk
  subst hs
  obtain ⟨vx, Hx, Wx⟩ := has_at X₁ hx ei
  obtain ⟨vy, Hy, Wy⟩ := has_at X₁ hy ej
  obtain ⟨d, kvs, rfl, hφ, yd, ys, z⟩ := cellD_at X₁.S Wx hcD
  cases z
  obtain ⟨t, rfl, tk⟩ := tup_key Wy.dat
  obtain ⟨u, rfl⟩ := int_of' r₁
  refine wpAny_bind (wpAny_holding (load_has X₁.F Hx ?_ dx))
  refine wpAny_bind (wpAny_holding (load_has X₁.F Hy ?_ dy))
  refine wpAny_bind (wpAny_standAt (wpAny_bind (wpAny_holding (wpAny_setItem_heap (hsz := Nat.zero_le _) (knd := TK p) (tupleKind_room_in1 (by omega)) tk (empty_H yd) fun h' hd hsb => ?_))))
  rw [storedH_new rfl] at hd
  have haM := X₁.S.sub d (List.mem_of_getElem? hφ)
  have hDf : Df h' d := let ⟨o, _, _, e, _⟩ := hd; ⟨o, e⟩
  obtain ⟨S', m'⟩ := X₁.S.set (c := .any) hφ hDf hsb (by simp) .any
  have X' := X₁.step S' m'
  rw [setNth_eq] at kk
  refine wpAny_bind (wpAny_release (wpAny_pure ?_))
  refine kk _ h' _ M₁ φ₁ X' (m'.mono (by simp)) ⟨rfl, d, t, u, hd, Hx.step X₁.F m', Hy.step X₁.F m', ?_⟩
  obtain ⟨o, es, ep, e, _, ed, _⟩ := empty_H yd
  exact (TK p).keeps tk e ed hsb
theorem bump2 (D : Gd p K mg mb tb B G) (hu : A.units + 21 < cLine) (X : FS p B env own FA names h M φ σ ρ) {a b : Int} {d t : Addr} {u : Tok} (dx : (x == ("__debug__" : Str)) = false) (dy : (y == ("__debug__" : Str)) = false)
    (hd : h.DictOfH (TK p) d [([a, b], t, .int 1 u)]) (Hx : Has env h x (.ref d)) (Hy : Has env h y (.ref t)) (tk : (TK p).is h [a, b] t) {mv : Value} (nm : NmV K env "MOST_PLACES" mv) (hmv : ∃ w, mv = .int 16 w) {px py pn tp cp pos : Pos} {body : List Stmt} :
    RunS p B A env own FA names (exec (.If (.Compare (.Subscript (.Name x px) (.Name y py) tp) [.Gt] [.Name "MOST_PLACES" pn] cp) body [] pos) env) h M φ σ ρ (fun f _ _ => f = .next) := by
  obtain ⟨w16, rfl⟩ := hmv
  show RunS p B A env own FA names (do standAt pos; if ← isTrue (.Compare (.Subscript (.Name x px) (.Name y py) tp) [.Gt] [.Name "MOST_PLACES" pn] cp) env (eval (.Compare (.Subscript (.Name x px) (.Name y py) tp) [.Gt] [.Name "MOST_PLACES" pn] cp) env) then execs body env else execs [] env) _ _ _ _ _ _
  refine RunS.standAt ?_
  have sub_ : Run p B A (eval (.Subscript (.Name x px) (.Name y py) tp) env) h M φ σ (V p (.int 1)) := by
    have ht : SubT h (.ref d) := ⟨"dict", _, fun s hs => by subst hs; exact hd.typeIs, slot_dict_getitem.lookup⟩
    have key : Run p B A (getItem (.ref d) (.ref t)) h M φ σ (V p (.int 1)) := Run.keep X.S fun s Q E hs kk => by
      subst hs
      refine wpAny_getItem_heap (knd := TK p) (k := [a, b]) (p := (t, .int 1 u)) (tupleKind_room_in1 (by omega)) tk hd ?_ (kk _ _ (.int 1 u))
      unfold atKey
      simp
    rw [eval_Subscript]
    intro s Q E hs kk
    subst hs
    refine wpAny_bind (load_has X.F Hx (wpAny_bind (wpAny_holding (load_has X.F Hy (wpAny_bind (wpAny_standAt ?_)) dy))) dx)
    refine sub_tail (σ' := σ) (ops := [.ref d, .ref t]) X.S ht rfl key s Q E rfl kk
  have cmp_ : Run p B A (eval (.Compare (.Subscript (.Name x px) (.Name y py) tp) [.Gt] [.Name "MOST_PLACES" pn] cp) env) h M φ σ (V p (.bool false)) := by
    show Run p B A (do let a ← eval _ env; let b ← holding [a] (markedBehindIn .Gt (.Name "MOST_PLACES" pn) (eval (.Name "MOST_PLACES" pn) env)); standAt cp; operate [a, b] (compareOp .Gt a b)) _ _ _ _ _
    rw [unmarked rfl]
    refine Run.bind X.S sub_ fun v h₁ M₁ φ₁ S₁ m₁ r₁ => ?_
    have X₁ := X.step S₁ m₁
    refine Run.bind S₁ (Run.holding (R := V p (.int 16)) (fun s Q E hs k => by subst hs; exact load_nm D.Y X₁ nm (k _ s.heap s.toks M₁ φ₁ S₁ Mv.refl (.int _ _)))) fun u h₂ M₂ φ₂ S₂ m₂ r₂ => Run.standAt ?_
    exact Run.operate S₂ (run_cmp (o := .gt) D.H0 hu S₂ (.d (r₁.step S₁ m₂)) (.d r₂) rfl)
  refine RunS.ev (σ₁ := σ) X (R₁ := fun r _ _ _ => r = false) ?_ fun t h₁ M₁ φ₁ X₁ m₁ r₁ => ?_
  · have hb : isTrue (.Compare (.Subscript (.Name x px) (.Name y py) tp) [.Gt] [.Name "MOST_PLACES" pn] cp) env (eval (.Compare (.Subscript (.Name x px) (.Name y py) tp) [.Gt] [.Name "MOST_PLACES" pn] cp) env) = (do let c ← eval (.Compare (.Subscript (.Name x px) (.Name y py) tp) [.Gt] [.Name "MOST_PLACES" pn] cp) env; holding [c] (truthy c)) := by
      show (do let a ← eval _ env; let b ← holding [a] (markedBehindIn .Gt (.Name "MOST_PLACES" pn) (eval (.Name "MOST_PLACES" pn) env)); standAt cp; let c ← operate [a, b] (compareOp .Gt a b); holding [c] (truthy c)) = (do let c ← (do let a ← eval _ env; let b ← holding [a] (markedBehindIn .Gt (.Name "MOST_PLACES" pn) (eval (.Name "MOST_PLACES" pn) env)); standAt cp; operate [a, b] (compareOp .Gt a b)); holding [c] (truthy c))
      simp only [bind_assoc]
    rw [hb]
    exact Run.bind X.S cmp_ fun v h₁ M₁ φ₁ S₁ m₁ r₁ => Run.holding (run_truthy S₁ (.d r₁) rfl)
  · subst r₁
    exact RunS.pure X₁ rfl
end
end Mine

namespace Mine
open PySem PySem.W PyProof.Rows PySem.Calls PySem.SeqAt

section
variable {p : Pm} {K : Frag} {mg mb : Str → Option Value} {tb : Tb} {B : Heap} {G : Gt} {orc : Orc} {N m : Nat} {A : Around} {env : Env} {FA : List Addr} {c : Cx} {F : Fns} {r : Rec} {h h' : Heap} {M M' : List Addr} {φ φ' : List (Option Addr)} {σ σ' σ₁ : List C} {ρ : List (Option W)}
theorem val_step (it : ∀ {e x}, r false c e x = true → EvS p B A env c.own FA c.names F e x) {e : Expr} {x : X} {b : Bool} (hk : okVal r c e x = true) (ev : tsVal F ρ σ x = some (b, σ')) (X : FS p B env c.own FA c.names h M φ σ ρ) : Run p B A (isTrue e env (eval e env)) h M φ σ' (fun r _ _ _ => r = b) := by
  unfold okVal at hk
  rw [Bool.and_eq_true, Bool.or_eq_true] at hk
  rcases hk.1 with q | q
  · exact ts_val q X (it hk.2) ev
  · unfold isCmpE at q
    cases hq : asCmp e with
    | none => rw [hq] at q; cases q
    | some t =>
      obtain ⟨l, op, u⟩ := t
      obtain ⟨z, rfl⟩ := asCmp_eq hq
      exact ts_cmp X (it hk.2) ev
theorem ts_step (D : Gd p K mg mb tb B G) (I : IH p B tb orc G N m) (a : AOk A (m + 1 + N)) (C : CxOk c env) {e : Expr} {x : X} {n : Nat} (hk : okX G n true c e x = true) : TsS p B A env c.own FA c.names (run tb orc (m + 1)) e x := by
  intro ρ σ h M φ w σ' ev X
  cases n with
  | zero => cases hk
  | succ n =>
  have am : AOk A (m + N) := a.le (by omega)
  have ie : ∀ {e x}, okX G n false c e x = true → EvS p B A env c.own FA c.names (run tb orc m) e x := fun q => I.ev am C q
  have it : ∀ {e x}, okX G n true c e x = true → TsS p B A env c.own FA c.names (run tb orc m) e x := fun q => I.ts am C q
  change stepTs tb (run tb orc m) ρ σ x = some (w, σ') at ev
  change okTest (okX G n) c e x = true at hk
  cases x with
  | not l =>
    change okNot true (okX G n) c e l = true at hk
    unfold okNot at hk
    split at hk
    · rename_i q
      obtain ⟨z, rfl⟩ := asNot_eq q
      exact ts_not X (it hk) ev
    · cases hk
  | and as =>
    change okBoolT (okX G n) c e true as = true at hk
    unfold okBoolT at hk
    split at hk
    · rename_i o es q
      obtain ⟨z, rfl⟩ := asBool_eq q
      replace hk := and2 hk
      cases o with
      | And => exact ts_and (okTs_tss it hk.2) ev X
      | Or => cases hk.1
    · cases hk
  | or as =>
    change okBoolT (okX G n) c e false as = true at hk
    unfold okBoolT at hk
    split at hk
    · rename_i o es q
      obtain ⟨z, rfl⟩ := asBool_eq q
      replace hk := and2 hk
      cases o with
      | Or => exact ts_or (okTs_tss it hk.2) ev X
      | And => cases hk.1
    · cases hk
  | ite k l u =>
    change okIte true (okX G n) c e k l u = true at hk
    unfold okIte at hk
    split at hk
    · rename_i q
      obtain ⟨z, rfl⟩ := asIf_eq q
      replace hk := and3 hk
      exact ts_ite X (it hk.1) (it hk.2.1) (it hk.2.2) ev
    · cases hk
  | dead =>
    change tsVal (run tb orc m) ρ σ .dead = some (w, σ') at ev
    unfold tsVal at ev
    cases m with
    | zero => cases ev
    | succ m => cases ev
  | _ => exact val_step ie hk ev X
end
/-- what is shown of fuel m, statements too -/
structure IS (p : Pm) (B : Heap) (tb : Tb) (orc : Orc) (G : Gt) (N m : Nat) : Prop extends IH p B tb orc G N m where
  xs : ∀ {A : Around} {env : Env} {FA : List Addr} {c : Cx} {b : List Stmt} {ts : List T} {n : Nat}, AOk A (m + N) → CxOk c env → okY G n c b ts = true → XsS p B A env c.own FA c.names (run tb orc m) b ts
section
variable {p : Pm} {K : Frag} {mg mb : Str → Option Value} {tb : Tb} {B : Heap} {G : Gt} {orc : Orc} {N m : Nat} {A : Around} {env : Env} {FA : List Addr} {c : Cx} {F : Fns} {r : Rec} {h h' : Heap} {M M' : List Addr} {φ φ' : List (Option Addr)} {σ σ' σ₁ : List C} {ρ ρ' : List (Option W)} {fl : Fl}
theorem ex_step (D : Gd p K mg mb tb B G) (I : ∀ k, k ≤ m → IS p B tb orc G N k) (a : AOk A (m + 1 + N)) (C : CxOk c env) {s : Stmt} {t : T} {n : Nat} (hk : okSt (okX G n) (okY G n) c s t = true) : ExS p B A env c.own FA c.names (run tb orc (m + 1)) s t := by
  intro ρ σ h M φ fl ρ' σ' ev X
  have am : AOk A (m + N) := a.le (by omega)
  have hh := a.handled
  have Im := I m (Nat.le_refl _)
  have ie : ∀ {e x}, okX G n false c e x = true → EvS p B A env c.own FA c.names (run tb orc m) e x := fun q => Im.ev am C q
  have it : ∀ {e x}, okX G n true c e x = true → TsS p B A env c.own FA c.names (run tb orc m) e x := fun q => Im.ts am C q
  have ib : ∀ {b ts}, okY G n c b ts = true → XsS p B A env c.own FA c.names (run tb orc m) b ts := fun q => Im.xs am C q
  have hs : env.scope.kind = .function := X.F.kind
  cases t with
  | asg i e =>
    change exAsg (run tb orc m) ρ σ i e = some (fl, ρ', σ') at ev
    unfold okSt at hk
    dsimp only at hk
    split at hk
    · rename_i tg v pos q
      rw [asAsg_eq q]
      split at hk
      · rename_i x py q2
        rw [asNameP_eq q2]
        replace hk := and2 hk
        have sto := stOk_eq C hk.1
        have hk := hk.2
        unfold okAsg at hk
        replace hk := and2 hk
        have hsw := swapB_eq (py := py) (l := pos.line) C (x := x) hk.1
        have hk := hk.2
        split at hk
        · rename_i hb
          rw [hb] at hsw
          exact ex_asg hsw sto (ie hk) X ev
        · rename_i hb
          rw [hb] at hsw
          split at hk
          · rename_i elt tg src cond cn caps qx
            rw [asCompX_eq qx] at ev
            unfold okComp at hk
            split at hk
            · rename_i ee g s p₀ q
              rw [asComp_eq q] at hsw ⊢
              obtain ⟨t, iter, ifs, aa⟩ := g
              dsimp only at hk
              replace hk := and6 hk
              obtain ⟨k1, k2, k3, k4, k5, k6⟩ := hk
              have haa : aa = 0 := (Z.eqB_iff _ _).mp k1
              subst haa
              obtain ⟨cok, cx⟩ := comp_cx C hs k2
              obtain ⟨nm, sS⟩ := okSrc_src D hh C ie k4
              unfold exAsg at ev
              split at ev
              · rename_i w σ₁ e1
                cases ev
                cases m with
                | zero => cases e1
                | succ m =>
                  have e1 : evComp (run tb orc m) ρ σ elt tg src cond cn caps = some (w, σ₁) := e1
                  have Im' := I m (by omega)
                  have am' : AOk A (m + N) := a.le (by omega)
                  have sS' : SrcS p B A env c.own FA c.names (run tb orc m) iter src := (okSrc_src (FA := FA) (F := run tb orc m) D hh C (fun q => Im'.ev am' C q) k4).2
                  exact ex_comp hh hsw sto cok (fun cl L => tgOk_eq (cx cl L) k3) nm sS' (fun cl L => Im'.ev am' (cx cl L) k5) (fun cl L => okIfs_ifs (fun q => Im'.ts am' (cx cl L) q) k6) X rfl e1 rfl
              · cases ev
            · cases hk
          · cases hk
      · cases hk
    · cases hk
  | unp is e =>
    change exUnp (run tb orc m) ρ σ is e = some (fl, ρ', σ') at ev
    unfold okSt at hk
    dsimp only at hk
    split at hk
    · rename_i q
      rw [asAsg_eq q]
      split at hk
      · rename_i q2
        obtain ⟨k, z, rfl⟩ := asTup_eq q2
        replace hk := and4 hk
        exact ex_unp hh hk.2.1 hk.2.2.1 (nmsOk_eq C hk.1) (ie hk.2.2.2) X ev
      · cases hk
    · cases hk
  | setI o i v =>
    change exSetI (run tb orc m) ρ σ o i v = some (fl, ρ', σ') at ev
    unfold okSt at hk
    dsimp only at hk
    split at hk
    · rename_i q
      rw [asAsg_eq q]
      split at hk
      · rename_i q2
        obtain ⟨z, rfl⟩ := asSub_eq q2
        replace hk := and4 hk
        exact ex_setI hk.1 (ie hk.2.1) (ie hk.2.2.1) (ie hk.2.2.2) X ev
      · cases hk
    · cases hk
  | exp e =>
    change exExp (run tb orc m) ρ σ e = some (fl, ρ', σ') at ev
    unfold okSt at hk
    dsimp only at hk
    split at hk
    · rename_i q
      obtain ⟨z, rfl⟩ := asExpS_eq q
      replace hk := and2 hk
      exact ex_exp hk.1 (ie hk.2) X ev
    · cases hk
  | ite k l u =>
    change exIte (run tb orc m) ρ σ k l u = some (fl, ρ', σ') at ev
    unfold okSt at hk
    dsimp only at hk
    split at hk
    · rename_i q
      obtain ⟨z, rfl⟩ := asIfS_eq q
      replace hk := and3 hk
      exact ex_ite (it hk.1) (ib hk.2.1) (ib hk.2.2) X ev
    · cases hk
  | for_ tg src body =>
    change exFor (run tb orc m) ρ σ tg src body = some (fl, ρ', σ') at ev
    unfold okSt at hk
    dsimp only at hk
    split at hk
    · rename_i q
      obtain ⟨z, rfl⟩ := asFor_eq q
      replace hk := and3 hk
      obtain ⟨nm, sS⟩ := okSrc_src (FA := FA) (F := run tb orc m) D hh C ie hk.2.1
      exact ex_for hh (tgOk_eq C hk.1) nm sS (ib hk.2.2) X ev
    · cases hk
  | whl k body =>
    unfold okSt at hk
    dsimp only at hk
    split at hk
    · rename_i q
      obtain ⟨z, rfl⟩ := asWhl_eq q
      replace hk := and2 hk
      exact ex_whl (fun k hk' => (I k (by omega)).ts (a.le (by omega)) C hk.1) (fun k hk' => (I k (by omega)).xs (a.le (by omega)) C hk.2) X ev
    · cases hk
  | ret e =>
    change exRet (run tb orc m) ρ σ e = some (fl, ρ', σ') at ev
    unfold okSt at hk
    dsimp only at hk
    split at hk
    · rename_i q
      obtain ⟨z, rfl⟩ := asRet_eq q
      exact ex_ret (ie hk) X ev
    · cases hk
  | try_ body =>
    unfold okSt at hk
    dsimp only at hk
    split at hk
    · rename_i q
      obtain ⟨hs', z, rfl⟩ := asTry_eq q
      exact ex_try (ib hk) X ev
    · cases hk
  | setA f e => cases ev
  | frz i => cases hk
  | bump i j => cases hk
  | dead => cases ev
end
end Mine

namespace Mine
open PySem PySem.W PyProof.Rows PySem.Calls PySem.SeqAt

/-- the defs, and what is not walked -/
structure Ge (p : Pm) (K : Frag) (mg mb : Str → Option Value) (tb : Tb) (B : Heap) (G : Gt) (orc : Orc) (N : Nat) : Prop extends Gd p K mg mb tb B G where
  hN : 1 ≤ N
  fn : ∀ i f, nth tb.fns i = some f → ∃ fd body no, FnK K f fd body ∧ uniq f.names = true ∧ okY G no ⟨fd.scope.names, f.names, true⟩ body f.body = true
  mp : ∃ w, nsIn K mainGlobals "MOST_PLACES" = some (some (.int 16 w))
  orc : ∀ i ws σ d σ', orc i ws σ = some (d, σ') → ∀ f, nth tb.fns i = some f → ∀ A, AOk A N → CallR p B A f.addr ws σ d σ'
section
variable {p : Pm} {K : Frag} {mg mb : Str → Option Value} {tb : Tb} {B : Heap} {G : Gt} {orc : Orc} {N m k n : Nat} {A : Around} {env : Env} {FA : List Addr} {c : Cx} {F : Fns} {r : Rec} {h h' : Heap} {M M' : List Addr} {φ φ' : List (Option Addr)} {σ σ' σ₁ : List C} {ρ ρ' : List (Option W)} {fl : Fl}
theorem nameIs_eq {i : Nat} {e : Expr} (h : nameIs c i e = true) : ∃ x z, e = .Name x z ∧ c.names[i]? = some x ∧ (x == ("__debug__" : Str)) = false := by
  unfold nameIs at h
  split at h
  · rename_i q
    replace h := and2 h
    obtain ⟨z, rfl⟩ := asName_eq q
    exact ⟨_, z, rfl, nmAt_eq h.1, notDbg_eq h.2⟩
  · cases h
theorem intIs_eq {i : Int} {e : Expr} (h : intIs i e = true) : ∃ k z, e = .Constant (.int i) k z := by
  unfold intIs at h
  split at h
  · rename_i q
    split at h
    · rename_i q2
      obtain ⟨k, z, rfl⟩ := asConst_eq q
      rw [intOf_eq q2, (Z.eqB_iff _ _).mp h]
      exact ⟨k, z, rfl⟩
    · cases h
  · cases h
/-- t[k] = t.get(k, 0) + 1 -/
inductive Bump1 (c : Cx) (i j : Nat) (s : Stmt) : Prop
  | mk (x y : Str) (px py px2 py2 tp ap cp bp pos p0 p1 : Pos) (k0 k1 : Nat) : s = .Assign [.Subscript (.Name x px) (.Name y py) tp] (.BinOp (.Call (.Attribute (.Name x px2) "get" ap) [.Name y py2, .Constant (.int 0) k0 p0] [] cp) .Add (.Constant (.int 1) k1 p1) bp) pos →
    c.names[i]? = some x → c.names[j]? = some y → (x == ("__debug__" : Str)) = false → (y == ("__debug__" : Str)) = false → (ap.endLine == cp.line) = true → Bump1 c i j s
/-- if t[k] > MOST_PLACES: .. -/
inductive Bump2 (c : Cx) (i j : Nat) (env : Env) (s : Stmt) : Prop
  | mk (x y : Str) (px py pn tp cp pos : Pos) (body : List Stmt) : s = .If (.Compare (.Subscript (.Name x px) (.Name y py) tp) [.Gt] [.Name "MOST_PLACES" pn] cp) body [] pos → c.names[i]? = some x → c.names[j]? = some y →
    env.kindOf "MOST_PLACES" = some .globalImplicit → (("MOST_PLACES" : Str) == ("__debug__" : Str)) = false → Bump2 c i j env s
inductive NameS (c : Cx) (i : Nat) (e : Expr) : Prop
  | mk (x : Str) (z : Pos) : e = .Name x z → c.names[i]? = some x → (x == ("__debug__" : Str)) = false → NameS c i e
theorem nameIs_S {i : Nat} {e : Expr} (h : nameIs c i e = true) : NameS c i e := let ⟨x, z, a, b, d⟩ := nameIs_eq h; ⟨x, z, a, b, d⟩
theorem same_name {x x' : Str} {o : Option Str} (a : o = some x) (b : o = some x') : x' = x := Option.some.inj (b.symm.trans a)
theorem bump_get {i j : Nat} {l : Expr} {px : Pos} {x y : Str} (hx : c.names[i]? = some x) (hy : c.names[j]? = some y) {f o2 : Expr} {es : List Expr} {g : Str} {ap cp : Pos} {a1 a2 : Expr} (q4 : asCall l = some (f, es, cp)) (q5 : asAttr f = some (o2, g, ap)) (q6 : two es = some (a1, a2)) (h5 : nameIs c i o2 = true) (h6 : strEq g "get" = true) (h8 : nameIs c j a1 = true) (h9 : intIs 0 a2 = true) :
    ∃ px2 py2 k0 p0, l = .Call (.Attribute (.Name x px2) "get" ap) [.Name y py2, .Constant (.int 0) k0 p0] [] cp := by
  obtain ⟨x', px2, e1, hx', _⟩ := nameIs_S h5
  obtain ⟨y', py2, e2, hy', _⟩ := nameIs_S h8
  obtain ⟨k0, p0, e3⟩ := intIs_eq h9
  rw [same_name hx hx'] at e1
  rw [same_name hy hy'] at e2
  exact ⟨px2, py2, k0, p0, by rw [asCall_eq q4, asAttr_eq q5, two_eq q6, e1, e2, e3, strEq_iff.mp h6]⟩
theorem bump_eq {i j : Nat} {s : Stmt} (h : okBump1 c i j s = true) : Bump1 c i j s := by
  unfold okBump1 at h
  split at h
  rotate_left
  · cases h
  rename_i t v pos q
  split at h
  rotate_left
  · cases h
  rename_i o ix q2
  replace h := and3 h
  obtain ⟨h1, h2, h⟩ := h
  split at h
  rotate_left
  · cases h
  rename_i l op u q3
  replace h := and3 h
  obtain ⟨h3, h4, h⟩ := h
  split at h
  rotate_left
  · cases h
  rename_i f es cp q4
  split at h
  rotate_left
  · cases h
  rename_i o2 g ap a1 a2 q5 q6
  replace h := and5 h
  obtain ⟨h5, h6, h7, h8, h9⟩ := h
  obtain ⟨tp, e1⟩ := asSub_eq q2
  obtain ⟨bp, e2⟩ := asBin_eq q3
  obtain ⟨x, px, e3, hx, dx⟩ := nameIs_S h1
  obtain ⟨y, py, e4, hy, dy⟩ := nameIs_S h2
  obtain ⟨k1, p1, e5⟩ := intIs_eq h4
  obtain ⟨px2, py2, k0, p0, e6⟩ := bump_get (px := px) hx hy q4 q5 q6 h5 h6 h8 h9
  exact .mk x y px py px2 py2 tp ap cp bp pos p0 p1 k0 k1 (by rw [asAsg_eq q, e1, e2, e3, e4, e5, e6, opOk_eq h3]; rfl) hx hy dx dy h7
theorem bump_eq2 {i j : Nat} {s : Stmt} (C : CxOk c env) (h : okBump2 c i j s = true) : Bump2 c i j env s := by
  unfold okBump2 at h
  split at h
  rotate_left
  · cases h
  rename_i ke body u q
  replace h := and2 h
  obtain ⟨h1, h⟩ := h
  split at h
  rotate_left
  · cases h
  rename_i l op m q2
  replace h := and2 h
  obtain ⟨h2, h⟩ := h
  split at h
  rotate_left
  · cases h
  rename_i o ix q3
  replace h := and3 h
  obtain ⟨h3, h4, h5⟩ := h
  obtain ⟨pos, e1⟩ := asIfS_eq q
  obtain ⟨cp, e2⟩ := asCmp_eq q2
  obtain ⟨tp, e3⟩ := asSub_eq q3
  obtain ⟨x, px, e4, hx, dx⟩ := nameIs_S h3
  obtain ⟨y, py, e5, hy, dy⟩ := nameIs_S h4
  obtain ⟨z, pn, e6, z1, z2, z3⟩ := okNm_eq C h5
  rw [strEq_iff.mp z1] at z2 z3 e6
  have hu : u = [] := by cases u with | nil => rfl | cons => cases h1
  exact .mk x y px py pn tp cp pos body (by rw [e1, e2, e3, e4, e5, e6, hu, coOk_eq h2]; rfl) hx hy z2 z3
theorem execs_cons {s : Stmt} {b : List Stmt} : execs (s :: b) env = (do match ← exec s env with | .next => execs b env | f => Pure.pure f) := rfl
/-- what bump asks of the state -/
inductive BumpAt (ρ ρ₁ : List (Option W)) (σ σ₁ : List C) (i j : Nat) : Prop
  | mk (k : Nat) (a b : Int) : getL ρ i = some (.cell k) → getL ρ j = some (.d (.tup [.int a, .int b])) → nth σ k = some (.dct []) → ρ₁ = ρ → σ₁ = setNth σ k .any → BumpAt ρ ρ₁ σ σ₁ i j
theorem exBump_at {i j : Nat} {fl : Fl} {ρ₁ : List (Option W)} (hb : exBump ρ σ i j = some (fl, ρ₁, σ₁)) : fl = .next ∧ BumpAt ρ ρ₁ σ σ₁ i j := by
  unfold exBump at hb
  split at hb
  rotate_left
  · cases hb
  rename_i w q1
  split at hb
  rotate_left
  · cases hb
  rename_i k' q1'
  rw [W.c?_eq q1'] at q1
  split at hb
  rotate_left
  · cases hb
  rename_i u q2
  split at hb
  rotate_left
  · cases hb
  rename_i d
  split at hb
  rotate_left
  · cases hb
  rename_i qp
  obtain ⟨a', b', qd⟩ := isPair_eq qp
  rw [qd] at q2
  split at hb
  rotate_left
  · cases hb
  rename_i cc q3
  split at hb
  rotate_left
  · cases hb
  rename_i l q4
  split at hb
  rotate_left
  · cases hb
  rename_i q5
  rw [C.d?_eq q4, isNil_eq q5] at q3
  cases hb
  exact ⟨rfl, .mk k' a' b' q1 q2 q3 rfl rfl⟩
theorem bump_xs (D : Ge p K mg mb tb B G orc N) (hu : A.units + 21 < cLine) {i j : Nat} {s s2 : Stmt} {b : List Stmt} {own : Bool} {fl : Fl} (b1 : Bump1 c i j s) (b2 : Bump2 c i j env s2) (X : FS p B env own FA c.names h M φ σ ρ) {ρ₁ : List (Option W)} (at_ : BumpAt ρ ρ₁ σ σ₁ i j)
    (ih : ∀ {h M φ}, FS p B env own FA c.names h M φ σ₁ ρ₁ → RunS p B A env own FA c.names (execs b env) h M φ σ' ρ' (fun f h M => FlR p h M fl f)) : RunS p B A env own FA c.names (execs (s :: s2 :: b) env) h M φ σ' ρ' (fun f h M => FlR p h M fl f) := by
  obtain ⟨w16, hmp⟩ := D.mp
  cases b1 with
  | mk x y px py px2 py2 tp ap cp bp pos p0 p1 n0 n1 e hx hy dx dy hl =>
  cases b2 with
  | mk x' y' px' py' pn tp' cp' pos' body e' hx' hy' hm dm =>
  cases at_ with
  | mk k' a' b' q1 q2 q3 eρ eσ =>
  subst eρ eσ
  rw [same_name hx hx', same_name hy hy'] at e'
  subst e e'
  rw [execs_cons]
  refine RunS.bind X (bump1 D.toGd hu X hx hy dx dy q1 q3 q2 hl) fun f h₁ M₁ φ₁ X₁ m₁ r₁ => ?_
  obtain ⟨rfl, d, t, u, hd, Hx, Hy, tk⟩ := r₁
  dsimp only
  rw [execs_cons]
  refine RunS.bind X₁ (bump2 D.toGd hu X₁ dx dy hd Hx Hy tk (.glob hm hmp dm) ⟨w16, rfl⟩) fun f h₂ M₂ φ₂ X₂ m₂ r₂ => ?_
  subst r₂
  exact ih X₂
theorem xs_of' (D : Ge p K mg mb tb B G orc N) (a : AOk A (k + N)) (C : CxOk c env) {st : Stmt → T → Bool} (hex : ∀ {s t}, st s t = true → ExS p B A env c.own FA c.names (run tb orc k) s t) : ∀ (ts : List T) (b : List Stmt), okB st c ts b = true → ∀ (ρ : List (Option W)) (σ : List Mine.C) (h : Heap) (M : List Addr) (φ : List (Option Addr)) (fl : Fl) (ρ' : List (Option W)) (σ' : List Mine.C), xs (run tb orc k) ρ σ ts = some (fl, ρ', σ') → FS p B env c.own FA c.names h M φ σ ρ → RunS p B A env c.own FA c.names (execs b env) h M φ σ' ρ' (fun f h M => FlR p h M fl f) := by
  intro ts
  induction ts with
  | nil =>
    intro b hk ρ σ h M φ fl ρ' σ' e X
    have : b = [] := by cases b with | nil => rfl | cons => cases hk
    rw [this]
    exact xs_nil e X
  | cons t ts ih =>
    intro b hk ρ σ h M φ fl ρ' σ' ev X
    unfold okB at hk
    split at hk
    · rename_i i q
      rw [isFrz_eq q] at ev
      unfold xs at ev
      cases k with
      | zero => cases ev
      | succ k =>
        change omF (exFrz ρ σ i) none (fun ρ₁ σ₁ => xs (run tb orc (k + 1)) ρ₁ σ₁ ts) (fun d ρ₁ σ₁ => some (.ret d, ρ₁, σ₁)) = _ at ev
        split at ev
        · rename_i e1
          obtain ⟨_, M', φ', X', m'⟩ := ex_frz_at (x := "") X e1
          exact RunS.turned X m' (ih b hk _ _ _ _ _ _ _ _ ev X') rfl
        · rename_i e1
          exact absurd (ex_frz_at (x := "") X e1).1 nofun
        · cases ev
    · split at hk
      · rename_i q
        rw [isDead_eq q] at ev
        unfold xs at ev
        cases k with
        | zero => cases ev
        | succ k => cases ev
      · split at hk
        · cases hk
        · rename_i s b
          split at hk
          · rename_i i j q
            split at hk
            · cases hk
            · rename_i s2 b
              replace hk := and3 hk
              rw [isBump_eq q] at ev
              unfold xs at ev
              cases k with
              | zero => cases ev
              | succ k =>
                have hu : A.units + 21 < cLine := AOk.hu (n := k) (a.le (by have := D.hN; omega))
                change omF (exBump ρ σ i j) none (fun ρ₁ σ₁ => xs (run tb orc (k + 1)) ρ₁ σ₁ ts) (fun d ρ₁ σ₁ => some (.ret d, ρ₁, σ₁)) = _ at ev
                split at ev
                · rename_i e1
                  exact bump_xs D hu (bump_eq hk.1) (bump_eq2 C hk.2.1) X (exBump_at e1).2 fun X' => ih b hk.2.2 _ _ _ _ _ _ _ _ ev X'
                · rename_i e1
                  exact absurd (exBump_at e1).1 nofun
                · cases ev
          · replace hk := and2 hk
            exact xs_cons (hex hk.1) (fun {ρ σ h M φ fl ρ' σ'} => ih b hk.2 ρ σ h M φ fl ρ' σ') ev X
theorem xs_of (D : Ge p K mg mb tb B G orc N) (a : AOk A (k + N)) (C : CxOk c env) {st : Stmt → T → Bool} (hex : ∀ {s t}, st s t = true → ExS p B A env c.own FA c.names (run tb orc k) s t) {ts : List T} {b : List Stmt} (hk : okB st c ts b = true) : XsS p B A env c.own FA c.names (run tb orc k) b ts :=
  fun {ρ σ h M φ fl ρ' σ'} => xs_of' D a C hex ts b hk ρ σ h M φ fl ρ' σ'
theorem fn_cx {f : Fn} {fd : FuncData} {body : List Stmt} {L : Addr} (fk : FnK K f fd body) (hu : uniq f.names = true) : CxOk ⟨fd.scope.names, f.names, true⟩ (callEnvC fd L f.addr) := ⟨fun x => rfl, fun _ x q => cellsFrom_some (.inl q), by
  show Env.blockKind _ = _
  unfold Env.blockKind
  show (if fd.scope.kind.isAnnotationScope = true then _ else fd.scope.kind) = _
  rw [fk.kind]; rfl, uniq_nd hu⟩
/-- all fuels -/
theorem is_all (D : Ge p K mg mb tb B G orc N) : ∀ m, IS p B tb orc G N m := fun m => by
  induction m using Nat.strongRecOn with
  | ind m ih =>
    cases m with
    | zero => exact ⟨⟨fun _ _ _ => (fun e => (by cases e)), fun _ _ _ => (fun e => (by cases e)), fun _ _ => (fun e => (by cases e))⟩, fun {A env FA c b ts n} a C hk => by
        cases n with
        | zero => cases hk
        | succ n => exact xs_of D a C (fun _ => (fun e => (by cases e))) hk⟩
    | succ m =>
      have I : ∀ k, k ≤ m → IS p B tb orc G N k := fun k hk => ih k (by omega)
      have Im := (I m (Nat.le_refl _)).toIH
      refine ⟨⟨fun a C hk => ev_step D.toGd Im D.hN a C hk, fun a C hk => ts_step D.toGd Im a C hk, fun {A i f} a hf {ws σ d σ'} e => ?_⟩, fun {A env FA c b ts n} a C hk => ?_⟩
      · change stepFn tb orc (run tb orc m) i ws σ = some (d, σ') at e
        unfold stepFn at e
        split at e
        · rename_i r q
          cases e
          exact D.orc i ws σ _ _ q f hf A (a.le (by omega))
        · rw [hf] at e
          dsimp only at e
          obtain ⟨fd, body, no, fk, hu, hk⟩ := D.fn i f hf
          have a' : AOk A (m + N + 1) := by rw [Nat.add_right_comm] at a; exact a
          exact call_fn a.d D.Y fk e fun ev X => (I m (Nat.le_refl _)).xs a'.deeper (fn_cx fk hu) hk ev X
      · cases n with
        | zero => cases hk
        | succ n => exact xs_of D a C (fun q => ex_step D.toGd I a C q) hk
end
end Mine

namespace Mine
open PySem PySem.W PyProof.Rows PySem.Calls PySem.SeqAt

/-! the facts of a table, by looks -/
noncomputable def fdOf (K : Frag) (a : Addr) : Option FuncData := match K.lookup a with
  | some ⟨_, _, .func fd, _⟩ => some fd
  | _ => none
theorem fdOf_eq {K : Frag} {a : Addr} {fd : FuncData} (h : fdOf K a = some fd) : ∃ oc od osl, K.lookup a = some ⟨oc, od, .func fd, osl⟩ := by
  unfold fdOf at h
  split at h
  · rename_i q; cases h; exact ⟨_, _, _, q⟩
  · cases h
noncomputable def bodyOf : FuncBody → Option (List Stmt)
  | .stmts b => some b
  | _ => none
theorem bodyOf_eq {b : FuncBody} {l : List Stmt} (h : bodyOf b = some l) : b = .stmts l := by unfold bodyOf at h; split at h <;> cases h; rfl
noncomputable def strsEq : List Str → List Str → Bool
  | [], [] => true
  | a :: r, b :: t => strEq a b && strsEq r t
  | _, _ => false
theorem strsEq_eq : ∀ {a b : List Str}, strsEq a b = true → a = b
  | [], [], _ => rfl
  | a :: r, b :: t, h => by
    unfold strsEq at h
    replace h := and2 h
    rw [strEq_iff.mp h.1, strsEq_eq h.2]
  | [], _ :: _, h => by cases h
  | _ :: _, [], h => by cases h
noncomputable def isNo {α : Type} : Option α → Bool
  | none => true
  | some _ => false
theorem isNo_eq {α : Type} {x : Option α} (h : isNo x = true) : x = none := by cases x with | none => rfl | some _ => cases h
theorem isNil_nil {α : Type} {x : List α} (h : isNil x = true) : x = [] := by cases x with | nil => rfl | cons => cases h
noncomputable def plainB (p : Arguments) : Bool := isNil p.posonlyargs && (isNil p.kwonlyargs && (isNo p.vararg && (isNo p.kwarg && uniq (p.args.map (·.arg)))))
theorem plainB_eq {p : Arguments} (h : plainB p = true) : PlainP p := by
  unfold plainB at h
  replace h := and5 h
  exact ⟨isNil_nil h.1, isNil_nil h.2.1, isNo_eq h.2.2.1, isNo_eq h.2.2.2.1, uniq_nd h.2.2.2.2⟩
noncomputable def kindsB (kd : List (Str × NameKind)) : List Str → Bool
  | [] => true
  | x :: r => (match kindL kd x with
    | some .local => true
    | some .cell => true
    | _ => false) && kindsB kd r
theorem kindsB_eq {kd : List (Str × NameKind)} : ∀ {l : List Str}, kindsB kd l = true → ∀ x ∈ l, kd.lookup x = some .local ∨ kd.lookup x = some .cell
  | [], _, x, m => by simp at m
  | y :: r, h, x, m => by
    unfold kindsB at h
    replace h := and2 h
    rcases List.mem_cons.mp m with rfl | m
    · have h1 := h.1
      rw [← kindL_eq]
      split at h1
      · exact .inl ‹_›
      · exact .inr ‹_›
      · cases h1
    · exact kindsB_eq h.2 x m
noncomputable def dflB (K : Frag) (v : Value) (ds : List D) : Bool := om1 (dflOf K v) false fun dl => match ds with
    | [d] => om1 dl false fun arr => match arr.toList with
        | [v] => litV v d
        | _ => false
    | _ => true
theorem dflB_eq {K : Frag} {v : Value} {ds : List D} (h : dflB K v ds = true) : ∃ dl, dflOf K v = some dl ∧ ∀ d, ds = [d] → ∃ v, dl = some #[v] ∧ litV v d = true := by
  unfold dflB at h
  split at h
  · rename_i dl q
    refine ⟨dl, q, fun d e => ?_⟩
    subst e
    dsimp only at h
    split at h
    · rename_i arr
      split at h
      · rename_i v q2
        have : arr = #[v] := by obtain ⟨l⟩ := arr; exact congrArg List.toArray q2
        exact ⟨v, by rw [this], h⟩
      · cases h
    · cases h
  · cases h
noncomputable def fdB (K : Frag) (f : Fn) (fd : FuncData) : Bool := isNil fd.closure && (!fd.scope.isCoroutine && (!fd.scope.isGenerator && (isFun fd.scope.kind && (Nat.beq fd.globals mainGlobals && (Nat.beq fd.builtins builtinsNs && (codeIn K fd.code fd.qualname && (plainB fd.params &&
  (strsEq (fd.params.args.map (·.arg)) (f.names.take f.params) && (Nat.ble f.params f.names.length && (kindsB fd.scope.names (f.names.take f.params) && (dflB K fd.defaults f.defaults && uniq f.names)))))))))))
theorem fdB_eq {K : Frag} {f : Fn} {fd : FuncData} {body : List Stmt} (h0 : fdOf K f.addr = some fd) (hb : bodyOf fd.body = some body) (h : fdB K f fd = true) : FnK K f fd body ∧ uniq f.names = true := by
  unfold fdB at h
  simp only [Bool.and_eq_true, Bool.not_eq_true'] at h
  obtain ⟨h1, h2, h3, h4, h5, h6, h7, h8, h9, h10, h11, h12, h13⟩ := h
  exact ⟨⟨fdOf_eq h0, bodyOf_eq hb, isNil_nil h1, h2, h3, isFun_eq h4, Nat.eq_of_beq_eq_true h5, Nat.eq_of_beq_eq_true h6, h7, plainB_eq h8, strsEq_eq h9, Nat.le_of_ble_eq_true h10, kindsB_eq h11, dflB_eq h12⟩, h13⟩
/-- a def is as my terms say -/
noncomputable def fnB (K : Frag) (G : Gt) (n : Nat) (f : Fn) : Bool := om1 (fdOf K f.addr) false fun fd => om1 (bodyOf fd.body) false fun body => fdB K f fd && okY G n ⟨fd.scope.names, f.names, true⟩ body f.body
theorem fnB_eq {K : Frag} {G : Gt} {n : Nat} {f : Fn} (h : fnB K G n f = true) : ∃ fd body no, FnK K f fd body ∧ uniq f.names = true ∧ okY G no ⟨fd.scope.names, f.names, true⟩ body f.body = true := by
  unfold fnB at h
  split at h
  · rename_i fd q
    split at h
    · rename_i body q2
      replace h := and2 h
      obtain ⟨a, b⟩ := fdB_eq q q2 h.1
      exact ⟨fd, body, n, a, b, h.2⟩
    · cases h
  · cases h
/-- a class makes as my terms say -/
noncomputable def mkB (K : Frag) (G : Gt) (n : Nat) (fns : List Fn) (cl : Cl) : Bool := om1 (nth fns cl.init) true fun f => om1 (fdOf K f.addr) false fun fd => om1 (bodyOf fd.body) false fun body => match f.names with
        | self :: _ => fdB K f fd && (makesIn K cl.addr && ((findIn K (.ref cl.addr) "__init__" == some (some (.ref f.addr))) && ((typeIn K (.ref f.addr) == some (.type "function")) && (setOk K cl.addr && (notDbg self && (Nat.ble f.body.length 100 && okIni G K cl.addr n ⟨fd.scope.names, f.names, true⟩ self body f.body))))))
        | [] => false
theorem mkB_eq {K : Frag} {G : Gt} {n : Nat} {fns : List Fn} {cl : Cl} (h : mkB K G n fns cl = true) {f : Fn} (hf : nth fns cl.init = some f) :
    ∃ fd body self no, FnK K f fd body ∧ MkOk K cl.addr f ∧ f.names[0]? = some self ∧ (self == ("__debug__" : Str)) = false ∧ f.body.length ≤ 100 ∧ uniq f.names = true ∧ okIni G K cl.addr no ⟨fd.scope.names, f.names, true⟩ self body f.body = true := by
  unfold mkB at h
  rw [hf] at h
  dsimp only at h
  split at h
  rotate_left
  · cases h
  rename_i fd q
  split at h
  rotate_left
  · cases h
  rename_i body q2
  split at h
  rotate_left
  · cases h
  rename_i self rest q3
  replace h := and8 h
  obtain ⟨h1, h2, h3, h4, h5, h6, h7, h8⟩ := h
  obtain ⟨a, b⟩ := fdB_eq q q2 h1
  exact ⟨fd, body, self, n, a, ⟨h2, eq_of_beq h3, eq_of_beq h4, h5⟩, by rw [q3]; rfl, notDbg_eq h6, Nat.le_of_ble_eq_true h7, b, h8⟩
theorem nth_all {α : Type} {f : α → Bool} {l : List α} (h : l.all f = true) {i : Nat} {x : α} (e : nth l i = some x) : f x = true := List.all_eq_true.mp h x (nth_mem e)
noncomputable def gfB (K : Frag) (x : Str) (a : Nat) : Bool := nsIn K mainGlobals x == some (some (.ref a))
noncomputable def fnmB (K : Frag) (fns : List Fn) (e : Str × Nat) : Bool := om1 (nth fns e.2) false fun f => gfB K e.1 f.addr
noncomputable def cnmB (K : Frag) (cls : List Cl) (e : Str × Nat) : Bool := om1 (nth cls e.2) false fun c => gfB K e.1 c.addr && keepIn K (.ref c.addr)
theorem idxS_mem {x : Str} {i : Nat} : ∀ {l : List (Str × Nat)}, idxS x l = some i → (x, i) ∈ l
  | [], h => by cases h
  | y :: r, h => by
    unfold idxS at h
    split at h
    · rename_i q; cases h; rw [← strEq_iff.mp q]; exact .head _
    · exact .tail _ (idxS_mem h)
theorem fnm_ok {K : Frag} {fns : List Fn} {l : List (Str × Nat)} (h : l.all (fnmB K fns) = true) (x : Str) (i : Nat) (e : idxS x l = some i) : ∃ f, nth fns i = some f ∧ nsIn K mainGlobals x = some (some (.ref f.addr)) := by
  have := List.all_eq_true.mp h _ (idxS_mem e)
  unfold fnmB at this
  dsimp only at this
  split at this
  · exact ⟨_, ‹_›, eq_of_beq this⟩
  · cases this
theorem cnm_ok {K : Frag} {cls : List Cl} {l : List (Str × Nat)} (h : l.all (cnmB K cls) = true) (x : Str) (i : Nat) (e : idxS x l = some i) : ∃ c, nth cls i = some c ∧ nsIn K mainGlobals x = some (some (.ref c.addr)) ∧ keepIn K (.ref c.addr) = true := by
  have := List.all_eq_true.mp h _ (idxS_mem e)
  unfold cnmB at this
  dsimp only at this
  split at this
  · replace this := and2 this
    exact ⟨_, ‹_›, eq_of_beq this.1, this.2⟩
  · cases this
end Mine

namespace Mine
open PySem
/-- Name.__init__ -/
noncomputable def f0 : Fn := ⟨187, 2, [], ["self", "text"],
  [.setA "text" (.loc 1)]⟩
/-- String.__init__ -/
noncomputable def f1 : Fn := ⟨209, 3, [.bool false], ["self", "octets", "is_hex"],
  [.setA "octets" (.loc 1),
      .setA "is_hex" (.loc 2)]⟩
/-- Stream.__init__ -/
noncomputable def f2 : Fn := ⟨230, 3, [], ["self", "head", "octets"],
  [.setA "head" (.loc 1),
      .setA "octets" (.loc 2)]⟩
/-- Reference.__init__ -/
noncomputable def f3 : Fn := ⟨251, 3, [], ["self", "number", "generation"],
  [.setA "number" (.loc 1),
      .setA "generation" (.loc 2)]⟩
/-- Reference.pair -/
noncomputable def f4 : Fn := ⟨258, 1, [], ["self"],
  [.ret (.tup [.attr (.loc 0) "number", .attr (.loc 0) "generation"])]⟩
/-- kind_of -/
noncomputable def f5 : Fn := ⟨272, 1, [], ["value"],
  [.ite (.isN false (.loc 0)) [.ret (.lit (.str "null"))] [],
      .ite (.isi (.loc 0) .bool) [.dead] [],
      .ite (.isi (.loc 0) .int) [.ret (.lit (.str "int"))] [],
      .ite (.isi (.loc 0) (.cls 4)) [.dead] [],
      .ite (.isi (.loc 0) (.cls 0)) [.ret (.lit (.str "name"))] [],
      .ite (.isi (.loc 0) (.cls 1)) [.ret (.lit (.str "string"))] [],
      .ite (.isi (.loc 0) .list) [.ret (.lit (.str "array"))] [],
      .ite (.isi (.loc 0) .dict) [.ret (.lit (.str "dict"))] [],
      .ite (.isi (.loc 0) (.cls 2)) [.dead] [],
      .ite (.isi (.loc 0) (.cls 3)) [.ret (.lit (.str "ref"))] [],
      .dead]⟩
/-- told_plain -/
noncomputable def f6 : Fn := ⟨279, 2, [], ["kind", "value"],
  [.ite (.cmp .eq (.loc 0) (.lit (.str "null"))) [.ret (.tup [.lit (.str "null")])] [],
      .ite (.cmp .eq (.loc 0) (.lit (.str "truth"))) [.dead] [],
      .ite (.cmp .eq (.loc 0) (.lit (.str "int"))) [.ret (.tup [.lit (.str "int"), .loc 1])] [],
      .ite (.cmp .eq (.loc 0) (.lit (.str "real"))) [.dead] [],
      .ite (.cmp .eq (.loc 0) (.lit (.str "name"))) [.ret (.tup [.lit (.str "name"), .attr (.loc 1) "text"])] [],
      .ite (.cmp .eq (.loc 0) (.lit (.str "string"))) [.ret (.tup [.lit (.str "string"), .bi .bytes [.attr (.loc 1) "octets"]])] [],
      .ret (.tup [.lit (.str "ref"), .attr (.loc 1) "number", .attr (.loc 1) "generation"])]⟩
/-- told -/
noncomputable def f7 : Fn := ⟨284, 1, [], ["value", "kind"],
  [.asg 1 (.call 5 [.loc 0]),
      .ite (.cmp .eq (.loc 1) (.lit (.str "array"))) [.ret (.bin .add (.tup [.lit (.str "array")]) (.bi .tuple [.comp (.call 7 [.loc 0]) [0] (.loc 0) none ["part"] []]))] [],
      .ite (.cmp .eq (.loc 1) (.lit (.str "dict"))) [.ret (.bin .add (.tup [.lit (.str "dict")]) (.bi .tuple [.comp (.tup [.loc 1, .call 7 [.sub (.loc 0) (.loc 1)]]) [1] (.bi .sorted [.loc 0]) (some (.isN true (.sub (.loc 0) (.loc 1)))) ["value", "key"] [0]]))] [],
      .ite (.cmp .eq (.loc 1) (.lit (.str "stream"))) [.dead] [],
      .ret (.call 6 [.loc 1, .loc 0])]⟩
/-- copied -/
noncomputable def f8 : Fn := ⟨289, 1, [], ["value", "kind"],
  [.asg 1 (.call 5 [.loc 0]),
      .ite (.cmp .eq (.loc 1) (.lit (.str "array"))) [.ret (.comp (.call 8 [.loc 0]) [0] (.loc 0) none ["part"] [])] [],
      .ite (.cmp .eq (.loc 1) (.lit (.str "dict"))) [.ret (.bi (.dict false) [.comp (.tup [.loc 1, .call 8 [.sub (.loc 0) (.loc 1)]]) [1] (.loc 0) none ["value", "key"] [0]])] [],
      .ite (.cmp .eq (.loc 1) (.lit (.str "stream"))) [.dead] [],
      .ret (.loc 0)]⟩
/-- Lookup.__init__ -/
noncomputable def f9 : Fn := ⟨304, 3, [.none, .none], ["self", "table", "trailer"],
  [.setA "table" (.ite (.isN false (.loc 1)) (.dct false [] []) (.loc 1)),
      .setA "trailer" (.ite (.isN false (.loc 2)) (.dct false [] []) (.loc 2))]⟩
/-- Lookup.fetch -/
noncomputable def f10 : Fn := ⟨311, 2, [], ["self", "value", "here", "hop", "generation", "found"],
  [.asg 2 (.loc 1),
      .for_ [3] (.range [.glob 0]) [.ite (.not (.isi (.loc 2) (.cls 3))) [.ret (.loc 2)] [],
      .unp [4, 5] (.bm .get (.attr (.loc 0) "table") [.attr (.loc 2) "number", .tup [.lit (.int (-1)), .lit (.none)]]),
      .ite (.cmp .ne (.loc 4) (.attr (.loc 2) "generation")) [.ret (.lit (.none))] [],
      .asg 2 (.loc 5)],
      .dead]⟩
/-- Lookup.get -/
noncomputable def f11 : Fn := ⟨318, 3, [], ["self", "head", "key"],
  [.ret (.meth (.loc 0) "fetch" [.bm .get (.loc 1) [.loc 2]])]⟩
/-- Shelf.put -/
noncomputable def f12 : Fn := ⟨339, 4, [], ["self", "number", "generation", "value"],
  [.setI (.attr (.loc 0) "table") (.loc 1) (.tup [.loc 2, .loc 3])]⟩
/-- Shelf.add -/
noncomputable def f13 : Fn := ⟨346, 2, [], ["self", "value", "number"],
  [.asg 2 (.lit (.int (1))),
      .whl (.cmp .isin (.loc 2) (.attr (.loc 0) "table")) [.asg 2 (.bin .add (.loc 2) (.lit (.int (1))))],
      .setI (.attr (.loc 0) "table") (.loc 2) (.tup [.lit (.int (0)), .loc 1]),
      .ret (.mk 3 [.loc 2, .lit (.int (0))])]⟩
/-- Shelf.numbers -/
noncomputable def f14 : Fn := ⟨360, 1, [], ["self"],
  [.ret (.bi .sorted [.attr (.loc 0) "table"])]⟩
/-- Shelf.root -/
noncomputable def f15 : Fn := ⟨367, 1, [], ["self", "found"],
  [.asg 1 (.meth (.loc 0) "get" [.attr (.loc 0) "trailer", .lit (.str "Root")]),
      .ret (.ite (.isi (.loc 1) .dict) (.loc 1) (.dct false [] []))]⟩
/-- Shelf.told -/
noncomputable def f16 : Fn := ⟨372, 1, [], ["self", "rows"],
  [.asg 1 (.bi .tuple [.comp (.tup [.loc 1, .sub (.sub (.attr (.loc 0) "table") (.loc 1)) (.lit (.int (0))), .call 7 [.sub (.sub (.attr (.loc 0) "table") (.loc 1)) (.lit (.int (1)))]]) [1] (.meth (.loc 0) "numbers" []) none ["self", "number"] [0]]),
      .ret (.tup [.loc 1, .call 7 [.attr (.loc 0) "trailer"]])]⟩
/-- Page.__init__ -/
noncomputable def f17 : Fn := ⟨392, 3, [], ["self", "reference", "fields"],
  [.setA "reference" (.loc 1),
      .setA "fields" (.loc 2)]⟩
/-- Spot.__init__ -/
noncomputable def f18 : Fn := ⟨413, 6, [], ["self", "reference", "head", "above", "inherited", "is_page"],
  [.setA "reference" (.loc 1),
      .setA "head" (.loc 2),
      .setA "above" (.loc 3),
      .setA "inherited" (.loc 4),
      .setA "is_page" (.loc 5)]⟩
/-- turned -/
noncomputable def f19 : Fn := ⟨427, 2, [], ["head", "changes", "found", "key"],
  [.asg 2 (.bi (.dict true) [.loc 0]),
      .for_ [3] (.loc 1) [.ite (.isN false (.sub (.loc 1) (.loc 3))) [.exp (.bm .pop (.loc 2) [.loc 3, .lit (.none)])] [.setI (.loc 2) (.loc 3) (.sub (.loc 1) (.loc 3))]],
      .ret (.loc 2)]⟩
/-- home_of -/
noncomputable def f20 : Fn := ⟨434, 2, [], ["shelf", "value", "here", "seen", "generation", "found"],
  [.asg 2 (.loc 1),
      .asg 3 (.dct true [] []),
      .whl (.and [.isi (.loc 2) (.cls 3), .cmp .notin (.attr (.loc 2) "number") (.loc 3)]) [.setI (.loc 3) (.attr (.loc 2) "number") (.lit (.bool true)),
      .unp [4, 5] (.bm .get (.attr (.loc 0) "table") [.attr (.loc 2) "number", .tup [.lit (.int (-1)), .lit (.none)]]),
      .ite (.cmp .ne (.loc 4) (.attr (.loc 2) "generation")) [.dead] [],
      .ite (.not (.isi (.loc 5) (.cls 3))) [.ret (.loc 2)] [],
      .dead],
      .dead]⟩
/-- is_node -/
noncomputable def f21 : Fn := ⟨441, 2, [], ["shelf", "head", "kind"],
  [.asg 2 (.meth (.loc 0) "get" [.loc 1, .lit (.str "Type")]),
      .ite (.and [.isi (.loc 2) (.cls 0), .cmp .isin (.attr (.loc 2) "text") (.tup [.lit (.str "Pages"), .lit (.str "Page")])]) [.ret (.cmp .eq (.attr (.loc 2) "text") (.lit (.str "Pages")))] [],
      .dead]⟩
/-- kids_of -/
noncomputable def f22 : Fn := ⟨448, 2, [], ["shelf", "head", "kids"],
  [.asg 2 (.meth (.loc 0) "get" [.loc 1, .lit (.str "Kids")]),
      .ite (.not (.isi (.loc 2) .list)) [.dead] [],
      .ret (.loc 2)]⟩
/-- met -/
noncomputable def f23 : Fn := ⟨455, 4, [], ["shelf", "value", "above", "inherited", "reference", "head", "given", "key"],
  [.asg 4 (.call 20 [.loc 0, .loc 1]),
      .asg 5 (.meth (.loc 0) "fetch" [.loc 4]),
      .ite (.not (.isi (.loc 5) .dict)) [.dead] [],
      .asg 6 (.bi (.dict true) [.loc 3]),
      .for_ [7] (.glob 1) [.ite (.isN true (.meth (.loc 0) "get" [.loc 5, .loc 7])) [.setI (.loc 6) (.loc 7) (.sub (.loc 5) (.loc 7))] []],
      .ret (.mk 7 [.loc 4, .loc 5, .loc 2, .loc 6, .not (.call 21 [.loc 0, .loc 5])])]⟩
/-- spots -/
noncomputable def f24 : Fn := ⟨462, 1, [], ["shelf", "found", "seen", "line", "value", "above", "inherited", "spot", "kid"],
  [.asg 1 (.lst true []),
      .asg 2 (.dct true [] []),
      .asg 3 (.lst true [.tup [.bm .get (.meth (.loc 0) "root" []) [.lit (.str "Pages")], .tup [], .dct false [] []]]),
      .whl (.loc 3) [.unp [4, 5, 6] (.bm .pop (.loc 3) []),
      .asg 7 (.call 23 [.loc 0, .loc 4, .loc 5, .loc 6]),
      .ite (.or [.cmp .isin (.attr (.attr (.loc 7) "reference") "number") (.loc 2), .and [.cmp .eq (.loc 1) (.lst false []), .attr (.loc 7) "is_page"]]) [.dead] [],
      .setI (.loc 2) (.attr (.attr (.loc 7) "reference") "number") (.lit (.bool true)),
      .exp (.bm .append (.loc 1) [.loc 7]),
      .ite (.not (.attr (.loc 7) "is_page")) [.for_ [8] (.rev (.call 22 [.loc 0, .attr (.loc 7) "head"])) [.exp (.bm .append (.loc 3) [.tup [.loc 8, .bin .add (.loc 5) (.tup [.attr (.loc 7) "reference"]), .attr (.loc 7) "inherited"]])]] []],
      .ret (.loc 1)]⟩
/-- fields_of -/
noncomputable def f25 : Fn := ⟨469, 2, [], ["shelf", "spot", "found", "key"],
  [.asg 2 (.bi (.dict true) [.attr (.loc 1) "head"]),
      .for_ [3] (.glob 1) [.ite (.and [.cmp .isin (.loc 3) (.attr (.loc 1) "inherited"), .isN false (.meth (.loc 0) "get" [.attr (.loc 1) "head", .loc 3])]) [.dead] []],
      .ret (.loc 2)]⟩
/-- page_spots -/
noncomputable def f26 : Fn := ⟨474, 1, [], ["shelf"],
  [.ret (.comp (.loc 0) [0] (.call 24 [.loc 0]) (some (.attr (.loc 0) "is_page")) ["spot"] [])]⟩
/-- pages -/
noncomputable def f27 : Fn := ⟨479, 1, [], ["shelf"],
  [.ret (.comp (.mk 6 [.attr (.loc 1) "reference", .call 25 [.loc 0, .loc 1]]) [1] (.call 26 [.loc 0]) none ["shelf", "spot"] [0])]⟩
/-- is_count -/
noncomputable def f28 : Fn := ⟨486, 1, [], ["value"],
  [.ret (.and [.isi (.loc 0) .int, .not (.isi (.loc 0) .bool), .cmp .ge (.loc 0) (.lit (.int (0)))])]⟩
/-- counts_of -/
noncomputable def f29 : Fn := ⟨493, 1, [], ["found", "counts", "spot", "node"],
  [.asg 1 (.dct true [] []),
      .for_ [2] (.loc 0) [.setI (.loc 1) (.attr (.attr (.loc 2) "reference") "number") (.ite (.attr (.loc 2) "is_page") (.lit (.int (1))) (.lit (.int (0))))],
      .for_ [2] (.loc 0) [.ite (.attr (.loc 2) "is_page") [.for_ [3] (.attr (.loc 2) "above") [.setI (.loc 1) (.attr (.loc 3) "number") (.bin .add (.sub (.loc 1) (.attr (.loc 3) "number")) (.lit (.int (1))))]] []],
      .ret (.loc 1)]⟩
/-- is_parent -/
noncomputable def f30 : Fn := ⟨500, 2, [], ["shelf", "spot", "parent"],
  [.asg 2 (.bm .get (.attr (.loc 1) "head") [.lit (.str "Parent")]),
      .ite (.cmp .eq (.attr (.loc 1) "above") (.tup [])) [.ret (.isN false (.meth (.loc 0) "fetch" [.loc 2]))] [],
      .ret (.and [.isi (.loc 2) (.cls 3), .cmp .eq (.meth (.loc 2) "pair" []) (.meth (.sub (.attr (.loc 1) "above") (.lit (.int (-1)))) "pair" [])])]⟩
/-- is_right_count -/
noncomputable def f31 : Fn := ⟨507, 3, [], ["shelf", "spot", "count", "value"],
  [.asg 3 (.meth (.loc 0) "get" [.attr (.loc 1) "head", .lit (.str "Count")]),
      .ret (.or [.attr (.loc 1) "is_page", .and [.call 28 [.loc 3], .cmp .eq (.loc 3) (.loc 2)]])]⟩
/-- settle -/
noncomputable def f32 : Fn := ⟨514, 1, [], ["shelf", "found", "counts", "spot", "changes"],
  [.asg 1 (.call 24 [.loc 0]),
      .asg 2 (.call 29 [.loc 1]),
      .for_ [3] (.loc 1) [.asg 4 (.dct true [] []),
      .ite (.not (.call 30 [.loc 0, .loc 3])) [.setI (.loc 4) (.lit (.str "Parent")) (.ite (.cmp .eq (.attr (.loc 3) "above") (.tup [])) (.lit (.none)) (.sub (.attr (.loc 3) "above") (.lit (.int (-1)))))] [],
      .ite (.not (.call 31 [.loc 0, .loc 3, .sub (.loc 2) (.attr (.attr (.loc 3) "reference") "number")])) [.setI (.loc 4) (.lit (.str "Count")) (.sub (.loc 2) (.attr (.attr (.loc 3) "reference") "number"))] [],
      .frz 4,
      .ite (.cmp .ne (.loc 4) (.dct false [] [])) [.exp (.call 33 [.loc 0, .attr (.loc 3) "reference", .call 19 [.attr (.loc 3) "head", .loc 4]])] []]]⟩
/-- lay -/
noncomputable def f33 : Fn := ⟨521, 3, [], ["shelf", "reference", "head"],
  [.exp (.meth (.loc 0) "put" [.attr (.loc 1) "number", .attr (.loc 1) "generation", .loc 2])]⟩
/-- build_pages -/
noncomputable def f34 : Fn := ⟨531, 3, [], ["shelf", "page_dicts", "width", "home", "level", "root", "head"],
  [.ite (.cmp .lt (.loc 2) (.lit (.int (2)))) [.dead] [],
      .asg 3 (.ite (.cmp .eq (.meth (.loc 0) "root" []) (.dct false [] [])) (.lit (.none)) (.call 20 [.loc 0, .sub (.attr (.loc 0) "trailer") (.lit (.str "Root"))])),
      .asg 4 (.comp (.meth (.loc 0) "add" [.call 19 [.call 8 [.loc 1], .dct false [.lit (.str "Type"), .lit (.str "Parent")] [.mk 0 [.lit (.str "Page")], .lit (.none)]]]) [1] (.loc 1) none ["shelf", "one"] [0]),
      .whl (.cmp .gt (.bi .len [.loc 4]) (.loc 2)) [.dead],
      .asg 5 (.meth (.loc 0) "add" [.dct false [.lit (.str "Type"), .lit (.str "Kids")] [.mk 0 [.lit (.str "Pages")], .loc 4]]),
      .asg 6 (.call 19 [.meth (.loc 0) "root" [], .dct false [.lit (.str "Type"), .lit (.str "Pages")] [.mk 0 [.lit (.str "Catalog")], .loc 5]]),
      .ite (.isN false (.loc 3)) [.setI (.attr (.loc 0) "trailer") (.lit (.str "Root")) (.meth (.loc 0) "add" [.loc 6])] [.dead],
      .exp (.call 32 [.loc 0]),
      .ret (.loc 5)]⟩
/-- key_of -/
noncomputable def f35 : Fn := ⟨538, 2, [], ["word", "value"],
  [.ite (.and [.cmp .eq (.loc 0) (.lit (.str "Names")), .isi (.loc 1) (.cls 1)]) [.ret (.attr (.loc 1) "octets")] [],
      .dead,
      .dead]⟩
/-- node_of -/
noncomputable def f36 : Fn := ⟨545, 2, [], ["shelf", "value", "node"],
  [.asg 2 (.meth (.loc 0) "fetch" [.loc 1]),
      .ite (.not (.isi (.loc 2) .dict)) [.dead] [],
      .ret (.loc 2)]⟩
/-- row_of -/
noncomputable def f37 : Fn := ⟨552, 3, [], ["shelf", "node", "key", "row"],
  [.asg 3 (.meth (.loc 0) "get" [.loc 1, .loc 2]),
      .ite (.not (.isi (.loc 3) .list)) [.dead] [],
      .ret (.loc 3)]⟩
/-- node_pairs -/
noncomputable def f38 : Fn := ⟨557, 3, [], ["shelf", "node", "word", "row"],
  [.ite (.cmp .notin (.loc 2) (.loc 1)) [.dead] [],
      .asg 3 (.call 37 [.loc 0, .loc 1, .loc 2]),
      .ite (.cmp .ne (.bin .mod (.bi .len [.loc 3]) (.lit (.int (2)))) (.lit (.int (0)))) [.dead] [],
      .ret (.comp (.tup [.call 35 [.loc 0, .meth (.loc 2) "fetch" [.sub (.loc 1) (.loc 3)]], .sub (.loc 1) (.bin .add (.loc 3) (.lit (.int (1))))]) [3] (.range [.lit (.int (0)), .bi .len [.loc 3], .lit (.int (2))]) none ["word", "row", "shelf", "at"] [2, 3, 0])]⟩
/-- longer_way -/
noncomputable def f39 : Fn := ⟨571, 3, [], ["way", "value", "times", "place"],
  [.asg 3 (.tup [.lit (.int (-1)), .lit (.int (-1))]),
      .ite (.isi (.loc 1) (.cls 3)) [.asg 3 (.tup [.attr (.loc 1) "number", .attr (.loc 1) "generation"]),
      .ite (.cmp .isin (.loc 3) (.loc 0)) [.dead] [],
      .bump 2 3] [],
      .ite (.cmp .gt (.bi .len [.loc 0]) (.glob 2)) [.dead] [],
      .ret (.bin .add (.loc 0) (.tup [.loc 3]))]⟩
/-- tree_pairs -/
noncomputable def f40 : Fn := ⟨576, 3, [], ["shelf", "root", "word", "found", "times", "line", "value", "way", "node"],
  [.asg 3 (.lst true []),
      .asg 4 (.dct true [] []),
      .asg 5 (.lst true [.tup [.loc 1, .tup []]]),
      .whl (.cmp .gt (.bi .len [.loc 5]) (.lit (.int (0)))) [.unp [6, 7] (.bm .pop (.loc 5) []),
      .asg 7 (.call 39 [.loc 7, .loc 6, .loc 4]),
      .asg 8 (.call 36 [.loc 0, .loc 6]),
      .ite (.cmp .isin (.lit (.str "Kids")) (.loc 8)) [.dead] [.exp (.bm .extend (.loc 3) [.call 38 [.loc 0, .loc 8, .loc 2]])]],
      .ret (.loc 3)]⟩
/-- first_at_least -/
noncomputable def f41 : Fn := ⟨583, 2, [], ["keys", "key", "low", "high", "half"],
  [.asg 2 (.lit (.int (0))),
      .asg 3 (.bi .len [.loc 0]),
      .whl (.cmp .lt (.loc 2) (.loc 3)) [.asg 4 (.bin .fdiv (.bin .add (.loc 2) (.loc 3)) (.lit (.int (2)))),
      .ite (.cmp .lt (.sub (.loc 0) (.loc 4)) (.loc 1)) [.asg 2 (.bin .add (.loc 4) (.lit (.int (1))))] [.asg 3 (.loc 4)]],
      .ret (.loc 2)]⟩
/-- tree_find -/
noncomputable def f42 : Fn := ⟨596, 5, [.none], ["shelf", "root", "word", "key", "default", "value", "turn", "node", "pairs", "at", "kids"],
  [.asg 5 (.loc 1),
      .for_ [6] (.range [.bin .add (.glob 2) (.lit (.int (1)))]) [.asg 7 (.call 36 [.loc 0, .loc 5]),
      .ite (.cmp .notin (.lit (.str "Kids")) (.loc 7)) [.asg 8 (.call 38 [.loc 0, .loc 7, .loc 2]),
      .asg 9 (.call 41 [.comp (.sub (.loc 0) (.lit (.int (0)))) [0] (.loc 8) none ["pair"] [], .loc 3]),
      .ret (.ite (.and [.cmp .lt (.loc 9) (.bi .len [.loc 8]), .cmp .eq (.sub (.sub (.loc 8) (.loc 9)) (.lit (.int (0)))) (.loc 3)]) (.sub (.sub (.loc 8) (.loc 9)) (.lit (.int (1)))) (.loc 4))] [],
      .dead,
      .dead,
      .dead,
      .dead],
      .dead]⟩
/-- Target.__init__ -/
noncomputable def f43 : Fn := ⟨611, 4, [], ["self", "page", "view", "numbers"],
  [.setA "page" (.loc 1),
      .setA "view" (.loc 2),
      .setA "numbers" (.loc 3)]⟩
/-- target_of -/
noncomputable def f44 : Fn := ⟨630, 2, [], ["shelf", "row", "view", "numbers"],
  [.ite (.or [.cmp .lt (.bi .len [.loc 1]) (.lit (.int (2))), .not (.isi (.meth (.loc 0) "fetch" [.sub (.loc 1) (.lit (.int (1)))]) (.cls 0))]) [.dead] [],
      .asg 2 (.attr (.meth (.loc 0) "fetch" [.sub (.loc 1) (.lit (.int (1)))]) "text"),
      .asg 3 (.comp (.meth (.loc 0) "fetch" [.loc 1]) [1] (.slc (.loc 1) (some (.lit (.int (2)))) none) none ["shelf", "value"] [0]),
      .ite (.or [.cmp .notin (.loc 2) (.glob 3), .cmp .gt (.bi .len [.loc 3]) (.sub (.glob 3) (.loc 2))]) [.dead] [],
      .ite (.cmp .ne (.comp (.loc 1) [1] (.loc 3) (some (.dead)) ["shelf", "value"] [0]) (.lst false [])) [.dead] [],
      .ite (.and [.not (.isi (.sub (.loc 1) (.lit (.int (0)))) (.cls 3)), .or [.cmp .ne (.call 5 [.sub (.loc 1) (.lit (.int (0)))]) (.lit (.str "int")), .cmp .lt (.sub (.loc 1) (.lit (.int (0)))) (.lit (.int (0)))]]) [.dead] [],
      .ret (.mk 8 [.sub (.loc 1) (.lit (.int (0))), .loc 2, .bin .add (.loc 3) (.bin .mul (.lst false [.lit (.none)]) (.bin .sub (.sub (.glob 3) (.loc 2)) (.bi .len [.loc 3])))])]⟩
/-- names_root -/
noncomputable def f45 : Fn := ⟨637, 1, [], ["shelf", "names"],
  [.asg 1 (.meth (.loc 0) "get" [.meth (.loc 0) "root" [], .lit (.str "Names")]),
      .ret (.ite (.and [.isi (.loc 1) .dict, .isN true (.meth (.loc 0) "get" [.loc 1, .lit (.str "Dests")])]) (.sub (.loc 1) (.lit (.str "Dests"))) (.lit (.none)))]⟩
/-- old_names -/
noncomputable def f46 : Fn := ⟨644, 1, [], ["shelf", "found"],
  [.asg 1 (.meth (.loc 0) "get" [.meth (.loc 0) "root" [], .lit (.str "Dests")]),
      .ret (.ite (.isi (.loc 1) .dict) (.loc 1) (.dct false [] []))]⟩
/-- named_value -/
noncomputable def f47 : Fn := ⟨651, 2, [], ["shelf", "value", "root"],
  [.ite (.isi (.loc 1) (.cls 0)) [.dead] [],
      .asg 2 (.call 45 [.loc 0]),
      .ret (.ite (.isN false (.loc 2)) (.lit (.none)) (.meth (.loc 0) "fetch" [.call 42 [.loc 0, .loc 2, .lit (.str "Names"), .attr (.loc 1) "octets"]]))]⟩
/-- destination_of -/
noncomputable def f48 : Fn := ⟨658, 2, [], ["shelf", "value", "here"],
  [.asg 2 (.meth (.loc 0) "fetch" [.loc 1]),
      .ite (.cmp .isin (.call 5 [.loc 2]) (.tup [.lit (.str "name"), .lit (.str "string")])) [.asg 2 (.call 47 [.loc 0, .loc 2])] [],
      .ite (.isi (.loc 2) .dict) [.dead] [],
      .ret (.ite (.isi (.loc 2) .list) (.call 44 [.loc 0, .loc 2]) (.lit (.none)))]⟩
/-- page_index_of -/
noncomputable def f49 : Fn := ⟨663, 2, [], ["shelf", "target", "row"],
  [.ite (.not (.isi (.attr (.loc 1) "page") (.cls 3))) [.dead] [],
      .asg 2 (.comp (.meth (.attr (.loc 0) "reference") "pair" []) [0] (.call 27 [.loc 0]) none ["page"] []),
      .ret (.ite (.cmp .isin (.meth (.attr (.loc 1) "page") "pair" []) (.loc 2)) (.bm .index (.loc 2) [.meth (.attr (.loc 1) "page") "pair" []]) (.lit (.int (-1))))]⟩
/-- named -/
noncomputable def f50 : Fn := ⟨668, 1, [], ["shelf", "found", "old", "key", "root", "value"],
  [.asg 1 (.dct true [] []),
      .asg 2 (.call 46 [.loc 0]),
      .for_ [3] (.bi .sorted [.loc 2]) [.setI (.loc 1) (.bi .bytes [.comp (.bi .ord [.loc 0]) [0] (.loc 3) none ["sign"] []]) (.call 48 [.loc 0, .sub (.loc 2) (.loc 3)])],
      .asg 4 (.call 45 [.loc 0]),
      .ite (.isN true (.loc 4)) [.for_ [3, 5] (.call 40 [.loc 0, .loc 4, .lit (.str "Names")]) [.setI (.loc 1) (.loc 3) (.call 48 [.loc 0, .loc 5])]] [],
      .ret (.loc 1)]⟩
/-- broken_names -/
noncomputable def f51 : Fn := ⟨675, 1, [], ["shelf", "found", "goals", "key"],
  [.asg 1 (.lst true []),
      .asg 2 (.call 50 [.loc 0]),
      .for_ [3] (.bi .sorted [.loc 2]) [.ite (.or [.isN false (.sub (.loc 2) (.loc 3)), .cmp .lt (.call 49 [.loc 0, .sub (.loc 2) (.loc 3)]) (.lit (.int (0)))]) [.exp (.bm .append (.loc 1) [.loc 3])] []],
      .ret (.loc 1)]⟩
/-- octets_line -/
noncomputable def f52 : Fn := ⟨680, 1, [], ["octets"],
  [.ret (.bm .join (.lit (.str "")) [.comp (.bi .chr [.loc 0]) [0] (.loc 0) none ["code"] []])]⟩
/-- rows_text -/
noncomputable def f53 : Fn := ⟨687, 1, [], ["rows"],
  [.ret (.ite (.cmp .gt (.bi .len [.loc 0]) (.lit (.int (0)))) (.bm .join (.lit (.str "\n")) [.loc 0]) (.glob 4))]⟩
/-- target_told -/
noncomputable def f54 : Fn := ⟨694, 2, [], ["shelf", "target", "index"],
  [.asg 2 (.ite (.isN false (.loc 1)) (.lit (.int (-1))) (.call 49 [.loc 0, .loc 1])),
      .ite (.cmp .lt (.loc 2) (.lit (.int (0)))) [.ret (.lit (.str "nowhere"))] [],
      .ret (.bin .add (.bin .add (.bin .add (.lit (.str "page ")) (.bi .str [.loc 2])) (.lit (.str " "))) (.attr (.loc 1) "view"))]⟩
/-- names_text -/
noncomputable def f55 : Fn := ⟨699, 1, [], ["shelf", "goals"],
  [.asg 1 (.call 50 [.loc 0]),
      .ret (.call 53 [.comp (.bin .add (.bin .add (.call 52 [.loc 2]) (.lit (.str ": "))) (.call 54 [.loc 0, .sub (.loc 1) (.loc 2)])) [2] (.bi .sorted [.loc 1]) none ["shelf", "goals", "key"] [0, 1]])]⟩
/-- _law_draw -/
noncomputable def f56 : Fn := ⟨706, 2, [], ["tape", "limit", "cells", "spot"],
  [.dead]⟩
/-- _law_row -/
noncomputable def f57 : Fn := ⟨713, 2, [], ["shelf", "at", "row"],
  [.asg 2 (.call 27 [.loc 0]),
      .ret (.lst false [.ite (.cmp .lt (.loc 1) (.bi .len [.loc 2])) (.attr (.sub (.loc 2) (.loc 1)) "reference") (.mk 3 [.lit (.int (99)), .lit (.int (0))]), .mk 0 [.lit (.str "Fit")]])]⟩
/-- _law_laid -/
noncomputable def f58 : Fn := ⟨720, 3, [], ["tape", "shelf", "pairs", "tree", "key", "at", "way"],
  [.asg 3 (.dct true [.lit (.str "Names")] [.lst false []]),
      .for_ [4, 5] (.loc 2) [.setI (.loc 3) (.lit (.str "Names")) (.bin .add (.sub (.loc 3) (.lit (.str "Names"))) (.lst false [.mk 1 [.loc 4], .call 57 [.loc 1, .loc 5]]))],
      .asg 6 (.call 56 [.loc 0, .lit (.int (9))]),
      .ite (.cmp .eq (.loc 6) (.lit (.int (0)))) [.ret (.tup [.lit (.none), .lit (.bool false)])] [],
      .ite (.cmp .eq (.loc 6) (.lit (.int (1)))) [.ret (.tup [.mk 3 [.lit (.int (90)), .lit (.int (0))], .lit (.bool false)])] [],
      .ite (.cmp .lt (.loc 6) (.lit (.int (7)))) [.ret (.tup [.dct false [.lit (.str "Dests")] [.sub (.lst false [.lit (.none), .mk 3 [.lit (.int (90)), .lit (.int (0))], .mk 3 [.lit (.int (1)), .lit (.int (5))], .meth (.loc 1) "add" [.lit (.none)], .mk 3 [.lit (.int (91)), .lit (.int (0))]]) (.bin .sub (.loc 6) (.lit (.int (2))))], .lit (.bool false)])] [],
      .ret (.tup [.dct false [.lit (.str "Dests")] [.ite (.cmp .eq (.loc 6) (.lit (.int (7)))) (.loc 3) (.meth (.loc 1) "add" [.loc 3])], .lit (.bool true)])]⟩
/-- _law_named -/
noncomputable def f59 : Fn := ⟨727, 1, [], ["shelf"],
  [.try_ [.ret (.call 50 [.loc 0])]]⟩
/-- law -/
noncomputable def f60 : Fn := ⟨732, 1, [], ["script", "tape", "shelf", "pairs", "given", "is_told", "old", "root", "home", "before", "count", "due", "places", "found", "key", "at", "target", "rows"],
  [.asg 2 (.mk 5 [.dct true [] [], .dct true [] []]),
      .exp (.call 34 [.loc 2, .comp (.dct false [.lit (.str "MediaBox")] [.lst false [.lit (.int (0)), .lit (.int (0)), .lit (.int (9)), .lit (.int (9))]]) [0] (.range [.bin .add (.lit (.int (1))) (.call 56 [.loc 1, .lit (.int (2))])]) none ["turn"] [], .lit (.int (2))]),
      .asg 3 (.comp (.tup [.loc 1, .call 56 [.loc 0, .lit (.int (3))]]) [1] (.tup [.lit (.byt [97]), .lit (.byt [99])]) none ["tape", "key"] [1]),
      .unp [4, 5] (.call 58 [.loc 1, .loc 2, .loc 3]),
      .asg 6 (.comp (.tup [.loc 1, .call 56 [.loc 0, .lit (.int (3))]]) [1] (.slc (.tup [.lit (.str "b"), .lit (.str "c")]) none (some (.call 56 [.loc 1, .lit (.int (3))]))) none ["tape", "key"] [1]),
      .asg 7 (.bi (.dict true) [.meth (.loc 2) "root" []]),
      .ite (.isN true (.loc 4)) [.setI (.loc 7) (.lit (.str "Names")) (.loc 4)] [],
      .ite (.cmp .ne (.loc 6) (.lst false [])) [.setI (.loc 7) (.lit (.str "Dests")) (.bi (.dict false) [.comp (.tup [.loc 1, .call 57 [.loc 0, .loc 2]]) [1, 2] (.loc 6) none ["shelf", "key", "at"] [2]])] [],
      .asg 8 (.sub (.attr (.loc 2) "trailer") (.lit (.str "Root"))),
      .exp (.meth (.loc 2) "put" [.attr (.loc 8) "number", .attr (.loc 8) "generation", .loc 7]),
      .unp [9, 10] (.tup [.meth (.loc 2) "told" [], .bi .len [.call 27 [.loc 2]]]),
      .asg 11 (.bi (.dict true) [.comp (.tup [.bm .encode (.loc 0) [.lit (.str "ascii")], .loc 1]) [0, 1] (.loc 6) none ["key", "at"] []]),
      .ite (.loc 5) [.exp (.bm .update (.loc 11) [.bi (.dict false) [.loc 3]])] [],
      .frz 11,
      .asg 12 (.bi (.dict false) [.comp (.tup [.loc 2, .ite (.cmp .lt (.sub (.loc 1) (.loc 2)) (.loc 0)) (.sub (.loc 1) (.loc 2)) (.lit (.int (-1)))]) [2] (.loc 11) none ["count", "due", "key"] [10, 11]]),
      .asg 13 (.call 59 [.loc 2]),
      .ite (.or [.cmp .ne (.bi .sorted [.loc 13]) (.bi .sorted [.loc 11]), .cmp .ne (.comp (.loc 3) [3] (.loc 13) (some (.cmp .ne (.call 49 [.loc 0, .sub (.loc 2) (.loc 3)]) (.sub (.loc 1) (.loc 3)))) ["shelf", "places", "found", "key"] [2, 12, 13]) (.lst false [])]) [.dead] [],
      .for_ [14, 15] (.loc 3) [.asg 16 (.call 48 [.loc 2, .mk 1 [.loc 14]]),
      .ite (.or [.cmp .ne (.isN true (.loc 16)) (.loc 5), .and [.isN true (.loc 16), .cmp .ne (.call 49 [.loc 2, .loc 16]) (.sub (.loc 12) (.loc 14))]]) [.dead] []],
      .ite (.cmp .ne (.call 51 [.loc 2]) (.comp (.loc 1) [1] (.bi .sorted [.loc 12]) (some (.cmp .lt (.sub (.loc 0) (.loc 1)) (.lit (.int (0))))) ["places", "key"] [12])) [.dead] [],
      .asg 17 (.comp (.bin .add (.bin .add (.bi .chr [.sub (.loc 1) (.lit (.int (0)))]) (.lit (.str ": "))) (.ite (.cmp .ge (.sub (.loc 0) (.loc 1)) (.lit (.int (0)))) (.bin .add (.bin .add (.lit (.str "page ")) (.bi .str [.sub (.loc 0) (.loc 1)])) (.lit (.str " Fit"))) (.lit (.str "nowhere")))) [1] (.bi .sorted [.loc 12]) none ["places", "key"] [12]),
      .ret (.and [.cmp .eq (.call 55 [.loc 2]) (.ite (.cmp .ne (.loc 17) (.lst false [])) (.bm .join (.lit (.str "\n")) [.loc 17]) (.lit (.str "none"))), .cmp .eq (.meth (.loc 2) "told" []) (.loc 9)])]⟩
noncomputable def fnTab : List Fn := [f0, f1, f2, f3, f4, f5, f6, f7, f8, f9, f10, f11, f12, f13, f14, f15, f16, f17, f18, f19, f20, f21, f22, f23, f24, f25, f26, f27, f28, f29, f30, f31, f32, f33, f34, f35, f36, f37, f38, f39, f40, f41, f42, f43, f44, f45, f46, f47, f48, f49, f50, f51, f52, f53, f54, f55, f56, f57, f58, f59]
noncomputable def clTab : List Cl := [/- Name -/ ⟨190, 0, []⟩,
  /- String -/ ⟨212, 1, []⟩,
  /- Stream -/ ⟨233, 2, []⟩,
  /- Reference -/ ⟨261, 3, [("pair", 4)]⟩,
  /- Decimal -/ ⟨155, 9999, []⟩,
  /- Shelf -/ ⟨375, 9, [("put", 12), ("add", 13), ("numbers", 14), ("root", 15), ("told", 16), ("fetch", 10), ("get", 11)]⟩,
  /- Page -/ ⟨395, 17, []⟩,
  /- Spot -/ ⟨416, 18, []⟩,
  /- Target -/ ⟨614, 43, []⟩]
noncomputable def glTab : List (Str × D) := [("MOST_HOPS", .int (30)), ("INHERITED", .tup [.str "Resources", .str "MediaBox", .str "CropBox", .str "Rotate"]), ("MOST_DEEP", .int (40)), ("VIEWS", .dct [(.s "XYZ", .int (3)), (.s "Fit", .int (0)), (.s "FitH", .int (1)), (.s "FitV", .int (1)), (.s "FitR", .int (4)), (.s "FitB", .int (0)), (.s "FitBH", .int (1)), (.s "FitBV", .int (1))]), ("NOTHING", .str "none")]
noncomputable def tbl : Tb := ⟨fnTab, clTab, glTab, 375, "table", "trailer"⟩
noncomputable def id_law : Nat := 60
noncomputable def id_law_draw : Nat := 56
end Mine

namespace Mine
open MineH
open PySem PySem.W PyProof.Rows PySem.Calls PySem.SeqAt

noncomputable def fnNm : List (Str × Nat) := ([("kind_of", 5), ("told_plain", 6), ("told", 7), ("copied", 8), ("turned", 19), ("home_of", 20), ("is_node", 21), ("kids_of", 22), ("met", 23), ("spots", 24), ("fields_of", 25), ("page_spots", 26), ("pages", 27), ("is_count", 28), ("counts_of", 29), ("is_parent", 30), ("is_right_count", 31), ("settle", 32), ("lay", 33), ("build_pages", 34), ("key_of", 35), ("node_of", 36), ("row_of", 37), ("node_pairs", 38), ("longer_way", 39), ("tree_pairs", 40), ("first_at_least", 41), ("tree_find", 42), ("target_of", 44), ("names_root", 45), ("old_names", 46), ("named_value", 47), ("destination_of", 48), ("page_index_of", 49), ("named", 50), ("broken_names", 51), ("octets_line", 52), ("rows_text", 53), ("target_told", 54), ("names_text", 55), ("_law_draw", 56), ("_law_row", 57), ("_law_laid", 58), ("_law_named", 59), ("told_objects", 7)] : List (String × Nat)).map fun e => (Str.ofString e.1, e.2)
noncomputable def clNm : List (Str × Nat) := [("Name", 0), ("String", 1), ("Stream", 2), ("Reference", 3), ("Decimal", 4), ("Shelf", 5), ("Page", 6), ("Spot", 7), ("Target", 8)]
noncomputable def flds : List Str := ["above", "generation", "head", "inherited", "is_page", "number", "octets", "page", "reference", "table", "text", "trailer", "view"]
noncomputable def gt : Gt := ⟨fnNm, clNm, flds, glTab⟩
theorem c_isi (P : Params) : isiOk (Kf P) (isiTys tbl) (isiIts tbl) = true := by kernel_rfl
theorem c_cls (P : Params) : (tbl.cls.all fun c => clsOk (Kf P) c.addr) = true := by kernel_rfl
theorem c_cg (P : Params) : specialIn (Kf P) (.builtin "object.__class__") "__get__" = some (some (.builtin "getset_descriptor.__get__")) := by kernel_rfl
theorem c_ct (P : Params) : takesIn (Kf P) (.builtin "object.__class__") = some true := by kernel_rfl
theorem c_meths (P : Params) : methsOk (Kf P) tbl = true := by kernel_rfl
theorem c_fld (P : Params) : flds.all (fldOk (Kf P) tbl) = true := by kernel_rfl
theorem c_bi (P : Params) : (["len", "sorted", "dict", "tuple", "bytes", "ord", "chr", "str", "isinstance", "bool", "int", "list", "range", "reversed"] : List Str).all (fun x => nsIn (Kf P) mainGlobals x == some none) = true := by kernel_rfl
theorem c_fnm (P : Params) : fnNm.all (fnmB (Kf P) tbl.fns) = true := by kernel_rfl
theorem c_cnm (P : Params) : clNm.all (cnmB (Kf P) tbl.cls) = true := by kernel_rfl
theorem c_keep (P : Params) : tbl.fns.all (fun f => keepIn (Kf P) (.ref f.addr)) = true := by kernel_rfl
theorem c_mk (P : Params) : tbl.cls.all (mkB (Kf P) gt 40 tbl.fns) = true := by kernel_rfl
theorem c_fn0 (P : Params) : fnB (Kf P) gt 60 f0 = true := by kernel_rfl
theorem c_fn1 (P : Params) : fnB (Kf P) gt 60 f1 = true := by kernel_rfl
theorem c_fn2 (P : Params) : fnB (Kf P) gt 60 f2 = true := by kernel_rfl
theorem c_fn3 (P : Params) : fnB (Kf P) gt 60 f3 = true := by kernel_rfl
theorem c_fn4 (P : Params) : fnB (Kf P) gt 60 f4 = true := by kernel_rfl
theorem c_fn5 (P : Params) : fnB (Kf P) gt 60 f5 = true := by kernel_rfl
theorem c_fn6 (P : Params) : fnB (Kf P) gt 60 f6 = true := by kernel_rfl
theorem c_fn7 (P : Params) : fnB (Kf P) gt 60 f7 = true := by kernel_rfl
theorem c_fn8 (P : Params) : fnB (Kf P) gt 60 f8 = true := by kernel_rfl
theorem c_fn9 (P : Params) : fnB (Kf P) gt 60 f9 = true := by kernel_rfl
theorem c_fn10 (P : Params) : fnB (Kf P) gt 60 f10 = true := by kernel_rfl
theorem c_fn11 (P : Params) : fnB (Kf P) gt 60 f11 = true := by kernel_rfl
theorem c_fn12 (P : Params) : fnB (Kf P) gt 60 f12 = true := by kernel_rfl
theorem c_fn13 (P : Params) : fnB (Kf P) gt 60 f13 = true := by kernel_rfl
theorem c_fn14 (P : Params) : fnB (Kf P) gt 60 f14 = true := by kernel_rfl
theorem c_fn15 (P : Params) : fnB (Kf P) gt 60 f15 = true := by kernel_rfl
theorem c_fn16 (P : Params) : fnB (Kf P) gt 60 f16 = true := by kernel_rfl
theorem c_fn17 (P : Params) : fnB (Kf P) gt 60 f17 = true := by kernel_rfl
theorem c_fn18 (P : Params) : fnB (Kf P) gt 60 f18 = true := by kernel_rfl
theorem c_fn19 (P : Params) : fnB (Kf P) gt 60 f19 = true := by kernel_rfl
theorem c_fn20 (P : Params) : fnB (Kf P) gt 60 f20 = true := by kernel_rfl
theorem c_fn21 (P : Params) : fnB (Kf P) gt 60 f21 = true := by kernel_rfl
theorem c_fn22 (P : Params) : fnB (Kf P) gt 60 f22 = true := by kernel_rfl
theorem c_fn23 (P : Params) : fnB (Kf P) gt 60 f23 = true := by kernel_rfl
theorem c_fn24 (P : Params) : fnB (Kf P) gt 60 f24 = true := by kernel_rfl
theorem c_fn25 (P : Params) : fnB (Kf P) gt 60 f25 = true := by kernel_rfl
theorem c_fn26 (P : Params) : fnB (Kf P) gt 60 f26 = true := by kernel_rfl
theorem c_fn27 (P : Params) : fnB (Kf P) gt 60 f27 = true := by kernel_rfl
theorem c_fn28 (P : Params) : fnB (Kf P) gt 60 f28 = true := by kernel_rfl
theorem c_fn29 (P : Params) : fnB (Kf P) gt 60 f29 = true := by kernel_rfl
theorem c_fn30 (P : Params) : fnB (Kf P) gt 60 f30 = true := by kernel_rfl
theorem c_fn31 (P : Params) : fnB (Kf P) gt 60 f31 = true := by kernel_rfl
theorem c_fn32 (P : Params) : fnB (Kf P) gt 60 f32 = true := by kernel_rfl
theorem c_fn33 (P : Params) : fnB (Kf P) gt 60 f33 = true := by kernel_rfl
theorem c_fn34 (P : Params) : fnB (Kf P) gt 60 f34 = true := by kernel_rfl
theorem c_fn35 (P : Params) : fnB (Kf P) gt 60 f35 = true := by kernel_rfl
theorem c_fn36 (P : Params) : fnB (Kf P) gt 60 f36 = true := by kernel_rfl
theorem c_fn37 (P : Params) : fnB (Kf P) gt 60 f37 = true := by kernel_rfl
theorem c_fn38 (P : Params) : fnB (Kf P) gt 60 f38 = true := by kernel_rfl
theorem c_fn39 (P : Params) : fnB (Kf P) gt 60 f39 = true := by kernel_rfl
theorem c_fn40 (P : Params) : fnB (Kf P) gt 60 f40 = true := by kernel_rfl
theorem c_fn41 (P : Params) : fnB (Kf P) gt 60 f41 = true := by kernel_rfl
theorem c_fn42 (P : Params) : fnB (Kf P) gt 60 f42 = true := by kernel_rfl
theorem c_fn43 (P : Params) : fnB (Kf P) gt 60 f43 = true := by kernel_rfl
theorem c_fn44 (P : Params) : fnB (Kf P) gt 60 f44 = true := by kernel_rfl
theorem c_fn45 (P : Params) : fnB (Kf P) gt 60 f45 = true := by kernel_rfl
theorem c_fn46 (P : Params) : fnB (Kf P) gt 60 f46 = true := by kernel_rfl
theorem c_fn47 (P : Params) : fnB (Kf P) gt 60 f47 = true := by kernel_rfl
theorem c_fn48 (P : Params) : fnB (Kf P) gt 60 f48 = true := by kernel_rfl
theorem c_fn49 (P : Params) : fnB (Kf P) gt 60 f49 = true := by kernel_rfl
theorem c_fn50 (P : Params) : fnB (Kf P) gt 60 f50 = true := by kernel_rfl
theorem c_fn51 (P : Params) : fnB (Kf P) gt 60 f51 = true := by kernel_rfl
theorem c_fn52 (P : Params) : fnB (Kf P) gt 60 f52 = true := by kernel_rfl
theorem c_fn53 (P : Params) : fnB (Kf P) gt 60 f53 = true := by kernel_rfl
theorem c_fn54 (P : Params) : fnB (Kf P) gt 60 f54 = true := by kernel_rfl
theorem c_fn55 (P : Params) : fnB (Kf P) gt 60 f55 = true := by kernel_rfl
theorem c_fn56 (P : Params) : fnB (Kf P) gt 60 f56 = true := by kernel_rfl
theorem c_fn57 (P : Params) : fnB (Kf P) gt 60 f57 = true := by kernel_rfl
theorem c_fn58 (P : Params) : fnB (Kf P) gt 60 f58 = true := by kernel_rfl
theorem c_fn59 (P : Params) : fnB (Kf P) gt 60 f59 = true := by kernel_rfl
end Mine

namespace Mine
open MineH
open PySem PySem.W PyProof.Rows PySem.Calls PySem.SeqAt

/-! the global dict -/
theorem keyHash_eq (w : World) (x : Str) : PyData.keyHash w.params x = hashStr w x := rfl
noncomputable def intV : Value → Mine.D → Bool
  | .int i _, .int j => Z.eqB i j
  | _, _ => false
/-- a dict of texts and ints, as it lies in the table -/
noncomputable def dctB : List (String × Nat × Value) → List (Key × Mine.D) → Bool
  | [], [] => true
  | e :: l, (.s x, d) :: ds => strEq (Str.ofString e.1) x && (intV e.2.2 d && dctB l ds)
  | _, _ => false
section
variable {p : Pm} {K : Frag} {mg mb : Str → Option Value} {B : Heap} {h : Heap} {M : List Addr} {φ : List (Option Addr)} {σ : List C}
theorem dctB_rel : ∀ {l : List (String × Nat × Value)} {ds : List (Key × Mine.D)}, dctB l ds = true → ∃ kvs : List (Key × Value), kvs.map (·.1) = ds.map (·.1) ∧
    Pairs (knd p.prog p.w) (l.map fun e => (⟨PyData.keyHash p.w.params (Str.ofString e.1), .str (Str.ofString e.1) e.2.1, e.2.2⟩ : DictEntry)) kvs ∧ ERels p h M kvs ds
  | [], [], _ => ⟨[], rfl, .nil, .nil⟩
  | e :: l, (.s x, d) :: ds, z => by
    unfold dctB at z
    replace z := and3 z
    obtain ⟨z1, z2, z3⟩ := z
    obtain ⟨kvs, a, b, c⟩ := dctB_rel (l := l) z3
    have hv : VRel p h M e.2.2 d := by
      unfold intV at z2
      split at z2
      · rename_i q; rw [q, (Z.eqB_iff _ _).mp z2]; exact .int _ _
      · cases z2
    refine ⟨(.s x, e.2.2) :: kvs, by simp [a], .cons ?_ rfl b, .cons hv c⟩
    show Value.isStrOf x (.str (Str.ofString e.1) e.2.1) = true
    rw [strEq_iff.mp z1]
    simp [Value.isStrOf]
  | [], _ :: _, h => by cases h
  | _ :: _, [], h => by cases h
  | _ :: _, (.i _, _) :: _, h => by cases h
  | _ :: _, (.b _, _) :: _, h => by cases h
theorem dct_rel {a : Addr} {l : List (String × Nat × Value)} {n : Nat} {ds : List (Key × Mine.D)} (S : St p B h M φ σ) (e : B.get? a = some (dO p.w.params l n)) (ha : (a == sysModules) = false) (hb : dctB l ds = true) (nd : (ds.map (·.1)).Nodup) : VRel p h M (.ref a) (.dct ds) := by
  obtain ⟨kvs, q1, q2, q3⟩ := dctB_rel (p := p) (h := h) (M := M) hb
  refine .dct (kvs := kvs) ⟨_, _, _, S.base _ _ e, ⟨rfl, rfl, rfl⟩, rfl, fun x m => ?_, q2, by rw [q1]; exact nd⟩ ha (S.base_notM e) q3
  have m' := (Array.mem_toList_iff).mpr m
  obtain ⟨y, _, rfl⟩ := List.mem_map.mp m'
  exact ⟨.s (Str.ofString y.1), (Key.is_val (.s (Str.ofString y.1)) y.2.1 :), keyHash_eq p.w _⟩
end
noncomputable def views : List (String × Nat × Value) := [("XYZ", 991, I (3) 992), ("Fit", 993, I (0) 994), ("FitH", 995, I (1) 996), ("FitV", 997, I (1) 998), ("FitR", 999, I (4) 1000), ("FitB", 1001, I (0) 1002), ("FitBH", 1003, I (1) 1004), ("FitBV", 1005, I (1) 1006)]
noncomputable def viewsD : List (Key × Mine.D) := [(.s "XYZ", .int (3)), (.s "Fit", .int (0)), (.s "FitH", .int (1)), (.s "FitV", .int (1)), (.s "FitR", .int (4)), (.s "FitB", .int (0)), (.s "FitBH", .int (1)), (.s "FitBV", .int (1))]
theorem c_views (P : Params) : (Kf P).lookup 597 = some (dO P views 8) := by kernel_rfl
theorem c_vn (P : Params) : nsIn (Kf P) mainGlobals "VIEWS" = some (some (.ref 597)) := by kernel_rfl
theorem c_vd : dctB views viewsD = true := by kernel_rfl
theorem c_vnd : (viewsD.map (·.1)).Nodup := by decide +kernel
/-- the flat globals -/
noncomputable def glB (K : Frag) (e : Str × Mine.D) : Bool := match nsIn K mainGlobals e.1 with
  | some (some v) => globV K v e.2
  | _ => false
theorem c_gl (P : Params) : ([nth glTab 0, nth glTab 1, nth glTab 2, nth glTab 4].all fun e => match e with | some e => glB (Kf P) e | none => false) = true := by kernel_rfl
theorem c_mp (P : Params) : nsIn (Kf P) mainGlobals "MOST_PLACES" = some (some (.int 16 898)) := by kernel_rfl
theorem c_has : hasA 375 tbl.cls = true := by kernel_rfl
noncomputable def viewsG : Str × Mine.D := (("VIEWS" : Str), Mine.D.dct viewsD)
theorem gl_three : nth glTab 3 = some viewsG := rfl
theorem glB_ok {p : Pm} {K : Frag} {mg mb : Str → Option Value} {B : Heap} (Y : Bs K mg mb B) {g : Str × Mine.D} (e : glB K g = true) : ∃ v, nsIn K mainGlobals g.1 = some (some v) ∧ ∀ h M φ σ, St p B h M φ σ → VRel p h M v g.2 := by
  unfold glB at e
  split at e
  · exact ⟨_, ‹_›, fun h M φ σ S => globV_rel Y S e⟩
  · cases e
section
variable {p : Pm} {mg mb : Str → Option Value} {B : Heap}
structure Pk (p : Pm) : Prop where
  sh : p.sh = 375
  tn : p.tn = "table"
  rn : p.rn = "trailer"
  s0 : Sym0 p
theorem gd_ (Y : Bs (Kf p.w.params) mg mb B) (k : Pk p) : Gd p (Kf p.w.params) mg mb tbl B gt where
  Y := Y
  C := ⟨c_isi _, c_cls _, c_cg _, c_ct _⟩
  M := c_meths _
  S := ⟨k.sh.symm, k.tn.symm, k.rn.symm, by rw [k.tn, k.rn]; decide +kernel, by rw [k.sh]; exact c_has⟩
  H0 := k.s0
  fld f m := List.all_eq_true.mp (c_fld p.w.params) f m
  bi x m := eq_of_beq (List.all_eq_true.mp (c_bi p.w.params) x m)
  fnm := fnm_ok (c_fnm _)
  cnm := cnm_ok (c_cnm _)
  keep i f e := nth_all (c_keep p.w.params) e
  glob i g e := by
    have hl := c_gl p.w.params
    rw [List.all_eq_true] at hl
    have key : ∀ g, some g ∈ [nth glTab 0, nth glTab 1, nth glTab 2, nth glTab 4] → ∃ v, nsIn (Kf p.w.params) mainGlobals g.1 = some (some v) ∧ ∀ h M φ σ, St p B h M φ σ → VRel p h M v g.2 := fun g m => glB_ok Y (hl _ m)
    match i, e with
    | 0, e => exact key g (by rw [← e]; exact .head _)
    | 1, e => exact key g (by rw [← e]; exact .tail _ (.head _))
    | 2, e => exact key g (by rw [← e]; exact .tail _ (.tail _ (.head _)))
    | 3, e =>
      have : g = viewsG := by rw [show nth tbl.globs 3 = nth glTab 3 from rfl, gl_three] at e; cases e; rfl
      subst this
      exact ⟨_, c_vn _, fun h M φ σ S => dct_rel S (Y.K _ _ (c_views _)) (by decide +kernel) c_vd c_vnd⟩
    | 4, e => exact key g (by rw [← e]; exact .tail _ (.tail _ (.tail _ (.head _))))
    | n + 5, e => cases e
  gl := rfl
  make k' cl f e1 e2 := mkB_eq (nth_all (c_mk p.w.params) e1) e2
end
end Mine

namespace Mine
open PySem PySem.W

/-! equality of data that computes -/
noncomputable def dsEqF (f : D → D → Bool) (x y : List D) : Bool := all2 f x y
noncomputable def ksEqF (f : D → D → Bool) (x y : List (Key × D)) : Bool := all2 (fun a b => keyEq a.1 b.1 && f a.2 b.2) x y
noncomputable def fsEqF (f : D → D → Bool) (x y : List (Str × D)) : Bool := all2 (fun a b => strEq a.1 b.1 && f a.2 b.2) x y
noncomputable def dEq1 (f : D → D → Bool) (a b : D) : Bool := match a with
  | .none => b.isN
  | .bool x => om1 b.b? false fun y => x == y
  | .int x => om1 b.i? false fun y => Z.eqB x y
  | .str x => om1 b.s? false fun y => strEq x y
  | .byt x => om1 b.y? false fun y => bytesEq x y
  | .tup x => om1 b.t? false fun y => dsEqF f x y
  | .lst x => om1 b.l? false fun y => dsEqF f x y
  | .dct x => om1 b.d? false fun y => ksEqF f x y
  | .inst c x => om2 b.inst? false fun d y => Nat.beq c d && fsEqF f x y
  | .sym i => om1 b.sy? false fun j => Nat.beq i j
noncomputable def dEq : Nat → D → D → Bool
  | 0 => fun _ _ => false
  | n + 1 => dEq1 (dEq n)
/-- x begins as a does -/
noncomputable def preEq (n : Nat) : List (Key × D) → List (Key × D) → Bool
  | [] => fun _ => true
  | a :: r => fun m => match m with
    | [] => false
    | b :: t => keyEq a.1 b.1 && (dEq n a.2 b.2 && preEq n r t)

/-! the data of the law -/
noncomputable def nmD (x : Str) : D := .inst 190 [("text", .str x)]
noncomputable def rfG (n g : Int) : D := .inst 261 [("number", .int n), ("generation", .int g)]
noncomputable def rf (n : Int) : D := rfG n 0
noncomputable def sgD (b : List UInt8) : D := .inst 212 [("octets", .byt b), ("is_hex", .bool false)]
noncomputable def rowD (n : Int) : D := .lst [rf n, nmD "Fit"]
noncomputable def tgtD (n : Int) : D := .inst 614 [("page", rf n), ("view", .str "Fit"), ("numbers", .lst [])]
noncomputable def pageD (up : Int) : D := .tup [.int 0, .dct [(.s "MediaBox", .lst [.int 0, .int 0, .int 9, .int 9]), (.s "Type", nmD "Page"), (.s "Parent", rf up)]]
/-- the number of the catalog -/
noncomputable def cat : Nat → Int
  | 0 => 3
  | _ => 4
/-- the number of the node of the pages -/
noncomputable def par : Nat → Int
  | 0 => 2
  | _ => 3
noncomputable def pgs : Nat → List (Key × D)
  | 0 => [(.i 1, pageD 2), (.i 2, .tup [.int 0, .dct [(.s "Type", nmD "Pages"), (.s "Kids", .lst [rf 1]), (.s "Count", .int 1)]])]
  | _ => [(.i 1, pageD 3), (.i 2, pageD 3), (.i 3, .tup [.int 0, .dct [(.s "Type", nmD "Pages"), (.s "Kids", .lst [rf 1, rf 2]), (.s "Count", .int 2)]])]
noncomputable def catD (np : Nat) (Y : List (Key × D)) : D := .tup [.int 0, .dct ((.s "Type", nmD "Catalog") :: (.s "Pages", rf (par np)) :: Y)]
noncomputable def tab (np : Nat) (Y X : List (Key × D)) : List (Key × D) := pgs np ++ (.i (cat np), catD np Y) :: X
noncomputable def trl (np : Nat) : List (Key × D) := [(.s "Root", rf (cat np))]
/-- the number that a row names -/
noncomputable def numOf : Nat → Nat → Int
  | 0, 0 => 1
  | 0, _ => 99
  | _, 0 => 1
  | _, 1 => 2
  | _, _ => 99
noncomputable def treeD (np a c : Nat) : D := .dct [(.s "Names", .lst [sgD [97], rowD (numOf np a), sgD [99], rowD (numOf np c)])]
noncomputable def oneD (k : Str) (d : D) : D := .dct [(.s k, d)]
/-- what is Names -/
noncomputable def givenD (np way a c : Nat) : D := match way with
  | 0 => .none
  | 1 => rf 90
  | 2 => oneD "Dests" .none
  | 3 => oneD "Dests" (rf 90)
  | 4 => oneD "Dests" (rfG 1 5)
  | 5 => oneD "Dests" (rf (cat np + 1))
  | 6 => oneD "Dests" (rf 91)
  | 7 => oneD "Dests" (treeD np a c)
  | _ => oneD "Dests" (rf (cat np + 1))
noncomputable def namesY (np way a c : Nat) : List (Key × D) := match way with
  | 0 => []
  | w => [(.s "Names", givenD np w a c)]
noncomputable def oldL (nold ob oc : Nat) : List D := match nold with
  | 0 => []
  | 1 => [.tup [.str "b", .int (.ofNat ob)]]
  | _ => [.tup [.str "b", .int (.ofNat ob)], .tup [.str "c", .int (.ofNat oc)]]
noncomputable def oldY (np nold ob oc : Nat) : List (Key × D) := match nold with
  | 0 => []
  | 1 => [(.s "Dests", .dct [(.s "b", rowD (numOf np ob))])]
  | _ => [(.s "Dests", .dct [(.s "b", rowD (numOf np ob)), (.s "c", rowD (numOf np oc))])]
noncomputable def extraX (np way a c : Nat) : List (Key × D) := match way with
  | 0 => []
  | 1 => []
  | 7 => []
  | 8 => [(.i (cat np + 1), .tup [.int 0, treeD np a c])]
  | _ => [(.i (cat np + 1), .tup [.int 0, .none])]
noncomputable def toldB (way : Nat) : Bool := match way with
  | 7 => true
  | 8 => true
  | _ => false
noncomputable def pairsD (a c : Nat) : D := .lst [.tup [.byt [97], .int (.ofNat a)], .tup [.byt [99], .int (.ofNat c)]]

/-! what is not walked: the draws, the rows -/
section
set_option backward.match.sparseCases false
noncomputable def C.sy? : C → Option Nat
  | .sym i => some i
  | _ => none
end
noncomputable def sh01 (w : W) : Bool := match w with
  | .d _ => false
  | .cell _ => false
  | .shelf t r => Nat.beq t 0 && Nat.beq r 1
noncomputable def cell0 (w : W) : Bool := om1 w.c? false fun k => Nat.beq k 0
noncomputable def symC (i : Nat) (c : C) : Bool := om1 c.sy? false fun j => Nat.beq j i
noncomputable def syms (σ : List C) : Bool := om2 (two σ) false fun a b => symC 0 a && symC 1 b
noncomputable def tapeN (c : C) : Option Nat := om1 c.l? none fun l => om2 (two l) none fun x y => om1 x.sy? none fun i => bt (Nat.beq i 1) none y.nat?
noncomputable def drawO (ds : List (Int × Nat)) (ws : List W) (σ : List C) : Option (D × List C) := om2 (two ws) none fun a b => bt (cell0 a) none (omw b none fun d => om1 d.i? none fun lim => om1 (one σ) none fun c => om1 (tapeN c) none fun sp => om1 (nth ds sp) none fun e => bt (Z.eqB e.1 lim) none (some (.int (.ofNat e.2), [.lst [.sym 1, .int (.ofNat (sp + 1))]])))
noncomputable def rowO (np : Nat) (ws : List W) (σ : List C) : Option (D × List C) := om2 (two ws) none fun a b => bt (sh01 a) none (omw b none fun d => om1 d.nat? none fun n => om2 (two σ) none fun x y => om1 x.d? none fun T => om1 y.d? none fun R => bt (preEq 9 (tab np [] []) T && ksEqF (dEq 9) (trl np) R) none (some (rowD (numOf np n), [.dct T, .dct R])))
noncomputable def orc1 (ds : List (Int × Nat)) : Orc := fun i ws σ => bt (Nat.beq i 56) none (drawO ds ws σ)
noncomputable def orc2 (np : Nat) (ds : List (Int × Nat)) : Orc := fun i ws σ => bt (Nat.beq i 56) (bt (Nat.beq i 57) none (rowO np ws σ)) (drawO ds ws σ)
noncomputable def draws (np a c way nold ob oc : Nat) : List (Int × Nat) := [(2, np), (3, a), (3, c), (9, way), (3, nold), (3, ob), (3, oc)]
noncomputable def tapeC (n : Nat) : C := .lst [.sym 1, .int (.ofNat n)]
noncomputable def seg1 : List T := (f60.body.take 2)
noncomputable def seg2 : List T := (f60.body.drop 2).take 8
noncomputable def seg3 : List T := f60.body.drop 10
noncomputable def ρ0 : List (Option W) := none :: some (.cell 0) :: nones 16
noncomputable def ρ1 : List (Option W) := none :: some (.cell 0) :: some (.shelf 1 2) :: nones 15
/-- behind the second part -/
noncomputable def ρ2 (np a c way nold ob oc : Nat) : List (Option W) := none :: some (.cell 0) :: some (.shelf 1 2) :: some (.d (pairsD a c)) :: some (.d (givenD np way a c)) :: some (.d (.bool (toldB way))) :: some (.d (.lst (oldL nold ob oc))) :: some (.cell 3) :: some (.d (rf (cat np))) :: nones 9
noncomputable def finT (np a c way nold ob oc : Nat) : List (Key × D) := tab np (namesY np way a c ++ oldY np nold ob oc) (extraX np way a c)
noncomputable def finC (np a c way nold ob oc : Nat) : List C := [.dct (finT np a c way nold ob oc), .dct (trl np)]
noncomputable def σ2 (np a c way nold ob oc : Nat) : List C := tapeC (5 + nold) :: (finC np a c way nold ob oc ++ [.dead])
noncomputable def orc0 : Orc := fun _ _ _ => none
noncomputable def shC (np : Nat) (Y X : List (Key × D)) : List C := [.dct (tab np Y X), .dct (trl np)]
/-- the pages of the shelf -/
noncomputable def pgD (n : Int) (up : Int) : D := .inst 395 [("reference", rf n), ("fields", .dct [(.s "MediaBox", .lst [.int 0, .int 0, .int 9, .int 9]), (.s "Type", nmD "Page"), (.s "Parent", rf up)])]
noncomputable def pagesD : Nat → D
  | 0 => .lst [pgD 1 2]
  | _ => .lst [pgD 1 3, pgD 2 3]
/-- no sym, no dict, no object of a class; not deep -/
noncomputable def goodL (f : D → Bool) : List D → Bool
  | [] => true
  | d :: r => f d && goodL f r
noncomputable def goodD1 (f : D → Bool) (d : D) : Bool := match d with
  | .none => true
  | .bool _ => true
  | .int _ => true
  | .str _ => true
  | .byt _ => true
  | .tup l => goodL f l
  | .lst l => goodL f l
  | .dct _ => false
  | .inst _ _ => false
  | .sym _ => false
noncomputable def goodD : Nat → D → Bool
  | 0 => fun _ => false
  | n + 1 => goodD1 (goodD n)
/-- told, and the cells as they were -/
noncomputable def goodR (x : Option (D × List C)) : Bool × List C := om2 x (false, []) fun d σ => (goodD 20 d, σ)
/-- what named gives -/
noncomputable def namedD (np : Nat) (told : Bool) (nold a c ob oc : Nat) : D := .dct (match nold with
  | 0 => bt told [] ([(.b [97], tgtD (numOf np a)), (.b [99], tgtD (numOf np c))])
  | 1 => bt told ([(.b [98], tgtD (numOf np ob))]) ([(.b [98], tgtD (numOf np ob)), (.b [97], tgtD (numOf np a)), (.b [99], tgtD (numOf np c))])
  | _ => bt told ([(.b [98], tgtD (numOf np ob)), (.b [99], tgtD (numOf np oc))]) ([(.b [98], tgtD (numOf np ob)), (.b [99], tgtD (numOf np c)), (.b [97], tgtD (numOf np a))]))
/-- a name is looked for -/
noncomputable def destD (np : Nat) (told : Bool) (n : Nat) : D := bt told .none (tgtD (numOf np n))
/-- what is not walked, in the third part -/
noncomputable def shO (x : D) (ws : List W) (σ : List C) : Option (D × List C) := om1 (one ws) none fun w => bt (sh01 w) none (bt (syms σ) none (some (x, [.sym 0, .sym 1])))
noncomputable def pixD (np : Nat) (d : D) : Option D := bt (dEq 5 d (tgtD 1)) (bt (dEq 5 d (tgtD 2)) (bt (dEq 5 d (tgtD 99)) none (some (.int (-1)))) (match np with
      | 0 => none
      | _ => some (.int 1))) (some (.int 0))
noncomputable def keyD (np : Nat) (told : Bool) (a c : Nat) (d : D) : Option D := bt (dEq 5 d (sgD [97])) (bt (dEq 5 d (sgD [99])) none (some (destD np told c))) (some (destD np told a))
noncomputable def shO1 (f : D → Option D) (ws : List W) (σ : List C) : Option (D × List C) := om2 (two ws) none fun a b => bt (sh01 a) none (omw b none fun d => bt (syms σ) none (om1 (f d) none fun x => some (x, [.sym 0, .sym 1])))
noncomputable def orc3 (np : Nat) (told : Bool) (nold a c ob oc : Nat) : Orc := fun i ws σ => bt (Nat.beq i 49) (bt (Nat.beq i 48) (bt (Nat.beq i 50) (bt (Nat.beq i 27) (bt (Nat.beq i 16) none (shO (.sym 0) ws σ)) (shO (pagesD np) ws σ)) (shO (namedD np told nold a c ob oc) ws σ)) (shO1 (keyD np told a c) ws σ)) (shO1 (pixD np) ws σ)
noncomputable def ρ3 (told : Bool) (nold a c ob oc : Nat) : List (Option W) := none :: none :: some (.shelf 1 2) :: some (.d (pairsD a c)) :: none :: some (.d (.bool told)) :: some (.d (.lst (oldL nold ob oc))) :: nones 11
noncomputable def σ3 : List C := [.any, .sym 0, .sym 1, .dead]
noncomputable def isTrue (x : Option (Fl × List (Option W) × List C)) : Bool := omF x false (fun _ _ => false) fun d _ _ => om1 d.b? false fun b => b
noncomputable def third (np : Nat) (told : Bool) (nold a c ob oc : Nat) : Bool := isTrue (xs (run tbl (orc3 np told nold a c ob oc) 60) (ρ3 told nold a c ob oc) σ3 seg3)

/-! what is to be reckoned -/
noncomputable def Seg2Ok (np way nold : Nat) : Prop := ∀ a c ob oc : Nat, xs (run tbl (orc2 np (draws np a c way nold ob oc)) 50) ρ1 (tapeC 1 :: shC np [] []) seg2 = some (.next, ρ2 np a c way nold ob oc, σ2 np a c way nold ob oc)
noncomputable def ToldOk (np way nold : Nat) : Prop := ∀ a c ob oc : Nat, goodR ((run tbl orc0 60).fn 16 [.shelf 0 1] (finC np a c way nold ob oc)) = (true, finC np a c way nold ob oc)
noncomputable def NamedOk (np way nold : Nat) : Prop := ∀ a c ob oc : Nat, (run tbl orc0 60).fn 50 [.shelf 0 1] (finC np a c way nold ob oc) = some (namedD np (toldB way) nold a c ob oc, finC np a c way nold ob oc)
noncomputable def DestAOk (np way nold : Nat) : Prop := ∀ a c ob oc : Nat, (run tbl orc0 60).fn 48 [.shelf 0 1, .d (sgD [97])] (finC np a c way nold ob oc) = some (destD np (toldB way) a, finC np a c way nold ob oc)
noncomputable def DestCOk (np way nold : Nat) : Prop := ∀ a c ob oc : Nat, (run tbl orc0 60).fn 48 [.shelf 0 1, .d (sgD [99])] (finC np a c way nold ob oc) = some (destD np (toldB way) c, finC np a c way nold ob oc)
theorem by2 {P : Nat → Prop} (h0 : P 0) (h1 : P 1) : ∀ n < 2, P n
  | 0, _ => h0
  | 1, _ => h1
  | n + 2, h => absurd h (by omega)
theorem by3 {P : Nat → Prop} (h0 : P 0) (h1 : P 1) (h2 : P 2) : ∀ n < 3, P n
  | 0, _ => h0
  | 1, _ => h1
  | 2, _ => h2
  | n + 3, h => absurd h (by omega)
theorem by9 {P : Nat → Prop} (h0 : P 0) (h1 : P 1) (h2 : P 2) (h3 : P 3) (h4 : P 4) (h5 : P 5) (h6 : P 6) (h7 : P 7) (h8 : P 8) : ∀ n < 9, P n
  | 0, _ => h0
  | 1, _ => h1
  | 2, _ => h2
  | 3, _ => h3
  | 4, _ => h4
  | 5, _ => h5
  | 6, _ => h6
  | 7, _ => h7
  | 8, _ => h8
  | n + 9, h => absurd h (by omega)
noncomputable def all3 (f : Nat → Bool) : Bool := f 0 && (f 1 && f 2)
noncomputable def all9 (f : Nat → Nat → Bool) : Bool := all3 fun a => all3 fun c => f a c
theorem all3_ok {f : Nat → Bool} (h : all3 f = true) : ∀ n < 3, f n = true := by
  unfold all3 at h
  replace h := and3 h
  exact by3 h.1 h.2.1 h.2.2
theorem all9_ok {f : Nat → Nat → Bool} (h : all9 f = true) : ∀ a < 3, ∀ c < 3, f a c = true := fun a ha => all3_ok (all3_ok h a ha)
end Mine

namespace Mine
open PySem PySem.W
noncomputable def Seg1Ok (np : Nat) : Prop := ∀ a c way nold ob oc : Nat, xs (run tbl (orc1 (draws np a c way nold ob oc)) 60) ρ0 [tapeC 0] seg1 = some (.next, ρ1, tapeC 1 :: shC np [] [])
theorem s1_0 : Seg1Ok 0 := fun a c way nold ob oc => by kernel_rfl
theorem s1_1 : Seg1Ok 1 := fun a c way nold ob oc => by kernel_rfl
theorem seg1_all : ∀ np < 2, Seg1Ok np := by2 s1_0 s1_1
noncomputable def RowOk (np n : Nat) : Prop := ∀ X : List (Key × D), (run tbl orc0 50).fn 57 [.shelf 0 1, .d (.int (.ofNat n))] (shC np [] X) = some (rowD (numOf np n), shC np [] X)
theorem rw_00 : RowOk 0 0 := fun X => by kernel_rfl
theorem rw_01 : RowOk 0 1 := fun X => by kernel_rfl
theorem rw_02 (n : Nat) : RowOk 0 (n + 2) := fun X => by kernel_rfl
theorem rw_10 : RowOk 1 0 := fun X => by kernel_rfl
theorem rw_11 : RowOk 1 1 := fun X => by kernel_rfl
theorem rw_12 (n : Nat) : RowOk 1 (n + 2) := fun X => by kernel_rfl
theorem row_all : ∀ np < 2, ∀ n, RowOk np n := by2 (fun n => match n with | 0 => rw_00 | 1 => rw_01 | n + 2 => rw_02 n) (fun n => match n with | 0 => rw_10 | 1 => rw_11 | n + 2 => rw_12 n)
noncomputable def PagesOk (np : Nat) : Prop := ∀ Y X : List (Key × D), (run tbl orc0 60).fn 27 [.shelf 0 1] (shC np Y X) = some (pagesD np, shC np Y X)
theorem pg_0 : PagesOk 0 := fun Y X => by kernel_rfl
theorem pg_1 : PagesOk 1 := fun Y X => by kernel_rfl
theorem pages_all : ∀ np < 2, PagesOk np := by2 pg_0 pg_1
noncomputable def PixOk (np : Nat) (n : Int) (pl : Int) : Prop := ∀ Y X : List (Key × D), (run tbl orc0 60).fn 49 [.shelf 0 1, .d (tgtD n)] (shC np Y X) = some (.int pl, shC np Y X)
theorem px_01 : PixOk 0 1 0 := fun Y X => by kernel_rfl
theorem px_099 : PixOk 0 99 (-1) := fun Y X => by kernel_rfl
theorem px_11 : PixOk 1 1 0 := fun Y X => by kernel_rfl
theorem px_12 : PixOk 1 2 1 := fun Y X => by kernel_rfl
theorem px_199 : PixOk 1 99 (-1) := fun Y X => by kernel_rfl
theorem pix1_all : ∀ np < 2, PixOk np 1 0 := by2 px_01 px_11
theorem pix99_all : ∀ np < 2, PixOk np 99 (-1) := by2 px_099 px_199
end Mine

namespace Mine
open PySem PySem.W
theorem s2_000 : Seg2Ok 0 0 0 := fun a c ob oc => by kernel_rfl
theorem s2_001 : Seg2Ok 0 0 1 := fun a c ob oc => by kernel_rfl
theorem s2_002 : Seg2Ok 0 0 2 := fun a c ob oc => by kernel_rfl
theorem s2_010 : Seg2Ok 0 1 0 := fun a c ob oc => by kernel_rfl
theorem s2_011 : Seg2Ok 0 1 1 := fun a c ob oc => by kernel_rfl
theorem s2_012 : Seg2Ok 0 1 2 := fun a c ob oc => by kernel_rfl
theorem s2_020 : Seg2Ok 0 2 0 := fun a c ob oc => by kernel_rfl
theorem s2_021 : Seg2Ok 0 2 1 := fun a c ob oc => by kernel_rfl
theorem s2_022 : Seg2Ok 0 2 2 := fun a c ob oc => by kernel_rfl
theorem s2_030 : Seg2Ok 0 3 0 := fun a c ob oc => by kernel_rfl
theorem s2_031 : Seg2Ok 0 3 1 := fun a c ob oc => by kernel_rfl
theorem s2_032 : Seg2Ok 0 3 2 := fun a c ob oc => by kernel_rfl
theorem s2_040 : Seg2Ok 0 4 0 := fun a c ob oc => by kernel_rfl
theorem s2_041 : Seg2Ok 0 4 1 := fun a c ob oc => by kernel_rfl
theorem s2_042 : Seg2Ok 0 4 2 := fun a c ob oc => by kernel_rfl
theorem s2_050 : Seg2Ok 0 5 0 := fun a c ob oc => by kernel_rfl
theorem s2_051 : Seg2Ok 0 5 1 := fun a c ob oc => by kernel_rfl
theorem s2_052 : Seg2Ok 0 5 2 := fun a c ob oc => by kernel_rfl
theorem s2_060 : Seg2Ok 0 6 0 := fun a c ob oc => by kernel_rfl
theorem s2_061 : Seg2Ok 0 6 1 := fun a c ob oc => by kernel_rfl
theorem s2_062 : Seg2Ok 0 6 2 := fun a c ob oc => by kernel_rfl
theorem s2_070 : Seg2Ok 0 7 0 := fun a c ob oc => by kernel_rfl
theorem s2_071 : Seg2Ok 0 7 1 := fun a c ob oc => by kernel_rfl
theorem s2_072 : Seg2Ok 0 7 2 := fun a c ob oc => by kernel_rfl
theorem s2_080 : Seg2Ok 0 8 0 := fun a c ob oc => by kernel_rfl
theorem s2_081 : Seg2Ok 0 8 1 := fun a c ob oc => by kernel_rfl
theorem s2_082 : Seg2Ok 0 8 2 := fun a c ob oc => by kernel_rfl
theorem s2_100 : Seg2Ok 1 0 0 := fun a c ob oc => by kernel_rfl
theorem s2_101 : Seg2Ok 1 0 1 := fun a c ob oc => by kernel_rfl
theorem s2_102 : Seg2Ok 1 0 2 := fun a c ob oc => by kernel_rfl
theorem s2_110 : Seg2Ok 1 1 0 := fun a c ob oc => by kernel_rfl
theorem s2_111 : Seg2Ok 1 1 1 := fun a c ob oc => by kernel_rfl
theorem s2_112 : Seg2Ok 1 1 2 := fun a c ob oc => by kernel_rfl
theorem s2_120 : Seg2Ok 1 2 0 := fun a c ob oc => by kernel_rfl
theorem s2_121 : Seg2Ok 1 2 1 := fun a c ob oc => by kernel_rfl
theorem s2_122 : Seg2Ok 1 2 2 := fun a c ob oc => by kernel_rfl
theorem s2_130 : Seg2Ok 1 3 0 := fun a c ob oc => by kernel_rfl
theorem s2_131 : Seg2Ok 1 3 1 := fun a c ob oc => by kernel_rfl
theorem s2_132 : Seg2Ok 1 3 2 := fun a c ob oc => by kernel_rfl
theorem s2_140 : Seg2Ok 1 4 0 := fun a c ob oc => by kernel_rfl
theorem s2_141 : Seg2Ok 1 4 1 := fun a c ob oc => by kernel_rfl
theorem s2_142 : Seg2Ok 1 4 2 := fun a c ob oc => by kernel_rfl
theorem s2_150 : Seg2Ok 1 5 0 := fun a c ob oc => by kernel_rfl
theorem s2_151 : Seg2Ok 1 5 1 := fun a c ob oc => by kernel_rfl
theorem s2_152 : Seg2Ok 1 5 2 := fun a c ob oc => by kernel_rfl
theorem s2_160 : Seg2Ok 1 6 0 := fun a c ob oc => by kernel_rfl
theorem s2_161 : Seg2Ok 1 6 1 := fun a c ob oc => by kernel_rfl
theorem s2_162 : Seg2Ok 1 6 2 := fun a c ob oc => by kernel_rfl
theorem s2_170 : Seg2Ok 1 7 0 := fun a c ob oc => by kernel_rfl
theorem s2_171 : Seg2Ok 1 7 1 := fun a c ob oc => by kernel_rfl
theorem s2_172 : Seg2Ok 1 7 2 := fun a c ob oc => by kernel_rfl
theorem s2_180 : Seg2Ok 1 8 0 := fun a c ob oc => by kernel_rfl
theorem s2_181 : Seg2Ok 1 8 1 := fun a c ob oc => by kernel_rfl
theorem s2_182 : Seg2Ok 1 8 2 := fun a c ob oc => by kernel_rfl
theorem seg2_all : ∀ np < 2, ∀ way < 9, ∀ nold < 3, Seg2Ok np way nold := by2 (by9 (by3 s2_000 s2_001 s2_002) (by3 s2_010 s2_011 s2_012) (by3 s2_020 s2_021 s2_022) (by3 s2_030 s2_031 s2_032) (by3 s2_040 s2_041 s2_042) (by3 s2_050 s2_051 s2_052) (by3 s2_060 s2_061 s2_062) (by3 s2_070 s2_071 s2_072) (by3 s2_080 s2_081 s2_082)) (by9 (by3 s2_100 s2_101 s2_102) (by3 s2_110 s2_111 s2_112) (by3 s2_120 s2_121 s2_122) (by3 s2_130 s2_131 s2_132) (by3 s2_140 s2_141 s2_142) (by3 s2_150 s2_151 s2_152) (by3 s2_160 s2_161 s2_162) (by3 s2_170 s2_171 s2_172) (by3 s2_180 s2_181 s2_182))
end Mine

namespace Mine
open PySem PySem.W
theorem tl_000 : ToldOk 0 0 0 := fun a c ob oc => by kernel_rfl
theorem tl_001 : ToldOk 0 0 1 := fun a c ob oc => by kernel_rfl
theorem tl_002 : ToldOk 0 0 2 := fun a c ob oc => by kernel_rfl
theorem tl_010 : ToldOk 0 1 0 := fun a c ob oc => by kernel_rfl
theorem tl_011 : ToldOk 0 1 1 := fun a c ob oc => by kernel_rfl
theorem tl_012 : ToldOk 0 1 2 := fun a c ob oc => by kernel_rfl
theorem tl_020 : ToldOk 0 2 0 := fun a c ob oc => by kernel_rfl
theorem tl_021 : ToldOk 0 2 1 := fun a c ob oc => by kernel_rfl
theorem tl_022 : ToldOk 0 2 2 := fun a c ob oc => by kernel_rfl
theorem tl_030 : ToldOk 0 3 0 := fun a c ob oc => by kernel_rfl
theorem tl_031 : ToldOk 0 3 1 := fun a c ob oc => by kernel_rfl
theorem tl_032 : ToldOk 0 3 2 := fun a c ob oc => by kernel_rfl
theorem tl_040 : ToldOk 0 4 0 := fun a c ob oc => by kernel_rfl
theorem tl_041 : ToldOk 0 4 1 := fun a c ob oc => by kernel_rfl
theorem tl_042 : ToldOk 0 4 2 := fun a c ob oc => by kernel_rfl
theorem tl_050 : ToldOk 0 5 0 := fun a c ob oc => by kernel_rfl
theorem tl_051 : ToldOk 0 5 1 := fun a c ob oc => by kernel_rfl
theorem tl_052 : ToldOk 0 5 2 := fun a c ob oc => by kernel_rfl
theorem tl_060 : ToldOk 0 6 0 := fun a c ob oc => by kernel_rfl
theorem tl_061 : ToldOk 0 6 1 := fun a c ob oc => by kernel_rfl
theorem tl_062 : ToldOk 0 6 2 := fun a c ob oc => by kernel_rfl
theorem tl_070 : ToldOk 0 7 0 := fun a c ob oc => by kernel_rfl
theorem tl_071 : ToldOk 0 7 1 := fun a c ob oc => by kernel_rfl
theorem tl_072 : ToldOk 0 7 2 := fun a c ob oc => by kernel_rfl
theorem tl_080 : ToldOk 0 8 0 := fun a c ob oc => by kernel_rfl
theorem tl_081 : ToldOk 0 8 1 := fun a c ob oc => by kernel_rfl
theorem tl_082 : ToldOk 0 8 2 := fun a c ob oc => by kernel_rfl
theorem tl_100 : ToldOk 1 0 0 := fun a c ob oc => by kernel_rfl
theorem tl_101 : ToldOk 1 0 1 := fun a c ob oc => by kernel_rfl
theorem tl_102 : ToldOk 1 0 2 := fun a c ob oc => by kernel_rfl
theorem tl_110 : ToldOk 1 1 0 := fun a c ob oc => by kernel_rfl
theorem tl_111 : ToldOk 1 1 1 := fun a c ob oc => by kernel_rfl
theorem tl_112 : ToldOk 1 1 2 := fun a c ob oc => by kernel_rfl
theorem tl_120 : ToldOk 1 2 0 := fun a c ob oc => by kernel_rfl
theorem tl_121 : ToldOk 1 2 1 := fun a c ob oc => by kernel_rfl
theorem tl_122 : ToldOk 1 2 2 := fun a c ob oc => by kernel_rfl
theorem tl_130 : ToldOk 1 3 0 := fun a c ob oc => by kernel_rfl
theorem tl_131 : ToldOk 1 3 1 := fun a c ob oc => by kernel_rfl
theorem tl_132 : ToldOk 1 3 2 := fun a c ob oc => by kernel_rfl
theorem tl_140 : ToldOk 1 4 0 := fun a c ob oc => by kernel_rfl
theorem tl_141 : ToldOk 1 4 1 := fun a c ob oc => by kernel_rfl
theorem tl_142 : ToldOk 1 4 2 := fun a c ob oc => by kernel_rfl
theorem tl_150 : ToldOk 1 5 0 := fun a c ob oc => by kernel_rfl
theorem tl_151 : ToldOk 1 5 1 := fun a c ob oc => by kernel_rfl
theorem tl_152 : ToldOk 1 5 2 := fun a c ob oc => by kernel_rfl
theorem tl_160 : ToldOk 1 6 0 := fun a c ob oc => by kernel_rfl
theorem tl_161 : ToldOk 1 6 1 := fun a c ob oc => by kernel_rfl
theorem tl_162 : ToldOk 1 6 2 := fun a c ob oc => by kernel_rfl
theorem tl_170 : ToldOk 1 7 0 := fun a c ob oc => by kernel_rfl
theorem tl_171 : ToldOk 1 7 1 := fun a c ob oc => by kernel_rfl
theorem tl_172 : ToldOk 1 7 2 := fun a c ob oc => by kernel_rfl
theorem tl_180 : ToldOk 1 8 0 := fun a c ob oc => by kernel_rfl
theorem tl_181 : ToldOk 1 8 1 := fun a c ob oc => by kernel_rfl
theorem tl_182 : ToldOk 1 8 2 := fun a c ob oc => by kernel_rfl
theorem told_all : ∀ np < 2, ∀ way < 9, ∀ nold < 3, ToldOk np way nold := by2 (by9 (by3 tl_000 tl_001 tl_002) (by3 tl_010 tl_011 tl_012) (by3 tl_020 tl_021 tl_022) (by3 tl_030 tl_031 tl_032) (by3 tl_040 tl_041 tl_042) (by3 tl_050 tl_051 tl_052) (by3 tl_060 tl_061 tl_062) (by3 tl_070 tl_071 tl_072) (by3 tl_080 tl_081 tl_082)) (by9 (by3 tl_100 tl_101 tl_102) (by3 tl_110 tl_111 tl_112) (by3 tl_120 tl_121 tl_122) (by3 tl_130 tl_131 tl_132) (by3 tl_140 tl_141 tl_142) (by3 tl_150 tl_151 tl_152) (by3 tl_160 tl_161 tl_162) (by3 tl_170 tl_171 tl_172) (by3 tl_180 tl_181 tl_182))
end Mine

namespace Mine
open PySem PySem.W
theorem nd_000 : NamedOk 0 0 0 := fun a c ob oc => by kernel_rfl
theorem nd_001 : NamedOk 0 0 1 := fun a c ob oc => by kernel_rfl
theorem nd_002 : NamedOk 0 0 2 := fun a c ob oc => by kernel_rfl
theorem nd_010 : NamedOk 0 1 0 := fun a c ob oc => by kernel_rfl
theorem nd_011 : NamedOk 0 1 1 := fun a c ob oc => by kernel_rfl
theorem nd_012 : NamedOk 0 1 2 := fun a c ob oc => by kernel_rfl
theorem nd_020 : NamedOk 0 2 0 := fun a c ob oc => by kernel_rfl
theorem nd_021 : NamedOk 0 2 1 := fun a c ob oc => by kernel_rfl
theorem nd_022 : NamedOk 0 2 2 := fun a c ob oc => by kernel_rfl
theorem nd_030 : NamedOk 0 3 0 := fun a c ob oc => by kernel_rfl
theorem nd_031 : NamedOk 0 3 1 := fun a c ob oc => by kernel_rfl
theorem nd_032 : NamedOk 0 3 2 := fun a c ob oc => by kernel_rfl
theorem nd_040 : NamedOk 0 4 0 := fun a c ob oc => by kernel_rfl
theorem nd_041 : NamedOk 0 4 1 := fun a c ob oc => by kernel_rfl
theorem nd_042 : NamedOk 0 4 2 := fun a c ob oc => by kernel_rfl
theorem nd_050 : NamedOk 0 5 0 := fun a c ob oc => by kernel_rfl
theorem nd_051 : NamedOk 0 5 1 := fun a c ob oc => by kernel_rfl
theorem nd_052 : NamedOk 0 5 2 := fun a c ob oc => by kernel_rfl
theorem nd_060 : NamedOk 0 6 0 := fun a c ob oc => by kernel_rfl
theorem nd_061 : NamedOk 0 6 1 := fun a c ob oc => by kernel_rfl
theorem nd_062 : NamedOk 0 6 2 := fun a c ob oc => by kernel_rfl
theorem nd_070 : NamedOk 0 7 0 := fun a c ob oc => by kernel_rfl
theorem nd_071 : NamedOk 0 7 1 := fun a c ob oc => by kernel_rfl
theorem nd_072 : NamedOk 0 7 2 := fun a c ob oc => by kernel_rfl
theorem nd_080 : NamedOk 0 8 0 := fun a c ob oc => by kernel_rfl
theorem nd_081 : NamedOk 0 8 1 := fun a c ob oc => by kernel_rfl
theorem nd_082 : NamedOk 0 8 2 := fun a c ob oc => by kernel_rfl
theorem nd_100 : NamedOk 1 0 0 := fun a c ob oc => by kernel_rfl
theorem nd_101 : NamedOk 1 0 1 := fun a c ob oc => by kernel_rfl
theorem nd_102 : NamedOk 1 0 2 := fun a c ob oc => by kernel_rfl
theorem nd_110 : NamedOk 1 1 0 := fun a c ob oc => by kernel_rfl
theorem nd_111 : NamedOk 1 1 1 := fun a c ob oc => by kernel_rfl
theorem nd_112 : NamedOk 1 1 2 := fun a c ob oc => by kernel_rfl
theorem nd_120 : NamedOk 1 2 0 := fun a c ob oc => by kernel_rfl
theorem nd_121 : NamedOk 1 2 1 := fun a c ob oc => by kernel_rfl
theorem nd_122 : NamedOk 1 2 2 := fun a c ob oc => by kernel_rfl
theorem nd_130 : NamedOk 1 3 0 := fun a c ob oc => by kernel_rfl
theorem nd_131 : NamedOk 1 3 1 := fun a c ob oc => by kernel_rfl
theorem nd_132 : NamedOk 1 3 2 := fun a c ob oc => by kernel_rfl
theorem nd_140 : NamedOk 1 4 0 := fun a c ob oc => by kernel_rfl
theorem nd_141 : NamedOk 1 4 1 := fun a c ob oc => by kernel_rfl
theorem nd_142 : NamedOk 1 4 2 := fun a c ob oc => by kernel_rfl
theorem nd_150 : NamedOk 1 5 0 := fun a c ob oc => by kernel_rfl
theorem nd_151 : NamedOk 1 5 1 := fun a c ob oc => by kernel_rfl
theorem nd_152 : NamedOk 1 5 2 := fun a c ob oc => by kernel_rfl
theorem nd_160 : NamedOk 1 6 0 := fun a c ob oc => by kernel_rfl
theorem nd_161 : NamedOk 1 6 1 := fun a c ob oc => by kernel_rfl
theorem nd_162 : NamedOk 1 6 2 := fun a c ob oc => by kernel_rfl
theorem nd_170 : NamedOk 1 7 0 := fun a c ob oc => by kernel_rfl
theorem nd_171 : NamedOk 1 7 1 := fun a c ob oc => by kernel_rfl
theorem nd_172 : NamedOk 1 7 2 := fun a c ob oc => by kernel_rfl
theorem nd_180 : NamedOk 1 8 0 := fun a c ob oc => by kernel_rfl
theorem nd_181 : NamedOk 1 8 1 := fun a c ob oc => by kernel_rfl
theorem nd_182 : NamedOk 1 8 2 := fun a c ob oc => by kernel_rfl
theorem named_all : ∀ np < 2, ∀ way < 9, ∀ nold < 3, NamedOk np way nold := by2 (by9 (by3 nd_000 nd_001 nd_002) (by3 nd_010 nd_011 nd_012) (by3 nd_020 nd_021 nd_022) (by3 nd_030 nd_031 nd_032) (by3 nd_040 nd_041 nd_042) (by3 nd_050 nd_051 nd_052) (by3 nd_060 nd_061 nd_062) (by3 nd_070 nd_071 nd_072) (by3 nd_080 nd_081 nd_082)) (by9 (by3 nd_100 nd_101 nd_102) (by3 nd_110 nd_111 nd_112) (by3 nd_120 nd_121 nd_122) (by3 nd_130 nd_131 nd_132) (by3 nd_140 nd_141 nd_142) (by3 nd_150 nd_151 nd_152) (by3 nd_160 nd_161 nd_162) (by3 nd_170 nd_171 nd_172) (by3 nd_180 nd_181 nd_182))
end Mine

namespace Mine
open PySem PySem.W
theorem da_000 : DestAOk 0 0 0 := fun a c ob oc => by kernel_rfl
theorem da_001 : DestAOk 0 0 1 := fun a c ob oc => by kernel_rfl
theorem da_002 : DestAOk 0 0 2 := fun a c ob oc => by kernel_rfl
theorem da_010 : DestAOk 0 1 0 := fun a c ob oc => by kernel_rfl
theorem da_011 : DestAOk 0 1 1 := fun a c ob oc => by kernel_rfl
theorem da_012 : DestAOk 0 1 2 := fun a c ob oc => by kernel_rfl
theorem da_020 : DestAOk 0 2 0 := fun a c ob oc => by kernel_rfl
theorem da_021 : DestAOk 0 2 1 := fun a c ob oc => by kernel_rfl
theorem da_022 : DestAOk 0 2 2 := fun a c ob oc => by kernel_rfl
theorem da_030 : DestAOk 0 3 0 := fun a c ob oc => by kernel_rfl
theorem da_031 : DestAOk 0 3 1 := fun a c ob oc => by kernel_rfl
theorem da_032 : DestAOk 0 3 2 := fun a c ob oc => by kernel_rfl
theorem da_040 : DestAOk 0 4 0 := fun a c ob oc => by kernel_rfl
theorem da_041 : DestAOk 0 4 1 := fun a c ob oc => by kernel_rfl
theorem da_042 : DestAOk 0 4 2 := fun a c ob oc => by kernel_rfl
theorem da_050 : DestAOk 0 5 0 := fun a c ob oc => by kernel_rfl
theorem da_051 : DestAOk 0 5 1 := fun a c ob oc => by kernel_rfl
theorem da_052 : DestAOk 0 5 2 := fun a c ob oc => by kernel_rfl
theorem da_060 : DestAOk 0 6 0 := fun a c ob oc => by kernel_rfl
theorem da_061 : DestAOk 0 6 1 := fun a c ob oc => by kernel_rfl
theorem da_062 : DestAOk 0 6 2 := fun a c ob oc => by kernel_rfl
theorem da_070 : DestAOk 0 7 0 := fun a c ob oc => by kernel_rfl
theorem da_071 : DestAOk 0 7 1 := fun a c ob oc => by kernel_rfl
theorem da_072 : DestAOk 0 7 2 := fun a c ob oc => by kernel_rfl
theorem da_080 : DestAOk 0 8 0 := fun a c ob oc => by kernel_rfl
theorem da_081 : DestAOk 0 8 1 := fun a c ob oc => by kernel_rfl
theorem da_082 : DestAOk 0 8 2 := fun a c ob oc => by kernel_rfl
theorem da_100 : DestAOk 1 0 0 := fun a c ob oc => by kernel_rfl
theorem da_101 : DestAOk 1 0 1 := fun a c ob oc => by kernel_rfl
theorem da_102 : DestAOk 1 0 2 := fun a c ob oc => by kernel_rfl
theorem da_110 : DestAOk 1 1 0 := fun a c ob oc => by kernel_rfl
theorem da_111 : DestAOk 1 1 1 := fun a c ob oc => by kernel_rfl
theorem da_112 : DestAOk 1 1 2 := fun a c ob oc => by kernel_rfl
theorem da_120 : DestAOk 1 2 0 := fun a c ob oc => by kernel_rfl
theorem da_121 : DestAOk 1 2 1 := fun a c ob oc => by kernel_rfl
theorem da_122 : DestAOk 1 2 2 := fun a c ob oc => by kernel_rfl
theorem da_130 : DestAOk 1 3 0 := fun a c ob oc => by kernel_rfl
theorem da_131 : DestAOk 1 3 1 := fun a c ob oc => by kernel_rfl
theorem da_132 : DestAOk 1 3 2 := fun a c ob oc => by kernel_rfl
theorem da_140 : DestAOk 1 4 0 := fun a c ob oc => by kernel_rfl
theorem da_141 : DestAOk 1 4 1 := fun a c ob oc => by kernel_rfl
theorem da_142 : DestAOk 1 4 2 := fun a c ob oc => by kernel_rfl
theorem da_150 : DestAOk 1 5 0 := fun a c ob oc => by kernel_rfl
theorem da_151 : DestAOk 1 5 1 := fun a c ob oc => by kernel_rfl
theorem da_152 : DestAOk 1 5 2 := fun a c ob oc => by kernel_rfl
theorem da_160 : DestAOk 1 6 0 := fun a c ob oc => by kernel_rfl
theorem da_161 : DestAOk 1 6 1 := fun a c ob oc => by kernel_rfl
theorem da_162 : DestAOk 1 6 2 := fun a c ob oc => by kernel_rfl
theorem da_170 : DestAOk 1 7 0 := fun a c ob oc => by kernel_rfl
theorem da_171 : DestAOk 1 7 1 := fun a c ob oc => by kernel_rfl
theorem da_172 : DestAOk 1 7 2 := fun a c ob oc => by kernel_rfl
theorem da_180 : DestAOk 1 8 0 := fun a c ob oc => by kernel_rfl
theorem da_181 : DestAOk 1 8 1 := fun a c ob oc => by kernel_rfl
theorem da_182 : DestAOk 1 8 2 := fun a c ob oc => by kernel_rfl
theorem desta_all : ∀ np < 2, ∀ way < 9, ∀ nold < 3, DestAOk np way nold := by2 (by9 (by3 da_000 da_001 da_002) (by3 da_010 da_011 da_012) (by3 da_020 da_021 da_022) (by3 da_030 da_031 da_032) (by3 da_040 da_041 da_042) (by3 da_050 da_051 da_052) (by3 da_060 da_061 da_062) (by3 da_070 da_071 da_072) (by3 da_080 da_081 da_082)) (by9 (by3 da_100 da_101 da_102) (by3 da_110 da_111 da_112) (by3 da_120 da_121 da_122) (by3 da_130 da_131 da_132) (by3 da_140 da_141 da_142) (by3 da_150 da_151 da_152) (by3 da_160 da_161 da_162) (by3 da_170 da_171 da_172) (by3 da_180 da_181 da_182))
theorem dc_000 : DestCOk 0 0 0 := fun a c ob oc => by kernel_rfl
theorem dc_001 : DestCOk 0 0 1 := fun a c ob oc => by kernel_rfl
theorem dc_002 : DestCOk 0 0 2 := fun a c ob oc => by kernel_rfl
theorem dc_010 : DestCOk 0 1 0 := fun a c ob oc => by kernel_rfl
theorem dc_011 : DestCOk 0 1 1 := fun a c ob oc => by kernel_rfl
theorem dc_012 : DestCOk 0 1 2 := fun a c ob oc => by kernel_rfl
theorem dc_020 : DestCOk 0 2 0 := fun a c ob oc => by kernel_rfl
theorem dc_021 : DestCOk 0 2 1 := fun a c ob oc => by kernel_rfl
theorem dc_022 : DestCOk 0 2 2 := fun a c ob oc => by kernel_rfl
theorem dc_030 : DestCOk 0 3 0 := fun a c ob oc => by kernel_rfl
theorem dc_031 : DestCOk 0 3 1 := fun a c ob oc => by kernel_rfl
theorem dc_032 : DestCOk 0 3 2 := fun a c ob oc => by kernel_rfl
theorem dc_040 : DestCOk 0 4 0 := fun a c ob oc => by kernel_rfl
theorem dc_041 : DestCOk 0 4 1 := fun a c ob oc => by kernel_rfl
theorem dc_042 : DestCOk 0 4 2 := fun a c ob oc => by kernel_rfl
theorem dc_050 : DestCOk 0 5 0 := fun a c ob oc => by kernel_rfl
theorem dc_051 : DestCOk 0 5 1 := fun a c ob oc => by kernel_rfl
theorem dc_052 : DestCOk 0 5 2 := fun a c ob oc => by kernel_rfl
theorem dc_060 : DestCOk 0 6 0 := fun a c ob oc => by kernel_rfl
theorem dc_061 : DestCOk 0 6 1 := fun a c ob oc => by kernel_rfl
theorem dc_062 : DestCOk 0 6 2 := fun a c ob oc => by kernel_rfl
theorem dc_070 : DestCOk 0 7 0 := fun a c ob oc => by kernel_rfl
theorem dc_071 : DestCOk 0 7 1 := fun a c ob oc => by kernel_rfl
theorem dc_072 : DestCOk 0 7 2 := fun a c ob oc => by kernel_rfl
theorem dc_080 : DestCOk 0 8 0 := fun a c ob oc => by kernel_rfl
theorem dc_081 : DestCOk 0 8 1 := fun a c ob oc => by kernel_rfl
theorem dc_082 : DestCOk 0 8 2 := fun a c ob oc => by kernel_rfl
theorem dc_100 : DestCOk 1 0 0 := fun a c ob oc => by kernel_rfl
theorem dc_101 : DestCOk 1 0 1 := fun a c ob oc => by kernel_rfl
theorem dc_102 : DestCOk 1 0 2 := fun a c ob oc => by kernel_rfl
theorem dc_110 : DestCOk 1 1 0 := fun a c ob oc => by kernel_rfl
theorem dc_111 : DestCOk 1 1 1 := fun a c ob oc => by kernel_rfl
theorem dc_112 : DestCOk 1 1 2 := fun a c ob oc => by kernel_rfl
theorem dc_120 : DestCOk 1 2 0 := fun a c ob oc => by kernel_rfl
theorem dc_121 : DestCOk 1 2 1 := fun a c ob oc => by kernel_rfl
theorem dc_122 : DestCOk 1 2 2 := fun a c ob oc => by kernel_rfl
theorem dc_130 : DestCOk 1 3 0 := fun a c ob oc => by kernel_rfl
theorem dc_131 : DestCOk 1 3 1 := fun a c ob oc => by kernel_rfl
theorem dc_132 : DestCOk 1 3 2 := fun a c ob oc => by kernel_rfl
theorem dc_140 : DestCOk 1 4 0 := fun a c ob oc => by kernel_rfl
theorem dc_141 : DestCOk 1 4 1 := fun a c ob oc => by kernel_rfl
theorem dc_142 : DestCOk 1 4 2 := fun a c ob oc => by kernel_rfl
theorem dc_150 : DestCOk 1 5 0 := fun a c ob oc => by kernel_rfl
theorem dc_151 : DestCOk 1 5 1 := fun a c ob oc => by kernel_rfl
theorem dc_152 : DestCOk 1 5 2 := fun a c ob oc => by kernel_rfl
theorem dc_160 : DestCOk 1 6 0 := fun a c ob oc => by kernel_rfl
theorem dc_161 : DestCOk 1 6 1 := fun a c ob oc => by kernel_rfl
theorem dc_162 : DestCOk 1 6 2 := fun a c ob oc => by kernel_rfl
theorem dc_170 : DestCOk 1 7 0 := fun a c ob oc => by kernel_rfl
theorem dc_171 : DestCOk 1 7 1 := fun a c ob oc => by kernel_rfl
theorem dc_172 : DestCOk 1 7 2 := fun a c ob oc => by kernel_rfl
theorem dc_180 : DestCOk 1 8 0 := fun a c ob oc => by kernel_rfl
theorem dc_181 : DestCOk 1 8 1 := fun a c ob oc => by kernel_rfl
theorem dc_182 : DestCOk 1 8 2 := fun a c ob oc => by kernel_rfl
theorem destc_all : ∀ np < 2, ∀ way < 9, ∀ nold < 3, DestCOk np way nold := by2 (by9 (by3 dc_000 dc_001 dc_002) (by3 dc_010 dc_011 dc_012) (by3 dc_020 dc_021 dc_022) (by3 dc_030 dc_031 dc_032) (by3 dc_040 dc_041 dc_042) (by3 dc_050 dc_051 dc_052) (by3 dc_060 dc_061 dc_062) (by3 dc_070 dc_071 dc_072) (by3 dc_080 dc_081 dc_082)) (by9 (by3 dc_100 dc_101 dc_102) (by3 dc_110 dc_111 dc_112) (by3 dc_120 dc_121 dc_122) (by3 dc_130 dc_131 dc_132) (by3 dc_140 dc_141 dc_142) (by3 dc_150 dc_151 dc_152) (by3 dc_160 dc_161 dc_162) (by3 dc_170 dc_171 dc_172) (by3 dc_180 dc_181 dc_182))
end Mine

namespace Mine
open PySem PySem.W
theorem th1_00 (ob oc : Nat) : all9 (fun a c => third 0 true 0 a c ob oc) = true := by kernel_rfl
theorem th0_00 (a c ob oc : Nat) : third 0 false 0 a c ob oc = true := by kernel_rfl
theorem th1_010 (oc : Nat) : all9 (fun a c => third 0 true 1 a c 0 oc) = true := by kernel_rfl
theorem th0_010 (a c oc : Nat) : third 0 false 1 a c 0 oc = true := by kernel_rfl
theorem th1_0200 : all9 (fun a c => third 0 true 2 a c 0 0) = true := by kernel_rfl
theorem th0_0200 (a c : Nat) : third 0 false 2 a c 0 0 = true := by kernel_rfl
theorem th1_0201 : all9 (fun a c => third 0 true 2 a c 0 1) = true := by kernel_rfl
theorem th0_0201 (a c : Nat) : third 0 false 2 a c 0 1 = true := by kernel_rfl
theorem th1_0202 : all9 (fun a c => third 0 true 2 a c 0 2) = true := by kernel_rfl
theorem th0_0202 (a c : Nat) : third 0 false 2 a c 0 2 = true := by kernel_rfl
theorem th1_011 (oc : Nat) : all9 (fun a c => third 0 true 1 a c 1 oc) = true := by kernel_rfl
theorem th0_011 (a c oc : Nat) : third 0 false 1 a c 1 oc = true := by kernel_rfl
theorem th1_0210 : all9 (fun a c => third 0 true 2 a c 1 0) = true := by kernel_rfl
theorem th0_0210 (a c : Nat) : third 0 false 2 a c 1 0 = true := by kernel_rfl
theorem th1_0211 : all9 (fun a c => third 0 true 2 a c 1 1) = true := by kernel_rfl
theorem th0_0211 (a c : Nat) : third 0 false 2 a c 1 1 = true := by kernel_rfl
theorem th1_0212 : all9 (fun a c => third 0 true 2 a c 1 2) = true := by kernel_rfl
theorem th0_0212 (a c : Nat) : third 0 false 2 a c 1 2 = true := by kernel_rfl
theorem th1_012 (oc : Nat) : all9 (fun a c => third 0 true 1 a c 2 oc) = true := by kernel_rfl
theorem th0_012 (a c oc : Nat) : third 0 false 1 a c 2 oc = true := by kernel_rfl
theorem th1_0220 : all9 (fun a c => third 0 true 2 a c 2 0) = true := by kernel_rfl
theorem th0_0220 (a c : Nat) : third 0 false 2 a c 2 0 = true := by kernel_rfl
theorem th1_0221 : all9 (fun a c => third 0 true 2 a c 2 1) = true := by kernel_rfl
theorem th0_0221 (a c : Nat) : third 0 false 2 a c 2 1 = true := by kernel_rfl
theorem th1_0222 : all9 (fun a c => third 0 true 2 a c 2 2) = true := by kernel_rfl
theorem th0_0222 (a c : Nat) : third 0 false 2 a c 2 2 = true := by kernel_rfl
theorem th1_10 (ob oc : Nat) : all9 (fun a c => third 1 true 0 a c ob oc) = true := by kernel_rfl
theorem th0_10 (a c ob oc : Nat) : third 1 false 0 a c ob oc = true := by kernel_rfl
theorem th1_110 (oc : Nat) : all9 (fun a c => third 1 true 1 a c 0 oc) = true := by kernel_rfl
theorem th0_110 (a c oc : Nat) : third 1 false 1 a c 0 oc = true := by kernel_rfl
theorem th1_1200 : all9 (fun a c => third 1 true 2 a c 0 0) = true := by kernel_rfl
theorem th0_1200 (a c : Nat) : third 1 false 2 a c 0 0 = true := by kernel_rfl
theorem th1_1201 : all9 (fun a c => third 1 true 2 a c 0 1) = true := by kernel_rfl
theorem th0_1201 (a c : Nat) : third 1 false 2 a c 0 1 = true := by kernel_rfl
theorem th1_1202 : all9 (fun a c => third 1 true 2 a c 0 2) = true := by kernel_rfl
theorem th0_1202 (a c : Nat) : third 1 false 2 a c 0 2 = true := by kernel_rfl
theorem th1_111 (oc : Nat) : all9 (fun a c => third 1 true 1 a c 1 oc) = true := by kernel_rfl
theorem th0_111 (a c oc : Nat) : third 1 false 1 a c 1 oc = true := by kernel_rfl
theorem th1_1210 : all9 (fun a c => third 1 true 2 a c 1 0) = true := by kernel_rfl
theorem th0_1210 (a c : Nat) : third 1 false 2 a c 1 0 = true := by kernel_rfl
theorem th1_1211 : all9 (fun a c => third 1 true 2 a c 1 1) = true := by kernel_rfl
theorem th0_1211 (a c : Nat) : third 1 false 2 a c 1 1 = true := by kernel_rfl
theorem th1_1212 : all9 (fun a c => third 1 true 2 a c 1 2) = true := by kernel_rfl
theorem th0_1212 (a c : Nat) : third 1 false 2 a c 1 2 = true := by kernel_rfl
theorem th1_112 (oc : Nat) : all9 (fun a c => third 1 true 1 a c 2 oc) = true := by kernel_rfl
theorem th0_112 (a c oc : Nat) : third 1 false 1 a c 2 oc = true := by kernel_rfl
theorem th1_1220 : all9 (fun a c => third 1 true 2 a c 2 0) = true := by kernel_rfl
theorem th0_1220 (a c : Nat) : third 1 false 2 a c 2 0 = true := by kernel_rfl
theorem th1_1221 : all9 (fun a c => third 1 true 2 a c 2 1) = true := by kernel_rfl
theorem th0_1221 (a c : Nat) : third 1 false 2 a c 2 1 = true := by kernel_rfl
theorem th1_1222 : all9 (fun a c => third 1 true 2 a c 2 2) = true := by kernel_rfl
theorem th0_1222 (a c : Nat) : third 1 false 2 a c 2 2 = true := by kernel_rfl
theorem third_t : ∀ np < 2, ∀ nold < 3, ∀ a < 3, ∀ c < 3, ∀ ob < 3, ∀ oc < 3, third np true nold a c ob oc = true := by2 (by3 (fun a ha c hc ob _ oc _ => all9_ok (th1_00 ob oc) a ha c hc) (fun a ha c hc => by3 (fun oc _ => all9_ok (th1_010 oc) a ha c hc) (fun oc _ => all9_ok (th1_011 oc) a ha c hc) (fun oc _ => all9_ok (th1_012 oc) a ha c hc)) (fun a ha c hc => by3 (by3 (all9_ok th1_0200 a ha c hc) (all9_ok th1_0201 a ha c hc) (all9_ok th1_0202 a ha c hc)) (by3 (all9_ok th1_0210 a ha c hc) (all9_ok th1_0211 a ha c hc) (all9_ok th1_0212 a ha c hc)) (by3 (all9_ok th1_0220 a ha c hc) (all9_ok th1_0221 a ha c hc) (all9_ok th1_0222 a ha c hc)))) (by3 (fun a ha c hc ob _ oc _ => all9_ok (th1_10 ob oc) a ha c hc) (fun a ha c hc => by3 (fun oc _ => all9_ok (th1_110 oc) a ha c hc) (fun oc _ => all9_ok (th1_111 oc) a ha c hc) (fun oc _ => all9_ok (th1_112 oc) a ha c hc)) (fun a ha c hc => by3 (by3 (all9_ok th1_1200 a ha c hc) (all9_ok th1_1201 a ha c hc) (all9_ok th1_1202 a ha c hc)) (by3 (all9_ok th1_1210 a ha c hc) (all9_ok th1_1211 a ha c hc) (all9_ok th1_1212 a ha c hc)) (by3 (all9_ok th1_1220 a ha c hc) (all9_ok th1_1221 a ha c hc) (all9_ok th1_1222 a ha c hc))))
theorem third_f : ∀ np < 2, ∀ nold < 3, ∀ a < 3, ∀ c < 3, ∀ ob < 3, ∀ oc < 3, third np false nold a c ob oc = true := by2 (by3 (fun a _ c _ ob _ oc _ => th0_00 a c ob oc) (fun a _ c _ => by3 (fun oc _ => th0_010 a c oc) (fun oc _ => th0_011 a c oc) (fun oc _ => th0_012 a c oc)) (fun a _ c _ => by3 (by3 (th0_0200 a c) (th0_0201 a c) (th0_0202 a c)) (by3 (th0_0210 a c) (th0_0211 a c) (th0_0212 a c)) (by3 (th0_0220 a c) (th0_0221 a c) (th0_0222 a c)))) (by3 (fun a _ c _ ob _ oc _ => th0_10 a c ob oc) (fun a _ c _ => by3 (fun oc _ => th0_110 a c oc) (fun oc _ => th0_111 a c oc) (fun oc _ => th0_112 a c oc)) (fun a _ c _ => by3 (by3 (th0_1200 a c) (th0_1201 a c) (th0_1202 a c)) (by3 (th0_1210 a c) (th0_1211 a c) (th0_1212 a c)) (by3 (th0_1220 a c) (th0_1221 a c) (th0_1222 a c))))
end Mine

namespace Mine
open MineH
open PySem PySem.W PyProof.Rows PySem.Calls PySem.SeqAt

/-! equality that computes is equality -/
theorem dsEqF_eq {f : Mine.D → Mine.D → Bool} (hf : ∀ a b, f a b = true → a = b) {x y : List Mine.D} (h : dsEqF f x y = true) : x = y := (all2_F2 h).eq hf
theorem ksEqF_eq {f : Mine.D → Mine.D → Bool} (hf : ∀ a b, f a b = true → a = b) {x y : List (Key × Mine.D)} (h : ksEqF f x y = true) : x = y := (all2_F2 h).eq fun a b h => Prod.ext (keyEq_eq (and2 h).1) (hf _ _ (and2 h).2)
theorem fsEqF_eq {f : Mine.D → Mine.D → Bool} (hf : ∀ a b, f a b = true → a = b) {x y : List (Str × Mine.D)} (h : fsEqF f x y = true) : x = y := (all2_F2 h).eq fun a b h => Prod.ext (strEq_iff.mp (and2 h).1) (hf _ _ (and2 h).2)
theorem om1_t {α : Type} {o : Option α} {f : α → Bool} {P : Prop} (h : om1 o false f = true) (k : ∀ y, o = some y → f y = true → P) : P := osp1 h k fun _ e => nof e
theorem dEq1_eq {f : Mine.D → Mine.D → Bool} (hf : ∀ a b, f a b = true → a = b) {a b : Mine.D} (h : dEq1 f a b = true) : a = b := by
  unfold dEq1 at h
  cases a with
  | none => exact (D.isN_eq h).symm
  | bool x => exact om1_t h fun y q e => by rw [D.b?_eq q, eq_of_beq e]
  | int x => exact om1_t h fun y q e => by rw [D.i?_eq q, (Z.eqB_iff _ _).mp e]
  | str x => exact om1_t h fun y q e => by rw [D.s?_eq q, strEq_iff.mp e]
  | byt x => exact om1_t h fun y q e => by rw [D.y?_eq q, bytesEq_iff.mp e]
  | tup x => exact om1_t h fun y q e => by rw [D.t?_eq q, dsEqF_eq hf e]
  | lst x => exact om1_t h fun y q e => by rw [D.l?_eq q, dsEqF_eq hf e]
  | dct x => exact om1_t h fun y q e => by rw [D.d?_eq q, ksEqF_eq hf e]
  | inst c x =>
    exact osp2 h (fun d y q e => by rw [D.inst?_eq q, Nat.eq_of_beq_eq_true (and2 e).1, fsEqF_eq hf (and2 e).2]) fun _ e => nof e
  | sym i => exact om1_t h fun y q e => by rw [D.sy?_eq q, Nat.eq_of_beq_eq_true e]
theorem dEq_eq (n : Nat) : ∀ (a b : Mine.D), dEq n a b = true → a = b := by
  induction n with
  | zero => intro a b h; exact nof h
  | succ n ih => intro a b h; exact dEq1_eq ih h
theorem preEq_eq {n : Nat} : ∀ {x y : List (Key × Mine.D)}, preEq n x y = true → ∃ X, y = x ++ X
  | [], y, _ => ⟨y, rfl⟩
  | (k, a) :: r, (l, b) :: t, h => by
    replace h := and3 h
    obtain ⟨X, e⟩ := preEq_eq h.2.2
    exact ⟨X, by rw [show k = l from keyEq_iff.mp h.1, show a = b from dEq_eq n _ _ h.2.1, e]; rfl⟩
  | _ :: _, [], h => by cases h

/-! data that may be compared -/
theorem goodL_eq {n : Nat} (hn : ∀ d, goodD n d = true → eqD n d d = some true) (l : List Mine.D) : goodL (goodD n) l = true → eqL (eqD n) l l = some true := by
  induction l with
  | nil => intro _; rfl
  | cons d r ih =>
    intro h
    replace h := and2 h
    show omb (eqD n d d) none (eqL (eqD n) r r) (om1 (eqL (eqD n) r r) none fun _ => some false) = some true
    rw [hn d h.1]
    exact ih h.2
theorem goodD_eq (n : Nat) : ∀ (d : Mine.D), goodD n d = true → eqD n d d = some true := by
  induction n with
  | zero => intro d h; exact nof h
  | succ n ih =>
    intro d h
    cases d with
    | none => rfl
    | bool b => exact congrArg some (beq_self_eq_true b)
    | int i => exact congrArg some ((Z.eqB_iff i i).mpr rfl)
    | str x => exact congrArg some (strEq_iff.mpr rfl)
    | byt x => exact congrArg some (bytesEq_iff.mpr rfl)
    | tup l => exact goodL_eq ih l h
    | lst l =>
      show (bt (Nat.beq l.length l.length) (some false) (eqL (eqD n) l l)) = _
      rw [Nat.beq_refl]
      exact goodL_eq ih l h
    | _ => exact nof h

/-! what is not walked -/
noncomputable def OrcOk (p : Pm) (B : Heap) (orc : Orc) (N : Nat) : Prop := ∀ i ws σ d σ', orc i ws σ = some (d, σ') → ∀ f, nth tbl.fns i = some f → ∀ A, AOk A N → CallR p B A f.addr ws σ d σ'
theorem and_mk {a b : Bool} (h1 : a = true) (h2 : b = true) : (a && b) = true := by rw [h1, h2]; rfl
theorem c_fns (P : Params) : tbl.fns.all (fnB (Kf P) gt 60) = true := and_mk (c_fn0 P) (and_mk (c_fn1 P) (and_mk (c_fn2 P) (and_mk (c_fn3 P) (and_mk (c_fn4 P) (and_mk (c_fn5 P) (and_mk (c_fn6 P) (and_mk (c_fn7 P) (and_mk (c_fn8 P) (and_mk (c_fn9 P) (and_mk (c_fn10 P) (and_mk (c_fn11 P) (and_mk (c_fn12 P) (and_mk (c_fn13 P) (and_mk (c_fn14 P) (and_mk (c_fn15 P) (and_mk (c_fn16 P) (and_mk (c_fn17 P) (and_mk (c_fn18 P) (and_mk (c_fn19 P) (and_mk (c_fn20 P) (and_mk (c_fn21 P) (and_mk (c_fn22 P) (and_mk (c_fn23 P) (and_mk (c_fn24 P) (and_mk (c_fn25 P) (and_mk (c_fn26 P) (and_mk (c_fn27 P) (and_mk (c_fn28 P) (and_mk (c_fn29 P) (and_mk (c_fn30 P) (and_mk (c_fn31 P) (and_mk (c_fn32 P) (and_mk (c_fn33 P) (and_mk (c_fn34 P) (and_mk (c_fn35 P) (and_mk (c_fn36 P) (and_mk (c_fn37 P) (and_mk (c_fn38 P) (and_mk (c_fn39 P) (and_mk (c_fn40 P) (and_mk (c_fn41 P) (and_mk (c_fn42 P) (and_mk (c_fn43 P) (and_mk (c_fn44 P) (and_mk (c_fn45 P) (and_mk (c_fn46 P) (and_mk (c_fn47 P) (and_mk (c_fn48 P) (and_mk (c_fn49 P) (and_mk (c_fn50 P) (and_mk (c_fn51 P) (and_mk (c_fn52 P) (and_mk (c_fn53 P) (and_mk (c_fn54 P) (and_mk (c_fn55 P) (and_mk (c_fn56 P) (and_mk (c_fn57 P) (and_mk (c_fn58 P) (and_mk (c_fn59 P) (rfl))))))))))))))))))))))))))))))))))))))))))))))))))))))))))))
section
variable {p : Pm} {mg mb : Str → Option Value} {B : Heap} {orc : Orc} {N m : Nat} {A : Around}
theorem ge_ (Y : Bs (Kf p.w.params) mg mb B) (k : Pk p) (hN : 1 ≤ N) (o : OrcOk p B orc N) : Ge p (Kf p.w.params) mg mb tbl B gt orc N where
  toGd := gd_ Y k
  hN := hN
  fn i f e := let ⟨fd, body, no, a, b, c⟩ := fnB_eq (nth_all (c_fns p.w.params) e); ⟨fd, body, no, a, b, c⟩
  mp := ⟨_, c_mp _⟩
  orc := o
theorem is_ (Y : Bs (Kf p.w.params) mg mb B) (k : Pk p) (hN : 1 ≤ N) (o : OrcOk p B orc N) (m : Nat) : IS p B tbl orc gt N m := is_all (ge_ Y k hN o) m
/-- what was reckoned is what a call gives -/
theorem call_of (Y : Bs (Kf p.w.params) mg mb B) (k : Pk p) (hN : 1 ≤ N) (o : OrcOk p B orc N) {i : Nat} {f : Fn} (hf : nth tbl.fns i = some f) {ws : List W} {σ σ' : List C} {d : Mine.D} (e : (run tbl orc m).fn i ws σ = some (d, σ')) (a : AOk A (m + N)) : CallR p B A f.addr ws σ d σ' :=
  (is_ Y k hN o m).fn a hf e
theorem orc0_ok : OrcOk p B orc0 1 := fun i ws σ d σ' e => by cases e

/-! cells that stand for the same -/
noncomputable def CEq (p : Pm) (c c' : C) : Prop := (∀ h M a, CRel p h M a c ↔ CRel p h M a c') ∧ (c = .dead ↔ c' = .dead)
theorem CEq.symm {c c' : C} (h : CEq p c c') : CEq p c' c := ⟨fun x y z => (h.1 x y z).symm, h.2.symm⟩
theorem CEq.sym {c : C} {i : Nat} (e : p.cs i = c) (hd : c ≠ .dead) : CEq p c (.sym i) := by
  subst e
  exact ⟨fun h M a => ⟨fun x => .sym i x, fun x => by cases x with | sym _ y => exact y⟩, ⟨fun q => absurd q hd, fun q => by cases q⟩⟩
inductive CEqs (p : Pm) : List C → List C → Prop
  | nil : CEqs p [] []
  | cons {c c' : C} {σ τ : List C} : CEq p c c' → CEqs p σ τ → CEqs p (c :: σ) (c' :: τ)
theorem CEqs.symm {σ τ : List C} (h : CEqs p σ τ) : CEqs p τ σ := by
  induction h with
  | nil => exact .nil
  | cons a _ ih => exact .cons a.symm ih
theorem CEqs.length {σ τ : List C} (h : CEqs p σ τ) : σ.length = τ.length := by
  induction h with
  | nil => rfl
  | cons _ _ ih => simp [ih]
theorem CEqs.get {σ τ : List C} (h : CEqs p σ τ) {k : Nat} {c : C} (e : τ[k]? = some c) : ∃ c', σ[k]? = some c' ∧ CEq p c' c := by
  induction h generalizing k with
  | nil => simp at e
  | cons a _ ih =>
    cases k with
    | zero => simp at e; subst e; exact ⟨_, rfl, a⟩
    | succ k => simp at e; simpa using ih e
theorem St.congr {h : Heap} {M : List Addr} {φ : List (Option Addr)} {σ τ : List C} (q : CEqs p σ τ) (S : St p B h M φ σ) : St p B h M φ τ where
  base := S.base
  low := S.low
  sub := S.sub
  nd := S.nd
  len := S.len.trans q.length
  dead k := by
    rw [S.dead k]
    constructor
    · intro e
      obtain ⟨c, a, b⟩ := q.symm.get e
      rw [a, b.2.mpr rfl]
    · intro e
      obtain ⟨c, a, b⟩ := q.get e
      rw [a, b.2.mpr rfl]
  cells k a c e1 e2 := by
    obtain ⟨c', x, y⟩ := q.get e2
    exact (y.1 h M a).mp (S.cells k a c' e1 x)
theorem CallR.congr {a : Addr} {ws : List W} {σ σ' τ τ' : List C} {d d' : Mine.D} (x : CallR p B A a ws σ d σ') (q : CEqs p σ τ) (q' : CEqs p σ' τ') (hd : ∀ h M v, VRel p h M v d → VRel p h M v d') : CallR p B A a ws τ d' τ' :=
  fun s vs M φ R S V k => x s vs M φ R (S.congr q.symm) V fun v h' tk M' φ' S' m l r => k v h' tk M' φ' (S'.congr q') m l (hd _ _ _ r)
end
end Mine

namespace Mine
open MineH
open PySem PySem.W PyProof.Rows PySem.Calls PySem.SeqAt

/-! a list is unpacked -/
section
variable {prog : Program} {w : World} {A : Around} {E : Value → Shared → Prop} {s : Shared}
theorem draw_list {it l : Addr} {items : Array Value} (hne : l ≠ it) : ∀ (n i : Nat) (s : Shared) (Q : List Value → Shared → Prop), s.heap.IsListIter it l i → s.heap.IsList l items → i + n ≤ items.size →
    (∀ h', h'.IsListIter it l (i + n) → Heap.SameBut it s.heap h' → Q ((items.toList.drop i).take n) { s with heap := h' }) → wpAny (model prog w) A (draw (.ref it) n) Q E s
  | 0, i, s, Q, hit, _, _, hQ => by
    show wpAny _ _ (pure []) Q E s
    exact wpAny_pure (by simpa using hQ s.heap hit (Heap.SameBut.refl ..))
  | n + 1, i, s, Q, hit, hl, hle, hQ => by
    have hlt : i < items.size := by omega
    show wpAny _ _ (pyNext (.ref it) >>= _) Q E s
    refine wpAny_bind (wpAny_pyNext_list_item hit hl (x := items[i]) (by simp [hlt]) fun h₁ hit₁ hs₁ => ?_)
    have hl₁ : h₁.IsList l items := let ⟨o, e, r⟩ := hl; ⟨o, (hs₁.2 l hne).trans e, r⟩
    refine wpAny_bind (wpAny_holding (draw_list hne n (i + 1) _ _ hit₁ hl₁ (by omega) fun h₂ hit₂ hs₂ => wpAny_pure ?_))
    have hd : items.toList.drop i = items[i] :: items.toList.drop (i + 1) := by simp [List.drop_eq_getElem_cons, hlt]
    have := hQ h₂ (by rw [show i + (n + 1) = i + 1 + n by omega]; exact hit₂) (hs₁.trans hs₂)
    rw [hd, List.take_succ_cons] at this
    exact this
theorem unpackItems_list {l : Addr} {items : Array Value} {Q : List Value → Shared → Prop} (hh : A.handled = none) (hl : s.heap.IsList l items)
    (hQ : ∀ h', Heap.ExtBut s.heap.objs.size s.heap h' → Q items.toList { s with heap := h' }) : wpAny (model prog w) A (unpackItems (.ref l) items.size none) Q E s := by
  have hlt : l ≠ s.heap.objs.size := by obtain ⟨o, ho, _⟩ := hl; exact Nat.ne_of_lt (Heap.lt_size ho)
  unfold unpackItems
  refine wpAny_bind ?_
  · unfold notIterableAtAll
    refine wpAny_bind (wpAny_specialOf hl.typeIs slot_list_iter.lookup ?_)
    refine wpAny_pure ?_
    simp only [Bool.false_eq_true, if_false]
    refine wpAny_bind (wpAny_holding (wpAny_pyIter_list hl ?_))
    have hl0 : ∀ o, (s.heap.push o).IsList l items := fun o' => let ⟨o, e, r⟩ := hl; ⟨o, Heap.get?_push_of_some _ e, r⟩
    refine wpAny_bind (wpAny_holding (draw_list hlt items.size 0 _ _ ⟨_, Heap.get?_push_size _ rfl, rfl, rfl⟩ (hl0 _) (by omega) fun h₁ hit₁ hs₁ => ?_))
    have hall : List.take items.size (List.drop 0 items.toList) = items.toList := by
      rw [List.drop_zero]; exact List.take_of_length_le (by simp)
    rw [hall]
    rw [if_neg (by simp)]
    have hl₁ : h₁.IsList l items := let ⟨o, e, r⟩ := hl0 { cls := .type "list_iterator", data := .fields #[.ref l, .int 0 0] }; ⟨o, (hs₁.2 l hlt).trans e, r⟩
    refine wpAny_bind (wpAny_holding (wpAny_pyNext_list_end hh hit₁ hl₁ (by simp) fun h₂ he₂ => ?_))
    simp only [Option.isSome_none, Bool.false_eq_true, if_false]
    refine wpAny_pure (hQ h₂ fun b o hb e => he₂ b o hb (hs₁.extBut b o hb (Heap.get?_push_of_some _ e)))
theorem assign_Tuple_list {env : Env} {elts : List Expr} {x1} {pos : Pos} {l : Addr} {items : Array Value} {Q : Unit → Shared → Prop} (hh : A.handled = none) (hl : s.heap.IsList l items)
    (hn : (assignEach elts env).length = items.size) (hstar : (assignEach elts env).findIdx? (·.1) = none)
    (h : ∀ h', Heap.ExtBut s.heap.objs.size s.heap h' → wpAny (model prog w) A (assignInOrder ((assignEach elts env).map (·.2)) items.toList) Q E { s with heap := h' }) :
    wpAny (model prog w) A (assign (.Tuple elts x1 pos) env (.ref l)) Q E s := by
  rw [assign_Tuple]
  refine wpAny_bind (wpAny_standAt ?_)
  unfold unpack
  rw [hn, hstar]
  exact wpAny_bind (wpAny_holding (unpackItems_list hh hl h))
theorem setItem_plain {l : Addr} {items : Array Value} {k : Int} {t : Tok} {v : Value} {Q : Unit → Shared → Prop} (hl : s.heap.PlainList l items)
    (h0 : 0 ≤ k) (hfit : k < 2 ^ 63) (hn : k < items.size)
    (hQ : ∀ h', h'.PlainList l (items.setIfInBounds k.toNat v) → Heap.SameBut l s.heap h' → Q () { s with heap := h' }) :
    wpAny (model prog w) A (setItem (.ref l) (.int k t) v) Q E s := by
  obtain ⟨ne, ho⟩ := id hl
  have hc : s.heap.IsList l items := hl.isList
  unfold setItem
  try with_reducible refine wpAny_holding ?_
  first | refine wpAny_bind (wpAny_pure ?_) | skip
  refine wpAny_bind (wpAny_sequenceKey hc.typeIs (by decide) ?_)
  refine wpAny_bind (wpAny_callSpecial?_slot (name := Str.ofString "__setitem__") hc.typeIs slot_list_setitem
    (wpAny_call_entry slot_list_setitem hc.typeIs entry_list_setitem ?_ (args_list_setitem _ _ _)))
  show wpAny _ _ (Builtin.List.listSubscript? (.int k t) >>= _) _ _ s
  refine wpAny_bind (wpAny_listSubscript_int (fitsIndex_of h0 hfit) ?_)
  clear hfit
  obtain ⟨j, rfl⟩ := Int.eq_ofNat_of_zero_le h0
  have hj : j < items.size := by omega
  have hx' : items[j]? = some items[j] := Array.getElem?_eq_getElem hj
  show wpAny _ _ ((seqItemAt l j >>= fun r => pure (r.map (j, ·))) >>= _) _ _ s
  refine wpAny_bind (wpAny_bind (wpAny_seqItemAt ho rfl (wpAny_pure ?_)))
  rw [hx']
  show wpAny _ _ (setSeqItemAt l j v >>= _) _ _ s
  have hfin : (s.heap.update l (Obj.mapSeq (·.setIfInBounds j v))).PlainList l (items.setIfInBounds j v) :=
    ⟨_, (Heap.get?_update_self _ ho (by rfl)).trans rfl⟩
  refine wpAny_bind (wpAny_setSeqItemAt ho rfl ?_)
  first
    | exact wpAny_bind (wpAny_pure (wpAny_pure ⟨.none, rfl, wpAny_pure (hQ _ hfin (Heap.SameBut.update ..))⟩))
    | exact wpAny_pure ⟨.none, rfl, wpAny_pure (hQ _ hfin (Heap.SameBut.update ..))⟩
end
end Mine

namespace Mine
open MineH
open PySem PySem.W PyProof.Rows PySem.Calls PySem.SeqAt

/-! the draws: what the third statement reckons -/
noncomputable def retX : X := .bin .mod (.bin .add (.sub (.loc 2) (.bin .mod (.loc 3) (.bi .len [.loc 2]))) (.bin .fdiv (.bin .mul (.bin .fdiv (.loc 3) (.bi .len [.loc 2])) (.bin .add (.bin .mul (.lit (.int 7)) (.loc 3)) (.lit (.int 3)))) (.lit (.int 4)))) (.loc 1)
noncomputable def drawV (c : Int) (sp n l : Nat) : Int := Int.fmod (c + Int.fdiv (.ofNat (sp / n * (7 * sp + 3))) 4) (.ofNat l)
section
variable {L : List Mine.D} {σ : List C} {sp m l : Nat} {c : Int} {w0 : W}
noncomputable def drawρ (w0 : W) (L : List Mine.D) (sp l : Nat) : List (Option W) := [some w0, some (.d (.int (.ofNat l))), some (.d (.lst L)), some (.d (.int (.ofNat sp)))]
theorem fmod_nat (a b : Nat) : Int.fmod (.ofNat a) (.ofNat (b + 1)) = .ofNat (a % (b + 1)) := by cases a with | zero => simp [Int.fmod] | succ a => rfl
theorem fdiv_nat (a b : Nat) : Int.fdiv (.ofNat a) (.ofNat (b + 1)) = .ofNat (a / (b + 1)) := by cases a with | zero => simp [Int.fdiv] | succ a => rfl
theorem small_of {n : Nat} (h : n < 1000) : small n = true := by unfold small; exact (Nat.blt_eq ..).mpr h
theorem dl_len {k : Nat} (hL : L.length = m + 1) (hm : m < 900) : (run tbl orc0 (k + 2)).ev (drawρ w0 L sp l) σ (.bi .len [.loc 2]) = some (.d (.int (.ofNat (m + 1))), σ) := by
  show (om1 (lenN L.length) none fun r => some (W.d r, σ)) = _
  unfold lenN
  rw [hL, small_of (by omega)]
  rfl
theorem dl_mod {k : Nat} (hL : L.length = m + 1) (hm : m < 900) : (run tbl orc0 (k + 3)).ev (drawρ w0 L sp l) σ (.bin .mod (.loc 3) (.bi .len [.loc 2])) = some (.d (.int (.ofNat (sp % (m + 1)))), σ) := by
  show (omD ((run tbl orc0 (k + 2)).ev (drawρ w0 L sp l) σ (.bi .len [.loc 2])) none fun y σ₂ => (om1 (binEv .mod (.int (.ofNat sp)) y) none fun d => some (W.d d, σ₂))) = _
  rw [dl_len hL hm]
  show some (W.d (.int (Int.fmod (.ofNat sp) (.ofNat (m + 1)))), σ) = _
  rw [fmod_nat]
theorem dl_div {k : Nat} (hL : L.length = m + 1) (hm : m < 900) : (run tbl orc0 (k + 3)).ev (drawρ w0 L sp l) σ (.bin .fdiv (.loc 3) (.bi .len [.loc 2])) = some (.d (.int (.ofNat (sp / (m + 1)))), σ) := by
  show (omD ((run tbl orc0 (k + 2)).ev (drawρ w0 L sp l) σ (.bi .len [.loc 2])) none fun y σ₂ => (om1 (binEv .fdiv (.int (.ofNat sp)) y) none fun d => some (W.d d, σ₂))) = _
  rw [dl_len hL hm]
  show (om1 (bt (small m) none (some (Mine.D.int (Int.fdiv (.ofNat sp) (.ofNat (m + 1)))))) none fun d => some (W.d d, σ)) = _
  rw [small_of (by omega), fdiv_nat]
  rfl
theorem dl_sub {k : Nat} (hL : L.length = m + 1) (hm : m < 900) (hc : nth L (sp % (m + 1)) = some (.int c)) : (run tbl orc0 (k + 4)).ev (drawρ w0 L sp l) σ (.sub (.loc 2) (.bin .mod (.loc 3) (.bi .len [.loc 2]))) = some (.d (.int c), σ) := by
  show (omD ((run tbl orc0 (k + 3)).ev (drawρ w0 L sp l) σ (.bin .mod (.loc 3) (.bi .len [.loc 2]))) none fun j σ₂ => (om1 (view σ₂ (.d (.lst L))) none fun x => (om1 (subEv x j) none fun r => some (W.d r, σ₂)))) = _
  rw [dl_mod hL hm]
  show (om1 (om1 (bt (small (sp % (m + 1))) none (some (sp % (m + 1)))) none fun n => nth L n) none fun r => some (W.d r, σ)) = _
  rw [small_of (by have := Nat.mod_lt sp (show m + 1 > 0 by omega); omega)]
  dsimp only
  rw [hc]
  rfl
theorem dl_prod {k : Nat} (hL : L.length = m + 1) (hm : m < 900) (hs : sp < 900) : (run tbl orc0 (k + 4)).ev (drawρ w0 L sp l) σ (.bin .mul (.bin .fdiv (.loc 3) (.bi .len [.loc 2])) (.bin .add (.bin .mul (.lit (.int 7)) (.loc 3)) (.lit (.int 3)))) = some (.d (.int (.ofNat (sp / (m + 1) * (7 * sp + 3)))), σ) := by
  show (omD ((run tbl orc0 (k + 3)).ev (drawρ w0 L sp l) σ (.bin .fdiv (.loc 3) (.bi .len [.loc 2]))) none fun x σ₁ => (omD ((run tbl orc0 (k + 3)).ev (drawρ w0 L sp l) σ₁ (.bin .add (.bin .mul (.lit (.int 7)) (.loc 3)) (.lit (.int 3)))) none fun y σ₂ => (om1 (binEv .mul x y) none fun d => some (W.d d, σ₂)))) = _
  rw [dl_div hL hm]
  show (om1 (bt (small (sp / (m + 1))) none (some (Mine.D.int (.ofNat (sp / (m + 1) * (7 * sp + 3)))))) none fun d => some (W.d d, σ)) = _
  rw [small_of (by have := Nat.div_le_self sp (m + 1); omega)]
  rfl
theorem dl_quot {k : Nat} (hL : L.length = m + 1) (hm : m < 900) (hs : sp < 900) : (run tbl orc0 (k + 5)).ev (drawρ w0 L sp l) σ (.bin .fdiv (.bin .mul (.bin .fdiv (.loc 3) (.bi .len [.loc 2])) (.bin .add (.bin .mul (.lit (.int 7)) (.loc 3)) (.lit (.int 3)))) (.lit (.int 4))) = some (.d (.int (Int.fdiv (.ofNat (sp / (m + 1) * (7 * sp + 3))) 4)), σ) := by
  show (omD ((run tbl orc0 (k + 4)).ev (drawρ w0 L sp l) σ (.bin .mul (.bin .fdiv (.loc 3) (.bi .len [.loc 2])) (.bin .add (.bin .mul (.lit (.int 7)) (.loc 3)) (.lit (.int 3))))) none fun x σ₁ => (omD ((run tbl orc0 (k + 4)).ev (drawρ w0 L sp l) σ₁ (.lit (.int 4))) none fun y σ₂ => (om1 (binEv .fdiv x y) none fun d => some (W.d d, σ₂)))) = _
  rw [dl_prod hL hm hs]
  rfl
theorem dl_ret {k : Nat} (hL : L.length = m + 1) (hm : m < 900) (hs : sp < 900) (hc : nth L (sp % (m + 1)) = some (.int c)) : (run tbl orc0 (k + 7)).ev (drawρ w0 L sp (l + 1)) σ retX = some (.d (.int (drawV c sp (m + 1) (l + 1))), σ) := by
  show (omD (omD ((run tbl orc0 (k + 5)).ev (drawρ w0 L sp (l + 1)) σ (.sub (.loc 2) (.bin .mod (.loc 3) (.bi .len [.loc 2])))) none fun x σ₁ => (omD ((run tbl orc0 (k + 5)).ev (drawρ w0 L sp (l + 1)) σ₁ (.bin .fdiv (.bin .mul (.bin .fdiv (.loc 3) (.bi .len [.loc 2])) (.bin .add (.bin .mul (.lit (.int 7)) (.loc 3)) (.lit (.int 3)))) (.lit (.int 4)))) none fun y σ₂ => (om1 (binEv .add x y) none fun d => some (W.d d, σ₂)))) none fun x σ₁ => (omD ((run tbl orc0 (k + 6)).ev (drawρ w0 L sp (l + 1)) σ₁ (.loc 1)) none fun y σ₂ => (om1 (binEv .mod x y) none fun d => some (W.d d, σ₂)))) = _
  rw [dl_sub (k := k + 1) hL hm hc]
  dsimp only
  rw [dl_quot hL hm hs]
  rfl
theorem dl_xs {k : Nat} (hL : L.length = m + 1) (hm : m < 900) (hs : sp < 900) (hc : nth L (sp % (m + 1)) = some (.int c)) : xs (run tbl orc0 (k + 8)) (drawρ w0 L sp (l + 1)) σ [.ret retX] = some (.ret (.int (drawV c sp (m + 1) (l + 1))), drawρ w0 L sp (l + 1), σ) := by
  show omF (om2 ((run tbl orc0 (k + 7)).ev (drawρ w0 L sp (l + 1)) σ retX) none fun w σ₁ => (om2 (toD σ₁ w) none fun d σ₂ => some (Fl.ret d, drawρ w0 L sp (l + 1), σ₂))) none (fun ρ₁ σ₁ => xs (run tbl orc0 (k + 8)) ρ₁ σ₁ []) (fun d ρ₁ σ₁ => some (.ret d, ρ₁, σ₁)) = _
  rw [dl_ret hL hm hs hc]
  rfl
end
end Mine

namespace Mine
open MineH
open PySem PySem.W PyProof.Rows PySem.Calls PySem.SeqAt

noncomputable def drawS1 (G : Gt) (n : Nat) (c : Cx) (s : Stmt) : Bool := om3 (asAsg s) false fun t e _ => om1 (asTup t) false fun es => nmsOk c es [2, 3] && (noComp e && (noTup e && okX G n false c e (.loc 0)))
noncomputable def drawS2 (G : Gt) (n : Nat) (c : Cx) (s : Stmt) : Bool := om3 (asAsg s) false fun t e _ => om2 (asSub t) false fun oe ie => noComp e && (okX G n false c oe (.loc 0) && (okX G n false c ie (.lit (.int 1)) && okX G n false c e (.bin .add (.loc 3) (.lit (.int 1)))))
noncomputable def un1 {α : Type} (l : List α) : Option (α × List α) := List.rec (motive := fun _ => Option (α × List α)) none (fun a r _ => some (a, r)) l
theorem un1_eq {α : Type} {l r : List α} {a : α} (h : un1 l = some (a, r)) : l = a :: r := by
  cases l with
  | nil => exact nos h
  | cons b t => exact some2 h fun x y => by rw [x, y]
noncomputable def drawB (K : Frag) (G : Gt) (n : Nat) : Bool := om1 (fdOf K 706) false fun fd => om1 (bodyOf fd.body) false fun body => om2 (un1 body) false fun s1 r => om2 (un1 r) false fun s2 b => fdB K f56 fd && (drawS1 G n ⟨fd.scope.names, f56.names, true⟩ s1 && (drawS2 G n ⟨fd.scope.names, f56.names, true⟩ s2 && okY G n ⟨fd.scope.names, f56.names, true⟩ b [.ret retX]))
theorem c_draw (P : Params) : drawB (Kf P) gt 20 = true := by kernel_rfl
theorem drawB_eq {K : Frag} {G : Gt} {n : Nat} (h : drawB K G n = true) : ∃ fd s1 s2 b, FnK K f56 fd (s1 :: s2 :: b) ∧ uniq f56.names = true ∧ drawS1 G n ⟨fd.scope.names, f56.names, true⟩ s1 = true ∧ drawS2 G n ⟨fd.scope.names, f56.names, true⟩ s2 = true ∧ okY G n ⟨fd.scope.names, f56.names, true⟩ b [.ret retX] = true := by
  unfold drawB at h
  split at h
  · rename_i fd q
    split at h
    · rename_i body q2
      split at h
      · rename_i s1 r q3
        split at h
        · rename_i s2 b q4
          rw [un1_eq q3, un1_eq q4] at q2
          replace h := and4 h
          obtain ⟨h1, h2, h3, h4⟩ := h
          obtain ⟨a, c⟩ := fdB_eq (f := f56) q q2 h1
          exact ⟨fd, s1, s2, b, a, c, h2, h3, h4⟩
        · cases h
      · cases h
    · cases h
  · cases h
section
variable {p : Pm} {K : Frag} {mg mb : Str → Option Value} {tb : Tb} {B : Heap} {G : Gt} {orc : Orc} {N k n : Nat} {A : Around} {env : Env} {FA : List Addr} {c : Cx} {h h' : Heap} {M M' : List Addr} {φ φ' : List (Option Addr)} {σ σ' σ₁ : List C} {ρ ρ' : List (Option W)} {fl : Fl}
theorem VRels.at0 {vs : List Value} {a b : Mine.D} {a' : Mine.D} (V : VRels p h M vs [a, b]) (f : ∀ v, VRel p h M v a → VRel p h M v a') : VRels p h M vs [a', b] := by
  cases V with | cons x r => exact .cons (f _ x) r
/-- cells, spot = tape -/
theorem draw_s1 {s : Stmt} {a b a' : Mine.D} {w1 : W} (hh : A.handled = none) (C : CxOk c env) (ie : ∀ {e x}, okX G n false c e x = true → EvS p B A env c.own FA c.names (run tb orc (k + 1)) e x) (hk : drawS1 G n c s = true)
    (X : FS p B env c.own FA c.names h M φ [.lst [a, b]] [some (.cell 0), some w1, none, none]) (f : ∀ h M v, VRel p h M v a → VRel p h M v a') :
    RunS p B A env c.own FA c.names (exec s env) h M φ [.lst [a, b]] [some (.cell 0), some w1, some (.d a'), some (.d b)] (fun f h M => FlR p h M .next f) := by
  unfold drawS1 at hk
  split at hk
  rotate_left
  · cases hk
  rename_i t e pos q
  split at hk
  rotate_left
  · cases hk
  rename_i es q2
  replace hk := and4 hk
  obtain ⟨k1, k2, k3, k4⟩ := hk
  obtain ⟨kk, tp, rfl⟩ := asTup_eq q2
  rw [asAsg_eq q]
  have ok := nmsOk_eq C k1
  obtain ⟨l1, l2⟩ := ok.len
  rw [exec_Assign]
  refine RunS.standAt ?_
  rw [show swapsWithSole [.Tuple es kk tp] e pos.line env = pure false from (show swapsWith e (some (.Tuple es kk tp)) pos.line env = pure false from swaps_no k2)]
  show RunS p B A env c.own FA c.names (do let v ← eval e env; assignStores env v (← swappedStores [.Tuple es kk tp] e env) ((assignEach [.Tuple es kk tp] env).map (·.2))) _ _ _ _ _ _
  rw [swapped_no k3]
  refine RunS.ev X (ie k4 (show (run tb orc (k + 1)).ev _ _ (.loc 0) = some (.cell 0, _) from rfl) X) fun v h₁ M₁ φ₁ X₁ m₁ r₁ => ?_
  show RunS p B A env c.own FA c.names (do assign (.Tuple es kk tp) env v; Pure.pure Flow.next) _ _ _ _ _ _
  obtain ⟨l, vs, rfl, hl, y, z⟩ := cellL_at X₁.S r₁ (show cellL [.lst [a, b]] (.cell 0) = some (0, [a, b]) from rfl)
  refine RunS.bind (R₁ := fun _ _ _ => True) X₁ (fun s Q E hs kk => ?_) fun _ h₂ M₂ φ₂ X₂ m₂ _ => RunS.pure X₂ .next
  subst hs
  refine assign_Tuple_list hh y.isList (by rw [l1, List.size_toArray, z.length]; rfl) l2 fun h' hx => ?_
  have hkeep : ∀ (b : Addr) (o : Obj), s.heap.get? b = some o → h'.get? b = some o := fun b o e => hx b o (fun q => by subst q; exact get_lt e (none_ge (Nat.le_refl _))) e
  have X' := X₁.step (X₁.S.grow hkeep) (Mv.grow hkeep)
  rw [List.toList_toArray]
  exact run_names ok X' ((z.at0 (f _ _)).mono (.grow hkeep)) (by rfl) { s with heap := h' } Q E rfl fun _ h2 tk M2 φ2 X2 m2 _ => kk () h2 tk M2 φ2 X2 ((Mv.grow hkeep).trans X₁.S m2) trivial
/-- tape[1] = spot + 1 -/
theorem draw_s2 {s : Stmt} {a d : Mine.D} {sp : Nat} {w1 : W} (hh : A.handled = none) (C : CxOk c env) (ie : ∀ {e x}, okX G n false c e x = true → EvS p B A env c.own FA c.names (run tb orc (k + 3)) e x) (hk : drawS2 G n c s = true)
    (X : FS p B env c.own FA c.names h M φ [.lst [a, .int (.ofNat sp)]] [some (.cell 0), some w1, some (.d d), some (.d (.int (.ofNat sp)))]) :
    RunS p B A env c.own FA c.names (exec s env) h M φ [.lst [a, .int (.ofNat (sp + 1))]] [some (.cell 0), some w1, some (.d d), some (.d (.int (.ofNat sp)))] (fun f h M => FlR p h M .next f) := by
  unfold drawS2 at hk
  split at hk
  rotate_left
  · cases hk
  rename_i t e pos q
  split at hk
  rotate_left
  · cases hk
  rename_i oe ix q2
  replace hk := and4 hk
  obtain ⟨k1, k2, k3, k4⟩ := hk
  obtain ⟨tp, rfl⟩ := asSub_eq q2
  rw [asAsg_eq q]
  rw [exec_Assign_Subscript _ _ _ _ _ (swaps_no k1)]
  refine RunS.standAt (RunS.ev X (ie k4 (show (run tb orc (k + 3)).ev _ _ (.bin .add (.loc 3) (.lit (.int 1))) = some (.d (.int (.ofNat (sp + 1))), _) from rfl) X) fun v h₁ M₁ φ₁ X₁ m₁ r₁ => ?_)
  rw [assign_Subscript]
  simp only [bind_assoc]
  refine RunS.ev X₁ (Run.holding (ie k2 (show (run tb orc (k + 3)).ev _ _ (.loc 0) = some (.cell 0, _) from rfl) X₁)) fun ov h₂ M₂ φ₂ X₂ m₂ r₂ => ?_
  refine RunS.ev X₂ (Run.holding (ie k3 (show (run tb orc (k + 3)).ev _ _ (.lit (.int 1)) = some (.d (.int 1), _) from rfl) X₂)) fun iv h₃ M₃ φ₃ X₃ m₃ r₃ => RunS.standAt ?_
  have V : VRel p h₃ M₃ v (.int (.ofNat (sp + 1))) := (r₁.dat.step X₁.S m₂).step X₂.S m₃
  obtain ⟨l, vs, rfl, hl, y, z⟩ := cellL_at X₃.S (r₂.step X₂.S m₃) (show cellL [.lst [a, .int (.ofNat sp)]] (.cell 0) = some (0, [a, .int (.ofNat sp)]) from rfl)
  obtain ⟨t1, rfl⟩ := int_of' r₃.dat
  cases z with
  | @cons v0 _ vs _ z0 z =>
  cases z with
  | @cons v1 _ vs _ z1 z =>
  cases z
  intro s Q E hs kk
  subst hs
  refine wpAny_bind (wpAny_holding (setItem_plain y (by decide) (by decide) (by show (1 : Int) < ((2 : Nat) : Int); decide) fun h' hp hsb => ?_))
  have haM := X₃.S.sub l (List.mem_of_getElem? hl)
  have gr : Gr s.heap M₃ h' M₃ := ⟨fun b o n e => (hsb.2 b (fun q => n (q ▸ haM))).trans e, fun b o n _ => n⟩
  obtain ⟨S', m'⟩ := X₃.S.set (c := .lst [a, .int (.ofNat (sp + 1))]) hl (let ⟨n, e⟩ := hp; ⟨_, e⟩) hsb (by simp) (.lst (vs := [v0, v]) hp (.cons (z0.mono gr) (.cons (V.mono gr) .nil)))
  have X' := X₃.step S' m'
  exact wpAny_bind (wpAny_release (wpAny_pure (kk _ h' _ M₃ φ₃ X' (m'.mono (by simp)) .next)))
end
end Mine

namespace Mine
open MineH
open PySem PySem.W PyProof.Rows PySem.Calls PySem.SeqAt

section
variable {p : Pm} {mg mb : Str → Option Value} {B : Heap} {A : Around} {env : Env} {FA : List Addr} {h h' : Heap} {M M' : List Addr} {φ φ' : List (Option Addr)} {σ σ' σ₁ : List C} {ρ ρ' : List (Option W)}
open Classical in
/-- what is shown of a body, as one step of a made-up interpreter -/
noncomputable def oneF (ρ₀ ρ₁ : List (Option W)) (σ₀ σ₁ : List C) (fl : Fl) : Fns := ⟨fun _ _ _ => none, fun _ _ _ => none, fun ρ σ _ => if ρ = ρ₀ ∧ σ = σ₀ then some (fl, ρ₁, σ₁) else none, fun _ _ _ => none⟩
open Classical in
theorem oneF_xs {ρ₀ ρ₁ ρ ρ' : List (Option W)} {σ₀ σ₁ σ σ' : List C} {d : Mine.D} {fl : Fl} {t : T} (e : xs (oneF ρ₀ ρ₁ σ₀ σ₁ (.ret d)) ρ σ [t] = some (fl, ρ', σ')) : ρ = ρ₀ ∧ σ = σ₀ ∧ fl = .ret d ∧ ρ' = ρ₁ ∧ σ' = σ₁ := by
  change omF (if ρ = ρ₀ ∧ σ = σ₀ then some (Fl.ret d, ρ₁, σ₁) else none : Option (Fl × List (Option W) × List C)) none (fun ρ₂ σ₂ => xs (oneF ρ₀ ρ₁ σ₀ σ₁ (.ret d)) ρ₂ σ₂ []) (fun d ρ₁ σ₁ => some (.ret d, ρ₁, σ₁)) = _ at e
  by_cases z : ρ = ρ₀ ∧ σ = σ₀
  · rw [if_pos z] at e
    exact some3 e fun a b c => ⟨z.1, z.2, a.symm, b.symm, c.symm⟩
  · rw [if_neg z] at e
    exact nos e
open Classical in
theorem oneF_go {ρ₀ ρ₁ : List (Option W)} {σ₀ σ₁ : List C} {d : Mine.D} {t : T} : xs (oneF ρ₀ ρ₁ σ₀ σ₁ (.ret d)) ρ₀ σ₀ [t] = some (.ret d, ρ₁, σ₁) := by
  show omF (if ρ₀ = ρ₀ ∧ σ₀ = σ₀ then some (Fl.ret d, ρ₁, σ₁) else none : Option (Fl × List (Option W) × List C)) none (fun ρ₂ σ₂ => xs (oneF ρ₀ ρ₁ σ₀ σ₁ (.ret d)) ρ₂ σ₂ []) (fun d ρ₁ σ₁ => some (.ret d, ρ₁, σ₁)) = _
  rw [if_pos ⟨rfl, rfl⟩]
  rfl
theorem draw_call (Y : Bs (Kf p.w.params) mg mb B) (kp : Pk p) {L : List Mine.D} {m sp l : Nat} {c : Int} (hd : p.ds 1 = .lst L) (hL : L.length = m + 1) (hm : m < 900) (hs : sp < 900) (hc : nth L (sp % (m + 1)) = some (.int c)) (a : AOk A 20) :
    CallR p B A 706 [.cell 0, .d (.int (.ofNat (l + 1)))] [tapeC sp] (.int (drawV c sp (m + 1) (l + 1))) [tapeC (sp + 1)] := by
  obtain ⟨fd, s1, s2, b, fk, hu, k1, k2, k3⟩ := drawB_eq (c_draw p.w.params)
  refine call_fn (F := oneF [some (.cell 0), some (.d (.int (.ofNat (l + 1)))), none, none] (drawρ (.cell 0) L sp (l + 1)) [tapeC sp] [tapeC (sp + 1)] (.ret (.int (drawV c sp (m + 1) (l + 1))))) (f := f56) a.d Y fk ?_ fun {Lc FA h M φ ρ fl ρ' σ'} e X => ?_
  · unfold fnBody
    rw [show bindArgs' f56 [W.cell 0, .d (.int (.ofNat (l + 1)))] = some [some (.cell 0), some (.d (.int (.ofNat (l + 1)))), none, none] from rfl]
    dsimp only
    rw [show f56.body = [T.dead] from rfl, oneF_go]
    rfl
  · obtain ⟨rfl, _, rfl, rfl, rfl⟩ := oneF_xs (t := .dead) e
    have a' : AOk (A.deeper (callEnvC fd Lc f56.addr)) 19 := a.deeper
    have C := fn_cx (L := Lc) fk hu
    have I := fun m => is_ Y kp (N := 1) (Nat.le_refl _) orc0_ok m
    have hh := a'.handled
    rw [execs_cons]
    refine RunS.bind X (draw_s1 (tb := tbl) (orc := orc0) (k := 0) (G := gt) hh C (fun q => (I 1).ev (a'.le (by decide)) C q) k1 X (a' := .lst L) (fun h M v r => by cases r with | sym _ r => rw [← hd]; exact r)) fun f h₁ M₁ φ₁ X₁ m₁ r₁ => ?_
    cases r₁
    dsimp only
    rw [execs_cons]
    refine RunS.bind X₁ (draw_s2 (tb := tbl) (orc := orc0) (k := 0) (G := gt) hh C (fun q => (I 3).ev (a'.le (by decide)) C q) k2 X₁) fun f h₂ M₂ φ₂ X₂ m₂ r₂ => ?_
    cases r₂
    dsimp only
    exact (I 8).xs (a'.le (by decide)) C k3 (dl_xs (k := 0) (w0 := .cell 0) hL hm hs hc) X₂
end
end Mine

namespace Mine
open MineH
open PySem PySem.W PyProof.Rows PySem.Calls PySem.SeqAt

/-- the n-th draw below l + 1 -/
noncomputable def drawN (cells : List Int) (sp l : Nat) : Nat := (drawV ((cells[sp % cells.length]?).getD 0) sp cells.length (l + 1)).toNat
theorem drawV_nn (c : Int) (sp n l : Nat) : 0 ≤ drawV c sp n (l + 1) := Int.fmod_nonneg_of_pos _ (by show (0 : Int) < ((l + 1 : Nat) : Int); omega)
theorem drawV_lt (c : Int) (sp n l : Nat) : drawV c sp n (l + 1) < ((l + 1 : Nat) : Int) := Int.fmod_lt_of_pos _ (by show (0 : Int) < ((l + 1 : Nat) : Int); omega)
theorem drawN_lt (cells : List Int) (sp l : Nat) : drawN cells sp l < l + 1 := by
  have h1 := drawV_nn ((cells[sp % cells.length]?).getD 0) sp cells.length l
  have h2 := drawV_lt ((cells[sp % cells.length]?).getD 0) sp cells.length l
  unfold drawN
  omega
section
variable {p : Pm} {mg mb : Str → Option Value} {B : Heap} {N : Nat} {A : Around}
/-- the draws, as they are told -/
noncomputable def DrawsOk (cells : List Int) (ds : List (Int × Nat)) : Prop := ∀ sp e, nth ds sp = some e → ∃ l, e.1 = .ofNat (l + 1) ∧ e.2 = drawN cells sp l ∧ sp < 900
theorem C.sy?_eq {c : C} {i : Nat} (h : c.sy? = some i) : c = .sym i := by induction c <;> first | exact nos h | exact congrArg C.sym (Option.some.inj h)
theorem sh01_eq {w : W} (h : sh01 w = true) : w = .shelf 0 1 := by
  induction w with
  | shelf t r => rw [Nat.eq_of_beq_eq_true (and2 h).1, Nat.eq_of_beq_eq_true (and2 h).2]
  | _ => exact nof h
theorem cell0_eq {w : W} (h : cell0 w = true) : w = .cell 0 := om1_t h fun k q e => by rw [W.c?_eq q, Nat.eq_of_beq_eq_true e]
theorem symC_eq {i : Nat} {c : C} (h : symC i c = true) : c = .sym i := om1_t h fun k q e => by rw [C.sy?_eq q, Nat.eq_of_beq_eq_true e]
theorem syms_eq {σ : List C} (h : syms σ = true) : σ = [.sym 0, .sym 1] := osp2 h (fun a b q e => by rw [two_eq q, symC_eq (and2 e).1, symC_eq (and2 e).2]) fun _ e => nof e
theorem tapeN_eq {c : C} {n : Nat} (h : tapeN c = some n) : c = .lst [.sym 1, .int (.ofNat n)] := by
  unfold tapeN at h
  split at h
  · rename_i l q1
    split at h
    · rename_i x y q2
      split at h
      · rename_i i q3
        split at h
        · rename_i q4; rw [C.l?_eq q1, two_eq q2, D.sy?_eq q3, Nat.eq_of_beq_eq_true q4, D.nat?_eq h]
        · cases h
      · cases h
    · cases h
  · cases h
theorem drawO_ok (Y : Bs (Kf p.w.params) mg mb B) (kp : Pk p) {cells : List Int} {ds : List (Int × Nat)} (hd : p.ds 1 = .lst (cells.map Mine.D.int)) (h0 : cells ≠ []) (h1 : cells.length < 900) (H : DrawsOk cells ds) {ws : List W} {σ σ' : List C} {d : Mine.D} (e : drawO ds ws σ = some (d, σ')) (a : AOk A 20) : CallR p B A 706 ws σ d σ' := by
  unfold drawO at e
  split at e
  rotate_left
  · cases e
  rename_i w1 w2 qw
  split at e
  rotate_left
  · cases e
  rename_i q0
  split at e
  rotate_left
  · cases e
  rename_i dl
  split at e
  rotate_left
  · cases e
  rename_i lim ql
  rw [two_eq qw, cell0_eq q0, D.i?_eq ql]
  split at e
  rotate_left
  · cases e
  rename_i cc qc
  split at e
  rotate_left
  · cases e
  rename_i sp qs
  rw [one_eq qc, tapeN_eq qs]
  split at e
  rotate_left
  · cases e
  rename_i x q
  split at e
  rotate_left
  · cases e
  rename_i q2
  cases e
  obtain ⟨l, e1, e2, e3⟩ := H sp x q
  have hl := (Z.eqB_iff _ _).mp q2
  rw [e1] at hl
  subst hl
  obtain ⟨m, hm⟩ : ∃ m, cells.length = m + 1 := ⟨cells.length - 1, by have := List.length_pos_iff.mpr h0; omega⟩
  have hlt : sp % cells.length < cells.length := Nat.mod_lt _ (by omega)
  obtain ⟨c0, hget⟩ : ∃ c0, cells[sp % cells.length]? = some c0 := ⟨_, List.getElem?_eq_getElem hlt⟩
  have hn : nth (cells.map Mine.D.int) (sp % (m + 1)) = some (.int c0) := by
    rw [nth_eq, List.getElem?_map, ← hm, hget]; rfl
  have := draw_call (l := l) Y kp hd (by rw [List.length_map, hm]) (by omega) e3 hn a
  have hv : (Int.ofNat x.2 : Int) = drawV c0 sp (m + 1) (l + 1) := by
    rw [e2]
    unfold drawN
    rw [hget, hm]
    exact Int.toNat_of_nonneg (drawV_nn _ _ _ _)
  rw [hv]
  exact this
theorem tab_app (np : Nat) (X : List (Key × Mine.D)) : tab np [] [] ++ X = tab np [] X := by simp [tab]
theorem rowO_ok (Y : Bs (Kf p.w.params) mg mb B) (kp : Pk p) {np : Nat} (hnp : np < 2) {ws : List W} {σ σ' : List C} {d : Mine.D} (e : rowO np ws σ = some (d, σ')) (a : AOk A 51) : CallR p B A f57.addr ws σ d σ' := by
  unfold rowO at e
  split at e
  rotate_left
  · cases e
  rename_i w1 w2 qw
  split at e
  rotate_left
  · cases e
  rename_i q0
  split at e
  rotate_left
  · cases e
  rename_i dn
  split at e
  rotate_left
  · cases e
  rename_i n qn
  split at e
  rotate_left
  · cases e
  rename_i c1 c2 qc
  split at e
  rotate_left
  · cases e
  rename_i T qT
  split at e
  rotate_left
  · cases e
  rename_i R qR
  rw [two_eq qw, sh01_eq q0, D.nat?_eq qn, two_eq qc, C.d?_eq qT, C.d?_eq qR]
  split at e
  rotate_left
  · cases e
  rename_i q
  cases e
  replace q := and2 q
  obtain ⟨X, rfl⟩ := preEq_eq q.1
  have := ksEqF_eq (dEq_eq 9) q.2
  subst this
  rw [tab_app]
  exact call_of (N := 1) (m := 50) (i := 57) Y kp (Nat.le_refl _) orc0_ok rfl (row_all np hnp n X) a
theorem beq_nat {i j : Nat} (h : Nat.beq i j = true) : i = j := Nat.eq_of_beq_eq_true h
theorem orc1_ok (Y : Bs (Kf p.w.params) mg mb B) (kp : Pk p) {cells : List Int} {ds : List (Int × Nat)} (hd : p.ds 1 = .lst (cells.map Mine.D.int)) (h0 : cells ≠ []) (h1 : cells.length < 900) (H : DrawsOk cells ds) : OrcOk p B (orc1 ds) 20 := fun i ws σ d σ' e f hf A a => by
  unfold orc1 at e
  split at e
  · rename_i q
    rw [beq_nat q] at hf
    cases hf
    exact drawO_ok Y kp hd h0 h1 H e a
  · cases e
theorem orc2_ok (Y : Bs (Kf p.w.params) mg mb B) (kp : Pk p) {cells : List Int} {ds : List (Int × Nat)} {np : Nat} (hnp : np < 2) (hd : p.ds 1 = .lst (cells.map Mine.D.int)) (h0 : cells ≠ []) (h1 : cells.length < 900) (H : DrawsOk cells ds) : OrcOk p B (orc2 np ds) 51 := fun i ws σ d σ' e f hf A a => by
  unfold orc2 at e
  split at e
  · rename_i q
    rw [beq_nat q] at hf
    cases hf
    exact drawO_ok Y kp hd h0 h1 H e (a.le (by decide))
  · split at e
    · rename_i q
      rw [beq_nat q] at hf
      cases hf
      exact rowO_ok Y kp hnp e a
    · cases e

/-! the third part: the shelf's cells and what was told, as symbols -/
theorem shO_eq {x d : Mine.D} {ws : List W} {σ σ' : List C} (e : shO x ws σ = some (d, σ')) : ws = [.shelf 0 1] ∧ σ = [.sym 0, .sym 1] ∧ d = x ∧ σ' = [.sym 0, .sym 1] := by
  unfold shO at e
  split at e
  · rename_i w qw
    split at e
    · rename_i q0
      split at e
      · rename_i qs
        cases e; exact ⟨by rw [one_eq qw, sh01_eq q0], syms_eq qs, rfl, rfl⟩
      · cases e
    · cases e
  · cases e
theorem shO1_eq {g : Mine.D → Option Mine.D} {d : Mine.D} {ws : List W} {σ σ' : List C} (e : shO1 g ws σ = some (d, σ')) : ∃ x, ws = [.shelf 0 1, .d x] ∧ σ = [.sym 0, .sym 1] ∧ g x = some d ∧ σ' = [.sym 0, .sym 1] := by
  unfold shO1 at e
  split at e
  · rename_i w1 w2 qw
    split at e
    · rename_i q0
      split at e
      · rename_i dx
        split at e
        · rename_i qs
          split at e
          · rename_i y q; cases e; exact ⟨dx, by rw [two_eq qw, sh01_eq q0], syms_eq qs, q, rfl⟩
          · cases e
        · cases e
      · cases e
    · cases e
  · cases e
theorem finC_sh (np a c way nold ob oc : Nat) : finC np a c way nold ob oc = shC np (namesY np way a c ++ oldY np nold ob oc) (extraX np way a c) := rfl
structure P3 (p : Pm) (np way nold a c ob oc : Nat) : Prop where
  c0 : p.cs 0 = .dct (finT np a c way nold ob oc)
  c1 : p.cs 1 = .dct (trl np)
  told : (run tbl orc0 60).fn 16 [.shelf 0 1] (finC np a c way nold ob oc) = some (p.ds 0, finC np a c way nold ob oc)
theorem P3.ceq {np way nold a c ob oc : Nat} (h : P3 p np way nold a c ob oc) : CEqs p (finC np a c way nold ob oc) [.sym 0, .sym 1] := .cons (.sym h.c0 (by intro z; cases z)) (.cons (.sym h.c1 (by intro z; cases z)) .nil)
theorem orc3_ok (Y : Bs (Kf p.w.params) mg mb B) (kp : Pk p) {np way nold a c ob oc : Nat} (hnp : np < 2) (hw : way < 9) (ho : nold < 3) (P : P3 p np way nold a c ob oc) : OrcOk p B (orc3 np (toldB way) nold a c ob oc) 61 := fun i ws σ d σ' e f hf A ak => by
  have call : ∀ {i : Nat} {f : Fn} {ws : List W} {d d' : Mine.D}, nth tbl.fns i = some f → (run tbl orc0 60).fn i ws (finC np a c way nold ob oc) = some (d, finC np a c way nold ob oc) → (∀ h M v, VRel p h M v d → VRel p h M v d') → CallR p B A f.addr ws [.sym 0, .sym 1] d' [.sym 0, .sym 1] :=
    fun hf e hd => (call_of (N := 1) (m := 60) Y kp (Nat.le_refl _) orc0_ok hf e ak).congr P.ceq P.ceq hd
  unfold orc3 at e
  split at e
  · rename_i q
    rw [beq_nat q] at hf
    obtain ⟨x, rfl, rfl, e', rfl⟩ := shO1_eq e
    clear e
    have e := e'
    clear e'
    unfold pixD at e
    split at e
    · rename_i q
      cases e
      rw [dEq_eq _ _ _ q]
      refine call hf ?_ fun _ _ _ r => r
      rw [finC_sh]; exact pix1_all np hnp _ _
    · split at e
      · rename_i q
        rw [dEq_eq _ _ _ q]
        have hnp' : np = 0 ∨ np = 1 := by omega
        rcases hnp' with rfl | rfl
        · cases e
        · cases e
          refine call hf ?_ fun _ _ _ r => r
          rw [finC_sh]; exact px_12 _ _
      · split at e
        · rename_i q
          cases e
          rw [dEq_eq _ _ _ q]
          refine call hf ?_ fun _ _ _ r => r
          rw [finC_sh]; exact pix99_all np hnp _ _
        · cases e
  · split at e
    · rename_i q
      rw [beq_nat q] at hf
      obtain ⟨x, rfl, rfl, e', rfl⟩ := shO1_eq e
      clear e
      have e := e'
      clear e'
      unfold keyD at e
      split at e
      · rename_i q
        cases e
        rw [dEq_eq _ _ _ q]
        exact call hf (desta_all np hnp way hw nold ho a c ob oc) fun _ _ _ r => r
      · split at e
        · rename_i q
          cases e
          rw [dEq_eq _ _ _ q]
          exact call hf (destc_all np hnp way hw nold ho a c ob oc) fun _ _ _ r => r
        · cases e
    · split at e
      · rename_i q
        rw [beq_nat q] at hf
        obtain ⟨rfl, rfl, rfl, rfl⟩ := shO_eq e
        exact call hf (named_all np hnp way hw nold ho a c ob oc) fun _ _ _ r => r
      · split at e
        · rename_i q
          rw [beq_nat q] at hf
          obtain ⟨rfl, rfl, rfl, rfl⟩ := shO_eq e
          refine call hf ?_ fun _ _ _ r => r
          rw [finC_sh]; exact pages_all np hnp _ _
        · split at e
          · rename_i q
            rw [beq_nat q] at hf
            obtain ⟨rfl, rfl, rfl, rfl⟩ := shO_eq e
            exact call hf P.told fun _ _ _ r => .sym 0 r
          · cases e
/-- what is told, and that it may be compared -/
theorem goodR_eq {x : Option (Mine.D × List C)} {σ : List C} (h : goodR x = (true, σ)) : ∃ d, x = some (d, σ) ∧ eqD 20 d d = some true := by
  exact osp2 h (fun d σ' q e => pr2 e fun h1 h2 => ⟨d, by rw [q, h2], goodD_eq 20 d h1⟩) fun _ e => pr2 e fun h1 _ => nof h1
end
end Mine

namespace Mine
open MineH
open PySem PySem.W PyProof.Rows PySem.Calls PySem.SeqAt

/-! the law's first statement: tape = [list(script[:24]) or [5], 0] -/
noncomputable def sliceB (G : Gt) (n : Nat) (c : Cx) (e : Expr) : Bool := om2 (asSub e) false fun ve sl => om2 (asSlice sl) false fun lo hi => om1 hi false fun u => noneO lo && (okX G n false c ve (.loc 0) && okX G n false c u (.lit (.int 24)))
noncomputable def listB (G : Gt) (n : Nat) (c : Cx) (e : Expr) : Bool := om3 (asCall e) false fun f es _ => om1 (one es) false fun a => noStar a && (okNm c (fun x => strEq x "list") f && sliceB G n c a)
noncomputable def orB (G : Gt) (n : Nat) (c : Cx) (e : Expr) : Bool := om2 (asBool e) false fun o es => om2 (two es) false fun a b => decide (o = .Or) && (noStar a && (noStar b && (listB G n c a && okX G n false c b (.lst false [.lit (.int 5)]))))
noncomputable def s0B (G : Gt) (n : Nat) (c : Cx) (s : Stmt) : Bool := om3 (asAsg s) false fun t e _ => om2 (asNameP t) false fun x _ => om1 (asLst e) false fun es => om2 (two es) false fun a b => stOk c 1 x && (noComp e && (noStar a && (noStar b && (orB G n c a && okX G n false c b (.lit (.int 0))))))
section
variable {p : Pm} {K : Frag} {mg mb : Str → Option Value} {tb : Tb} {B : Heap} {G : Gt} {orc : Orc} {N k n : Nat} {A : Around} {env : Env} {FA : List Addr} {c : Cx} {h h' : Heap} {M M' : List Addr} {φ φ' : List (Option Addr)} {σ σ' σ₁ : List C} {ρ ρ' : List (Option W)} {fl : Fl} {L : List Mine.D}
theorem run_slice {e : Expr} (C : CxOk c env) (ie : ∀ {e x}, okX G n false c e x = true → EvS p B A env c.own FA c.names (run tb orc (k + 1)) e x) (hk : sliceB G n c e = true) (hL : L.length < 1000) (hρ : ∀ {σ}, (run tb orc (k + 1)).ev ρ σ (.loc 0) = some (.d (.lst L), σ)) (X : FS p B env c.own FA c.names h M φ σ ρ) :
    Run p B A (eval e env) h M φ σ (U p (.d (.lst (L.take 24)))) := by
  unfold sliceB at hk
  split at hk
  rotate_left
  · cases hk
  rename_i ve sl q
  split at hk
  rotate_left
  · cases hk
  rename_i lo hi q2
  split at hk
  rotate_left
  · cases hk
  rename_i u
  replace hk := and3 hk
  obtain ⟨k0, hk⟩ := hk
  rw [noneO_eq k0] at q2
  obtain ⟨pos, rfl⟩ := asSub_eq q
  obtain ⟨ps, rfl⟩ := asSlice_eq q2
  rw [eval_Subscript]
  refine Run.bind X.S (ie hk.1 hρ X) fun o h₁ M₁ φ₁ S₁ m₁ r₁ => ?_
  have X₁ := X.step S₁ m₁
  have key : Run p B A (eval (.Slice none (some u) none ps) env) h₁ M₁ φ₁ σ (fun i h M φ => ∃ sl vu, i = .ref sl ∧ h.IsSliceOf sl .none vu .none ∧ VRel p h M vu (.int 24)) := by
    intro s Q E hs k'
    subst hs
    refine wpAny_Slice ?_
    rw [evalPart_none]
    refine wpAny_pure ?_
    refine run_part (PartS.some (ie hk.2)) (show evOpt (run tb orc (k + 1)) ρ σ (some (.lit (.int 24))) = some (.int 24, σ) from rfl) X₁ s _ E rfl fun vu h₃ t₃ M₃ φ₃ S₃ m₃ r₃ => ?_
    refine wpAny_pure ?_
    refine k' _ _ t₃ M₃ φ₃ (S₃.push _) (m₃.trans S₁ (Mv.push _)) ⟨_, vu, rfl, Heap.IsSliceOf.new .., r₃.mono (.grow fun _ _ e => Heap.get?_push_of_some _ e)⟩
  refine Run.bind S₁ (Run.holding key) fun i h₂ M₂ φ₂ S₂ m₂ r₂ => Run.standAt ?_
  obtain ⟨sl, vu, rfl, hsl, Uv⟩ := r₂
  obtain ⟨ad, vs, rfl, y, m, z⟩ := lst_of' (r₁.dat.step S₁ m₂)
  obtain ⟨t, rfl⟩ := int_of' Uv
  refine sub_tail S₂ (⟨"list", _, fun s hs => by subst hs; exact y.isList.typeIs, list_getitem_lookup⟩ : SubT h₂ (.ref ad)) slice_sub (run_V ?_)
  refine run_push (o := { cls := .type "list", data := .seq (vs.take 24).toArray }) S₂ (fun s Q E hs' k' => ?_) (vrel_lst_new S₂ (z.take 24))
  subst hs'
  refine wpAny_getItem_list_slice y.isList hsl .none (.int _ _) .none (by simp) ?_ (by rw [List.size_toArray, z.length]; exact small_line (small_of hL))
  have := slicePick_upto' vs.toArray 24
  rw [show (24 : Int) = ((24 : Nat) : Int) from rfl, this]
  exact k'
theorem run_list' {e : Expr} (Y : Bs K mg mb B) (hl : nsIn K mainGlobals "list" = some none) (C : CxOk c env) (ie : ∀ {e x}, okX G n false c e x = true → EvS p B A env c.own FA c.names (run tb orc (k + 1)) e x) (hk : listB G n c e = true) (hL : L.length < 1000) (hρ : ∀ {σ}, (run tb orc (k + 1)).ev ρ σ (.loc 0) = some (.d (.lst L), σ)) (X : FS p B env c.own FA c.names h M φ σ ρ) :
    Run p B A (eval e env) h M φ σ (U p (.d (.lst (L.take 24)))) := by
  unfold listB at hk
  split at hk
  rotate_left
  · cases hk
  rename_i f es pos q
  split at hk
  rotate_left
  · cases hk
  rename_i a qa
  replace hk := and3 hk
  obtain ⟨k1, k2, k3⟩ := hk
  rw [asCall_eq q, one_eq qa]
  obtain ⟨x, np, rfl, z1, z2, z3⟩ := okNm_eq C k2
  rw [strEq_iff.mp z1] at z2 z3 ⊢
  have nm : NmV K env "list" (.type "list") := .bi z2 hl boot_list (by decide +kernel) z3
  intro s Q Ex hs k'
  subst hs
  refine Call_ ?_
  refine load_nm Y X nm ?_
  refine callWith_of (P := fun _ => True) (by rw [star_cons k1]; rfl) (fun h _ => keep_t "list") ?_
  rw [star_cons k1]
  refine evalArgs_plain ?_
  refine spliced_cons ?_
  refine run_slice C ie k3 hL hρ X s _ Ex rfl fun v h₁ tk M₁ φ₁ S₁ m₁ r₁ => ?_
  refine args_nil ⟨trivial, ?_⟩
  obtain ⟨ad, vs, rfl, ⟨n', y⟩, m, z⟩ := lst_of' r₁.dat
  refine call_list_seq ad (.inl rfl) y rfl rfl (fun h' c' hk' hnew => ?_) (by rw [List.size_toArray, z.length, List.length_take]; exact small_line (small_of (by omega)))
  have hno : h₁.objs.size ∉ M₁ := S₁.notM
  exact k' _ h' _ M₁ φ₁ (S₁.grow hk') (m₁.trans X.S (Mv.grow hk')) (.d (.lst ⟨c', hnew⟩ hno (z.mono (.grow hk'))))
/-- what the draws are taken from -/
noncomputable def cellsD (L : List Mine.D) : List Mine.D := match L.take 24 with
  | [] => [.int 5]
  | l => l
theorem run_orS {e : Expr} (Y : Bs K mg mb B) (hl : nsIn K mainGlobals "list" = some none) (C : CxOk c env) (ie : ∀ {e x}, okX G n false c e x = true → EvS p B A env c.own FA c.names (run tb orc (k + 2)) e x) (hk : orB G n c e = true) (hL : L.length < 1000) (hρ : ∀ {σ}, (run tb orc (k + 2)).ev ρ σ (.loc 0) = some (.d (.lst L), σ)) (X : FS p B env c.own FA c.names h M φ σ ρ) :
    Run p B A (eval e env) h M φ σ (U p (.d (.lst (cellsD L)))) := by
  unfold orB at hk
  split at hk
  rotate_left
  · cases hk
  rename_i o es q
  split at hk
  rotate_left
  · cases hk
  rename_i a b qa
  replace hk := and5 hk
  obtain ⟨k0, k1, k2, k3, k4⟩ := hk
  rw [of_decide_eq_true k0, two_eq qa] at q
  obtain ⟨pos, rfl⟩ := asBool_eq q
  show Run p B A (do let v ← eval a env; standAt pos; let t ← holding [v] (truthy v); match BoolOp.Or, t with | .And, false | .Or, true => Pure.pure v | _, _ => boolOp pos .Or (evalEach [b] env)) _ _ _ _ _
  refine Run.bind X.S (run_list' (k := k + 1) Y hl C ie k3 hL hρ X) fun v h₁ M₁ φ₁ S₁ m₁ r₁ => Run.standAt ?_
  have hsm : small (L.take 24).length = true := small_of (by rw [List.length_take]; omega)
  cases hc : L.take 24 with
  | nil =>
    rw [hc] at r₁
    refine Run.bind S₁ (Run.holding (run_truthy (b := false) S₁ r₁ rfl)) fun t h₂ M₂ φ₂ S₂ m₂ r₂ => ?_
    subst r₂
    have : cellsD L = [.int 5] := by unfold cellsD; rw [hc]
    rw [this]
    exact ie k4 (show (run tb orc (k + 2)).ev ρ σ (.lst false [.lit (.int 5)]) = some (.d (.lst [.int 5]), σ) from rfl) ((X.step S₁ m₁).step S₂ m₂)
  | cons d r =>
    rw [hc] at r₁ hsm
    refine Run.bind S₁ (Run.holding (run_truthy (b := true) S₁ r₁ (by show truth (.lst (d :: r)) = _; unfold truth; dsimp only; rw [hsm]; rfl))) fun t h₂ M₂ φ₂ S₂ m₂ r₂ => ?_
    subst r₂
    have : cellsD L = d :: r := by unfold cellsD; rw [hc]
    rw [this]
    exact Run.pure S₂ (r₁.step S₁ m₂)
end
end Mine

namespace Mine
open MineH
open PySem PySem.W PyProof.Rows PySem.Calls PySem.SeqAt

/-- before, count = ..: a tuple of names of which one is a cell -/
noncomputable def unpB (G : Gt) (n : Nat) (c : Cx) (s : Stmt) (is : List Nat) (x : X) : Bool := om3 (asAsg s) false fun t e _ => om1 (asTup t) false fun es => om2 (two es) false fun a b => om1 (asName b) false fun y => nmsOk c [a, b] is && (noComp e && (isK c y .cell && okX G n false c e x))
noncomputable def unpX : X := .tup [.meth (.loc 2) "told" [], .bi .len [.call 27 [.loc 2]]]
noncomputable def seg3r : List T := seg3.drop 1
theorem seg3_eq : seg3 = .unp [9, 10] unpX :: seg3r := rfl
noncomputable def thirdB (G : Gt) (n : Nat) (c : Cx) (l : List Stmt) : Bool := om2 (un1 l) false fun s b => unpB G n c s [9, 10] unpX && okY G n c b seg3r
noncomputable def lawB (K : Frag) (G : Gt) (n : Nat) : Bool := om1 (fdOf K 732) false fun fd => om1 (bodyOf fd.body) false fun body => om2 (un1 body) false fun s b => fdB K f60 fd && (s0B G n ⟨fd.scope.names, f60.names, true⟩ s && (okY G n ⟨fd.scope.names, f60.names, true⟩ (b.take 2) seg1 && (okY G n ⟨fd.scope.names, f60.names, true⟩ ((b.drop 2).take 8) seg2 && thirdB G n ⟨fd.scope.names, f60.names, true⟩ (b.drop 10))))
theorem c_law (P : Params) : lawB (Kf P) gt 60 = true := by kernel_rfl
theorem lawB_eq {K : Frag} {G : Gt} {n : Nat} (h : lawB K G n = true) : ∃ fd s b, FnK K f60 fd (s :: b) ∧ uniq f60.names = true ∧ s0B G n ⟨fd.scope.names, f60.names, true⟩ s = true ∧ okY G n ⟨fd.scope.names, f60.names, true⟩ (b.take 2) seg1 = true ∧
    okY G n ⟨fd.scope.names, f60.names, true⟩ ((b.drop 2).take 8) seg2 = true ∧ thirdB G n ⟨fd.scope.names, f60.names, true⟩ (b.drop 10) = true := by
  unfold lawB at h
  split at h
  · rename_i fd q
    split at h
    · rename_i body q2
      split at h
      · rename_i s b q3
        rw [un1_eq q3] at q2
        replace h := and5 h
        obtain ⟨h1, h2, h3, h4, h5⟩ := h
        obtain ⟨a, c⟩ := fdB_eq (f := f60) q q2 h1
        exact ⟨fd, s, b, a, c, h2, h3, h4, h5⟩
      · cases h
    · cases h
  · cases h
theorem split_body (b : List Stmt) : b = b.take 2 ++ ((b.drop 2).take 8 ++ b.drop 10) := by
  have h1 := List.take_append_drop 2 b
  have h2 := List.take_append_drop 8 (b.drop 2)
  rw [List.drop_drop] at h2
  rw [← h1]
  conv => lhs; rw [← h2]
  simp
theorem execs_app (env : Env) : ∀ (a b : List Stmt), execs (a ++ b) env = (do match ← execs a env with | .next => execs b env | f => Pure.pure f)
  | [], b => by show execs b env = (do match ← (Pure.pure Flow.next : Sem Flow) with | .next => execs b env | f => Pure.pure f); rw [pure_bind]
  | s :: a, b => by
    show (do match ← exec s env with | .next => execs (a ++ b) env | f => Pure.pure f) = (do match ← (do match ← exec s env with | .next => execs a env | f => Pure.pure f) with | .next => execs b env | f => Pure.pure f)
    rw [bind_assoc]
    congr 1
    funext f
    cases f <;> first | exact execs_app env a b | (rw [pure_bind])
section
variable {p : Pm} {K : Frag} {mg mb : Str → Option Value} {tb : Tb} {B : Heap} {G : Gt} {orc : Orc} {N k n : Nat} {A : Around} {env : Env} {own : Bool} {FA : List Addr} {names : List Str} {c : Cx} {h h' : Heap} {M M' : List Addr} {φ φ' : List (Option Addr)} {σ σ' σ₁ : List C} {ρ ρ' : List (Option W)} {fl : Fl} {L : List Mine.D}
/-! what is forgotten -/
inductive Forg : List (Option W) → List (Option W) → Prop
  | nil : Forg [] []
  | keep {x : Option W} {a b : List (Option W)} : Forg a b → Forg (x :: a) (x :: b)
  | drop {x : Option W} {a b : List (Option W)} : Forg a b → Forg (x :: a) (none :: b)
theorem Forg.refl : ∀ (a : List (Option W)), Forg a a
  | [] => .nil
  | _ :: a => .keep (Forg.refl a)
theorem Forg.get (f : Forg ρ ρ') {i : Nat} {d : W} (e : ρ'[i]? = some (some d)) : ρ[i]? = some (some d) := by
  induction f generalizing i with
  | nil => exact e
  | keep _ ih =>
    cases i with
    | zero => exact e
    | succ i => simp at e ⊢; exact ih e
  | drop _ ih =>
    cases i with
    | zero => simp at e
    | succ i => simp at e ⊢; exact ih e
theorem FS.forg (X : FS p B env own FA names h M φ σ ρ) (f : Forg ρ ρ') : FS p B env own FA names h M φ σ ρ' := ⟨X.S, X.F, fun i d e => X.L i d (f.get e)⟩
noncomputable def CTo (p : Pm) (c c' : C) : Prop := (∀ h M a, CRel p h M a c → CRel p h M a c') ∧ (c = .dead ↔ c' = .dead)
inductive CTos (p : Pm) : List C → List C → Prop
  | nil : CTos p [] []
  | cons {c c' : C} {σ τ : List C} : CTo p c c' → CTos p σ τ → CTos p (c :: σ) (c' :: τ)
theorem CTos.length {σ τ : List C} (h : CTos p σ τ) : σ.length = τ.length := by
  induction h with
  | nil => rfl
  | cons _ _ ih => simp [ih]
theorem CTos.get {σ τ : List C} (h : CTos p σ τ) {k : Nat} {c : C} (e : τ[k]? = some c) : ∃ c', σ[k]? = some c' ∧ CTo p c' c := by
  induction h generalizing k with
  | nil => simp at e
  | cons a _ ih =>
    cases k with
    | zero => simp at e; subst e; exact ⟨_, rfl, a⟩
    | succ k => simp at e; simpa using ih e
theorem CTos.get' {σ τ : List C} (h : CTos p σ τ) {k : Nat} {c : C} (e : σ[k]? = some c) : ∃ c', τ[k]? = some c' ∧ CTo p c c' := by
  induction h generalizing k with
  | nil => simp at e
  | cons a _ ih =>
    cases k with
    | zero => simp at e; subst e; exact ⟨_, rfl, a⟩
    | succ k => simp at e; simpa using ih e
theorem St.to {σ τ : List C} (q : CTos p σ τ) (S : St p B h M φ σ) : St p B h M φ τ where
  base := S.base
  low := S.low
  sub := S.sub
  nd := S.nd
  len := S.len.trans q.length
  dead k := by
    rw [S.dead k]
    constructor
    · intro e
      obtain ⟨c, a, b⟩ := q.get' e
      rw [a, b.2.mp rfl]
    · intro e
      obtain ⟨c, a, b⟩ := q.get e
      rw [a, b.2.mpr rfl]
  cells k a c e1 e2 := by
    obtain ⟨c', x, y⟩ := q.get e2
    exact y.1 h M a (S.cells k a c' e1 x)
open Classical in
/-- the first statement -/
noncomputable def madeF (ρ₀ : List (Option W)) (σ₀ : List C) (g : X → Option (W × List C)) : Fns := ⟨fun ρ σ x => if ρ = ρ₀ ∧ σ = σ₀ then g x else none, fun _ _ _ => none, fun _ _ _ => none, fun _ _ _ => none⟩
open Classical in
theorem made_ev {ρ₀ : List (Option W)} {σ₀ : List C} {g : X → Option (W × List C)} {e : Expr} {x : X} (hr : ∀ w σ', g x = some (w, σ') → ∀ h M φ, FS p B env own FA names h M φ σ₀ ρ₀ → Run p B A (eval e env) h M φ σ' (U p w)) : EvS p B A env own FA names (madeF ρ₀ σ₀ g) e x := by
  intro ρ σ h M φ w σ' ev X
  change (if ρ = ρ₀ ∧ σ = σ₀ then g x else none) = some (w, σ') at ev
  split at ev
  · rename_i q
    obtain ⟨rfl, rfl⟩ := q
    exact hr w σ' ev h M φ X
  · cases ev
open Classical in
theorem made_go {ρ₀ : List (Option W)} {σ₀ : List C} {g : X → Option (W × List C)} {x : X} : (madeF ρ₀ σ₀ g).ev ρ₀ σ₀ x = g x := if_pos ⟨rfl, rfl⟩
noncomputable def g2 (L : List Mine.D) : X → Option (W × List C)
  | .loc 0 => some (.d (.lst (cellsD L)), [])
  | .loc 1 => some (.d (.int 0), [])
  | _ => none
noncomputable def g3 (L : List Mine.D) : X → Option (W × List C)
  | .loc 0 => some (.cell 0, [.lst [.lst (cellsD L), .int 0]])
  | _ => none
noncomputable def ρs (L : List Mine.D) : List (Option W) := some (.d (.lst L)) :: nones 17
theorem run_s0 {s : Stmt} (Y : Bs K mg mb B) (hl : nsIn K mainGlobals "list" = some none) (C : CxOk c env) (ie : ∀ {e x}, okX G n false c e x = true → EvS p B A env c.own FA c.names (run tb orc (k + 2)) e x) (hk : s0B G n c s = true) (hL : L.length < 1000) (X : FS p B env c.own FA c.names h M φ [] (ρs L)) :
    RunS p B A env c.own FA c.names (exec s env) h M φ [.lst [.lst (cellsD L), .int 0]] (some (.d (.lst L)) :: some (.cell 0) :: nones 16) (fun f h M => FlR p h M .next f) := by
  unfold s0B at hk
  split at hk
  rotate_left
  · cases hk
  rename_i t e pos q
  split at hk
  rotate_left
  · cases hk
  rename_i x py q2
  split at hk
  rotate_left
  · cases hk
  rename_i es q3
  split at hk
  rotate_left
  · cases hk
  rename_i a b qab
  rw [two_eq qab] at q3
  replace hk := and6 hk
  obtain ⟨k1, k2, k3, k4, k5, k6⟩ := hk
  obtain ⟨lp, rfl⟩ := asLst_eq q3
  rw [asAsg_eq q, asNameP_eq q2]
  have E : EvsS p B A env c.own FA c.names (madeF (ρs L) [] (g2 L)) [a, b] [.loc 0, .loc 1] := .cons k3 (made_ev fun w σ' e h M φ X => by
    cases e
    exact run_orS Y hl C ie k5 hL rfl X) (.cons k4 (made_ev fun w σ' e h M φ X => by
    cases e
    exact ie k6 (show (run tb orc (k + 2)).ev (ρs L) [] (.lit (.int 0)) = some (.d (.int 0), []) from rfl) X) .nil)
  have hev : evLst (madeF (ρs L) [] (g2 L)) (ρs L) [] true [.loc 0, .loc 1] = some (.cell 0, [.lst [.lst (cellsD L), .int 0]]) := by
    unfold evLst evs evs evs
    rw [made_go, show g2 L (.loc 0) = some (.d (.lst (cellsD L)), []) from rfl]
    dsimp only
    rw [made_go]
    rfl
  have E3 : EvS p B A env c.own FA c.names (madeF (ρs L) [] (g3 L)) (.List [a, b] lp) (.loc 0) := made_ev fun w σ' e h M φ X => by
    cases e
    exact run_Lst (small_line rfl) E X hev
  refine ex_asg (F := madeF (ρs L) [] (g3 L)) (xe := .loc 0) (i := 1) (fl := .next) (swaps_no k2) (stOk_eq C k1) E3 X ?_
  unfold exAsg
  rw [made_go]
  rfl
theorem kind_of_k {y : Str} {k : NameKind} (C : CxOk c env) (h : isK c y k = true) : env.kindOf y = some k := (C.kind y).trans (isK_eq h)
theorem swapped_cell {a b e : Expr} {k : Nat} {tp : Pos} {y : Str} (hb : asName b = some y) (hk : env.kindOf y = some .cell) : swappedStores [.Tuple [a, b] k tp] e env = pure none := by
  obtain ⟨bp, rfl⟩ := asName_eq hb
  have key : ∀ l : Nat, (([a, .Name y bp] : List Expr).filterMap fun | .Name id pos => if env.kindOf id == some .local && pos.line == l then some id else none | _ => none).length ≠ 2 := fun l => by
    have h1 : (([.Name y bp] : List Expr).filterMap fun | .Name id pos => if env.kindOf id == some .local && pos.line == l then some id else none | _ => none) = [] := by
      rw [List.filterMap_cons]
      dsimp only
      rw [hk]
      rfl
    rw [List.filterMap_cons]
    split
    · rw [h1]; simp
    · rw [h1]; simp
  unfold swappedStores
  cases e with
  | Tuple vs k2 tp2 =>
    dsimp only
    split
    · rfl
    · split
      · rfl
      · refine if_pos ?_
        have := key (([a, .Name y bp] : List Expr).head?.map (·.pos.line) |>.getD 0)
        rw [Bool.or_eq_true]
        left
        exact bne_iff_ne.mpr this
  | _ => rfl
/-- the third part is walked -/
theorem third_xs (D : Ge p K mg mb tbl B G orc N) (a : AOk A (k + 1 + N)) (C : CxOk c env) {b : List Stmt} (hk : thirdB G n c b = true) : XsS p B A env c.own FA c.names (run tbl orc (k + 1)) b seg3 := by
  cases b with
  | nil => cases hk
  | cons s b =>
    replace hk := and2 (show (unpB G n c s [9, 10] unpX && okY G n c b seg3r) = true from hk)
    obtain ⟨k1, k2⟩ := hk
    rw [seg3_eq]
    have h2 : XsS p B A env c.own FA c.names (run tbl orc (k + 1)) b seg3r := fun {_ _ _ _ _ _ _ _} => (is_all D (k + 1)).xs a C k2
    suffices h1 : ExS p B A env c.own FA c.names (run tbl orc (k + 1)) s (.unp [9, 10] unpX) from fun {_ _ _ _ _ _ _ _} => xs_cons h1 h2
    intro ρ σ h M φ fl ρ' σ' ev X
    unfold unpB at k1
    split at k1
    rotate_left
    · cases k1
    rename_i t e pos q
    split at k1
    rotate_left
    · cases k1
    rename_i es q2
    split at k1
    rotate_left
    · cases k1
    rename_i e1 e2 q0
    rw [two_eq q0] at q2
    split at k1
    rotate_left
    · cases k1
    rename_i y q3
    replace k1 := and4 k1
    obtain ⟨j1, j2, j3, j4⟩ := k1
    obtain ⟨kk, tp, rfl⟩ := asTup_eq q2
    rw [asAsg_eq q]
    have ak : AOk A (k + N) := a.le (by omega)
    exact ex_unp' a.handled j2 (swapped_cell q3 (kind_of_k C j3)) (nmsOk_eq C j1) ((is_all D k).ev ak C j4) X ev
end
end Mine

namespace Mine
open MineH
open PySem PySem.W PyProof.Rows PySem.Calls PySem.SeqAt

theorem draws_ok (cells : List Int) : DrawsOk cells (draws (drawN cells 0 1) (drawN cells 1 2) (drawN cells 2 2) (drawN cells 3 8) (drawN cells 4 2) (drawN cells 5 2) (drawN cells 6 2)) := fun sp e h => by
  match sp, h with
  | 0, h => cases h; exact ⟨1, rfl, rfl, by decide⟩
  | 1, h => cases h; exact ⟨2, rfl, rfl, by decide⟩
  | 2, h => cases h; exact ⟨2, rfl, rfl, by decide⟩
  | 3, h => cases h; exact ⟨8, rfl, rfl, by decide⟩
  | 4, h => cases h; exact ⟨2, rfl, rfl, by decide⟩
  | 5, h => cases h; exact ⟨2, rfl, rfl, by decide⟩
  | 6, h => cases h; exact ⟨2, rfl, rfl, by decide⟩
  | n + 7, h => cases h
theorem isTrue_eq {x : Option (Fl × List (Option W) × List C)} (h : isTrue x = true) : ∃ ρ σ, x = some (.ret (.bool true), ρ, σ) := by
  unfold isTrue at h
  split at h
  · cases h
  · rename_i d ρ σ
    exact om1_t h fun b q2 e => ⟨ρ, σ, by rw [D.b?_eq q2, e]⟩
  · cases h
section
variable {p : Pm} {mg mb : Str → Option Value} {B : Heap} {A : Around}
/-- what is asked of the parameters -/
structure PL (p : Pm) (cells : List Int) (np a c way nold ob oc : Nat) : Prop extends Pk p, P3 p np way nold a c ob oc where
  d1 : p.ds 1 = .lst (cells.map Mine.D.int)
  hnp : np < 2
  ha : a < 3
  hc : c < 3
  hw : way < 9
  ho : nold < 3
  hob : ob < 3
  hoc : oc < 3
theorem law_call {L : List Mine.D} {cells : List Int} {np a c way nold ob oc : Nat} (Y : Bs (Kf p.w.params) mg mb B) (P : PL p cells np a c way nold ob oc) (H : DrawsOk cells (draws np a c way nold ob oc)) (hL : L.length < 1000) (hcl : cellsD L = cells.map Mine.D.int) (h0 : cells ≠ []) (h1 : cells.length < 900) (ak : AOk A 200) :
    CallR p B A 732 [.d (.lst L)] [] (.bool true) [] := by
  obtain ⟨fd, s, b, fk, hu, k1, k2, k3, k4⟩ := lawB_eq (c_law p.w.params)
  have ht : third np (toldB way) nold a c ob oc = true := by
    cases toldB way with
    | true => exact third_t np P.hnp nold P.ho a P.ha c P.hc ob P.hob oc P.hoc
    | false => exact third_f np P.hnp nold P.ho a P.ha c P.hc ob P.hob oc P.hoc
  obtain ⟨ρe, σe, h3⟩ := isTrue_eq ht
  refine call_fn (F := oneF (ρs L) ρe [] σe (.ret (.bool true))) (f := { f60 with body := [.dead] }) ak.d Y ⟨fk.look, fk.body, fk.clo, fk.co, fk.gen, fk.kind, fk.glob, fk.bi, fk.code, fk.pp, fk.params, fk.le, fk.kinds, fk.dfl⟩ ?_ fun {Lc FA h M φ ρ fl ρ' σ'} e X => ?_
  · unfold fnBody
    rw [show bindArgs' { f60 with body := [.dead] } [W.d (.lst L)] = some (ρs L) from rfl]
    dsimp only
    rw [oneF_go]
    rfl
  · obtain ⟨rfl, _, rfl, rfl, rfl⟩ := oneF_xs (t := .dead) e
    have a' : AOk (A.deeper (callEnvC fd Lc f60.addr)) 199 := ak.deeper
    have C := fn_cx (L := Lc) fk hu
    have I0 := fun m => is_ Y P.toPk (N := 1) (Nat.le_refl _) orc0_ok m
    have D1 := ge_ Y P.toPk (N := 20) (by decide) (orc1_ok Y P.toPk P.d1 h0 h1 H)
    have D2 := ge_ Y P.toPk (N := 51) (by decide) (orc2_ok Y P.toPk P.hnp P.d1 h0 h1 H)
    have D3 := ge_ Y P.toPk (N := 61) (by decide) (orc3_ok Y P.toPk P.hnp P.hw P.ho P.toP3)
    rw [execs_cons]
    refine RunS.bind X (run_s0 (k := 0) (tb := tbl) (orc := orc0) (G := gt) Y ((gd_ Y P.toPk).bi _ (hasS_iff.mp (by kernel_rfl))) C (fun q => (I0 2).ev (a'.le (by decide)) C q) k1 hL X) fun f h₁ M₁ φ₁ X₁ m₁ r₁ => ?_
    cases r₁
    dsimp only
    have X₁' : FS p B (callEnvC fd Lc f60.addr) true FA f60.names h₁ M₁ φ₁ [tapeC 0] ρ0 := { (X₁.forg (ρ' := ρ0) (.drop (.keep (Forg.refl _)))) with
      S := X₁.S.to (.cons ⟨fun h M a x => by
        cases x with
        | lst y z =>
          cases z with
          | cons z r =>
            cases r with
            | cons z' r => cases r with
              | nil => exact .lst y (.cons (.sym 1 (by rw [P.d1, ← hcl]; exact z)) (.cons z' .nil)), ⟨fun q => (by cases q), fun q => (by cases q)⟩⟩ .nil) }
    rw [split_body b, execs_app]
    refine RunS.bind X₁' ((is_all D1 60).xs (a'.le (by decide)) C k2 (seg1_all np P.hnp a c way nold ob oc) X₁') fun f h₂ M₂ φ₂ X₂ m₂ r₂ => ?_
    cases r₂
    dsimp only
    rw [execs_app]
    refine RunS.bind X₂ ((is_all D2 50).xs (a'.le (by decide)) C k3 (seg2_all np P.hnp way P.hw nold P.ho a c ob oc) X₂) fun f h₃ M₃ φ₃ X₃ m₃ r₃ => ?_
    cases r₃
    dsimp only
    have X₃' : FS p B (callEnvC fd Lc f60.addr) true FA f60.names h₃ M₃ φ₃ σ3 (ρ3 (toldB way) nold a c ob oc) := { (X₃.forg (ρ' := ρ3 (toldB way) nold a c ob oc) (.keep (.drop (.keep (.keep (.drop (.keep (.keep (.drop (.drop (Forg.refl _))))))))))) with
      S := X₃.S.to (.cons ⟨fun h M a x => .any, ⟨fun q => (by cases q), fun q => (by cases q)⟩⟩ (.cons ⟨fun h M a x => .sym 0 (by rw [P.c0]; exact x), ⟨fun q => (by cases q), fun q => (by cases q)⟩⟩ (.cons ⟨fun h M a x => .sym 1 (by rw [P.c1]; exact x), ⟨fun q => (by cases q), fun q => (by cases q)⟩⟩ (.cons ⟨fun h M a x => x, Iff.rfl⟩ .nil)))) }
    exact third_xs (k := 59) D3 (a'.le (by decide)) C k4 h3 X₃'
end
end Mine

namespace Mine
open MineH
open PySem PySem.W PyProof.Rows PySem.Calls PySem.SeqAt

noncomputable abbrev rr := PySem.Challenge.rw_sa0521_01.row.toRowW
theorem rr_pre : rr.pre = .and (.not (.lt (.lit (.int 63)) (.len (.arg 0)))) (.lit (.bool true)) := rfl
theorem rr_args : rr.args = [.list .int] := rfl
theorem pre_len {R : WRecords} {xs : List WData} (h : WTm.holds R (.and (.not (.lt (.lit (.int 63)) (.len (.arg 0)))) (.lit (.bool true))) { args := [.list xs] } = true) : xs.length ≤ 63 := by
  rcases Nat.lt_or_ge 63 xs.length with q | q
  · exfalso
    have hl : less? (.int 63) (.int (xs.length : Int)) = some true := by
      show some (decide ((63 : Int) < (xs.length : Int))) = _
      rw [decide_eq_true (by omega)]
    have hv : WTm.value R (.lt (.lit (.int 63)) (.len (.arg 0))) { args := [.list xs] } = some (.bool true) := by
      show (less? (.int 63) (.int (xs.length : Int))).map WData.bool = _
      rw [hl]; rfl
    have h2 : WTm.value R (.and (.not (.lt (.lit (.int 63)) (.len (.arg 0)))) (.lit (.bool true))) { args := [.list xs] } = some (.bool false) := by
      unfold WTm.value
      unfold WTm.value
      rw [hv]
      rfl
    unfold WTm.holds at h
    rw [h2] at h
    cases h
  · exact q
theorem has_ints {R : WRecords} : ∀ {xs : List WData}, WShape.hasItems R xs .int = true → ∃ is : List Int, xs = is.map WData.int
  | [], _ => ⟨[], rfl⟩
  | x :: xs, h => by
    have h' : (WShape.has R x .int && WShape.hasItems R xs .int) = true := h
    replace h' := and2 h'
    obtain ⟨is, rfl⟩ := has_ints h'.2
    cases x with
    | int i => exact ⟨i :: is, rfl⟩
    | _ => exact absurd h'.1 Bool.false_ne_true
theorem args_ints {R : WRecords} {args : List WData} (h : WShape.hasAll R args [.list .int] = true) : ∃ is : List Int, args = [.list (is.map WData.int)] := by
  match args, h with
  | [x], h =>
    have h' : (WShape.has R x (.list .int) && true) = true := h
    rw [Bool.and_true] at h'
    cases x with
    | list xs =>
      obtain ⟨is, rfl⟩ := has_ints (R := R) (xs := xs) (by
        have : (WShape.hasItems R xs .int || false) = true := h'
        rwa [Bool.or_false] at this)
      exact ⟨is, rfl⟩
    | _ => exact absurd h' Bool.false_ne_true
  | [], h => cases h
  | _ :: _ :: _, h =>
    have h' := (Bool.and_eq_true_iff.mp h).2
    exact absurd h' Bool.false_ne_true
theorem well_ints {p : Pm} {P : Params} {h : Heap} {M : List Addr} : ∀ {is : List Int} {vs : List Value}, WellAll P h vs (is.map WData.int) → VRels p h M vs (is.map Mine.D.int)
  | [], _, w => by cases w; exact .nil
  | i :: is, _, w => by
    cases w with
    | cons a r =>
      cases a with
      | int _ t => exact .cons (.int i t) (well_ints r)
noncomputable def cellsI (is : List Int) : List Int := match is.take 24 with
  | [] => [5]
  | l => l
theorem cellsI_eq (is : List Int) : cellsD (is.map Mine.D.int) = (cellsI is).map Mine.D.int := by
  unfold cellsD cellsI
  rw [← List.map_take]
  cases is.take 24 with
  | nil => rfl
  | cons a r => rfl
theorem cellsI_ne (is : List Int) : cellsI is ≠ [] := by
  unfold cellsI
  split
  · simp
  · assumption
theorem cellsI_len (is : List Int) : (cellsI is).length < 900 := by
  unfold cellsI
  split
  · simp
  · rename_i l h
    have : (is.take 24).length ≤ 24 := by rw [List.length_take]; omega
    omega
theorem told_ (np a c way nold ob oc : Nat) (h1 : np < 2) (h2 : way < 9) (h3 : nold < 3) : ∃ d, (run tbl orc0 60).fn 16 [.shelf 0 1] (finC np a c way nold ob oc) = some (d, finC np a c way nold ob oc) ∧ eqD 20 d d = some true := goodR_eq (told_all np h1 way h2 nold h3 a c ob oc)
end Mine

namespace Mine
open MineH
open PySem PySem.W PyProof.Rows PySem.Calls PySem.SeqAt

theorem c_lawA (P : Params) : nsIn (Kf P) mainGlobals "law" = some (some (.ref 732)) := by kernel_rfl
theorem dd_name : dd.name = ("law" : Str) := defOf_name def_
theorem st_nil {p : Pm} {B : Heap} : St p B B [] [] [] where
  base b o e := e
  low a m := by cases m
  sub a m := by cases m
  nd i j a e := by simp at e
  len := rfl
  dead k := by simp
  cells k a c e := by simp at e
noncomputable def pm (prog : Program) (w : World) (cells : List Int) (T R : List (Key × Mine.D)) (told : Mine.D) : Pm := ⟨prog, w, fun i => match i with | 0 => told | _ => .lst (cells.map Mine.D.int), fun i => match i with | 0 => .dct T | _ => .dct R, 375, "table", "trailer"⟩
theorem post_ok (xs : List WData) : rr.claim.post [.list xs] (.bool true) [.list xs] = true := by kernel_rfl
theorem walk : WalkO qv loos (XL qv []) hk.says rr dd [] fun f vs => PySem.call f vs := by
  intro w s₀ s₁ mg mb G Yh a o pmv cd doc dV kV ho hod hcode hdfl hmg hgens args vals as hpre hlay hrd hwell hsys
  have hK : (Kf w.params).In s₁.heap := kIn_of Yh
  have Y : Bs (Kf w.params) mg mb s₁.heap := ⟨hK, G.T.g, G.T.b, G.T.nolimit, G.T.nodigits, G.T.builtins⟩
  have ha : a = 732 := by
    have h1 := mg_of hK G.T.g (c_lawA w.params)
    rw [dd_name, h1] at hmg
    cases hmg; rfl
  subst ha
  have hs := pre_splitW (r := rr) hpre
  rw [rr_args] at hs
  obtain ⟨is, rfl⟩ := args_ints hs.1
  have hlen : is.length ≤ 63 := by
    have h2 := hs.2
    rw [rr_pre] at h2
    have := pre_len h2
    rwa [List.length_map] at this
  cases hwell with
  | cons wl wr =>
  cases wr
  cases wl with
  | @list l vs _ hl wv =>
  obtain ⟨told, ht, htt⟩ := told_ (drawN (cellsI is) 0 1) (drawN (cellsI is) 1 2) (drawN (cellsI is) 2 2) (drawN (cellsI is) 3 8) (drawN (cellsI is) 4 2) (drawN (cellsI is) 5 2) (drawN (cellsI is) 6 2) (drawN_lt _ _ _) (drawN_lt _ _ _) (drawN_lt _ _ _)
  let p := pm rr.prog w (cellsI is) (finT (drawN (cellsI is) 0 1) (drawN (cellsI is) 1 2) (drawN (cellsI is) 2 2) (drawN (cellsI is) 3 8) (drawN (cellsI is) 4 2) (drawN (cellsI is) 5 2) (drawN (cellsI is) 6 2)) (trl (drawN (cellsI is) 0 1)) told
  have P : PL p (cellsI is) (drawN (cellsI is) 0 1) (drawN (cellsI is) 1 2) (drawN (cellsI is) 2 2) (drawN (cellsI is) 3 8) (drawN (cellsI is) 4 2) (drawN (cellsI is) 5 2) (drawN (cellsI is) 6 2) :=
    { sh := rfl, tn := rfl, rn := rfl, s0 := htt, c0 := rfl, c1 := rfl, told := ht, d1 := rfl, hnp := drawN_lt _ _ _, ha := drawN_lt _ _ _, hc := drawN_lt _ _ _, hw := drawN_lt _ _ _, ho := drawN_lt _ _ _, hob := drawN_lt _ _ _, hoc := drawN_lt _ _ _ }
  have ak : AOk callerA 200 := ⟨rfl, by decide +kernel, by decide +kernel⟩
  have call := law_call (p := p) (L := is.map Mine.D.int) Y P (draws_ok _) (by rw [List.length_map]; omega) (cellsI_eq is) (cellsI_ne is) (cellsI_len is) ak
  refine wpAny_call (kw := []) (call s₁ [.ref l] [] [] _ st_nil (.cons (.d (.lst ⟨0, hl⟩ (by simp) (well_ints wv))) .nil) fun v h' tk M' φ' S' m' hl' r => ?_)
  cases r
  exact GoodW.toG ⟨.inl ⟨.bool true, .bool true, [], rfl, fun _ => rfl, .bool true, post_ok _, fun _ => ⟨List.nodup_nil, fun a m => by cases m⟩⟩, fun b o e => m'.keep b o (by simp) (by simp) e, rfl, hgens⟩
theorem all_ : PySem.Challenge.rw_sa0521_01.Holds := hd walk
end Mine

theorem PySem.Challenge.cw_sa0521_01_holds : PySem.Challenge.rw_sa0521_01.Holds := by
  exact Mine.all_
