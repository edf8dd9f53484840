import PyProof.Rows.All
import Wide.All
import OpenK.AllK
import Wide.FinOn
import Lean
import PySem.Challenge.RW_og0191_01
set_option Elab.async false
set_option maxRecDepth 100000
set_option maxHeartbeats 0
set_option linter.all false

namespace Mine

section
open PySem PySem.W PyProof.Rows
abbrev rowL := PySem.Challenge.rw_og0191_01.row
local macro_rules | `(tactic| o_head $_) => `(tactic| assumption)
theorem hd (h : rowL.Holds) : rowL.Holds := by k_head
end

-- Said
section
open PySem PySem.W PyProof.Rows
noncomputable abbrev lawR : OpenLaw := PySem.Challenge.rw_og0191_01
noncomputable abbrev lkC : Look := { strict := false, foot := none, bare := [] }

noncomputable def longOk (x : Str) : Bool := Nat.ble 100 x.cps.toList.length && x.cps.toList.all (fun c => !(Nat.beq c 123) && !(Nat.beq c 125) && !(Nat.beq c 46) && !(Nat.beq c 95))
theorem frameShort : (frameAttrs.all fun y => Nat.ble y.cps.toList.length 99) = true := by k_qdec
theorem long_str {x : Str} (h : longOk x = true) : lkC.str x = true := by
  unfold longOk at h
  obtain ⟨h1, h2⟩ := Bool.and_eq_true_iff.mp h
  have h1 := Nat.le_of_ble_eq_true h1
  have hw : ∀ c ∈ x.cps.toList, c ≠ 123 ∧ c ≠ 125 ∧ c ≠ 46 ∧ c ≠ 95 := by
    intro c hc
    have := List.all_eq_true.mp h2 c hc
    simp only [Bool.and_eq_true, Bool.not_eq_true'] at this
    obtain ⟨⟨⟨a, b⟩, c⟩, d⟩ := this
    exact ⟨Nat.ne_of_beq_eq_false a, Nat.ne_of_beq_eq_false b, Nat.ne_of_beq_eq_false c, Nat.ne_of_beq_eq_false d⟩
  have hf : frameAttrs.contains x = false := by
    cases hq : frameAttrs.contains x with
    | false => rfl
    | true =>
      have hm : x ∈ frameAttrs := by simpa using hq
      have := Nat.le_of_ble_eq_true (List.all_eq_true.mp frameShort x hm)
      omega
  have ho : x.opensWith "__" = false := by
    cases hq : x.opensWith "__" with
    | false => rfl
    | true =>
      exfalso
      unfold Str.opensWith at hq
      have e := eq_of_beq hq
      have hu : (Str.ofString "__").cps = #[95, 95] := by decide +kernel
      rw [hu] at e
      have : (95 : Nat) ∈ x.cps.extract 0 (#[95, 95] : Array Nat).size := by rw [e]; simp
      rw [Array.mem_extract_iff_getElem] at this
      obtain ⟨k, hk, hk2⟩ := this
      exact (hw 95 (by rw [Array.mem_toList_iff, ← hk2]; exact Array.getElem_mem _)).2.2.2 rfl
  have hr : roadStr x = false := by
    unfold roadStr
    have h1 : (x.cps.any fun c => c == 123 || c == 125) = false := by
      rw [Array.any_eq_false]
      intro i hi hh
      have := hw x.cps[i] (by rw [Array.mem_toList_iff]; exact Array.getElem_mem _)
      simp only [Bool.or_eq_true, beq_iff_eq] at hh
      rcases hh with hh | hh
      · exact this.1 hh
      · exact this.2.1 hh
    have h2 : (x.cps.any fun c => c == 46) = false := by
      rw [Array.any_eq_false]
      intro i hi hh
      have := hw x.cps[i] (by rw [Array.mem_toList_iff]; exact Array.getElem_mem _)
      simp only [beq_iff_eq] at hh
      exact this.2.2.1 hh
    rw [h1, h2]
    rfl
  unfold Look.str Look.word attrL
  rw [hf, ho, hr]
  simp
theorem long_assign {n x : Str} {c k d e} (h : longOk x = true) : noRoadLS lkC (.Assign [.Name n c] (.Constant (.str x) k d) e) = true := long_str h
theorem road_append (lk : Look) : ∀ a b : List Stmt, noRoadLSs lk a = true → noRoadLSs lk b = true → noRoadLSs lk (a ++ b) = true
  | [], _, _, h => h
  | s :: r, b, h, h' => by
    have h : (noRoadLS lk s && noRoadLSs lk r) = true := h
    have h := Bool.and_eq_true_iff.mp h
    exact Bool.and_eq_true_iff.mpr ⟨h.1, road_append lk r b h.2 h'⟩
theorem road_cons {lk : Look} {s : Stmt} {r : List Stmt} (h : noRoadLS lk s = true) (h' : noRoadLSs lk r = true) : noRoadLSs lk (s :: r) = true := Bool.and_eq_true_iff.mpr ⟨h, h'⟩
noncomputable def nth (p : Program) (k : Nat) : Stmt := p.main.body.getD k default
theorem pB : noRoadLS lkC (nth lawR.prog 31) = true := by conv => { lhs; arg 2; whnf }; exact long_assign (by k_qdec)
theorem pD1 : noRoadLS lkC (nth lawR.prog 34) = true := by conv => { lhs; arg 2; whnf }; exact long_assign (by k_qdec)
theorem pD2 : noRoadLS lkC (nth lawR.prog 35) = true := by conv => { lhs; arg 2; whnf }; exact long_assign (by k_qdec)
theorem pD3 : noRoadLS lkC (nth lawR.prog 36) = true := by conv => { lhs; arg 2; whnf }; exact long_assign (by k_qdec)
theorem pD4 : noRoadLS lkC (nth lawR.prog 37) = true := by conv => { lhs; arg 2; whnf }; exact long_assign (by k_qdec)
theorem partB' : noRoadLSs lkC [nth lawR.prog 31] = true := road_cons pB rfl
theorem partB : noRoadLSs lkC ((lawR.prog.main.body.drop 31).take 1) = true := partB'
theorem partD' : noRoadLSs lkC [nth lawR.prog 34, nth lawR.prog 35, nth lawR.prog 36, nth lawR.prog 37] = true := road_cons pD1 (road_cons pD2 (road_cons pD3 (road_cons pD4 rfl)))
theorem partD : noRoadLSs lkC ((lawR.prog.main.body.drop 34).take 4) = true := partD'
noncomputable abbrev road_tw := @PySem.W.Fast.tw8326940854005059898
theorem road_te : @noRoadLSs = @PySem.W.Fast.tw8326940854005059898 := PySem.W.Fast.te8326940854005059898
theorem partA : noRoadLSs lkC (lawR.prog.main.body.take 31) = true := by rw [road_te]; kernel_rfl
theorem partC : noRoadLSs lkC ((lawR.prog.main.body.drop 32).take 2) = true := by rw [road_te]; kernel_rfl
theorem partE : noRoadLSs lkC (lawR.prog.main.body.drop 38) = true := by rw [road_te]; kernel_rfl
theorem road : noRoadLSs lkC lawR.prog.main.body = true := by
  have e : lawR.prog.main.body = lawR.prog.main.body.take 31 ++ ((lawR.prog.main.body.drop 31).take 1 ++ ((lawR.prog.main.body.drop 32).take 2 ++ ((lawR.prog.main.body.drop 34).take 4 ++ lawR.prog.main.body.drop 38))) := by
    generalize lawR.prog.main.body = b
    have h4 : (b.drop 34).take 4 ++ b.drop 38 = b.drop 34 := by
      have := List.take_append_drop 4 (b.drop 34); rw [List.drop_drop] at this; exact this
    have h3 : (b.drop 32).take 2 ++ b.drop 34 = b.drop 32 := by
      have := List.take_append_drop 2 (b.drop 32); rw [List.drop_drop] at this; exact this
    have h2 : (b.drop 31).take 1 ++ b.drop 32 = b.drop 31 := by
      have := List.take_append_drop 1 (b.drop 31); rw [List.drop_drop] at this; exact this
    rw [h4, h3, h2, List.take_append_drop]
  rw [e]
  exact road_append _ _ _ partA (road_append _ _ _ partB (road_append _ _ _ partC (road_append _ _ _ partD partE)))
theorem look_road : ∀ lk, lk = lkC → road_tw lk lawR.row.prog.main.body = true := by
  rintro _ rfl
  have h := road
  rw [road_te] at h
  exact h
theorem looks : looksOpen lawR.row.prog = true := by
  rw [show @looksOpen = _ from PySem.W.Fast.te12908688711261696721]
  delta PySem.W.Fast.tw12908688711261696721
  with_reducible refine look_both (look_both (look_both (look_both (look_both ?a1 ?a2) ?a3) ?a4) ?a5) ?a6
  case a5 => exact look_road _ (by kernel_rfl)
  all_goals kernel_rfl
theorem said_part : lawR.row.partSaid = true := by
  have h := looks
  rw [show @OpenRow.partSaid = _ from PySem.W.Fast.te2436336058641802641]
  rw [show @looksOpen = _ from PySem.W.Fast.te12908688711261696721] at h
  delta PySem.W.Fast.tw2436336058641802641
  repeat' (first | with_reducible exact h | with_reducible refine look_both ?_ ?_ | kernel_rfl)
theorem row_said : lawR.row.wellSaid = true := by
  have h := said_part
  rw [show @OpenRow.wellSaid = _ from PySem.W.Fast.te17960256430627541270]
  rw [show @OpenRow.partSaid = _ from PySem.W.Fast.te2436336058641802641] at h
  delta PySem.W.Fast.tw17960256430627541270
  repeat' (first | with_reducible exact h | with_reducible refine look_both ?_ ?_ | kernel_rfl)
theorem said : lawR.wellSaid = true := by
  have h := row_said
  rw [show @OpenLaw.wellSaid = _ from PySem.W.Fast.te9446332074065402090]
  rw [show @OpenRow.wellSaid = _ from PySem.W.Fast.te17960256430627541270, show @OpenLaw.row = _ from PySem.W.Fast.te2368527892694137696] at h
  delta PySem.W.Fast.tw9446332074065402090
  repeat' (first | with_reducible exact h | with_reducible refine look_both ?_ ?_ | kernel_rfl)
end

-- Top
section
open PySem PySem.W PyProof.Rows
section
variable {tb : String → Option Builtin} {p : Program} {w : World} {n₀ : Nat} {ann : Option Value}
noncomputable def topRunT (tb : String → Option Builtin) (p : Program) (w : World) (n₀ : Nat) (ann : Option Value) : Nat → SharedT → Thread → Option SharedT
  | 0, _, _ => none
  | n + 1, s, t => match through t with
    | true => some s
    | false => match stepOk n₀ ann t with
      | false => none
      | true => match stepT (denote tb) p w s t with
        | some (s', t') => topRunT tb p w n₀ ann n s' t'
        | none => none
theorem topRun_ofT : ∀ {n : Nat} {s s' : SharedT} {t : Thread}, topRunT tb p w n₀ ann n s t = some s' → topRun tb p w n₀ ann n s.abs t = some s'.abs
  | 0, _, _, _, h => by cases h
  | n + 1, s, s', t, h => by
    unfold topRunT at h
    unfold topRun
    cases he : through t with
    | true => rw [he] at h; cases h; rfl
    | false =>
      rw [he] at h
      cases hk : stepOk n₀ ann t with
      | false => rw [hk] at h; cases h
      | true =>
        rw [hk] at h
        cases hs : stepT (denote tb) p w s t with
        | none => rw [hs] at h; cases h
        | some r => obtain ⟨s₂, t₂⟩ := r; rw [hs] at h; rw [stepT_spec hs]; exact topRun_ofT h
end
noncomputable def bootT (P : Params) : BT := (boot_heap P).objs.toList.zipIdx.foldl (fun t x => t.ins x.2 x.1) .nil
noncomputable def bootLife : Life := { debug := Int.ofNat 0, thresholds := [Int.ofNat 2000, Int.ofNat 10, Int.ofNat 10] }
theorem boot_tree : ∀ P, absHeap (bootT P) 11 bootLife = boot_heap P := by intro P; kernel_rfl
theorem boot_size : ∀ P, ((boot_heap P).isNs mainGlobals, (boot_heap P).objs.size, (boot_heap P).nsMap mainGlobals "__annotations__") = (true, 11, some (Value.ref 6)) := by intro P; kernel_rfl
noncomputable def startT (P : Params) (os : OsState) : SharedT := ⟨bootT P, 11, bootLife, Array.mk [], boot_drawn, boot_toks, os⟩
theorem leftO_big {p q : Program} {loose : List Str} {Xt : Shared → Bool} {α : Type} {Yf : Shared → α} {Ya : World → α} {N : Nat} {g0 : Bool}
    (open_ : ∀ w : World, (fencedOpening treeTable p w N).map (fun s => (s.heap, s.gens, s.drawn, s.toks)) = some (boot_heap w.params, Array.mk [], boot_drawn, boot_toks))
    (big : ∀ (w : World) (os : OsState), (topRunT treeTable p w 11 (some (Value.ref 6)) N (startT w.params os) (topStub p)).map (fun s => (fun S : Shared =>
      ((staticsOk (importedModules p.main.body) (boot_heap w.params) S.heap && namesBound p S.heap && gensDone S && laidKept (boot_heap w.params) S.heap), openSeen q loose (importedModules p.main.body) Xt g0 S, Yf S)) s.abs) = some (true, openGood q loose, Ya w)) : LeftO p q loose Xt Yf Ya N g0 := fun w => by
  obtain ⟨⟨h, gs, d, k, os⟩, e, e'⟩ := Option.map_eq_some_iff.mp (open_ w)
  obtain ⟨rfl, rfl, rfl, rfl⟩ : h = boot_heap w.params ∧ gs = Array.mk [] ∧ d = boot_drawn ∧ k = boot_toks := by simpa using e'
  obtain ⟨z1, z2, z3⟩ : _ ∧ _ ∧ _ := by simpa only [Prod.mk.injEq] using boot_size w.params
  obtain ⟨s, r, l⟩ := Option.map_eq_some_iff.mp (big w os)
  have r' := topRun_ofT r
  have e0 : (startT w.params os).abs = ⟨boot_heap w.params, Array.mk [], boot_drawn, boot_toks, os⟩ := by
    unfold startT SharedT.abs
    dsimp only
    rw [boot_tree]
  rw [e0] at r'
  have l1 := congrArg Prod.fst l
  have l2 := congrArg (fun x => x.2.1) l
  have l3 := congrArg (fun x => x.2.2) l
  dsimp only at l1 l2 l3
  have t : topFrom treeTable p w N ⟨boot_heap w.params, Array.mk [], boot_drawn, boot_toks, os⟩ = some s.abs := by
    unfold topFrom
    dsimp only
    rw [z1, z2, z3, r']
    show (match staticsOk (importedModules p.main.body) (boot_heap w.params) s.abs.heap && namesBound p s.abs.heap && gensDone s.abs && laidKept (boot_heap w.params) s.abs.heap with | true => _ | false => _) = _
    rw [l1]
  unfold openEnds
  rw [e]
  show (topFrom treeTable p w N _).map _ = _
  rw [t]
  exact congrArg some (Prod.ext l2 l3)
noncomputable abbrev pw : Program := PySem.Challenge.pw_og0191_01
noncomputable def loose : List Str := Str.ofString "_wall" :: Str.ofString "PaperError" :: Str.ofString "FontFault" :: Str.ofString "Decimal" :: Str.ofString "sign_text" :: Str.ofString "decimal_of" :: Str.ofString "at_one_scale" :: Str.ofString "MOST_HOPS" :: Str.ofString "Name" :: Str.ofString "String" :: Str.ofString "Stream" :: Str.ofString "Reference" :: Str.ofString "kind_of" :: Str.ofString "is_number" :: Str.ofString "Lookup" :: Str.ofString "MOST_LENGTH" :: Str.ofString "HEX_SIGNS" :: Str.ofString "CMap" :: Str.ofString "code_of" :: Str.ofString "code_octets" :: Str.ofString "fitting" :: Str.ofString "next_length" :: Str.ofString "split_codes" :: Str.ofString "identity_map" :: Str.ofString "FIGURES" :: Str.ofString "NO_GLYPH" :: Str.ofString "LOW_NAMES" :: Str.ofString "MIDDLE_NAMES" :: Str.ofString "HIGH_NAMES" :: Str.ofString "LATIN_NAMES" :: Str.ofString "STANDARD_WORDS" :: Str.ofString "WIN_WORDS" :: Str.ofString "MAC_WORDS" :: Str.ofString "OTHER_CODES" :: Str.ofString "SURROGATES" :: Str.ofString "MOST_CODE" :: Str.ofString "ascii_names" :: Str.ofString "latin_names" :: Str.ofString "with_words" :: Str.ofString "base_names" :: Str.ofString "with_differences" :: Str.ofString "encoding_of" :: Str.ofString "hex_number" :: Str.ofString "is_sign_code" :: Str.ofString "known_code" :: Str.ofString "part_text" :: Str.ofString "glyph_text" :: Str.ofString "HELVETICA" :: Str.ofString "TIMES" :: Str.ofString "COURIER_WIDTH" :: Str.ofString "number_of" :: Str.ofString "whole_of" :: Str.ofString "wide_rows" :: Str.ofString "simple_rows" :: Str.ofString "width_in" :: Str.ofString "standard_widths" :: Str.ofString "standard_width" :: Str.ofString "name_at" :: Str.ofString "descendant_of" :: Str.ofString "array_at" :: Str.ofString "missing_width" :: Str.ofString "unit_of" :: Str.ofString "cid_of" :: Str.ofString "identity_cutting" :: Str.ofString "Font" :: Str.ofString "string_width" :: Str.ofString "string_text" :: Str.ofString "simple_font" :: Str.ofString "wide_font" :: Str.ofString "_law_glyphs" :: Str.ofString "_law_pot" :: Str.ofString "_law_draw" :: Str.ofString "_law_number" :: Str.ofString "_law_fraction" :: Str.ofString "_law_product" :: Str.ofString "_law_sum" :: Str.ofString "_law_texts" :: Str.ofString "_law_simple" :: Str.ofString "_law_cut" :: Str.ofString "_law_glyph" :: Str.ofString "_law_wide" :: Str.ofString "_law_is_refused" :: []
noncomputable def qOf (p : Program) : Program := view p [89]
noncomputable abbrev q : Program := qOf pw
theorem open_ok : ∀ w : World, (fencedOpening treeTable pw w 12000).map (fun s => (s.heap, s.gens, s.drawn, s.toks)) = some (boot_heap w.params, Array.mk [], boot_drawn, boot_toks) := boot_open (by rfl) (by decide) (fun s => by rfl)
noncomputable def as : List Addr := [2, 3, 15, 17, 18, 20, 21, 22, 29, 30, 32, 33, 35, 36, 37, 39, 40, 42, 43, 44, 45, 46, 47, 50, 57, 58, 59, 69, 71, 72, 74, 75, 76, 78, 79, 81, 82, 83, 85, 86, 88, 89, 90, 92, 93, 95, 96, 97, 99, 100, 102, 103, 104, 106, 107, 109, 110, 111, 113, 114, 116, 117, 118, 120, 121, 123, 124, 125, 127, 128, 130, 131, 132, 134, 135, 137, 138, 139, 141, 142, 144, 145, 146, 148, 149, 151, 152, 153, 154, 155, 156, 157, 160, 162, 163, 165, 166, 167, 169, 170, 172, 173, 174, 176, 177, 179, 180, 188, 190, 191, 193, 194, 195, 196, 197, 198, 199, 209, 210, 212, 213, 215, 216, 217, 218, 219, 220, 221, 231, 233, 234, 236, 237, 238, 239, 240, 241, 242, 252, 254, 255, 257, 258, 259, 261, 262, 264, 265, 266, 267, 268, 269, 270, 273, 275, 276, 278, 279, 280, 282, 283, 285, 286, 294, 295, 297, 298, 300, 301, 302, 304, 305, 307, 308, 309, 311, 312, 314, 315, 316, 317, 318, 319, 320, 330, 332, 333, 335, 336, 337, 340, 341, 342, 343, 344, 345, 346, 349, 351, 352, 354, 355, 356, 359, 360, 361, 363, 364, 366, 367, 368, 371, 372, 373, 375, 376, 378, 379, 380, 382, 383, 385, 386, 387, 390, 391, 394, 395, 396, 399, 400, 401, 403, 404, 406, 407, 408, 411, 412, 413, 415, 416, 418, 419, 420, 423, 424, 425, 427, 428, 430, 431, 432, 434, 435, 437, 438, 439, 441, 442, 444, 445, 446, 449, 450, 451, 454, 455, 456, 457, 458, 460, 461, 463, 464, 465, 467, 468, 470, 471, 472, 475, 476, 477, 480, 481, 482, 484, 485, 487, 488, 489, 491, 492, 494, 495, 496, 498, 499, 501, 502, 503, 505, 506, 508, 509, 510, 512, 513, 515, 516, 517, 519, 520, 522, 523, 524, 526, 527, 529, 530, 531, 533, 534, 536, 537, 538, 540, 541, 543, 544, 545, 547, 548, 550, 551, 559, 561, 562, 564, 565, 566, 569, 570, 571, 573, 574, 576, 577, 578, 580, 581, 583, 584, 585, 586, 587, 588, 589, 592, 594, 595, 597, 598, 599, 602, 603, 604, 605, 607, 608, 610, 611, 612, 613, 615, 616, 618, 619, 620, 622, 623, 625, 626, 627, 630, 631, 632, 634, 635, 637, 638, 639, 641, 642, 644, 645, 646, 648, 649, 651, 652, 653, 655, 656, 658, 659, 660, 663, 664, 665, 667, 668, 670, 671, 672, 675, 676, 677, 679, 680, 682, 683, 684, 687, 688, 689, 692, 693, 694, 696, 697, 699, 700, 701, 704, 705]
theorem as_ok : ∀ P, as = (hd.heap_1 P).map (·.1) := fun _ => by kernel_rfl
noncomputable def obs (s : Shared) : List (Option Obj) := as.map s.heap.get?
noncomputable def ign {α : Type} (_ : α) : Bool := true
noncomputable def XtOf (p : Program) : Shared → Bool := fun s => xlAt (qOf p) [] s && recOk [] s
noncomputable def look (p : Program) (w : World) (S : Shared) := ((staticsOk (importedModules p.main.body) (boot_heap w.params) S.heap && namesBound p S.heap && gensDone S && laidKept (boot_heap w.params) S.heap), openSeen (qOf p) loose (importedModules p.main.body) (XtOf p) true S, obs S)
noncomputable def obsT (s : SharedT) : List (Option Obj) := as.map fun a => match (if a < s.n then some ((s.tree.get a).getD default) else none : Option Obj) with
  | some ⟨_, _, .freed, _⟩ => none
  | o => o
theorem obs_T (s : SharedT) : obs s.abs = obsT s := by
  unfold obs obsT
  refine List.map_congr_left fun a _ => ?_
  show Heap.get? (absHeap s.tree s.n s.life) a = _
  unfold Heap.get?
  rw [absHeap_at]
  rfl
noncomputable def lookT (p : Program) (w : World) (s : SharedT) := ((staticsOk (importedModules p.main.body) (boot_heap w.params) s.abs.heap && namesBound p s.abs.heap && gensDone s.abs && laidKept (boot_heap w.params) s.abs.heap), openSeen (qOf p) loose (importedModules p.main.body) (XtOf p) true s.abs, obsT s)
theorem look_T (p : Program) (w : World) (s : SharedT) : look p w s.abs = lookT p w s := by unfold look lookT; rw [obs_T]
noncomputable def bigL (p : Program) (w : World) (os : OsState) := (topRunT treeTable p w 11 (some (Value.ref 6)) 12000 (startT w.params os) (topStub p)).map (fun s => lookT p w s)
theorem bigL_eq (p : Program) (w : World) (os : OsState) : (topRunT treeTable p w 11 (some (Value.ref 6)) 12000 (startT w.params os) (topStub p)).map (fun s => look p w s.abs) = bigL p w os := congrArg (fun f => Option.map f _) (funext fun s => look_T p w s)
noncomputable def goodR (p : Program) := openGood (qOf p) loose
theorem ignL : ign bigL = true := by k_qdec
theorem ignR : ign goodR = true := by k_qdec
theorem big0 (w : World) (os : OsState) : PySem.W.Fast.tw13517217818711754228 pw (w.withFollow "special-get-raises" false) os = some (true, PySem.W.Fast.tw6507052236452232414 pw, (hd.heap_1 (w.withFollow "special-get-raises" false).params).map fun p : Nat × Obj => some p.2) := by kernel_rfl
theorem big1 (w : World) (os : OsState) : PySem.W.Fast.tw13517217818711754228 pw (w.withFollow "special-get-raises" true) os = some (true, PySem.W.Fast.tw6507052236452232414 pw, (hd.heap_1 (w.withFollow "special-get-raises" true).params).map fun p : Nat × Obj => some p.2) := by kernel_rfl
theorem left : LeftO pw q loose (XtOf pw) obs (fun w => (hd.heap_1 w.params).map fun p : Nat × Obj => some p.2) 12000 := by
  refine leftO_big open_ok fun w os => ?_
  refine Eq.trans (bigL_eq pw w os) ?_
  refine byRow2 "special-get-raises" (P := fun w => (bigL pw w os) = some (true, goodR pw, (hd.heap_1 w.params).map fun p : Nat × Obj => some p.2)) (fun w => ?_) (fun w => ?_) w
  · have e := big0 w os
    rw [show @bigL = _ from PySem.W.Fast.te13517217818711754228, show @goodR = _ from PySem.W.Fast.te6507052236452232414]
    exact e
  · have e := big1 w os
    rw [show @bigL = _ from PySem.W.Fast.te13517217818711754228, show @goodR = _ from PySem.W.Fast.te6507052236452232414]
    exact e
theorem top_holds (hw : rowL.toRowW.promised) (call : ∀ d, defOf q rowL.name = some (d, []) → WalkO q loose (XL q []) (kHook hd.heap_1 as as_ok).says rowL.toRowW d [] fun f vs => PySem.call f vs) : PySem.Challenge.rw_og0191_01.Holds := by
  refine holds_law Mine.said fun said => ?_
  exact PySem.W.holds_open (q := q) (loose := loose) (Xt := XtOf pw) (XP := XL q []) (Yf := obs) (Ya := fun w => (hd.heap_1 w.params).map fun p : Nat × Obj => some p.2) (YP := (kHook hd.heap_1 as as_ok).says) (N := 12000) left (kHook hd.heap_1 as as_ok).of (kHook hd.heap_1 as as_ok).keeps (fun s e => xl_of s (Bool.and_eq_true_iff.mp e).1) XL.keeps (by rfl) (by rfl) (by rfl) (fun s e => recFacts_of (Bool.and_eq_true_iff.mp e).2) (by rfl) said (by decide +kernel) ⟨rfl, rfl, rfl, rfl, rfl, by decide +kernel⟩ hw (call _ (by rfl))
end

-- B1
section
theorem ub_fin {a k l : Nat} (h : a ≤ k) (e : Nat.ble k l = true) : a ≤ l := Nat.le_trans h (Nat.le_of_ble_eq_true e)
theorem ub_finL {a k l : Nat} (h : a ≤ k) (e : Nat.ble (k + 1) l = true) : a < l := Nat.lt_of_le_of_lt h (Nat.le_of_ble_eq_true e)
theorem ub_lit {n : Nat} : (@OfNat.ofNat Nat n (instOfNatNat n)) ≤ n := Nat.le_refl _
theorem ub_lt {a k : Nat} (h : a < k) : a ≤ k - 1 := Nat.le_sub_one_of_lt h
theorem ub_ltr {a b k : Nat} (h : a < b) (g : b ≤ k) : a ≤ k - 1 := Nat.le_sub_one_of_lt (Nat.lt_of_lt_of_le h g)
theorem ub_etr {a b k : Nat} (h : a = b) (g : b ≤ k) : a ≤ k := h ▸ g
theorem ub_etr' {a b k : Nat} (h : b = a) (g : b ≤ k) : a ≤ k := h ▸ g
theorem ub_mul {c b l : Nat} (h : b ≤ l) : c * b ≤ c * l := Nat.mul_le_mul_left c h
theorem ub_tn {x k : Int} (h : x ≤ k) : x.toNat ≤ k.toNat := Int.toNat_le_toNat h
theorem ub_sub {a b k : Nat} (h : a ≤ k) : a - b ≤ k := Nat.le_trans (Nat.sub_le _ _) h
theorem ub_minl {a b k : Nat} (h : a ≤ k) : min a b ≤ k := Nat.le_trans (Nat.min_le_left _ _) h
theorem ub_minr {a b k : Nat} (h : b ≤ k) : min a b ≤ k := Nat.le_trans (Nat.min_le_right _ _) h
theorem ub_app {α : Type} {a b : List α} {k l : Nat} (h : a.length ≤ k) (g : b.length ≤ l) : (a ++ b).length ≤ k + l := by rw [List.length_append]; exact Nat.add_le_add h g
theorem ub_nil {α : Type} : ([] : List α).length ≤ 0 := Nat.le_refl _
theorem ub_cons {α : Type} {x : α} {r : List α} {k : Nat} (h : r.length ≤ k) : (x :: r).length ≤ k + 1 := Nat.succ_le_succ h
theorem ub_set {α : Type} {x : α} {r : List α} {i k : Nat} (h : r.length ≤ k) : (r.set i x).length ≤ k := by rw [List.length_set]; exact h
theorem ub_map {α β : Type} {f : α → β} {r : List α} {k : Nat} (h : r.length ≤ k) : (r.map f).length ≤ k := by rw [List.length_map]; exact h
theorem ub_rep {α : Type} {x : α} {n k : Nat} (h : n ≤ k) : (List.replicate n x).length ≤ k := by rw [List.length_replicate]; exact h
theorem un_b {N : Nat} : N ≤ N + 0 := Nat.le_refl _
theorem un_add {a b N c k : Nat} (h : a ≤ N + c) (g : b ≤ k) : a + b ≤ N + (c + k) := by rw [← Nat.add_assoc]; exact Nat.add_le_add h g
theorem un_fin {a N c d : Nat} (h : a ≤ N + c) (e : Nat.ble c d = true) : a ≤ N + d := Nat.le_trans h (Nat.add_le_add_left (Nat.le_of_ble_eq_true e) N)
theorem ib_lit {n : Nat} : (@OfNat.ofNat Int n instOfNat) ≤ (@OfNat.ofNat Int n instOfNat) := Int.le_refl _
theorem ib_lt {x k : Int} (h : x < k) : x ≤ k - 1 := Int.le_sub_one_of_lt h
theorem ib_add {a b k l : Int} (h : a ≤ k) (g : b ≤ l) : a + b ≤ k + l := Int.add_le_add h g
theorem ib_cast {a k : Nat} (h : a ≤ k) : (a : Int) ≤ (k : Int) := Int.ofNat_le.mpr h
theorem ib_etr {a b k : Int} (h : a = b) (g : b ≤ k) : a ≤ k := h ▸ g
theorem ib_ltr {a b k : Int} (h : a < b) (g : b ≤ k) : a ≤ k - 1 := Int.le_sub_one_of_lt (Int.lt_of_lt_of_le h g)
theorem ib_fin {a k l : Int} (h : a ≤ k) (e : decide (k ≤ l) = true) : a ≤ l := Int.le_trans h (of_decide_eq_true e)
theorem ib_finL {a k l : Int} (h : a ≤ k) (e : decide (k < l) = true) : a < l := Int.lt_of_le_of_lt h (of_decide_eq_true e)
theorem nn_lit {n : Nat} : (0 : Int) ≤ (@OfNat.ofNat Int n instOfNat) := Int.natCast_nonneg n
theorem nn_cast {n : Nat} : (0 : Int) ≤ (n : Int) := Int.natCast_nonneg n
theorem nn_add {a b : Int} (h : 0 ≤ a) (g : 0 ≤ b) : 0 ≤ a + b := Int.add_nonneg h g
theorem nn_mul {a b : Int} (h : 0 ≤ a) (g : 0 ≤ b) : 0 ≤ a * b := Int.mul_nonneg h g
theorem nn_big {x : Int} {n : Nat} (h : 0 ≤ x) : -(@OfNat.ofNat Int n instOfNat) ≤ x := Int.le_trans (Int.neg_nonpos_of_nonneg (Int.natCast_nonneg n)) h
theorem le_cr {a b c : Nat} (h : a ≤ b) : a ≤ b + c := Nat.le_add_right_of_le h
theorem nn_neg {a x : Int} (h : 0 ≤ x) (e : decide (a ≤ 0) = true) : a ≤ x := Int.le_trans (of_decide_eq_true e) h
theorem nn_negL {a x : Int} (h : 0 ≤ x) (e : decide (a < 0) = true) : a < x := Int.lt_of_lt_of_le (of_decide_eq_true e) h
theorem below12 {i : Int} (h0 : 0 ≤ i) (h1 : i < 12) : i = 0 ∨ i = 1 ∨ i = 2 ∨ i = 3 ∨ i = 4 ∨ i = 5 ∨ i = 6 ∨ i = 7 ∨ i = 8 ∨ i = 9 ∨ i = 10 ∨ i = 11 := by
  obtain ⟨n, rfl⟩ := Int.eq_ofNat_of_zero_le h0
  exact (by decide : ∀ n : Nat, n < 12 → ((n : Int) = 0 ∨ (n : Int) = 1 ∨ (n : Int) = 2 ∨ (n : Int) = 3 ∨ (n : Int) = 4 ∨ (n : Int) = 5 ∨ (n : Int) = 6 ∨ (n : Int) = 7 ∨ (n : Int) = 8 ∨ (n : Int) = 9 ∨ (n : Int) = 10 ∨ (n : Int) = 11)) n (Int.ofNat_lt.mp h1)
theorem below3 {i : Int} (h0 : 0 ≤ i) (h1 : i < 3) : i = 0 ∨ i = 1 ∨ i = 2 := by
  obtain ⟨n, rfl⟩ := Int.eq_ofNat_of_zero_le h0
  exact (by decide : ∀ n : Nat, n < 3 → ((n : Int) = 0 ∨ (n : Int) = 1 ∨ (n : Int) = 2)) n (Int.ofNat_lt.mp h1)
theorem max_cast (p q : Nat) : ((max p q : Nat) : Int) = max (p : Int) q := by
  rcases Nat.le_total p q with h | h
  · rw [Nat.max_eq_right h, Int.max_eq_right (Int.ofNat_le.mpr h)]
  · rw [Nat.max_eq_left h, Int.max_eq_left (Int.ofNat_le.mpr h)]
theorem max_sub_l (p q : Nat) : max p q - p = (max (p : Int) q - (p : Int)).toNat := by rw [← max_cast, Int.toNat_sub]
theorem max_sub_r (p q : Nat) : max p q - q = (max (p : Int) q - (q : Int)).toNat := by rw [← max_cast, Int.toNat_sub]
theorem sub_add_sub {m q k : Nat} (h1 : q ≤ m) (h2 : m ≤ k) : m - q + (k - m) = k - q := by rw [Nat.add_comm, Nat.sub_add_sub_cancel h2 h1]
theorem max_le {p q k : Nat} (hp : p ≤ k) (hq : q ≤ k) : max p q ≤ k := Nat.max_le.mpr ⟨hp, hq⟩
theorem max_sub_le_l {p q k : Nat} (hp : p ≤ k) (hq : q ≤ k) : (max (p : Int) q - (p : Int)).toNat ≤ k := by rw [← max_sub_l]; exact Nat.le_trans (Nat.sub_le _ _) (max_le hp hq)
theorem max_sub_le_r {p q k : Nat} (hp : p ≤ k) (hq : q ≤ k) : (max (p : Int) q - (q : Int)).toNat ≤ k := by rw [← max_sub_r]; exact Nat.le_trans (Nat.sub_le _ _) (max_le hp hq)
theorem max_nn_l (p q : Nat) : 0 ≤ max (p : Int) q - (p : Int) := by rw [← max_cast]; exact Int.sub_nonneg_of_le (Int.ofNat_le.mpr (Nat.le_max_left _ _))
theorem max_nn_r (p q : Nat) : 0 ≤ max (p : Int) q - (q : Int) := by rw [← max_cast]; exact Int.sub_nonneg_of_le (Int.ofNat_le.mpr (Nat.le_max_right _ _))
theorem turn_lt {n i : Nat} (h : i < n) : n + 1 - (i + 1) < n + 1 - i := Nat.sub_lt_sub_left (Nat.lt_succ_of_lt h) (Nat.lt_succ_self i)
theorem eq_of_nlt {n i : Nat} (h : ¬ i < n) (h2 : i ≤ n) : i = n := Nat.le_antisymm h2 (Nat.le_of_not_lt h)
theorem cast_lt {a b : Nat} (h : (a : Int) < (b : Int)) : a < b := Int.ofNat_lt.mp h
theorem cast_ltE {a b c : Nat} (h : (a : Int) < (b : Int)) (e : c = b) : a < c := e ▸ Int.ofNat_lt.mp h
theorem ncast_le {a b : Nat} (h : ¬ (a : Int) < (b : Int)) : b ≤ a := Nat.le_of_not_lt fun q => h (Int.ofNat_lt.mpr q)
theorem ncast_leE {a b c : Nat} (h : ¬ (a : Int) < (b : Int)) (e : c = b) : c ≤ a := e ▸ ncast_le h
theorem sub_pos_cast {a b : Nat} (h : (a : Int) < (b : Int)) : 0 < b - a := Nat.sub_pos_of_lt (Int.ofNat_lt.mp h)
theorem sub_lt1 {n j : Nat} (h : j < n) : n - (j + 1) < n - j := Nat.sub_lt_sub_left h (Nat.lt_succ_self j)
theorem sub_lt_c {n j s : Nat} (h : (j : Int) < (n : Int)) (p : 0 < s) : n - (j + s) < n - j := Nat.sub_lt_sub_left (Int.ofNat_lt.mp h) (Nat.lt_add_of_pos_right p)
theorem add_le_c {n j s : Nat} (h : s ≤ n - j) (g : (j : Int) < (n : Int)) : j + s ≤ n := Nat.add_le_of_le_sub' (Nat.le_of_lt (Int.ofNat_lt.mp g)) h
theorem lin_lt {a b c n k L : Nat} (h : k ≤ n) (g : a + (b * n + c) < L) : a + (b * k + c) < L := Nat.lt_of_le_of_lt (Nat.add_le_add_left (Nat.add_le_add_right (Nat.mul_le_mul_left b h) c) a) g
theorem and_rng {k a b c : Int} (h : a ≤ k ∧ k ≤ b) (e : decide (0 ≤ a ∧ b < c) = true) : 0 ≤ k ∧ k < c := ⟨Int.le_trans (of_decide_eq_true e).1 h.1, Int.lt_of_le_of_lt h.2 (of_decide_eq_true e).2⟩
theorem and_tn {k a b : Int} {n : Nat} (h : a ≤ k ∧ k ≤ b) (e : decide (b ≤ (n : Int)) = true) : k.toNat ≤ n := Int.toNat_le.mpr (Int.le_trans h.2 (of_decide_eq_true e))
theorem eq_tr {α : Sort _} {a b c : α} (h : a = c) (g : b = c) : a = b := h.trans g.symm
theorem pred_succ {k : Nat} (h : 0 < (k : Int)) : k = k - 1 + 1 := (Nat.sub_add_cancel (Int.ofNat_lt.mp h : 0 < k)).symm
theorem tn_sub {m n : Nat} : ((@OfNat.ofNat Int m instOfNat) - (n : Int)).toNat = (@OfNat.ofNat Nat m (instOfNatNat m)) - n := Int.toNat_sub m n
theorem ub_mul0 {a : Nat} : a * 0 ≤ 0 := Nat.le_refl _
theorem ub_mulr {b c l : Nat} (h : b ≤ l) : b * c ≤ l * c := Nat.mul_le_mul_right c h
theorem lb_add {a b k l : Int} (h : k ≤ a) (g : l ≤ b) : k + l ≤ a + b := Int.add_le_add h g
theorem lb_sub {a b k l : Int} (h : k ≤ a) (g : b ≤ l) : k - l ≤ a - b := Int.sub_le_sub h g
theorem ib_sub {a b k l : Int} (h : a ≤ k) (g : l ≤ b) : a - b ≤ k - l := Int.sub_le_sub h g
theorem lb_lt {a k : Int} (h : k < a) : k ≤ a := Int.le_of_lt h
theorem ib_tn {i : Int} {k : Nat} (h : i.toNat ≤ k) : i ≤ (k : Int) := Int.toNat_le.mp h
theorem ub_abs {x l u : Int} (h1 : l ≤ x) (h2 : x ≤ u) : x.natAbs ≤ l.natAbs + u.natAbs := by
  rcases Int.natAbs_eq x with h | h
  · exact Nat.le_trans (Int.ofNat_le.mp (Int.le_trans (h ▸ h2) Int.le_natAbs)) (Nat.le_add_left _ _)
  · refine Nat.le_trans (Int.ofNat_le.mp (Int.le_trans ?_ (Int.le_natAbs (a := -l)))) (by rw [Int.natAbs_neg]; exact Nat.le_add_right _ _)
    have : (x.natAbs : Int) = -x := by rw [h, Int.neg_neg, Int.natAbs_neg, Int.natAbs_natCast]
    rw [this]
    exact Int.neg_le_neg h1
theorem slt_of_tn {v : Int} {n : Nat} (h0 : 0 ≤ v) (h : v < (n : Int)) : v.toNat < n := (Int.toNat_lt h0).mpr h
theorem slt_of_tnE {v : Int} {n m : Nat} (h0 : 0 ≤ v) (h : v < (n : Int)) (e : m = n) : v.toNat < m := e ▸ slt_of_tn h0 h
theorem tn_natCast (k : Nat) : (k : Int).toNat = k := Int.toNat_natCast k
theorem dp_next {d c n L : Nat} (h : d ≤ c + 2) (g : c + (4 * (n + 1) + 4) < L) : d + 1 + (4 * n + 4) < L := by
  refine Nat.lt_of_le_of_lt ?_ g
  have e : c + (4 * (n + 1) + 4) = c + 4 + (4 * n + 4) := by rw [Nat.mul_succ, Nat.add_assoc c 4, Nat.add_comm 4]
  rw [e]
  exact Nat.add_le_add_right (Nat.le_trans (Nat.succ_le_succ h) (Nat.le_succ _)) _
theorem un_next {u c n L : Nat} (h : u ≤ c + 8) (g : c + (40 * (n + 1) + 40) < L) : u + 3 + (40 * n + 40) < L := by
  refine Nat.lt_of_le_of_lt ?_ g
  have e : c + (40 * (n + 1) + 40) = c + 40 + (40 * n + 40) := by rw [Nat.mul_succ, Nat.add_assoc c 40, Nat.add_comm 40]
  rw [e]
  exact Nat.add_le_add_right (Nat.le_trans (Nat.add_le_add_right h 3) (by rw [Nat.add_assoc]; exact Nat.add_le_add_left (by decide) c)) _
theorem un_one {c n L : Nat} (g : c + (40 * n + 40) < L) : c + 1 < L := Nat.lt_of_le_of_lt (Nat.add_le_add_left (Nat.le_trans (by decide : 1 ≤ 40) (Nat.le_add_left _ _)) c) g
end

def hookT : String → String
  | "nm" => "n0 x;n1 x;n2 x;n3 x;n4 x;n5 x;n6 x;n7 x;n8 nm x"
  | "memn" => "@List.mem_cons_self x;m1 x;m2 x;m3 x;m4 x;m5 x;m6 x;m7 x;m8 memn x"
  | "memg" => "ra;Gr.mem c0 memg x;@List.mem_cons_self x;m1 x;@List.mem_cons_of_mem _ memg x"
  | "memh" => "ra;@List.mem_cons_self x;m1 x;m2 x;m3 x;Gr.mem c0 memg x;@List.mem_cons_of_mem _ memh x"
  | "memq" => "ra;ma0 x;ma1 x;ma2 x;@List.mem_append_right _ memh x;@List.mem_append_left _ memh x;memh"
  | "ev" => "EV.addS ev ev c7 x;EV.name nm c1 x;EV.mem memn x;EV.int x;EV.str x;EV.none x;EV.bool x;EV.attrE c1 ev inst fieldok c2 c3 x;EV.itemLe ev ev c1 memq lst c1 c1 x;EV.itemTe ev ev c1 memq c1 c1 x;EV.bItem ev ev c1 c4 c0 c4 x;EV.neg ev x;EV.add ev ev x;EV.sub ev ev x;EV.mul ev ev mulok x;EV.len ev c1 ev memq lst size x;EV.lenB ev c1 ev size x;EV.rshift ev ev c4 x;EV.and ev ev x"
  | "evt" => "ET.isi ev c1 c1 ev ev ty is x;ET.not evt x;ET.isN ev c1 x;ET.isNN ev c1 x;ET.int ev ev c1 c1 x;ET.bool c1 ev x;ET.lstT c1 ev memq lst c6 size x;ET.lst c1 ev memq lst size x"
  | "w" => "in;WP.nilS i0;WP.nil i0;WP.ret i0;seqW_ret i0;loopW_ret i0;WP.ifT evt i0;WP.if i0;WP.asgV c1 nm c1 ev i0;WP.asgE c1 nm c1 ev i1;WP.asg c1 nm c1 i0;WP.asgTV c1 c1 ev memq c1 c1 i0;WP.asgT c1 c1 i0;WAL.nil i0;WAL.cons c1 i0;WAs.name nm c1 i0;WAs.tup memq c1 c1 i0;WP.for c1 i0;WP.asgComp c7 c7 c1 c1 nm c1 c7 i0;WE.comp c7 c7 c1 c1 i0;WEl.name0 c7 c1 c7 c7 ctab i0;WEl.name1 c7 c1 c7 c7 ctab i0;WEl.tup0 memq c7 c7 c7 c1 c7 c7 ctab i0;WEl.tup1 memq c7 c7 c7 c1 c7 c7 ctab i0;WE.toldV ev i0;WE.told ev i1;WB.told evt i0;WB.and1 i0;WB.and i0;WB.or1 i0;WB.or i0;WB.not i0;WB.chain2 ev ev ev c1 c1 c1 i0;WB.plain c1 i0;WO.true i0;WE.call0 ev c8 i0;WE.call1 ev c8 c1 ev i1;WE.call2 ev c8 c1 c1 ev ev i2;WE.call3 ev c8 c1 c1 c1 ev ev ev i3;WE.callB1 ev c1 ev i1;WE.callB2 ev c1 c1 ev ev i2;WE.callT1 ev c1 ev i1;WP.expr c1 i0;WP.asgS c1 i0;WP.asgAE c1 ev ev memh upm c9 c10 c1 c2 i2;WP.asgA c1 i0;vn;WA.t1 c1 ev i1;WA.t2 c1 c1 ev ev i2;WA.t3 c1 c1 c1 ev ev ev i3;WA.t4 c1 c1 c1 c1 ev ev ev ev i4;WA.nil i0;WA.cons c1 i0;WW.b c1 c1 i0;WW.b0 i0;WW.t c1 c1 i0;W.ref c8 c1 c1 i0;W.ref0 c8 i0;turn;O.intI i0;O.inS i0;O.eqS i0;O.neS i0;O.app1 i0;O.app0 i0;WE.slc i0;WEo.none i0;WEo.some i0;WSl.L c11 c11 memq lst size i1;WSl.B c11 c11 size i0;WE.bin i0;WE.sub i0;WE.ifExp i0;WE.tuple i0;WE.list i0;WE.cmp c1 i0;WB.cmp c1 i0;WE.callN i0;WE.attr c1 i0;WE.meth1 ev inst fieldok c2 c12 c8 c1 ev i1;WE.meth0 ev inst fieldok c2 c12 c8 i0;WE.meth2 ev inst fieldok c2 c12 c8 c1 c1 ev ev i2;WE.callM c12 i1;O.tup c1 i1;O.lst c1 i1;O.isi ty is i0;O.cmpI c1 i0;O.isN c1 i0;O.isNN c1 i0;O.add i1;O.sub i1;O.mul mulok i1;O.mod c5 i1;O.fdiv c5 pylong i1;O.pow c4 c4 c13 i1;O.attr inst fieldok c2 c3 i0;O.meth inst fieldok c2 i0;O.setA memh upm c9 c10 c1 c2 i2;O.max2 i1;O.len memq lst size i1;O.lenB size i1;O.trT memq lst c6 size i0;O.trF memq lst i0;O.trTup memq size i0;O.trL memq lst size i0;O.chTruthy chs c4 i0;O.mAppend memq i0;O.mPop memq i0;O.mIndex memq i0;O.mGet memq c0 i0;O.dget1 memq c0 c14 i0;O.dget2 memq c0 c14 i0;O.append upm size i0;O.setL upm lst c15 size size i2;O.mSplit i0;O.mJoin i0;O.mLower i0;O.lAdd memq lst memq lst size i1;O.lMul1 memq lst c13 c13 i1;O.lCopyL memq lst size i2;O.split1 c7 len i3;O.chr c4 c4 i1;O.lower c4 i1;O.sItem c1 c13 c4 c4 i1;O.chIn chs _ memq i0;O.chGetM chs i0;WPr.nil i0;WPr.cons i0;dict0;O.range1 i4;O.range2 i4;O.abs i1;O.neg i1;O.and i1;O.rshift c4 i1;O.inT =true memq strs c7 i0;O.inT =false memq strs c7 i0;O.ninT =false memq strs c7 i0;O.ninT =true memq strs c7 i0;O.item c1 memq lst c13 c13 c1 i0;O.splitF c17 c17 c17 i4;WP.raise i0;WR.ff ev c8 c1 ev c1 x;ite_tt' i0;ite_ff' i0;iteT c7 i0;iteF c7 i0;ite_notB i0;ck"
  | "dict0" => "WE.dict0F i2"
  | "lst" => "c0;!lstP x"
  | "gn" => "!gnK c8 x;!gnB c8 bf c13 x"
  | "init" => "!InitC.nil x;!InitC.par init x;!InitC.parC init x;!InitC.loc init x;!InitC.locC init x;!InitC.glo gn init x"
  | "inst" => "c0;!Inst.gr c0 inst x;!Inst.cons inst x;!Inst.app inst x"
  | "ctab" => "CTab.nil x;CTab.loc c16 ctab x;CTab.loc0 ctab x;CTab.fre nm c1 ctab x;CTab.glo gn ctab x"
  | "strs" => "c0;!@StrsAre.nil x;!@StrsAre.cons _ _ strs x"
  | "upm" => "UpM.head x;UpM.tail upm x"
  | "mulok" => "c0;!mulOk_pow10 c4 x;!@IntMulOk.of_right ib x;!@IntMulOk.of_left ib x"
  | "ib" => "!@intBits_le_64 c4 c4 x"
  | "ty" => "c0;!ty_int x;!ty_none x;!ty_str x;!ty_inst xa inst x;!ty_inst xb inst x;!Ty.gr c0 ty x;!Ty.cons ty x;!ty_list memh c1 x;!ty_dict memh c1 x"
  | "dec" => "c0;!DecAt.gr c0 dec x;!DecAt.cons dec x"
  | "mem" => "memq;!@List.mem_cons_self x;!@List.mem_cons_of_mem _ mem x;!Gr.mem c0 mem x"
  | "chs" => "c0;!Chs.gr gr c0 x"
  | "gr" => "!Gr.refl _ x;c0;!Gr.cons gr x;~Gr.trans gr c0 x"
  | "c3" => "c0;c2"
  | "c5" => "c0;c13;c4"
  | "c6" => "c0;!@List.cons_ne_nil _ _ x"
  | "c9" => "c0;!dictS_nil x"
  | "c10" => "!SetOk.mk c8 c8 c8 c8 x"
  | "fieldok" => "!FieldOk.mk c8 c8 c8 x;!MethOk.mk c8 c8 c8 x"
  | "c14" => "!@strKind_is _ _ _ _ x"
  | "c15" => "c13;c4"
  | "c16" => "@List.mem_cons_self x;m1 x"
  | "pylong" => "!@PyProof.noPylong_of_log2 c7 x;!@PyProof.noPylong_small c4 x"
  | "xa" => "!xo_155 _ x"
  | "xb" => "!xo_197 _ x"
  | "len" => "!@Nat.le_of_ble_eq_true c1 x"
  | "is" => "isf;c0;c8;c18"
  | "tab" => "ds;c1"
  | "size" => "c4;sz"
  | "uh0" => "@Nat.le_trans ra ub1 x;ub_ltr ra ub1 x;ub_etr ra ub1 x;ub_etr' ra ub1 x"
  | "ub0" => "ub_lit x;@Nat.add_le_add ub0 ub0 x;ub_mul0 x;ub_mul ub0 x;ub_mulr ub0 x;ub_tn ib0 x;ub_app ub0 ub0 x;ub_nil x;ub_cons ub0 x;ub_set ub0 x;ub_map ub0 x;ub_rep ub0 x;ub_minl ub0 x;ub_minr ub0 x;ub_sub ub0 x;ub_abs lb ib0 x;uh0"
  | "ib0" => "ib_lit x;ib_add ib0 ib0 x;ib_sub ib0 lb x;ib_cast ub0 x;@Int.le_trans ra ib1 x;ib_ltr ra ib1 x;ib_etr ra ib1 x;ib_tn uh0 x"
  | "uh1" => "@Nat.le_trans ra ub2 x;ub_ltr ra ub2 x;ub_etr ra ub2 x;ub_etr' ra ub2 x"
  | "ub1" => "ub_lit x;@Nat.add_le_add ub1 ub1 x;ub_mul0 x;ub_mul ub1 x;ub_mulr ub1 x;ub_tn ib1 x;ub_app ub1 ub1 x;ub_nil x;ub_cons ub1 x;ub_set ub1 x;ub_map ub1 x;ub_rep ub1 x;ub_minl ub1 x;ub_minr ub1 x;ub_sub ub1 x;ub_abs lb ib1 x;uh1"
  | "ib1" => "ib_lit x;ib_add ib1 ib1 x;ib_sub ib1 lb x;ib_cast ub1 x;@Int.le_trans ra ib2 x;ib_ltr ra ib2 x;ib_etr ra ib2 x;ib_tn uh1 x"
  | "uh2" => "@Nat.le_trans ra ub3 x;ub_ltr ra ub3 x;ub_etr ra ub3 x;ub_etr' ra ub3 x"
  | "ub2" => "ub_lit x;@Nat.add_le_add ub2 ub2 x;ub_mul0 x;ub_mul ub2 x;ub_mulr ub2 x;ub_tn ib2 x;ub_app ub2 ub2 x;ub_nil x;ub_cons ub2 x;ub_set ub2 x;ub_map ub2 x;ub_rep ub2 x;ub_minl ub2 x;ub_minr ub2 x;ub_sub ub2 x;ub_abs lb ib2 x;uh2"
  | "ib2" => "ib_lit x;ib_add ib2 ib2 x;ib_sub ib2 lb x;ib_cast ub2 x;@Int.le_trans ra ib3 x;ib_ltr ra ib3 x;ib_etr ra ib3 x;ib_tn uh2 x"
  | "uh3" => "ra"
  | "ub3" => "ub_lit x;@Nat.add_le_add ub3 ub3 x;ub_mul0 x;ub_mul ub3 x;ub_mulr ub3 x;ub_tn ib3 x;ub_app ub3 ub3 x;ub_nil x;ub_cons ub3 x;ub_set ub3 x;ub_map ub3 x;ub_rep ub3 x;ub_minl ub3 x;ub_minr ub3 x;ub_sub ub3 x;ub_abs lb ib3 x;uh3"
  | "ib3" => "ib_lit x;ib_add ib3 ib3 x;ib_sub ib3 lb x;ib_cast ub3 x;ib_tn uh3 x"
  | "lb" => "ib_lit x;lb_add lb lb x;lb_sub lb ib1 x;nn_cast x;ra;lb_lt ra x"
  | "un" => "un_b x;un_add un ub0 x"
  | "nn" => "ra;nn_lit x;nn_cast x;nn_add nn nn x;nn_mul nn nn x;lb_lt ra x"
  | "om" => "ra;turn_lt ra x;eq_of_nlt ra ra x;cast_lt ra x;ncast_le ra x;max_sub_le_l ra ra x;max_sub_le_r ra ra x;max_nn_l _ _ x;max_nn_r _ _ x;ub_fin ub0 c7 x;ub_finL ub0 c7 x;un_fin un c7 x;ib_finL ib0 c7 x;ib_fin ib0 c7 x;nn;nn_neg nn c7 x;nn_negL nn c7 x;om2"
  | "om2" => "cast_ltE ra ra x;ncast_leE ra ra x;sub_pos_cast ra x;sub_lt1 ra x;sub_lt_c ra ra x;add_le_c ra ra x;lin_lt ra ra x;dp_next ra ra x;un_next ra ra x;un_one ra x;and_rng ra c7 x;and_tn ra c7 x;eq_tr ra ra x;pred_succ ra x;tn_sub x;tn_natCast _ x;@Nat.lt_succ_of_lt ra x;@Nat.succ_le_succ ra x;@Nat.add_sub_cancel' ra x;@Nat.add_sub_cancel_left x;@Nat.zero_add _ x;@Nat.lt_one_iff.mp ra x;@Int.ne_of_gt ra x;@Nat.ne_of_gt ra x;slt_of_tn ra ra x;slt_of_tnE ra ra ra x;omg"
  | _ => ""
open Lean in
def rowT (s : String) : MacroM (TSyntax `tactic) := do
  let ws := s.splitOn " "
  let h := ws.headD ""
  let r := h.startsWith "~"
  let d := r || h.startsWith "!"
  let h := if d then (h.drop 1).toString else h
  let n := mkIdent (if h.startsWith "@" then (h.drop 1).toString.toName else `Mine ++ h.toName)
  let cs := ws.drop 1
  let mut hs : Array Term := #[]
  let mut ts : Array (TSyntax `tactic) := #[]
  let mut i := 0
  for c in cs do
    i := i + 1
    if c == "x" then pure ()
    else if c == "_" then hs := hs.push (← `(_))
    else if c.startsWith "=" then hs := hs.push (mkIdent (c.drop 1).toString.toName)
    else
      let a := mkIdent (← MonadQuotation.addMacroScope (if i == cs.length then `zz else .mkSimple s!"s{i}"))
      hs := hs.push (← `(?$a:ident))
      if i == cs.length then
        if c != "i0" then ts := ts.push (← `(tactic| case' $a:ident => fail $(Syntax.mkStrLit c):str))
      else ts := ts.push (← `(tactic| case $a:ident => fail $(Syntax.mkStrLit c):str))
  let mut t ← if hs.isEmpty then `(tactic| exact $n) else `(tactic| refine' $n $hs*)
  unless d do t ← `(tactic| with_reducible $t:tactic)
  for u in (if r then ts.reverse else ts) do t ← `(tactic| ($t:tactic; $u:tactic))
  return t
open Lean in
def lineT (s : String) : MacroM (TSyntax `tactic) := do
  let t := hookT s
  if t != "" then
    let ts ← (t.splitOn ";").toArray.mapM fun r => do `(Lean.Parser.Tactic.tacticSeq| fail $(Syntax.mkStrLit r):str)
    `(tactic| first $[| $ts]*)
  else if s.contains ' ' then rowT s
  else match s with
    | "i0" => `(tactic| skip) | "i1" => `(tactic| intro _) | "i2" => `(tactic| intro _ _) | "i3" => `(tactic| intro _ _ _) | "i4" => `(tactic| intro _ _ _ _)
    | "c0" => `(tactic| assumption)
    | "c1" => `(tactic| rfl)
    | "c2" => `(tactic| with_unfolding_all rfl)
    | "c4" => `(tactic| omega)
    | "omg" => `(tactic| omega +splitDisjunctions)
    | "c7" => `(tactic| decide +kernel)
    | "c8" => `(tactic| k_is)
    | "c11" => `(tactic| constructor)
    | "c13" => `(tactic| decide)
    | "c17" => `(tactic| k_qdec)
    | "c18" => `(tactic| kit_is)
    | "c12" => `(tactic| (intro _; with_unfolding_all rfl))
    | "ra" => `(tactic| with_reducible assumption)
    | "kr" => `(tactic| kernel_rfl)
    | "bf" => `(tactic| boot_fast)
    | "in" => `(tactic| ((fail_if_success (with_reducible refine fun _ => ?_)); with_reducible intro _))
    | "ds" => `(tactic| (dsimp only; rfl))
    | "sz" => `(tactic| (simp only [List.length_cons, List.length_nil, List.length_set, List.length_append, List.length_replicate]; omega))
    | _ => Macro.throwUnsupported

local macro_rules | `(tactic| omega) => `(tactic| fail "om")
local macro_rules | `(tactic| fail $s:str) => lineT s.getString

-- V
section
open PySem PySem.W PyProof.Rows PySem.Spec PySem.Calls

noncomputable abbrev LedT := List (Addr × Obj)
structure Gl where
  prog : Program
  w : World
  K : Frag
  p : Program
  loose : List Str
  mean : ExcName → Option Value
  mg : Str → Option Value
  mb : Str → Option Value
noncomputable abbrev Gl.M (G : Gl) : Model := model G.prog G.w
structure Cx where
  dp : Nat
  un : Nat
  gd : Option (List Code)
  outer : List Env
  A₀ : Around
  base : Heap
  h₀ : Heap
  L : Addr
  q : Str
  sc : Scope
  f : Addr
  cd : Value
  cl : List (Str × Addr)
  s₀ : Shared
noncomputable abbrev Cx.env (c : Cx) : Env := envX c.q c.sc c.L c.f c.cd c.cl
noncomputable abbrev Cx.A (c : Cx) : Around := ktrTop c.dp c.un c.gd c.q c.sc c.L c.f c.cd c.cl c.outer
structure Ok (G : Gl) (c : Cx) (n : Nat) : Prop where
  B : Below c.A₀ c.base c.outer c.h₀
  X : G.K.In c.h₀
  T : TopRead G.p G.loose G.mg G.mb c.h₀
  hk : c.sc.kind = .function
  dp : c.dp + (4 * n + 4) < recursionLimit
  un : c.un + (40 * n + 40) < cLine
theorem Ok.le {G : Gl} {c : Cx} {n k : Nat} (h : Ok G c n) (hk : Nat.ble k n = true) : Ok G c k := by
  have := Nat.le_of_ble_eq_true hk
  exact ⟨h.B, h.X, h.T, h.hk, by have := h.dp; omega, by have := h.un; omega⟩
structure ES (c : Cx) (m : Str → Option Value) (x mu news : LedT) (s : Shared) : Prop where
  F : Fr c.h₀ c.L s.heap m
  N : News c.h₀ c.L s.heap (x ++ (mu ++ news))
  nd : ((x ++ (mu ++ news)).map (·.1)).Nodup
  hs : ∃ h tk, s = { c.s₀ with heap := h, toks := tk }

section
variable {c : Cx} {m : Str → Option Value} {x mu news : LedT} {s : Shared}
theorem ES.tok (S : ES c m x mu news s) (tk : Nat) : ES c m x mu news { s with toks := tk } := by
  obtain ⟨F, N, nd, h, t, rfl⟩ := S
  exact ⟨F, N, nd, h, tk, rfl⟩
theorem ES.heap (S : ES c m x mu news s) {h : Heap} {m' : Str → Option Value} {x' mu' news' : LedT} (F : Fr c.h₀ c.L h m') (N : News c.h₀ c.L h (x' ++ (mu' ++ news'))) (nd : ((x' ++ (mu' ++ news')).map (·.1)).Nodup) : ES c m' x' mu' news' { s with heap := h } := by
  obtain ⟨_, _, _, h', t, rfl⟩ := S
  exact ⟨F, N, nd, h, t, rfl⟩
theorem ES.heapTok (S : ES c m x mu news s) {h : Heap} {tk : Nat} {m' : Str → Option Value} {x' mu' news' : LedT} (F : Fr c.h₀ c.L h m') (N : News c.h₀ c.L h (x' ++ (mu' ++ news'))) (nd : ((x' ++ (mu' ++ news')).map (·.1)).Nodup) : ES c m' x' mu' news' { s with heap := h, toks := tk } := by
  obtain ⟨_, _, _, h', t, rfl⟩ := S
  exact ⟨F, N, nd, h, tk, rfl⟩
theorem ES.low (S : ES c m x mu news s) : ∀ p ∈ x ++ (mu ++ news), @LT.lt Nat _ p.1 s.heap.objs.size := fun p hp => Heap.lt_size (S.N p hp).1
theorem ES.get (S : ES c m x mu news s) {a : Addr} {o : Obj} (h : (a, o) ∈ news) : s.heap.get? a = some o := (S.N _ (List.mem_append_right _ (List.mem_append_right _ h))).1
theorem ES.push (S : ES c m x mu news s) (o : Obj) (hf : o.isFreed = false) : ES c m x mu ((s.heap.objs.size, o) :: news) { s with heap := s.heap.push o } := by
  refine S.heap (S.F.push _) (fun p hp => ?_) ?_
  · have NP := News.push S.F S.N o hf
    refine NP p ?_
    simp only [List.mem_append, List.mem_cons] at hp ⊢
    rcases hp with h | h | h | h
    · exact .inr (.inl h)
    · exact .inr (.inr (.inl h))
    · exact .inl h
    · exact .inr (.inr (.inr h))
  · have hl := S.low
    have nd := S.nd
    have hp : ((x ++ (mu ++ ((s.heap.objs.size, o) :: news))).map (·.1)).Perm (s.heap.objs.size :: (x ++ (mu ++ news)).map (·.1)) := by
      simp only [List.map_append, List.map_cons]
      refine List.Perm.trans (List.Perm.append_left _ List.perm_middle) ?_
      exact List.perm_middle
    refine hp.nodup_iff.mpr (List.nodup_cons.mpr ⟨fun hm => ?_, nd⟩)
    obtain ⟨q, hq, e⟩ := List.mem_map.mp hm
    have := hl q hq
    rw [e] at this
    exact Nat.lt_irrefl _ this
theorem ES.perm (S : ES c m x mu news s) {mu' news' : LedT} (hp : (mu' ++ news').Perm (mu ++ news)) : ES c m x mu' news' s :=
  ⟨S.F, fun p hq => S.N p (by
    rw [List.mem_append] at hq ⊢
    exact hq.imp id fun h => hp.mem_iff.mp h), ((hp.append_left x).map _).nodup_iff.mpr S.nd, S.hs⟩
theorem ES.thaw {a : Addr} {o : Obj} (S : ES c m x mu ((a, o) :: news) s) : ES c m x ((a, o) :: mu) news s := S.perm List.perm_middle.symm
theorem ES.freeze {a : Addr} {o : Obj} (S : ES c m x ((a, o) :: mu) news s) : ES c m x mu ((a, o) :: news) s := S.perm List.perm_middle
theorem ES.upd {a : Addr} {o o' : Obj} {pre post : LedT} {h' : Heap} {m' : Str → Option Value} (S : ES c m x (pre ++ (a, o) :: post) news s) (F : Fr c.h₀ c.L h' m')
    (N : News c.h₀ c.L h' ((x ++ pre) ++ (a, o') :: (post ++ news))) : ES c m' x (pre ++ (a, o') :: post) news { s with heap := h' } := by
  refine S.heap F (fun p hq => N p ?_) ?_
  · simpa [List.append_assoc] using hq
  · have := S.nd
    simpa [List.append_assoc] using this
theorem ES.apart {a : Addr} {o : Obj} {pre post : LedT} (S : ES c m x (pre ++ (a, o) :: post) news s) : (∀ p ∈ x ++ pre, p.1 ≠ a) ∧ ∀ p ∈ post ++ news, p.1 ≠ a := by
  have h := S.nd
  have e : x ++ (pre ++ (a, o) :: post ++ news) = (x ++ pre) ++ (a, o) :: (post ++ news) := by simp [List.append_assoc]
  rw [e, List.map_append, List.map_cons] at h
  have hp := List.perm_middle.nodup_iff.mp h
  obtain ⟨h1, h2⟩ := List.nodup_cons.mp hp
  rw [← List.map_append] at h1
  refine ⟨fun p hp e => h1 ?_, fun p hp e => h1 ?_⟩
  · have := List.mem_map_of_mem (f := (·.1)) (List.mem_append_left (post ++ news) hp)
    rwa [e] at this
  · have := List.mem_map_of_mem (f := (·.1)) (List.mem_append_right (x ++ pre) hp)
    rwa [e] at this
theorem ES.upd' {a : Addr} {o o' : Obj} {pre post : LedT} {h' : Heap} (S : ES c m x (pre ++ (a, o) :: post) news s) (hg : h'.get? a = some o') (hs : Heap.SameBut a s.heap h') : ES c m x (pre ++ (a, o') :: post) news { s with heap := h' } := by
  have ⟨h1, h2⟩ := S.apart
  have hm : (a, o) ∈ x ++ ((pre ++ (a, o) :: post) ++ news) := by simp
  have D := S.N _ hm
  obtain ⟨oL, es, ep, hL, r⟩ := S.F.ns
  refine S.upd ⟨⟨oL, es, ep, (hs.2 _ (Ne.symm D.2.1)).trans hL, r⟩, fun b ob q => (hs.2 b fun z => ?_).trans (S.F.keep b ob q), S.F.above⟩ (fun p hp => ?_)
  · have := D.2.2; rw [← z, q] at this; cases this
  · rcases List.mem_append.mp hp with q | q
    · have P := S.N p (by simp only [List.mem_append] at q ⊢; rcases q with q | q; exact .inl q; exact .inr (.inl (.inl q)))
      exact ⟨(hs.2 _ (h1 p q)).trans P.1, P.2⟩
    · rcases List.mem_cons.mp q with rfl | q
      · exact ⟨hg, D.2⟩
      · have P := S.N p (by
          simp only [List.mem_append, List.mem_cons] at q ⊢
          rcases q with q | q
          · exact .inr (.inl (.inr (.inr q)))
          · exact .inr (.inr q))
        exact ⟨(hs.2 _ (h2 p q)).trans P.1, P.2⟩
end

noncomputable def Gn (G : Gl) (y : Str) (v : Value) : Prop := nsIn G.K mainGlobals y = some (some v) ∨ (nsIn G.K mainGlobals y = some none ∧ bootBuiltins y = some v ∧ y ≠ "__name__")
noncomputable abbrev Tab := List (Str × Option Value)
noncomputable def cellObj (v : Option Value) (o : Obj) : Prop := o.data = .cell v
structure FT (G : Gl) (c : Cx) (ns : List (Str × NameKind)) (m : Str → Option Value) (x : LedT) (R : Tab) : Prop where
  hns : c.sc.names = ns
  len : R.map (·.1) = c.sc.names.map (·.1)
  nd : (c.sc.names.map (·.1)).Nodup
  loc : ∀ y v, (y, v) ∈ R → ∀ k, (y, k) ∈ c.sc.names → k = .local → m y = v
  cel : ∀ y v, (y, v) ∈ R → ∀ k, (y, k) ∈ c.sc.names → k = .cell → ∃ a o, c.cl.lookup y = some a ∧ (a, o) ∈ x ∧ cellObj v o
  glo : ∀ y v, (y, some v) ∈ R → ∀ k, (y, k) ∈ c.sc.names → k ≠ .local → k ≠ .cell → k = .globalImplicit ∧ Gn G y v
  clx : ∀ y z a, c.cl.lookup y = some a → c.cl.lookup z = some a → y = z
  dbg : (c.sc.names.any fun y => y.1 == ("__debug__" : Str)) = false
theorem lookup_mem {α : Type} {l : List (Str × α)} (h : (l.map (·.1)).Nodup) {y : Str} {k : α} (hm : (y, k) ∈ l) : l.lookup y = some k := by
  induction l with
  | nil => cases hm
  | cons p r ih =>
    obtain ⟨z, j⟩ := p
    simp only [List.map_cons, List.nodup_cons] at h
    rw [List.lookup_cons]
    rcases List.mem_cons.mp hm with e | hm
    · cases e; simp
    · have : y ≠ z := fun e => h.1 (e ▸ List.mem_map_of_mem (f := (·.1)) hm)
      rw [beq_eq_false_iff_ne.mpr this]
      exact ih h.2 hm
theorem eq_of_mem_nd {α : Type} {l : List (Str × α)} (h : (l.map (·.1)).Nodup) {y : Str} {k j : α} (hm : (y, k) ∈ l) (hj : (y, j) ∈ l) : k = j := by
  have a := lookup_mem h hm
  have b := lookup_mem h hj
  rw [a] at b
  exact Option.some.inj b
theorem FT.kind {G : Gl} {c : Cx} {m : Str → Option Value} {x : LedT} {R : Tab} {ns : List (Str × NameKind)} (T : FT G c ns m x R) {y : Str} {v : Option Value} (h : (y, v) ∈ R) : ∃ k, (y, k) ∈ c.sc.names ∧ c.sc.names.lookup y = some k := by
  have : y ∈ c.sc.names.map (·.1) := by rw [← T.len]; exact List.mem_map_of_mem (f := (·.1)) h
  obtain ⟨⟨z, k⟩, hk, e⟩ := List.mem_map.mp this
  cases e
  exact ⟨k, hk, lookup_mem T.nd hk⟩
noncomputable def Rd (G : Gl) (c : Cx) (m : Str → Option Value) (x : LedT) (env : Env) (y : Str) (v : Value) : Prop :=
  ∀ (s : Shared) (pos : Pos) (Q E : Value → Shared → Prop), Fr c.h₀ c.L s.heap m → News c.h₀ c.L s.heap x → Q v s → wpAny G.M c.A (eval (.Name y pos) env) Q E s
structure Rds (G : Gl) (c : Cx) (m : Str → Option Value) (x : LedT) (env : Env) (R : Tab) : Prop where
  rd : ∀ y v, (y, some v) ∈ R → Rd G c m x env y v
theorem FT.rds {G : Gl} {c : Cx} {n : Nat} {m : Str → Option Value} {x : LedT} {R : Tab} {ns : List (Str × NameKind)} (T : FT G c ns m x R) (O : Ok G c n) : Rds G c m x c.env R := ⟨by
  intro y v h s pos Q E F N hq
  obtain ⟨k, hk, hl⟩ := T.kind h
  have hd : (y == ("__debug__" : Str)) = false := by
    have := T.dbg
    rw [List.any_eq_false] at this
    simpa using this _ hk
  have X' : G.K.In s.heap := O.X.keeps F.keep
  by_cases h1 : k = .local
  · subst h1
    exact nameX_L F (T.loc y _ h _ hk rfl) hq O.hk hl hd
  · by_cases h2 : k = .cell
    · subst h2
      obtain ⟨a, o, h3, h4, h5⟩ := T.cel y _ h _ hk rfl
      exact nameX_C N h3 h4 h5 hq O.hk hl hd
    · obtain ⟨rfl, hg⟩ := T.glo y v h k hk h1 h2
      rcases hg with hg | ⟨hg, hb, hn⟩
      · exact nameX_K F O.X O.T hg hq O.hk hl hd
      · exact nameX_B F O.X O.T hg hb hn hq O.hk hl hd⟩
inductive SetAt (y : Str) (v : Value) : Tab → Tab → Prop
  | here {o r} : SetAt y v ((y, o) :: r) ((y, some v) :: r)
  | there {p r r'} : SetAt y v r r' → SetAt y v (p :: r) (p :: r')
theorem SetAt.split {y : Str} {v : Value} : ∀ {R R' : Tab}, SetAt y v R R' → ∃ pre o post, R = pre ++ (y, o) :: post ∧ R' = pre ++ (y, some v) :: post
  | _, _, .here (o := o) (r := r) => ⟨[], o, r, rfl, rfl⟩
  | _, _, .there (p := p) h => let ⟨pre, o, post, a, b⟩ := h.split; ⟨p :: pre, o, post, by rw [a]; rfl, by rw [b]; rfl⟩

section
variable {G : Gl} {c : Cx} {n : Nat} {m : Str → Option Value} {x mu news : LedT} {s : Shared} {R R' : Tab} {env : Env}

theorem v_name {A : Around} {xc : LedT} {y : Str} {v : Value} {pos : Pos} {Q E : Value → Shared → Prop} (T : Rds G c m xc env R) (S : ES c m x mu news s) (hx : ∀ p ∈ xc, p ∈ x) (hA : A = c.A) (hm : (y, some v) ∈ R) (hq : Q v s) :
    wpAny G.M A (eval (.Name y pos) env) Q E s := by
  subst hA
  exact T.rd y v hm s pos Q E S.F (fun p hp => S.N p (List.mem_append_left _ (hx p hp))) hq

theorem v_store {xc : LedT} {y : Str} {v : Value} {k : NameKind} {Q : Unit → Shared → Prop} {E : Value → Shared → Prop} (O : Ok G c n) {ns : List (Str × NameKind)} (T : FT G c ns m xc R) (S : ES c m x mu news s) (hU : SetAt y v R R') (hk : (y, k) ∈ ns) (hl : k = .local)
    (h : ∀ m' s', FT G c ns m' xc R' → ES c m' x mu news s' → Q () s') : wpAny G.M c.A (storeName c.env y v) Q E s := by
  subst hl
  have hk := T.hns ▸ hk
  obtain ⟨pre, o, post, rfl, rfl⟩ := hU.split
  have hlk := lookup_mem T.nd hk
  have hRnd : ((pre ++ (y, o) :: post).map (·.1)).Nodup := by rw [T.len]; exact T.nd
  refine storeX_L S.F S.N (fun h' F' N' => h _ _ ?_ ((S.heapTok F' N' S.nd))) O.hk hlk
  refine ⟨T.hns, ?_, T.nd, fun z u hz j hj e => ?_, fun z u hz j hj e => ?_, fun z u hz j hj h1 h2 => ?_, T.clx, T.dbg⟩
  · rw [← T.len]; simp
  · subst e
    by_cases hzy : z = y
    · subst hzy
      simp only [if_true]
      have h1 : (z, some v) ∈ pre ++ (z, some v) :: post := by simp
      have hnd' : ((pre ++ (z, some v) :: post).map (·.1)).Nodup := by simpa using hRnd
      exact (eq_of_mem_nd hnd' hz h1).symm
    · simp only [if_neg hzy]
      refine T.loc z u ?_ _ hj rfl
      simp only [List.mem_append, List.mem_cons] at hz ⊢
      rcases hz with hz | hz | hz
      · exact .inl hz
      · cases hz; exact absurd rfl hzy
      · exact .inr (.inr hz)
  · subst e
    have hzy : z ≠ y := by rintro rfl; have := eq_of_mem_nd T.nd hk hj; cases this
    refine T.cel z u ?_ _ hj rfl
    simp only [List.mem_append, List.mem_cons] at hz ⊢
    rcases hz with hz | hz | hz
    · exact .inl hz
    · cases hz; exact absurd rfl hzy
    · exact .inr (.inr hz)
  · have hzy : z ≠ y := by rintro rfl; exact h1 (eq_of_mem_nd T.nd hj hk)
    refine T.glo z u ?_ _ hj h1 h2
    simp only [List.mem_append, List.mem_cons] at hz ⊢
    rcases hz with hz | hz | hz
    · exact .inl hz
    · cases hz; exact absurd rfl hzy
    · exact .inr (.inr hz)
end

noncomputable def retOf : Flow → Value
  | .ret v => v
  | _ => .none
noncomputable def Ct (G : Gl) (k : Nat) (f : Addr) (vs : List Value) (mu news : LedT) (P : Value → LedT → LedT → Prop) : Prop :=
  ∀ (c : Cx) (m : Str → Option Value) (x : LedT) (s : Shared) (Q E : Value → Shared → Prop), Ok G c k → ES c m x mu news s →
    (∀ r mu' ext s', ES c m x mu' (ext ++ news) s' → P r mu' (ext ++ news) → Q r s') → wpAny G.M c.A (call (.ref f) vs) Q E s
noncomputable def Back (c : Cx) (x news : LedT) (P : Value → LedT → LedT → Prop) (fl : Flow) (s : Shared) : Prop :=
  ∃ m x2 mu ext, ES c m (x2 ++ x) mu (ext ++ news) s ∧ P (retOf fl) mu (ext ++ news)
noncomputable abbrev noE : Value → Shared → Prop := fun _ _ => False
end

-- V2
section
open PySem PySem.W PyProof.Rows PySem.Spec PySem.Calls
noncomputable abbrev tupO (vs : List Value) : Obj := { cls := .type "tuple", data := .seq vs.toArray }
noncomputable abbrev lstO (vs : List Value) (n : Nat) : Obj := listOf vs.toArray n

noncomputable def SeqK (M : Model) (A : Around) (rest : List Stmt) (env : Env) (Q : Flow → Shared → Prop) (E : Value → Shared → Prop) (f : Flow) (s : Shared) : Prop := match f with
  | .next => wpAny M A (execs rest env) Q E s
  | f => Q f s

section
variable {M : Model} {A : Around} {E : Value → Shared → Prop} {s : Shared} {env : Env} {rest : List Stmt} {Q : Flow → Shared → Prop}
theorem v_cons {st : Stmt} (h : wpAny M A (exec st env) (SeqK M A rest env Q E) E s) : wpAny M A (execs (st :: rest) env) Q E s :=
  wpAny_execs_cons (wpAny_mono h (fun f s' hf => by cases f <;> exact hf) fun _ _ e => e)
theorem v_if {test : Expr} {body orelse : List Stmt} {pos : Pos} (h : wpAny M A (isTrue test env (eval test env)) (fun b s₂ => if b = true then wpAny M A (execs body env) (SeqK M A rest env Q E) E s₂ else wpAny M A (execs orelse env) (SeqK M A rest env Q E) E s₂) E s) :
    wpAny M A (execs (.If test body orelse pos :: rest) env) Q E s := v_cons (wpAny_If h)
theorem v_ret {e : Expr} {pos : Pos} (h : wpAny M A (eval e env) (fun v => Q (.ret v)) E s) : wpAny M A (execs (.Return (some e) pos :: rest) env) Q E s := v_cons (wpAny_Return_some h)
theorem v_asg {x : Str} {pos' pos : Pos} {value : Expr} (h : wpAny M A (eval value env) (fun v s₁ => wpAny M A (storeName env x v) (fun _ s₂ => wpAny M A (execs rest env) Q E s₂) E s₁) E s)
    (hs : swapsWith value (some (.Name x pos')) pos.line env = pure false := by with_unfolding_all rfl) : wpAny M A (execs (.Assign [.Name x pos'] value pos :: rest) env) Q E s := v_cons (wpAny_Assign_Name h hs)
theorem v_asgT {elts : List Expr} {k : Nat} {tpos pos : Pos} {value : Expr} (h : wpAny M A (eval value env) (fun v s₁ => wpAny M A (assign (.Tuple elts k tpos) env v) (fun _ s₂ => wpAny M A (execs rest env) Q E s₂) E s₁) E s)
    (hs : swapsWithSole [.Tuple elts k tpos] value pos.line env = pure false := by with_unfolding_all rfl) (hw : swappedStores [.Tuple elts k tpos] value env = pure none := by with_unfolding_all rfl) :
    wpAny M A (execs (.Assign [.Tuple elts k tpos] value pos :: rest) env) Q E s := v_cons (Assign_Tuple h hs hw)
theorem v_asgS {o i : Expr} {pos' pos : Pos} {value : Expr} (h : wpAny M A (eval value env) (fun v s₁ => wpAny M A (eval o env) (fun ov s₂ => wpAny M A (eval i env) (fun iv s₃ => wpAny M A (setItem ov iv v) (fun _ s₄ => wpAny M A (execs rest env) Q E s₄) E s₃) E s₂) E s₁) E s)
    (hs : swapsWith value (some (.Subscript o i pos')) pos.line env = pure false := by with_unfolding_all rfl) : wpAny M A (execs (.Assign [.Subscript o i pos'] value pos :: rest) env) Q E s := v_cons (wpAny_Assign_Subscript h hs)
theorem v_asgA {o : Expr} {attr : Str} {pos' pos : Pos} {value : Expr} (h : wpAny M A (eval value env) (fun v s₁ => wpAny M A (eval o env) (fun ov s₂ => wpAny M A (setAttr ov attr v) (fun _ s₃ => wpAny M A (execs rest env) Q E s₃) E s₂) E s₁) E s)
    (hs : swapsWith value (some (.Attribute o attr pos')) pos.line env = pure false := by with_unfolding_all rfl) : wpAny M A (execs (.Assign [.Attribute o attr pos'] value pos :: rest) env) Q E s := v_cons (plainObj_wpAny_Assign_Attribute h hs)

theorem ite_dec {P : Prop} [Decidable P] {a b : Prop} (h1 : P → a) (h2 : ¬ P → b) : if decide P = true then a else b := by
  by_cases h : P
  · rw [if_pos (decide_eq_true h)]; exact h1 h
  · rw [if_neg (by simpa using h)]; exact h2 h
theorem ite_tt' {a b : Prop} (h : a) : if true = true then a else b := by rw [if_pos rfl]; exact h
theorem ite_ff' {a b : Prop} (h : b) : if false = true then a else b := by rw [if_neg Bool.false_ne_true]; exact h
theorem ite_beqI {p q : Int} {a b : Prop} (h1 : p = q → a) (h2 : p ≠ q → b) : if (p == q) = true then a else b := by
  by_cases h : p = q
  · rw [if_pos (by simpa using h)]; exact h1 h
  · rw [if_neg (by simpa using h)]; exact h2 h
theorem ite_notB {t : Bool} {a b : Prop} (h : if t = true then b else a) : if (!t) = true then a else b := by cases t <;> simpa using h
end

section
variable {G : Gl} {c : Cx} {n : Nat} {m : Str → Option Value} {x mu news : LedT} {s : Shared} {A : Around} {env : Env} {E : Value → Shared → Prop} {Q : Value → Shared → Prop}
theorem v_int {i : Int} {k : Nat} {pos : Pos} (S : ES c m x mu news s) (h : ∀ t s', ES c m x mu news s' → Q (.int i t) s') : wpAny G.M A (eval (.Constant (.int i) k pos) env) Q E s := wpAny_Constant_int (h _ _ (S.tok _))
theorem v_str {i : Str} {k : Nat} {pos : Pos} (S : ES c m x mu news s) (h : ∀ t s', ES c m x mu news s' → Q (.str i t) s') : wpAny G.M A (eval (.Constant (.str i) k pos) env) Q E s := Calls.Constant_str (h _ _ (S.tok _))
theorem v_none {k : Nat} {pos : Pos} (h : Q .none s) : wpAny G.M A (eval (.Constant .none k pos) env) Q E s := wpAny_Constant_none h
variable {a b : Int} {t u : Tok}
theorem v_add (S : ES c m x mu news s) (h : ∀ t s', ES c m x mu news s' → Q (.int (a + b) t) s') : wpAny G.M A (binaryOp .Add (.int a t) (.int b u)) Q E s := add_int (h _ _ (S.tok _))
theorem v_sub (S : ES c m x mu news s) (h : ∀ t s', ES c m x mu news s' → Q (.int (a - b) t) s') : wpAny G.M A (binaryOp .Sub (.int a t) (.int b u)) Q E s := sub_int (h _ _ (S.tok _))
theorem v_mul (S : ES c m x mu news s) (hm : IntMulOk a b) (h : ∀ t s', ES c m x mu news s' → Q (.int (a * b) t) s') : wpAny G.M A (binaryOp .Mult (.int a t) (.int b u)) Q E s := mul_int (h _ _ (S.tok _)) hm
theorem v_fdiv (S : ES c m x mu news s) (hb : b ≠ 0) (hp : Builtin.divisionGoesByPylong a b = false) (h : ∀ t s', ES c m x mu news s' → Q (.int (a.fdiv b) t) s') : wpAny G.M A (binaryOp .FloorDiv (.int a t) (.int b u)) Q E s := floordiv_int hb (h _ _ (S.tok _)) (.inl hp)
theorem v_mod (S : ES c m x mu news s) (hb : b ≠ 0) (h : ∀ t s', ES c m x mu news s' → Q (.int (a.fmod b) t) s') : wpAny G.M A (binaryOp .Mod (.int a t) (.int b u)) Q E s := mod_int' hb (h _ _ (S.tok _))
theorem v_newTuple {vs : List Value} (S : ES c m x mu news s) (hz : Nat.ble vs.length 1000 = true) (h : ∀ D s', ES c m x mu ((D, tupO vs) :: news) s' → Q (.ref D) s') : wpAny G.M A (newTuple vs) Q E s :=
  wpAny_newObj_type (h _ _ (S.push _ rfl)) (by
    have := Nat.le_of_ble_eq_true hz
    show vs.toArray.size ≤ sizeLine
    rw [List.size_toArray]; exact Nat.le_trans this (by decide))
theorem v_newList {vs : List Value} (S : ES c m x mu news s) (hz : Nat.ble vs.length 1000 = true) (h : ∀ D s', ES c m x mu ((D, lstO vs 0) :: news) s' → Q (.ref D) s') : wpAny G.M A (newList vs) Q E s :=
  wpAny_newObj_type (h _ _ (S.push _ rfl)) (by
    have := Nat.le_of_ble_eq_true hz
    show vs.toArray.size ≤ sizeLine
    rw [List.size_toArray]; exact Nat.le_trans this (by decide))
theorem v_isi {v k tv : Value} {H : Heap → Prop} {r : Bool} (Z : KitX G.K v tv H) (O : Ok G c n) (S : ES c m x mu news s) (p : H s.heap) (e : kitOne G.K tv k = some r) (hx : v ≠ .builtin "__main__.__loader__#opaque")
    (h : ∀ s', ES c m x mu news s' → Q (.bool r) s') : wpAny G.M A (call (.builtin "isinstance") [v, k]) Q E s := kia_one Z (O.X.keeps S.F.keep) p e hx fun tk => h _ (S.tok tk)
theorem v_field {a dx C : Addr} {es : List DictEntry} {k : Nat} {name : Str} {v : Value} {expr : Bool} {attr : Option Value} (O : Ok G c n) (S : ES c m x mu news s) (h1 : (a, instObj C dx) ∈ news) (h2 : (dx, dictOf es k) ∈ news)
    (hg : plainGet G.K C name = true) (hh : hasDictIn G.K C = true) (ha : findIn G.K (.ref C) name = some attr) (hn : noGet G.K attr = true) (hl : getL name es = some (some v)) (hv : handedIn v = true)
    (h : ∀ s', ES c m x mu news s' → Q v s') : wpAny G.M A (getAttr (.ref a) name expr) Q E s :=
  get_own S.F O.X (InstAt.of_news S.N (List.mem_append_right _ (List.mem_append_right _ h1)) (List.mem_append_right _ (List.mem_append_right _ h2))) hg hh ha hn hl hv (h _ (S.tok _))
theorem v_callK {f : Value} {e : Expr} {rest : List Expr} {pos : Pos} {first : List Value} (O : Ok G c n) (hk : keepIn G.K f = true)
    (h : wpAny G.M A (spliced (backTo pos (starEach (e :: rest) env))) (fun vs s₁ => (∃ m' x' mu' news', ES c m' x' mu' news' s₁) ∧ wpAny G.M A (call f (first ++ vs)) Q E s₁) E s)
    (he : starEach (e :: rest) env = (false, eval e env) :: starEach rest env := by rfl) (hplain : (backTo pos (starEach rest env)).any (·.1) = false := by rfl) :
    wpAny G.M A (callWith pos f first (backTo pos (starEach (e :: rest) env)) []) Q E s :=
  callWith_K O.X hk (wpAny_mono h (fun vs s₁ h => ⟨by obtain ⟨m', x', mu', news', S⟩ := h.1; exact O.X.keeps S.F.keep, h.2⟩) fun _ _ e => e) he hplain
end
end

-- V3
section
open PySem PySem.W PyProof.Rows PySem.Spec PySem.Calls
noncomputable def Gr (a b : LedT) : Prop := ∃ ext, b = ext ++ a
theorem Gr.refl (a : LedT) : Gr a a := ⟨[], rfl⟩
theorem Gr.cons {a b : LedT} {p : Addr × Obj} (h : Gr a b) : Gr a (p :: b) := by obtain ⟨e, h⟩ := h; exact ⟨p :: e, by rw [h]; rfl⟩
theorem Gr.trans {a b d : LedT} (h : Gr a b) (k : Gr b d) : Gr a d := by obtain ⟨e, rfl⟩ := h; obtain ⟨f, rfl⟩ := k; exact ⟨f ++ e, (List.append_assoc _ _ _).symm⟩
theorem Gr.mem {a b : LedT} {p : Addr × Obj} (h : Gr a b) (m : p ∈ a) : p ∈ b := by obtain ⟨e, rfl⟩ := h; exact List.mem_append_right _ m
section
variable {G : Gl} {c : Cx} {n : Nat} {ns : List (Str × NameKind)} {m : Str → Option Value} {x mu news : LedT} {s : Shared} {R : Tab}

noncomputable def LoopK (G : Gl) (c : Cx) (ns : List (Str × NameKind)) (xc x n0 : LedT) (J : Tab → LedT → LedT → Prop) (Q : Flow → Shared → Prop) (f : Flow) (s : Shared) : Prop := match f with
  | .ret v => Q (.ret v) s
  | .brk => False
  | _ => ∃ m R mu news, J R mu news ∧ Gr n0 news ∧ FT G c ns m xc R ∧ ES c m x mu news s
variable {xc n0 : LedT}
theorem v_while {test : Expr} {body rest : List Stmt} {pos : Pos} {Q : Flow → Shared → Prop} (J : Nat → Tab → LedT → LedT → Prop) (k₀ : Nat) (T : FT G c ns m xc R) (S : ES c m x mu news s) (h0 : J k₀ R mu news)
    (turn : ∀ k m R mu news' s, J k R mu news' → Gr news news' → FT G c ns m xc R → ES c m x mu news' s → wpAny G.M c.A (isTrue test c.env (eval test c.env)) (fun b s₂ =>
      if b = true then wpAny G.M c.A (execs body c.env) (LoopK G c ns xc x news (fun R mu news => ∃ j, j < k ∧ J j R mu news) Q) noE s₂ else wpAny G.M c.A (execs rest c.env) Q noE s₂) noE s) :
    wpAny G.M c.A (execs (.While test body [] pos :: rest) c.env) Q noE s := by
  refine v_cons (wpAny_While (codeAny_whileLoop (fun k s' => ∃ m R mu news', J k R mu news' ∧ Gr news news' ∧ FT G c ns m xc R ∧ ES c m x mu news' s') (fun k s' h => ?_) k₀ ⟨m, R, mu, news, h0, Gr.refl _, T, S⟩))
  obtain ⟨m', R', mu', news', hJ, hg, T', S'⟩ := h
  refine wpAny_mono (turn k m' R' mu' news' s' hJ hg T' S') (fun b s₂ h₂ => ?_) fun _ _ h => h.elim
  cases b with
  | false =>
    simp only [Bool.false_eq_true, if_false] at h₂ ⊢
    exact wpAny_execs_nil h₂
  | true =>
    simp only [if_true] at h₂ ⊢
    refine wpAny_mono h₂ (fun f s₃ h₃ => ?_) fun _ _ h => h.elim
    cases f with
    | ret v => exact h₃
    | brk => exact h₃.elim
    | next => obtain ⟨m', R', mu', news', ⟨j, hj, hJ⟩, hg, T', S'⟩ := h₃; exact ⟨j, hj, m', R', mu', news', hJ, hg, T', S'⟩
    | cont => obtain ⟨m', R', mu', news', ⟨j, hj, hJ⟩, hg, T', S'⟩ := h₃; exact ⟨j, hj, m', R', mu', news', hJ, hg, T', S'⟩

noncomputable def ForGo (M : Model) (A : Around) (target : Expr) (body rest : List Stmt) (env : Env) (Q : Flow → Shared → Prop) (E : Value → Shared → Prop) (v : Value) (s : Shared) : Prop :=
  wpAny M A (pyIter v) (fun it s₂ => codeAny M A (.forLoop target it body [] env) (fun r s' => match r with | .ok f => SeqK M A rest env Q E f s' | .error e => cameBackBy M A env E e s') s₂) E s
theorem v_for {M : Model} {A : Around} {target iter : Expr} {body rest : List Stmt} {env : Env} {pos : Pos} {Q : Flow → Shared → Prop} {E : Value → Shared → Prop} (h : wpAny M A (eval iter env) (ForGo M A target body rest env Q E) E s)
    (hs : ∀ x, foldedSetIterable iter env x = pure x := by intro _; rfl) : wpAny M A (execs (.For target iter body [] pos :: rest) env) Q E s := v_cons (wpAny_For h hs)

theorem ES.hide {I : Addr} {o : Obj} (S : ES c m x mu ((I, o) :: news) s) : ES c m ((I, o) :: x) mu news s :=
  ⟨S.F, fun p hp => S.N p (by
    simp only [List.cons_append, List.mem_cons, List.mem_append] at hp ⊢
    rcases hp with h | h | h | h
    · exact .inr (.inr (.inl h))
    · exact .inl h
    · exact .inr (.inl h)
    · exact .inr (.inr (.inr h))), by
    have h := S.nd
    simp only [List.map_append, List.map_cons, List.cons_append] at h ⊢
    refine (List.Perm.nodup_iff ?_).mpr h
    refine List.Perm.trans ?_ (List.Perm.append_left _ List.perm_middle.symm)
    exact List.perm_middle.symm, S.hs⟩
theorem ES.step {I : Addr} {o o' : Obj} {h' : Heap} {tk : Nat} (S : ES c m ((I, o) :: x) mu news s) (hk : ∀ b ob, b ≠ I → s.heap.get? b = some ob → h'.get? b = some ob) (hI : h'.get? I = some o') : ES c m ((I, o') :: x) mu news { s with heap := h', toks := tk } := by
  have hN := S.N (I, o) (.head _)
  obtain ⟨oL, es, ep, hL, r⟩ := S.F.ns
  refine S.heapTok ⟨⟨oL, es, ep, hk _ _ (Ne.symm hN.2.1) hL, r⟩, fun b ob e => hk b ob (fun z => ?_) (S.F.keep b ob e), S.F.above⟩ (fun p hp => ?_) S.nd
  · have := hN.2.2; rw [← z, e] at this; cases this
  · rcases List.mem_cons.mp hp with rfl | hp
    · exact ⟨hI, hN.2⟩
    · have hne : p.1 ≠ I := fun e => (List.nodup_cons.mp S.nd).1 (e ▸ List.mem_map_of_mem (f := (·.1)) hp)
      have P := S.N p (.tail _ hp)
      exact ⟨hk _ _ hne P.1, P.2⟩

theorem ES.stepDrop {I : Addr} {o : Obj} {h' : Heap} {tk : Nat} (S : ES c m ((I, o) :: x) mu news s) (hk : ∀ b ob, b ≠ I → s.heap.get? b = some ob → h'.get? b = some ob) : ES c m x mu news { s with heap := h', toks := tk } := by
  have hN := S.N (I, o) (.head _)
  obtain ⟨oL, es, ep, hL, r⟩ := S.F.ns
  refine S.heapTok ⟨⟨oL, es, ep, hk _ _ (Ne.symm hN.2.1) hL, r⟩, fun b ob e => hk b ob (fun z => ?_) (S.F.keep b ob e), S.F.above⟩ (fun p hp => ?_) (List.nodup_cons.mp S.nd).2
  · have := hN.2.2; rw [← z, e] at this; cases this
  · have hne : p.1 ≠ I := fun e => (List.nodup_cons.mp S.nd).1 (e ▸ List.mem_map_of_mem (f := (·.1)) hp)
    have P := S.N p (.tail _ hp)
    exact ⟨hk _ _ hne P.1, P.2⟩

theorem owned_no {M : Model} {A : Around} {target : Expr} {I : Addr} {v : Value} {Q : Unit → Shared → Prop} {E : Value → Shared → Prop} {s : Shared} {o : Obj} {cn : String} {fs : Array Value} (ho : s.heap.get? I = some o) (hc : o.cls = .type cn) (hd : o.data = .fields fs)
    (h3 : cn = "list_iterator" ∨ cn = "bytes_iterator" ∨ cn = "range_iterator") (hq : Q () s) : wpAny M A (letOwnedTupleGo target (.ref I) v) Q E s := by
  have go : ∀ a, wpAny M A (letOwnedTupleGo (.Tuple [] 0 default) (.ref I) (.ref a)) Q E s := fun a => by
    refine wpAny_bind (wpAny_load ho ?_)
    rw [hc, hd]
    rcases h3 with rfl | rfl | rfl <;> exact wpAny_pure hq
  have go2 : wpAny M A (letOwnedTupleGo (.Tuple [] 0 default) (.ref I) v) Q E s := by
    cases v <;> first | exact go _ | exact wpAny_pure hq
  cases target <;> first | exact go2 | exact wpAny_pure hq
inductive ForInv (G : Gl) (c : Cx) (ns : List (Str × NameKind)) (xc x : LedT) (I : Addr) (news : LedT) (num : Nat) (St : Nat → Heap → Prop) (J : Nat → Tab → LedT → LedT → Prop) (k : Nat) (s' : Shared) : Prop
  | mk (i : Nat) (oI : Obj) (m : Str → Option Value) (R : Tab) (mu news' : LedT) (hk : k = num + 1 - i) (hi : i ≤ num) (hst : St i s'.heap) (hJ : J i R mu news') (hg : Gr news news') (T : FT G c ns m xc R) (S : ES c m ((I, oI) :: x) mu news' s') : ForInv G c ns xc x I news num St J k s'
theorem keepSt {prog : Program} {w : World} {A : Around} {fp : List Addr} {num : Nat} {P : Nat → Value → Prop} {St : Nat → Heap → Prop} {I : Addr} {o' : Obj} {j : Nat} {mA mB : Str → Option Value} {xA xB muA muB newsA newsB : LedT} {sA sB : Shared} (W : Walks prog w A I fp [I] num P St) (hfp : ∀ b ∈ fp, b ≠ I → ∃ ob, (b, ob) ∈ news)
    (st : St j sA.heap) (SA : ES c mA ((I, o') :: xA) muA newsA sA) (gA : Gr news newsA) (SB : ES c mB ((I, o') :: xB) muB newsB sB) (gB : Gr news newsB) : St j sB.heap := W.frame _ _ _ st fun b hb ob e => by
  by_cases hbI : b = I
  · subst hbI
    rw [Option.some.inj (e.symm.trans (SA.N _ (.head _)).1)]
    exact (SB.N _ (.head _)).1
  · obtain ⟨ob', hob⟩ := hfp b hb hbI
    rw [Option.some.inj (e.symm.trans (SA.get (gA.mem hob)))]
    exact SB.get (gB.mem hob)
theorem v_forW {fp : List Addr} {num : Nat} {P : Nat → Value → Prop} {St : Nat → Heap → Prop} {I : Addr} {oI : Obj} {target : Expr} {body rest : List Stmt} {Q : Flow → Shared → Prop} (W : Walks G.prog G.w c.A I fp [I] num P St)
    (hT : ∀ (s : Shared) (i : Nat) (v : Value) (Q : Unit → Shared → Prop), St i s.heap → Q () s → wpAny G.M c.A (letOwnedTupleGo target (.ref I) v) Q noE s)
    (hlive : ∀ i h, St i h → ∃ o, h.get? I = some o)
    (J : Nat → Tab → LedT → LedT → Prop) (hfp : ∀ b ∈ fp, b ≠ I → ∃ ob, (b, ob) ∈ news)
    (T : FT G c ns m xc R) (S : ES c m ((I, oI) :: x) mu news s) (hst : St 0 s.heap) (h0 : J 0 R mu news)
    (turn : ∀ i v oI m R mu news' s, i < num → P i v → J i R mu news' → Gr news news' → FT G c ns m xc R → ES c m ((I, oI) :: x) mu news' s → wpAny G.M c.A (assign target c.env v) (fun _ s₂ =>
      wpAny G.M c.A (execs body c.env) (LoopK G c ns xc ((I, oI) :: x) news (J (i + 1)) Q) noE s₂) noE s)
    (done : ∀ m R mu news' s, J num R mu news' → Gr news news' → FT G c ns m xc R → ES c m x mu news' s → wpAny G.M c.A (execs rest c.env) Q noE s) :
    codeAny G.M c.A (.forLoop target (.ref I) body [] c.env) (fun r s' => match r with | .ok f => SeqK G.M c.A rest c.env Q noE f s' | .error e => cameBackBy G.M c.A c.env noE e s') s := by
  refine codeAny_forLoop_any (ForInv G c ns xc x I news num St J) (fun k s' h => ?_) (num + 1) (.mk 0 oI m R mu news rfl (Nat.zero_le _) hst h0 (Gr.refl _) T S)
  obtain ⟨i, oI', m', R', mu', news', hk', hi, hst', hJ, hg, T', S'⟩ := h
  subst hk'
  by_cases hlt : i < num
  · refine W.item i s' _ _ hlt hst' fun v h' tk hP hst₁ hk => ?_
    obtain ⟨o', ho'⟩ := hlive _ _ hst₁
    have S₁ := S'.step (tk := tk) (fun b ob hb e => hk b ob (by simpa using hb) e) ho'
    have weak : ∀ {α : Type} {t : Sem α} {Q : α → Shared → Prop} {E : Value → Shared → Prop} {s : Shared}, wpAny G.M c.A t Q noE s → wpAny G.M c.A t Q E s := fun h => wpAny_mono h (fun _ _ h => h) fun _ _ h => False.elim h
    refine weak (hT _ (i + 1) v _ hst₁ (weak (wpAny_mono (turn i v o' m' R' mu' news' _ hlt hP hJ hg T' S₁) (fun _ s₂ h₂ => weak (wpAny_mono h₂ (fun f s₃ h₃ => ?_) fun _ _ h => h)) fun _ _ h => h)))
    have go : (∃ m R mu news', J (i + 1) R mu news' ∧ Gr news news' ∧ FT G c ns m xc R ∧ ES c m ((I, o') :: x) mu news' s₃) → ∃ k', k' < num + 1 - i ∧ ForInv G c ns xc x I news num St J k' s₃ := by
      rintro ⟨m₃, R₃, mu₃, news₃, hJ₃, hg₃, T₃, S₃⟩
      exact ⟨num + 1 - (i + 1), turn_lt hlt, .mk (i + 1) o' m₃ R₃ mu₃ news₃ rfl hlt (keepSt W hfp hst₁ S₁ hg S₃ hg₃) hJ₃ hg₃ T₃ S₃⟩
    cases f with
    | ret v => exact h₃
    | brk => exact h₃.elim
    | next => exact go h₃
    | cont => exact go h₃
  · have e : i = num := by omega
    subst e
    refine W.done s' _ _ hst' fun h' tk hk => ?_
    have S₁ := S'.stepDrop (tk := tk) (fun b ob hb e => hk b ob (by simpa using hb) e)
    exact wpAny_execs_nil (done m' R' mu' news' _ hJ hg T' S₁)
end
end

-- V2b
section
open PySem PySem.W PyProof.Rows PySem.Spec PySem.Calls

structure RA (c : Cx) (A : Around) : Prop where
  fr : A.frames = some (c.env :: c.outer)
  hd : A.handled = none
  dp : A.depth ≤ c.dp + 2
  un : A.units ≤ c.un + 8
theorem RA.own (c : Cx) : RA c c.A := ⟨rfl, rfl, Nat.le_add_right _ _, Nat.le_add_right _ _⟩
noncomputable def CtX (G : Gl) (k : Nat) (f : Addr) (vs : List Value) (mu news : LedT) (P : Value → LedT → LedT → Prop) : Prop :=
  ∀ (c : Cx) (m : Str → Option Value) (x : LedT) (s : Shared) (A : Around) (R : Result → Shared → Prop), Ok G c k → ES c m x mu news s → RA c A →
    (∀ r mu' ext s', ES c m x mu' (ext ++ news) s' → P r mu' (ext ++ news) → R (.ok (.ret r)) s') → codeAny G.M A (.call (.ref f) ⟨vs, []⟩) R s
theorem CtX.ct {G : Gl} {k : Nat} {f : Addr} {vs : List Value} {mu news : LedT} {P : Value → LedT → LedT → Prop} (h : CtX G k f vs mu news P) : Ct G k f vs mu news P := by
  intro c m x s Q E O S hq
  exact wpAny_call (h c m x s c.A _ O S (RA.own c) fun r mu' ext s' S' hp => hq r mu' ext s' S' hp)
theorem CtX.mono {G : Gl} {k : Nat} {f : Addr} {vs : List Value} {mu news : LedT} {P P' : Value → LedT → LedT → Prop} (h : CtX G k f vs mu news P) (hp : ∀ r mu' ext, P r mu' (ext ++ news) → P' r mu' (ext ++ news)) : CtX G k f vs mu news P' :=
  fun c m x s A R O S ra hq => h c m x s A R O S ra fun r mu' ext s' S' p => hq r mu' ext s' S' (hp r mu' ext p)

theorem Ok.le' {G : Gl} {c : Cx} {n k : Nat} (h : Ok G c n) (hk : k ≤ n) : Ok G c k := ⟨h.B, h.X, h.T, h.hk, by have := h.dp; omega, by have := h.un; omega⟩
theorem CtX.up {G : Gl} {k k' : Nat} {f : Addr} {vs : List Value} {mu news : LedT} {P : Value → LedT → LedT → Prop} (h : CtX G k f vs mu news P) (hk : k ≤ k') : CtX G k' f vs mu news P :=
  fun c m x s A R O S ra hq => h c m x s A R (O.le' hk) S ra hq

inductive InitC (G : Gl) : List (Str × NameKind) → List Value → List (Str × Value) → Tab → Prop
  | nil : InitC G [] [] [] []
  | par {y v ns vs bs R} : InitC G ns vs bs R → InitC G ((y, .local) :: ns) (v :: vs) ((y, v) :: bs) ((y, some v) :: R)
  | parC {y v ns vs bs R} : InitC G ns vs bs R → InitC G ((y, .cell) :: ns) (v :: vs) ((y, v) :: bs) ((y, some v) :: R)
  | loc {y ns R} : InitC G ns [] [] R → InitC G ((y, .local) :: ns) [] [] ((y, none) :: R)
  | locC {y ns R} : InitC G ns [] [] R → InitC G ((y, .cell) :: ns) [] [] ((y, none) :: R)
  | glo {y v ns R} : Gn G y v → InitC G ns [] [] R → InitC G ((y, .globalImplicit) :: ns) [] [] ((y, some v) :: R)
section
variable {G : Gl} {ns : List (Str × NameKind)} {vs : List Value} {bs : List (Str × Value)} {R : Tab}
theorem InitC.names (h : InitC G ns vs bs R) : R.map (·.1) = ns.map (·.1) := by
  induction h with
  | nil => rfl
  | par _ ih => simp [ih]
  | parC _ ih => simp [ih]
  | loc _ ih => simp [ih]
  | locC _ ih => simp [ih]
  | glo _ _ ih => simp [ih]
theorem InitC.kinds (h : InitC G ns vs bs R) : ∀ y k, (y, k) ∈ ns → k = .local ∨ k = .cell ∨ k = .globalImplicit := by
  induction h with
  | nil => intro y k h; cases h
  | par _ ih => intro y k h; rcases List.mem_cons.mp h with h | h; cases h; exact .inl rfl; exact ih y k h
  | parC _ ih => intro y k h; rcases List.mem_cons.mp h with h | h; cases h; exact .inr (.inl rfl); exact ih y k h
  | loc _ ih => intro y k h; rcases List.mem_cons.mp h with h | h; cases h; exact .inl rfl; exact ih y k h
  | locC _ ih => intro y k h; rcases List.mem_cons.mp h with h | h; cases h; exact .inr (.inl rfl); exact ih y k h
  | glo _ _ ih => intro y k h; rcases List.mem_cons.mp h with h | h; cases h; exact .inr (.inr rfl); exact ih y k h
theorem InitC.glos (h : InitC G ns vs bs R) : (ns.map (·.1)).Nodup → ∀ y v, (y, some v) ∈ R → (y, NameKind.globalImplicit) ∈ ns → Gn G y v := by
  have other : ∀ {z : Str} {u : Option Value} {kd : NameKind} {ns : List (Str × NameKind)} {R : Tab}, kd ≠ .globalImplicit → R.map (·.1) = ns.map (·.1) →
      ((ns.map (·.1)).Nodup → ∀ y v, (y, some v) ∈ R → (y, NameKind.globalImplicit) ∈ ns → Gn G y v) → (((z, kd) :: ns).map (·.1)).Nodup → ∀ y v, (y, some v) ∈ ((z, u) :: R : Tab) → (y, NameKind.globalImplicit) ∈ (z, kd) :: ns → Gn G y v := by
    intro z u kd ns R hkd _ ih nd y v hm hk
    simp only [List.map_cons, List.nodup_cons] at nd
    rcases List.mem_cons.mp hk with e | hk
    · cases e; exact absurd rfl hkd
    rcases List.mem_cons.mp hm with e | hm
    · cases e; exact absurd (List.mem_map_of_mem (f := (·.1)) hk) nd.1
    · exact ih nd.2 y v hm hk
  induction h with
  | nil => intro _ y v h; cases h
  | par h ih => exact other (by decide) h.names ih
  | parC h ih => exact other (by decide) h.names ih
  | loc h ih => exact other (by decide) h.names ih
  | locC h ih => exact other (by decide) h.names ih
  | @glo z u ns R hg h ih =>
    intro nd y v hm hk
    simp only [List.map_cons, List.nodup_cons] at nd
    rcases List.mem_cons.mp hm with e | hm
    · cases e; exact hg
    rcases List.mem_cons.mp hk with e | hk
    · cases e; exact absurd (by rw [← h.names]; exact List.mem_map_of_mem (f := (·.1)) hm) nd.1
    · exact ih nd.2 y v hm hk
theorem InitC.locs (h : InitC G ns vs bs R) : (ns.map (·.1)).Nodup → ∀ y v k, (y, v) ∈ R → (y, k) ∈ ns → k ≠ .globalImplicit → bs.lookup y = v := by
  have par : ∀ {z : Str} {u : Value} {kd : NameKind} {ns : List (Str × NameKind)} {bs : List (Str × Value)} {R : Tab}, R.map (·.1) = ns.map (·.1) →
      ((ns.map (·.1)).Nodup → ∀ y v k, (y, v) ∈ R → (y, k) ∈ ns → k ≠ .globalImplicit → bs.lookup y = v) → (((z, kd) :: ns).map (·.1)).Nodup → ∀ y v k, (y, v) ∈ ((z, some u) :: R : Tab) → (y, k) ∈ (z, kd) :: ns → k ≠ .globalImplicit → ((z, u) :: bs).lookup y = v := by
    intro z u kd ns bs R hn ih nd y v k hm hk hg
    simp only [List.map_cons, List.nodup_cons] at nd
    rw [List.lookup_cons]
    rcases List.mem_cons.mp hm with e | hm
    · cases e; simp
    · have hy : y ∈ ns.map (·.1) := by rw [← hn]; exact List.mem_map_of_mem (f := (·.1)) hm
      have : y ≠ z := fun e => nd.1 (e ▸ hy)
      rw [beq_eq_false_iff_ne.mpr this]
      rcases List.mem_cons.mp hk with e | hk
      · cases e; exact absurd rfl this
      · exact ih nd.2 y v k hm hk hg
  have loc : ∀ {z : Str} {kd : NameKind} {ns : List (Str × NameKind)} {R : Tab}, R.map (·.1) = ns.map (·.1) →
      ((ns.map (·.1)).Nodup → ∀ y v k, (y, v) ∈ R → (y, k) ∈ ns → k ≠ .globalImplicit → ([] : List (Str × Value)).lookup y = v) → (((z, kd) :: ns).map (·.1)).Nodup → ∀ y v k, (y, v) ∈ ((z, none) :: R : Tab) → (y, k) ∈ (z, kd) :: ns → k ≠ .globalImplicit → ([] : List (Str × Value)).lookup y = v := by
    intro z kd ns R hn ih nd y v k hm hk hg
    simp only [List.map_cons, List.nodup_cons] at nd
    rcases List.mem_cons.mp hm with e | hm
    · cases e; rfl
    · have hy : y ∈ ns.map (·.1) := by rw [← hn]; exact List.mem_map_of_mem (f := (·.1)) hm
      rcases List.mem_cons.mp hk with e | hk
      · cases e; exact absurd hy nd.1
      · exact ih nd.2 y v k hm hk hg
  induction h with
  | nil => intro _ y v k h; cases h
  | par h ih => exact par h.names ih
  | parC h ih => exact par h.names ih
  | loc h ih => exact loc h.names ih
  | locC h ih => exact loc h.names ih
  | @glo z u ns R hg h ih =>
    intro nd y v k hm hk hgk
    simp only [List.map_cons, List.nodup_cons] at nd
    rcases List.mem_cons.mp hk with e | hk
    · cases e; exact absurd rfl hgk
    rcases List.mem_cons.mp hm with e | hm
    · cases e; exact absurd (List.mem_map_of_mem (f := (·.1)) hk) nd.1
    · exact ih nd.2 y v k hm hk hgk
theorem InitC.pars (h : InitC G ns vs bs R) : ∀ b ∈ bs, ∃ k, (b.1, k) ∈ ns ∧ (k = .local ∨ k = .cell) := by
  induction h with
  | nil => intro b h; cases h
  | par _ ih => intro b h; rcases List.mem_cons.mp h with h | h; subst h; exact ⟨_, .head _, .inl rfl⟩; exact let ⟨k, a, e⟩ := ih b h; ⟨k, .tail _ a, e⟩
  | parC _ ih => intro b h; rcases List.mem_cons.mp h with h | h; subst h; exact ⟨_, .head _, .inr rfl⟩; exact let ⟨k, a, e⟩ := ih b h; ⟨k, .tail _ a, e⟩
  | loc _ ih => intro b h; cases h
  | locC _ ih => intro b h; cases h
  | glo _ _ ih => intro b h; cases h
theorem InitC.bsnd (h : InitC G ns vs bs R) : (ns.map (·.1)).Nodup → (bs.map (·.1)).Nodup := by
  have par : ∀ {z : Str} {u : Value} {kd : NameKind} {ns : List (Str × NameKind)} {bs : List (Str × Value)}, (∀ b ∈ bs, ∃ k, (b.1, k) ∈ ns ∧ (k = NameKind.local ∨ k = .cell)) →
      ((ns.map (·.1)).Nodup → (bs.map (·.1)).Nodup) → (((z, kd) :: ns).map (·.1)).Nodup → (((z, u) :: bs).map (·.1)).Nodup := by
    intro z u kd ns bs hp ih nd
    simp only [List.map_cons, List.nodup_cons] at nd ⊢
    refine ⟨fun hm => nd.1 ?_, ih nd.2⟩
    obtain ⟨b, hb, e⟩ := List.mem_map.mp hm
    obtain ⟨k, hk, _⟩ := hp b hb
    exact e ▸ List.mem_map_of_mem (f := (·.1)) hk
  induction h with
  | nil => exact id
  | par h ih => exact par h.pars ih
  | parC h ih => exact par h.pars ih
  | loc _ ih => intro _; exact .nil
  | locC _ ih => intro _; exact .nil
  | glo _ _ ih => intro _; exact .nil
end
theorem bindL_is (kindOf : Str → Option NameKind) {y : Str} (hy : kindOf y = some .local) : ∀ (bs : List (Str × Value)) (m : Str → Option Value), (bs.map (·.1)).Nodup → bindL kindOf bs m y = (match bs.lookup y with | some v => some v | none => m y)
  | [], m, _ => rfl
  | (z, v) :: r, m, nd => by
    simp only [List.map_cons, List.nodup_cons] at nd
    unfold bindL
    rw [bindL_is kindOf hy r _ nd.2, List.lookup_cons]
    by_cases e : y = z
    · subst e
      have : r.lookup y = none := by
        rw [List.lookup_eq_none_iff]
        intro p hp
        have : y ≠ p.1 := fun e => nd.1 (e ▸ List.mem_map_of_mem (f := (·.1)) hp)
        simpa using this
      rw [this]
      simp [hy]
    · rw [beq_eq_false_iff_ne.mpr e]
      cases hr : r.lookup y with
      | some u => rfl
      | none =>
        dsimp only
        split
        · simp [e]
        · rfl
theorem bindC_is (kindOf : Str → Option NameKind) {y : Str} (hy : kindOf y ≠ some .local) : ∀ (bs : List (Str × Value)) (m : Str → Option Value), (bs.map (·.1)).Nodup → bindC kindOf bs m y = (match bs.lookup y with | some v => some v | none => m y)
  | [], m, _ => rfl
  | (z, v) :: r, m, nd => by
    simp only [List.map_cons, List.nodup_cons] at nd
    unfold bindC
    rw [bindC_is kindOf hy r _ nd.2, List.lookup_cons]
    by_cases e : y = z
    · subst e
      have : r.lookup y = none := by
        rw [List.lookup_eq_none_iff]
        intro p hp
        have : y ≠ p.1 := fun e => nd.1 (e ▸ List.mem_map_of_mem (f := (·.1)) hp)
        simpa using this
      rw [this]
      simp [hy]
    · rw [beq_eq_false_iff_ne.mpr e]
      cases hr : r.lookup y with
      | some u => rfl
      | none =>
        dsimp only
        split
        · rfl
        · simp [e]
theorem cellsFrom_addr : ∀ (names : List (Str × NameKind)) (n lo : Nat) (acc : List (Str × Addr)), (∀ p ∈ acc, @LT.lt Nat _ p.2 n ∧ lo ≤ p.2) → lo ≤ n → (acc.map (·.2)).Nodup → ((cellsFrom n names acc).map (·.2)).Nodup ∧ ∀ p ∈ cellsFrom n names acc, lo ≤ p.2
  | [], n, lo, acc, h, _, nd => ⟨nd, fun p hp => (h p hp).2⟩
  | (y, k) :: r, n, lo, acc, h, hl, nd => by
    unfold cellsFrom
    split
    · refine cellsFrom_addr r (n + 1) lo _ (fun p hp => ?_) (Nat.le_succ_of_le hl) ?_
      · rcases List.mem_cons.mp hp with rfl | hp
        · exact ⟨Nat.lt_succ_self _, hl⟩
        · exact ⟨Nat.lt_succ_of_lt (h p hp).1, (h p hp).2⟩
      · simp only [List.map_cons, List.nodup_cons]
        refine ⟨fun hm => ?_, nd⟩
        obtain ⟨p, hp, e⟩ := List.mem_map.mp hm
        exact absurd e (Nat.ne_of_lt (h p hp).1)
    · exact cellsFrom_addr r n lo acc h hl nd
theorem CellsAre.get {cm : Str → Option Value} {cs : List (Str × Addr)} {cells : List (Addr × Obj)} (h : CellsAre cm cs cells) {y : Str} {a : Addr} (e : cs.lookup y = some a) : ∃ o, (a, o) ∈ cells ∧ o.data = .cell (cm y) := by
  induction h with
  | nil => cases e
  | @cons z b o cs cells ho _ ih =>
    rw [List.lookup_cons] at e
    by_cases hz : y = z
    · subst hz; simp at e; subst e; exact ⟨o, .head _, ho⟩
    · rw [beq_eq_false_iff_ne.mpr hz] at e
      obtain ⟨o', h1, h2⟩ := ih e
      exact ⟨o', .tail _ h1, h2⟩
theorem CellsAre.addrs {cm : Str → Option Value} {cs : List (Str × Addr)} {cells : List (Addr × Obj)} (h : CellsAre cm cs cells) : cells.map (·.1) = cs.map (·.2) := by
  induction h with
  | nil => rfl
  | cons _ _ ih => simp [ih]
theorem lookup_inj {cs : List (Str × Addr)} (nd : (cs.map (·.2)).Nodup) {y z : Str} {a : Addr} (h1 : cs.lookup y = some a) (h2 : cs.lookup z = some a) : y = z := by
  have mem : ∀ {l : List (Str × Addr)} {y : Str}, l.lookup y = some a → (y, a) ∈ l := by
    intro l y h
    induction l with
    | nil => cases h
    | cons p r ih =>
      obtain ⟨u, b⟩ := p
      rw [List.lookup_cons] at h
      by_cases e : y = u
      · subst e; simp at h; subst h; exact .head _
      · rw [beq_eq_false_iff_ne.mpr e] at h; exact .tail _ (ih h)
  have m1 := mem h1
  have m2 := mem h2
  clear h1 h2 mem
  induction cs with
  | nil => cases m1
  | cons p r ih =>
    simp only [List.map_cons, List.nodup_cons] at nd
    rcases List.mem_cons.mp m1 with e | m1'
    · rcases List.mem_cons.mp m2 with e2 | m2'
      · rw [← e] at e2; cases e2; rfl
      · subst e; exact absurd (List.mem_map_of_mem (f := (·.2)) m2') nd.1
    · rcases List.mem_cons.mp m2 with e2 | m2'
      · subst e2; exact absurd (List.mem_map_of_mem (f := (·.2)) m1') nd.1
      · exact ih nd.2 m1' m2'

section
variable {G : Gl} {n : Nat} {name qual : Str} {params : Arguments} {body : List Stmt} {scope : Scope} {dV kV doc pm cdv ct oc : Value} {an od : Option Addr} {osl : Array (Option Value)} {f : Addr} {vs vs' : List Value} {binds : List (Str × Value)} {R : Tab} {mu news : LedT} {P : Value → LedT → LedT → Prop}
theorem cells_nd {scope : Scope} (hnd : (scope.names.map (·.1)).Nodup) : ((cellsFrom 0 scope.names []).map (·.1)).Nodup := by
  have go : ∀ (names : List (Str × NameKind)) (n : Nat) (acc : List (Str × Addr)), (names.map (·.1)).Nodup → (acc.map (·.1)).Nodup → (∀ y ∈ names.map (·.1), y ∉ acc.map (·.1)) → ((cellsFrom n names acc).map (·.1)).Nodup := by
    intro names
    induction names with
    | nil => intro n acc _ h _; exact h
    | cons p r ih =>
      obtain ⟨y, k⟩ := p
      intro n acc h1 h2 h3
      simp only [List.map_cons, List.nodup_cons] at h1
      unfold cellsFrom
      split
      · refine ih _ _ h1.2 ?_ fun z hz hm => ?_
        · simp only [List.map_cons, List.nodup_cons]; exact ⟨h3 y (.head _), h2⟩
        · rcases List.mem_cons.mp hm with rfl | hm
          · exact h1.1 hz
          · exact h3 z (.tail _ hz) hm
      · exact ih _ _ h1.2 h2 fun z hz => h3 z (.tail _ hz)
  exact go _ _ _ hnd .nil fun _ _ h => by cases h
theorem enterCore {c : Cx} {m : Str → Option Value} {x : LedT} {s : Shared} {A : Around} {Rr : Result → Shared → Prop}
    (hlk : G.K.lookup f = some ⟨oc, od, .func (fnOf name qual params body scope dV kV doc pm an cdv ct), osl⟩) (hcd : codeIn G.K cdv qual = true)
    (hbind : ∀ s, G.K.In s.heap → BindsTo s (fnOf name qual params body scope dV kV doc pm an cdv ct) ⟨vs, []⟩ binds) (hin : InitC G scope.names vs' binds R) (hnd : (scope.names.map (·.1)).Nodup) (hdbg : (scope.names.any fun y => y.1 == ("__debug__" : Str)) = false)
    (hco : scope.isCoroutine = false) (hgen : scope.isGenerator = false) (hk : scope.kind = .function) (O : Ok G c (n + 1)) (S : ES c m x mu news s) (ra : RA c A)
    (h : ∀ c' m' cells s', c'.base = c.base → c'.outer = c.env :: c.outer → c'.s₀ = s → Ok G c' n → FT G c' scope.names m' cells R → ES c' m' (cells ++ x) mu news s' →
      (∀ m2 x2 mu2 ext s2, ES c' m2 (x2 ++ x) mu2 (ext ++ news) s2 → ES c m x mu2 (ext ++ news) s2) →
      wpAny G.M c'.A (execs body c'.env) (fun fl s'' => Rr (.ok (.ret (retOf fl))) s'') (fun e s'' => wpAny G.M (A.deeper c'.env) (leaving c'.env e) (fun _ s3 => Rr (.error e) s3) (fun e' s3 => Rr (.error e') s3) s'') s') : codeAny G.M A (.call (.ref f) ⟨vs, []⟩) Rr s := by
  obtain ⟨ha, hd, hA, hu⟩ := ra
  obtain ⟨handled, depth, frames, guards, units⟩ := A
  dsimp only at ha hd hA hu
  subst ha hd
  have kOf : ∀ {y : Str} {k : NameKind} (L' : Addr), (y, k) ∈ scope.names → (envOfC qual scope L' f cdv).kindOf y = some k := fun L' hm => lookup_mem hnd hm
  have kx : (binds.all fun y => scope.names.lookup y.1 == some .local || scope.names.lookup y.1 == some .cell) = true := by
    rw [List.all_eq_true]
    intro b hb
    obtain ⟨k, hk, e⟩ := hin.pars b hb
    rw [lookup_mem hnd hk]
    rcases e with rfl | rfl <;> rfl
  have bnd := hin.bsnd hnd
  obtain ⟨FG, BG, st, _⟩ := groundX (R := fun _ _ => True) (A := ⟨none, depth, some (c.env :: c.outer), guards, units⟩) O.B S.F S.N rfl (env := c.env) rfl O.hk
  refine codeAny_call_function (by have := O.dp; show depth < _; omega) ((O.X.keeps S.F.keep) _ _ hlk) rfl hco hgen rfl (codeRec_of (O.X.keeps S.F.keep) hcd) (hbind s (O.X.keeps S.F.keep) _ _ _ _ ?_)
  refine wpAny_newFunctionEnv_cells hk (kindsX kx _) fun env' he s' z => ?_
  subst he
  refine ⟨(O.T.nolimit.keeps S.F.keep).keeps z.toInCall.keep, codeAny_func ?_⟩
  obtain ⟨h₁, tk, rfl, _⟩ := z.done
  have hk₁ := z.toInCall.keep
  obtain ⟨cells, NC, Y⟩ := Cl.news (h₀ := s.heap) (Nat.le_refl _) fun n c hm => ⟨z.cell n c (lookup_of_mem_nodup (cellsFrom_names scope.names 0 (s.heap.objs.size + 1) [] [] rfl ▸ cells_nd hnd) hm), z.above n c hm⟩
  have hlt : ∀ p ∈ x ++ (mu ++ news), p.1 < s.heap.objs.size := fun p hp => Heap.lt_size (S.N p hp).1
  let g := hideAll s.heap ((x ++ (mu ++ news)).map (·.1))
  let L' := s.heap.objs.size
  replace Y : CellsAre (bindC (envOfC qual scope L' f cdv).kindOf binds fun _ => none) (cellsFrom (L' + 1) scope.names []) cells := Y
  have F' : Fr g L' h₁ (bindL (envOfC qual scope L' f cdv).kindOf binds fun _ => none) := ⟨z.toInCall.ns, fun b o e => hk₁ b o (of_hideAll _ e), Nat.le_of_eq (hideAll_size _ _)⟩
  have N' : News g L' h₁ (cells ++ (x ++ (mu ++ news))) := fun p hp => by
    rcases List.mem_append.mp hp with hp | hp
    · refine ⟨(NC p hp).1, (NC p hp).2.1, ?_⟩
      cases q : g.get? p.1 with
      | none => rfl
      | some o => have := of_hideAll _ q; rw [(NC p hp).2.2] at this; cases this
    · exact ⟨hk₁ _ _ (S.N p hp).1, Nat.ne_of_lt (hlt p hp), hideAll_none _ (List.mem_map_of_mem hp)⟩
  let c' : Cx := { dp := depth + 1, un := units + 3, gd := guards, outer := c.env :: c.outer, A₀ := ⟨none, depth, some (c.env :: c.outer), guards, units⟩, base := c.base, h₀ := g, L := L', q := qual, sc := scope, f := f, cd := cdv, cl := cellsFrom (L' + 1) scope.names [], s₀ := s }
  have O' : Ok G c' n := ⟨BG, O.X.keeps st, O.T.keeps st, hk, by have := O.dp; show depth + 1 + _ < _; omega, by have := O.un; show units + 3 + _ < _; omega⟩
  obtain ⟨cnd', cge⟩ := cellsFrom_addr scope.names (L' + 1) (L' + 1) [] (fun _ h => by cases h) (Nat.le_refl _) .nil
  have FT' : FT G c' scope.names (bindL (envOfC qual scope L' f cdv).kindOf binds fun _ => none) cells R := by
    refine ⟨rfl, hin.names, hnd, fun y v hm k hk e => ?_, fun y v hm k hk e => ?_, fun y v hm k hk h1 h2 => ?_, fun y z a h1 h2 => lookup_inj cnd' h1 h2, hdbg⟩
    · subst e
      rw [bindL_is _ (kOf L' hk) _ _ bnd, hin.locs hnd y v _ hm hk (by decide)]
      cases v <;> rfl
    · subst e
      have hs : ((cellsFrom (L' + 1) scope.names []).lookup y).isSome = true := cellsFrom_some _ _ _ (.inl (lookup_mem hnd hk))
      obtain ⟨a, ha⟩ := Option.isSome_iff_exists.mp hs
      obtain ⟨o, ho, hd⟩ := CellsAre.get Y ha
      refine ⟨a, o, ha, ho, ?_⟩
      unfold cellObj
      rw [hd, bindC_is _ (by rw [kOf L' hk]; decide) _ _ bnd, hin.locs hnd y v _ hm hk (by decide)]
      cases v <;> rfl
    · rcases hin.kinds y _ hk with h | h | h
      · exact absurd h h1
      · exact absurd h h2
      · subst h; exact ⟨rfl, hin.glos hnd y v hm hk⟩
  have S' : ES c' (bindL (envOfC qual scope L' f cdv).kindOf binds fun _ => none) (cells ++ x) mu news { s with heap := h₁, toks := tk } := by
    refine ⟨F', by rw [List.append_assoc]; exact N', ?_, ⟨h₁, _, rfl⟩⟩
    rw [List.append_assoc, List.map_append, List.nodup_append]
    refine ⟨by rw [CellsAre.addrs Y]; exact cnd', S.nd, fun a ha b hb e => ?_⟩
    subst e
    obtain ⟨p, hp, e⟩ := List.mem_map.mp hb
    have h1 := hlt p hp
    rw [e] at h1
    rw [CellsAre.addrs Y] at ha
    obtain ⟨q, hq, e⟩ := List.mem_map.mp ha
    have h2 := cge q hq
    rw [e] at h2
    exact absurd h1 (Nat.not_lt.mpr (Nat.le_of_succ_le h2))
  refine wpAny_mono (h c' _ cells _ rfl rfl rfl O' FT' S' fun m2 x2 mu2 ext s2 S2 => ?_) (fun fl s2 hb => by cases fl <;> exact hb) fun _ _ h => h
  obtain ⟨h2, tk2, e2⟩ := S2.hs
  obtain ⟨_, _, _, lv⟩ := groundX (R := fun _ s' => Fr c.h₀ c.L s'.heap m ∧ News c.h₀ c.L s'.heap (x ++ (mu2 ++ (ext ++ news)))) (A := ⟨none, depth, some (c.env :: c.outer), guards, units⟩) O.B S.F S.N rfl (env := c.env) rfl O.hk
  obtain ⟨F2, N2⟩ := lv .none s2 ⟨L', m2, x ++ (mu2 ++ (ext ++ news)), S2.F, fun p hp => S2.N p (by rw [List.append_assoc]; exact List.mem_append_right _ hp), fun F2 N2 => ⟨F2, N2⟩⟩
  refine ⟨F2, N2, ?_, ?_⟩
  · have := S2.nd
    rw [List.append_assoc, List.map_append] at this
    exact (List.nodup_append.mp this).2.1
  · obtain ⟨h3, tk3, e3⟩ := S.hs
    exact ⟨h2, tk2, by rw [e2]; show { s with heap := h2, toks := tk2 } = _; rw [e3]⟩
theorem enterX 
    (hlk : G.K.lookup f = some ⟨oc, od, .func (fnOf name qual params body scope dV kV doc pm an cdv ct), osl⟩) (hcd : codeIn G.K cdv qual = true)
    (hbind : ∀ s, G.K.In s.heap → BindsTo s (fnOf name qual params body scope dV kV doc pm an cdv ct) ⟨vs, []⟩ binds) (hin : InitC G scope.names vs' binds R) (hnd : (scope.names.map (·.1)).Nodup) (hdbg : (scope.names.any fun y => y.1 == ("__debug__" : Str)) = false)
    (hco : scope.isCoroutine = false) (hgen : scope.isGenerator = false) (hk : scope.kind = .function)
    (h : ∀ c m x cells s, Ok G c n → FT G c scope.names m cells R → ES c m (cells ++ x) mu news s → wpAny G.M c.A (execs body c.env) (Back c x news P) noE s) : CtX G (n + 1) f vs mu news P := fun c m x s A Rr O S ra hq =>
  enterCore hlk hcd hbind hin hnd hdbg hco hgen hk O S ra fun c' m' cells s' _ _ _ O' T' S' back =>
    wpAny_mono (h c' m' x cells s' O' T' S') (fun fl s2 ⟨m2, x2, mu2, ext, S2, hP⟩ => hq (retOf fl) mu2 ext s2 (back m2 x2 mu2 ext s2 S2) hP) fun _ _ h => h.elim
theorem make {C fI : Addr} {k : Nat} {D : Obj → Prop} (hm : makesIn G.K C = true) (hi : findIn G.K (.ref C) "__init__" = some (some (.ref fI))) (hf : isFn G.K (.ref fI) = true)
    (hI : ∀ y dx, CtX G k fI (.ref y :: vs) ((dx, dictOf [] 0) :: mu) ((y, instObj C dx) :: news) (fun r mu' _ => r = .none ∧ ∃ od, D od ∧ mu' = (dx, od) :: mu)) :
    Ct G k C vs mu news (fun r mu' news' => mu' = mu ∧ ∃ y dx od, r = .ref y ∧ (y, instObj C dx) ∈ news' ∧ (dx, od) ∈ news' ∧ D od) := by
  intro c m x s Q E O S hq
  refine wpAny_call (make_K S.F S.N (O.X.keeps S.F.keep) hm hi (beq_iff_eq.mp hf) fun y dx h' F' N' hlt hxy => ?_)
  have S' : ES c m x ((dx, dictOf [] 0) :: mu) ((y, instObj C dx) :: news) { s with heap := h' } := by
    refine S.heap F' (fun p hp => N' p ?_) ?_
    · simp only [List.mem_append, List.mem_cons, List.cons_append] at hp ⊢
      rcases hp with h | h | h | h | h
      · exact .inr (.inr (.inl h))
      · exact .inr (.inl h)
      · exact .inr (.inr (.inr (.inl h)))
      · exact .inl h
      · exact .inr (.inr (.inr (.inr h)))
    · have base := S.nd
      have hp : ((x ++ ((dx, dictOf [] 0) :: mu ++ (y, instObj C dx) :: news)).map (·.1)).Perm (y :: dx :: (x ++ (mu ++ news)).map (·.1)) := by
        rw [← List.map_cons (f := fun p : Addr × Obj => p.1) (a := (dx, dictOf [] 0)), ← List.map_cons (f := fun p : Addr × Obj => p.1) (a := (y, instObj C dx))]
        refine List.Perm.map _ ?_
        refine List.Perm.trans List.perm_middle ?_
        refine List.Perm.trans (List.Perm.cons _ ?_) (List.Perm.swap _ _ _)
        refine List.Perm.trans (List.Perm.append_left _ List.perm_middle) ?_
        exact List.perm_middle
      refine hp.nodup_iff.mpr (List.nodup_cons.mpr ⟨fun hm => ?_, List.nodup_cons.mpr ⟨fun hm => ?_, base⟩⟩)
      · rcases List.mem_cons.mp hm with e | hm
        · exact absurd e (Nat.ne_of_gt hxy)
        · obtain ⟨p, hp, e⟩ := List.mem_map.mp hm
          have h1 := hlt p hp
          rw [e] at h1
          exact absurd (Nat.lt_trans h1 hxy) (Nat.lt_irrefl _)
      · obtain ⟨p, hp, e⟩ := List.mem_map.mp hm
        have h1 := hlt p hp
        rw [e] at h1
        exact absurd h1 (Nat.lt_irrefl _)
  refine codeAny_mono (hI y dx c m x { s with heap := h' } _ (fun r s' => ∃ mu' ext, r = .ok (.ret .none) ∧ ES c m x mu' (ext ++ (y, instObj C dx) :: news) s' ∧ ∃ od, D od ∧ mu' = (dx, od) :: mu) O S' ⟨?_, ?_, ?_, ?_⟩ ?_) ?_
  · rfl
  · rfl
  · rw [depth_under_make]; exact Nat.le_succ _
  · rw [units_under_make]; show c.un + 1 ≤ c.un + 8; omega
  · rintro r mu' ext s' S2 ⟨rfl, hd⟩
    exact ⟨mu', ext, rfl, S2, hd⟩
  · rintro r s' ⟨mu', ext, rfl, S2, od, hd, rfl⟩
    refine ⟨rfl, ?_⟩
    have S3 := S2.freeze
    have e : (dx, od) :: (ext ++ (y, instObj C dx) :: news) = ((dx, od) :: ext ++ [(y, instObj C dx)]) ++ news := by simp
    rw [e] at S3
    refine hq (.ref y) mu _ s' S3 ⟨rfl, y, dx, od, rfl, ?_, ?_, hd⟩
    · simp
    · simp
end
end

-- V2c
section
open PySem PySem.W PyProof.Rows PySem.Spec PySem.Calls

inductive Ents : List (Str × Value) → List DictEntry → Prop
  | nil : Ents [] []
  | cons {h : Int} {t : Tok} {k : Str} {v : Value} {fs : List (Str × Value)} {es : List DictEntry} : Ents fs es → Ents ((k, v) :: fs) (⟨h, .str k t, v⟩ :: es)
noncomputable def putF (name : Str) (v : Value) : List (Str × Value) → List (Str × Value)
  | [] => [(name, v)]
  | (k, u) :: r => if k == name then (k, v) :: r else (k, u) :: putF name v r
noncomputable def getF (name : Str) : List (Str × Value) → Option Value
  | [] => none
  | (k, u) :: r => if k == name then some u else getF name r
theorem isStr_str (k : Str) (t : Tok) (name : Str) : (Value.str k t).isStr name = (k == name) := rfl
theorem Ents.getL {fs : List (Str × Value)} {es : List DictEntry} (h : Ents fs es) (name : Str) : getL name es = some (getF name fs) := by
  have any : ∀ {fs : List (Str × Value)} {es : List DictEntry}, Ents fs es → es.any (·.refKey) = false := by
    intro fs es h
    induction h with
    | nil => rfl
    | cons _ ih => rw [List.any_cons, ih, Bool.or_false]; rfl
  have fd : (es.find? (·.key.isStr name)).map (·.val) = getF name fs := by
    induction h with
    | nil => rfl
    | @cons hh t k v fs es _ ih =>
      rw [List.find?_cons]
      unfold getF
      rw [isStr_str k t name]
      cases k == name with
      | true => rfl
      | false => exact ih
  unfold PySem.W.getL
  cases e : es.find? (·.key.isStr name) with
  | some en => rw [e] at fd; simp only [Option.map_some] at fd; rw [← fd]
  | none =>
    rw [e] at fd
    simp only [Option.map_none] at fd
    rw [← fd]
    dsimp only
    rw [any h, if_neg Bool.false_ne_true]
theorem Ents.put {fs : List (Str × Value)} {es : List DictEntry} (h : Ents fs es) (name : Str) (hsh : Int) (t : Tok) (v : Value) : Ents (putF name v fs) (putL name hsh (.str name t) v es) := by
  induction h with
  | nil => exact .cons .nil
  | @cons hh tt k u fs es hr ih =>
    show Ents (if k == name then (k, v) :: fs else (k, u) :: putF name v fs) (if (Value.str k tt).isStr name then _ else _)
    rw [isStr_str]
    cases k == name with
    | true => exact .cons hr
    | false => exact .cons ih
theorem Ents.len {fs : List (Str × Value)} {es : List DictEntry} (h : Ents fs es) : es.length = fs.length := by
  induction h with
  | nil => rfl
  | cons _ ih => simp [ih]
noncomputable def DictS (fs : List (Str × Value)) (o : Obj) : Prop := ∃ es n, Ents fs es ∧ o = dictOf es n
noncomputable def Inst (C : Addr) (a : Addr) (fs : List (Str × Value)) (news : LedT) : Prop := ∃ dx od, (a, instObj C dx) ∈ news ∧ (dx, od) ∈ news ∧ DictS fs od
theorem Inst.mono {C a : Addr} {fs : List (Str × Value)} {news news' : LedT} (h : Inst C a fs news) (hs : ∀ p ∈ news, p ∈ news') : Inst C a fs news' := by obtain ⟨dx, od, a, b, c⟩ := h; exact ⟨dx, od, hs _ a, hs _ b, c⟩
theorem Inst.cons {C a : Addr} {fs : List (Str × Value)} {news : LedT} {p : Addr × Obj} (h : Inst C a fs news) : Inst C a fs (p :: news) := h.mono fun _ => List.mem_cons_of_mem _
structure FieldOk (K : Frag) (C : Addr) (name : Str) : Prop where
  g : plainGet K C name = true
  h : hasDictIn K C = true
  a : findIn K (.ref C) name = some none
structure MethOk (K : Frag) (C : Addr) (name : Str) (f : Addr) : Prop where
  g : plainGet K C name = true
  q : findIn K (.ref C) name = some (some (.ref f))
  t : isFn K (.ref f) = true
structure SetOk (K : Frag) (C : Addr) (name : Str) : Prop where
  s : findIn K (.ref C) "__setattr__" = some (some (.builtin "object.__setattr__"))
  p : plainOver K C = true
  t : takerIn K C name = some none
  h : hasDictIn K C = true
inductive UpM (a : Addr) (o : Obj) : LedT → (Obj → LedT) → Prop
  | head {r} : UpM a o ((a, o) :: r) (fun o' => (a, o') :: r)
  | tail {p r g} : UpM a o r g → UpM a o (p :: r) (fun o' => p :: g o')
theorem UpM.split {a : Addr} {o : Obj} {mu : LedT} {g : Obj → LedT} (h : UpM a o mu g) : ∃ pre post, mu = pre ++ (a, o) :: post ∧ ∀ o', g o' = pre ++ (a, o') :: post := by
  induction h with
  | @head r => exact ⟨[], r, rfl, fun _ => rfl⟩
  | @tail p r g _ ih => obtain ⟨pre, post, e, h⟩ := ih; exact ⟨p :: pre, post, by rw [e]; rfl, fun o' => by show p :: g o' = _; rw [h o']; rfl⟩
section
variable {G : Gl} {c : Cx} {n : Nat} {m : Str → Option Value} {x mu news : LedT} {s : Shared} {A : Around} {env : Env} {E : Value → Shared → Prop} {Q : Value → Shared → Prop}
theorem v_getF {a C : Addr} {fs : List (Str × Value)} {name : Str} {v : Value} {expr : Bool} (O : Ok G c n) (S : ES c m x mu news s) (I : Inst C a fs news) (f : FieldOk G.K C name) (hl : getF name fs = some v) (hv : handedIn v = true)
    (h : ∀ s', ES c m x mu news s' → Q v s') : wpAny G.M A (getAttr (.ref a) name expr) Q E s := by
  obtain ⟨dx, od, h1, h2, es, k, he, rfl⟩ := I
  exact v_field O S h1 h2 f.g f.h f.a rfl ((he.getL name).trans (congrArg some hl)) hv h
theorem v_meth {a C f : Addr} {fs : List (Str × Value)} {name : Str} {pl : Sem Bool} {Q : Value × List Value → Shared → Prop} (O : Ok G c n) (S : ES c m x mu news s) (I : Inst C a fs news) (M : MethOk G.K C name f) (hl : getF name fs = none)
    (h : Q (.ref f, [.ref a]) s) : wpAny G.M A (getMethod (.ref a) name pl) Q E s := by
  obtain ⟨dx, od, h1, h2, es, k, he, rfl⟩ := I
  exact method_inst S.F O.X (InstAt.of_news S.N (List.mem_append_right _ (List.mem_append_right _ h1)) (List.mem_append_right _ (List.mem_append_right _ h2))) M.g M.q M.t ((he.getL name).trans (congrArg some hl)) h
theorem v_setF {y dx C : Addr} {o : Obj} {fs : List (Str × Value)} {name : Str} {v : Value} {g : Obj → LedT} {Q : Unit → Shared → Prop} (O : Ok G c n) (S : ES c m x mu news s) (h1 : (y, instObj C dx) ∈ news) (U : UpM dx o mu g) (hd : DictS fs o) (f : SetOk G.K C name) (hz : Nat.ble (fs.length + 1) 1000 = true)
    (h : ∀ o' s', DictS (putF name v fs) o' → ES c m x (g o') news s' → Q () s') : wpAny G.M A (setAttr (.ref y) name v) Q E s := by
  obtain ⟨pre, post, rfl, hg⟩ := U.split
  obtain ⟨es, k, he, rfl⟩ := hd
  have hm : (dx, dictOf es k) ∈ x ++ ((pre ++ (dx, dictOf es k) :: post) ++ news) := by simp
  have I := InstAt.of_news S.N (List.mem_append_right _ (List.mem_append_right _ h1)) hm
  have ⟨a1, a2⟩ := S.apart
  have hp := he.put name (PyData.keyHash G.w.params name) (s.toks + 1) v
  refine set_dict (ox := instObj C dx) S.F O.X (news := (x ++ pre) ++ (dx, dictOf es k) :: (post ++ news)) (news' := (x ++ pre) ++ (dx, dictOf (putL name (PyData.keyHash G.w.params name) (.str name (s.toks + 1)) v es) (putN name es k)) :: (post ++ news)) (fun p hq => S.N p (by simpa [List.append_assoc] using hq)) I rfl f.s f.p f.t f.h (by rw [he.getL name]; rfl) rfl ?_ ?_ fun h' F' N' => ?_
  · have upd : ∀ (l r : LedT) {o o' : Obj}, (∀ p ∈ l, p.1 ≠ dx) → (∀ p ∈ r, p.1 ≠ dx) → Upd dx o o' (l ++ (dx, o) :: r) (l ++ (dx, o') :: r) := by
      intro l
      induction l with
      | nil => intro r o o' _ hr; exact .head hr
      | cons p l ih => intro r o o' hl hr; exact .tail (hl p (.head _)) (ih r (fun q hq => hl q (.tail _ hq)) hr)
    exact upd _ _ a1 a2
  · rw [hp.len]
    have : ∀ fs : List (Str × Value), (putF name v fs).length ≤ fs.length + 1 := by
      intro fs
      induction fs with
      | nil => exact Nat.le_refl _
      | cons p r ih =>
        obtain ⟨k, u⟩ := p
        unfold putF
        split
        · simp
        · simp only [List.length_cons]; omega
    exact Nat.le_trans (this fs) (Nat.le_of_ble_eq_true hz)
  · have S2 := S.upd (o' := dictOf (putL name (PyData.keyHash G.w.params name) (.str name (s.toks + 1)) v es) (putN name es k)) F' (by simpa [List.append_assoc] using N')
    rw [← hg] at S2
    exact h _ _ ⟨_, _, hp, rfl⟩ (S2.tok _)
end
end

-- V2d
section
open PySem PySem.W PyProof.Rows PySem.Spec PySem.Calls
theorem Inst.gr {C a : Addr} {fs : List (Str × Value)} {l l' : LedT} (g : Gr l l') (h : Inst C a fs l) : Inst C a fs l' := h.mono fun _ => g.mem
theorem backG {c : Cx} {cells x news news' : LedT} {P : Value → LedT → LedT → Prop} {m : Str → Option Value} {mu : LedT} {s : Shared} {fl : Flow} (S : ES c m (cells ++ x) mu news' s) (gr : Gr news news') (h : P (retOf fl) mu news') : Back c x news P fl s := by
  obtain ⟨ext, rfl⟩ := gr
  exact ⟨m, cells, mu, ext, S, h⟩
noncomputable def AtLoop (P : Prop) : Prop := P
section
variable {G : Gl} {c : Cx} {n k : Nat} {m : Str → Option Value} {x mu news : LedT} {s : Shared} {A : Around} {env : Env} {E : Value → Shared → Prop} {Q : Value → Shared → Prop}
theorem Ct.at {f : Addr} {vs : List Value} {P : Value → LedT → LedT → Prop} (C : Ct G k f vs mu news P) (O : Ok G c n) (hk : Nat.ble k n = true) (S : ES c m x mu news s) (h : ∀ r mu' news' s', P r mu' news' → Gr news news' → ES c m x mu' news' s' → Q r s') :
    wpAny G.M c.A (call (.ref f) vs) Q E s := C c m x s Q E (O.le hk) S fun r mu' ext s' S' p => h r mu' _ s' p ⟨ext, rfl⟩ S'
theorem CtX.at {f : Addr} {vs : List Value} {P : Value → LedT → LedT → Prop} (C : CtX G k f vs mu news P) (O : Ok G c n) (hk : Nat.ble k n = true) (S : ES c m x mu news s) (h : ∀ r mu' news' s', P r mu' news' → Gr news news' → ES c m x mu' news' s' → Q r s') :
    wpAny G.M c.A (call (.ref f) vs) Q E s := C.ct.at O hk S h
theorem Ct.mono {f : Addr} {vs : List Value} {P P' : Value → LedT → LedT → Prop} (h : Ct G k f vs mu news P) (hp : ∀ r mu' news', Gr news news' → P r mu' news' → P' r mu' news') : Ct G k f vs mu news P' :=
  fun c m x s Q E O S hq => h c m x s Q E O S fun r mu' ext s' S' p => hq r mu' ext s' S' (hp r mu' _ ⟨ext, rfl⟩ p)
end
end

-- V2e
section
open PySem PySem.W PyProof.Rows PySem.Spec PySem.Calls PyProof.V
section
variable {c : Cx} {m : Str → Option Value} {x mu news : LedT} {s : Shared}
theorem ES.keep (S : ES c m x mu news s) {h' : Heap} (tk : Nat) (hk : ∀ b o, s.heap.get? b = some o → h'.get? b = some o) : ES c m x mu news { s with heap := h', toks := tk } :=
  S.heapTok (S.F.grownK hk) (S.N.grown hk) S.nd
theorem ES.at (S : ES c m x mu news s) {a : Addr} {o : Obj} (h : (a, o) ∈ mu ++ news) : s.heap.get? a = some o := (S.N _ (List.mem_append_right _ h)).1
theorem ES.total (_S : ES c m x mu news s) {a : Addr} {o : Obj} (h : (a, o) ∈ mu ++ news) : (a, o) ∈ x ++ (mu ++ news) := List.mem_append_right _ h
theorem ES.pushTok (S : ES c m x mu news s) (o : Obj) (hf : o.isFreed = false) (tk : Nat) : ES c m x mu ((s.heap.objs.size, o) :: news) { s with heap := s.heap.push o, toks := tk } := (S.push o hf).tok tk
theorem ES.grew (S : ES c m x mu news s) {d : Addr} {o : Obj} {h' : Heap} {tk : Nat} (F : Fr c.h₀ c.L h' m) (N : News c.h₀ c.L h' ((d, o) :: (x ++ (mu ++ news)))) (hd : ∀ p ∈ x ++ (mu ++ news), p.1 < d) : ES c m x mu ((d, o) :: news) { s with heap := h', toks := tk } := by
  have hp : (x ++ (mu ++ (d, o) :: news)).Perm ((d, o) :: (x ++ (mu ++ news))) := List.Perm.trans (List.Perm.append_left _ List.perm_middle) List.perm_middle
  refine S.heapTok F (fun p hq => N p (hp.mem_iff.mp hq)) ((hp.map _).nodup_iff.mpr (List.nodup_cons.mpr ⟨fun hm => ?_, S.nd⟩))
  obtain ⟨q, hq, e⟩ := List.mem_map.mp hm
  have := hd q hq
  rw [e] at this
  exact Nat.lt_irrefl _ this
end
structure LstP (vs : List Value) (o : Obj) : Prop where
  cls : o.cls = .type "list"
  data : ∃ n, o.data = .seq vs.toArray n
theorem lstP {vs : List Value} {n : Nat} : LstP vs (lstO vs n) := ⟨rfl, n, rfl⟩
noncomputable def DctP {prog : Program} {w : World} {K : Type} [DecidableEq K] (knd : KeyKind prog w K) (kvs : List (K × Value)) (d : Addr) (o : Obj) : Prop := (d == sysModules) = false ∧ o.IsDictOf knd kvs
section
variable {c : Cx} {m : Str → Option Value} {x mu news : LedT} {s : Shared}
theorem ES.lst (S : ES c m x mu news s) {l : Addr} {o : Obj} {vs : List Value} (h : (l, o) ∈ mu ++ news) (P : LstP vs o) : s.heap.IsList l vs.toArray := ⟨o, S.at h, P.cls, P.data⟩
theorem ES.tup (S : ES c m x mu news s) {l : Addr} {vs : List Value} (h : (l, tupO vs) ∈ mu ++ news) : IsTup s.heap l vs.toArray := ⟨_, S.at h, rfl, _, rfl⟩
end
section
variable {G : Gl} {c : Cx} {n k : Nat} {m : Str → Option Value} {x mu news : LedT} {s : Shared} {A : Around} {env : Env} {E : Value → Shared → Prop} {Q : Value → Shared → Prop}
theorem v_max2 {a b : Int} {t u : Tok} (hA : A = c.A) (S : ES c m x mu news s) (h : ∀ t s', ES c m x mu news s' → Q (.int (max a b) t) s') : wpAny G.M A (call (.builtin "max") [.int a t, .int b u]) Q E s := by
  subst hA
  refine max_two_ints rfl fun h' tk hk => ?_
  have S' := S.keep tk hk
  by_cases q : b > a
  · rw [if_pos q]
    have := h u _ S'
    rwa [show max a b = b by omega] at this
  · rw [if_neg q]
    have := h t _ S'
    rwa [show max a b = a by omega] at this
theorem v_pow {a b : Int} {t u : Tok} (S : ES c m x mu news s) (h0 : 0 ≤ b) (h1 : b ≤ 1000000) (ha : a.natAbs < 2 ^ 64) (h : ∀ t s', ES c m x mu news s' → Q (.int (a ^ b.toNat) t) s') : wpAny G.M A (binaryOp .Pow (.int a t) (.int b u)) Q E s :=
  pow_int_small h0 h1 ha (h _ _ (S.tok _))
theorem v_unpack {elts : List Expr} {kk} {pos : Pos} {t : Addr} {vs : List Value} {Q : Unit → Shared → Prop} (hA : A = c.A) (S : ES c m x mu news s) (ht : (t, tupO vs) ∈ mu ++ news)
    (hn : (assignEach elts env).length = vs.length) (hstar : (assignEach elts env).findIdx? (·.1) = none)
    (h : ∀ s', ES c m x mu news s' → wpAny G.M A (assignInOrder ((assignEach elts env).map (·.2)) vs) Q E s') : wpAny G.M A (assign (.Tuple elts kk pos) env (.ref t)) Q E s := by
  subst hA
  refine unpackN_ S.F S.N (items := vs.toArray) ⟨_, S.at ht, rfl, _, rfl⟩ rfl (by simpa using hn) hstar fun h' F' N' => ?_
  exact h _ (S.heap F' N' S.nd)
theorem v_len {l : Addr} {o : Obj} {vs : List Value} (S : ES c m x mu news s) (hl : (l, o) ∈ mu ++ news) (P : LstP vs o) (hz : vs.length ≤ 1000000) (h : ∀ t s', ES c m x mu news s' → Q (.int (vs.length : Int) t) s') : wpAny G.M A (call (.builtin "len") [.ref l]) Q E s := by
  refine call_len_list (S.lst hl P) (by rw [List.size_toArray]; omega) ?_
  rw [List.size_toArray]
  exact h _ _ (S.tok _)
theorem v_truthyL {l : Addr} {o : Obj} {vs : List Value} {Q : Bool → Shared → Prop} (S : ES c m x mu news s) (hl : (l, o) ∈ mu ++ news) (P : LstP vs o) (hz : vs.length ≤ 1000000) (h : ∀ s', ES c m x mu news s' → Q (!vs.isEmpty) s') : wpAny G.M A (truthy (.ref l)) Q E s := by
  refine wpAny_truthy_list (S.lst hl P) (by rw [List.size_toArray]; omega) ?_
  rw [List.isEmpty_toArray]
  exact h _ (S.tok _)
theorem v_itemT {value slice : Expr} {t : Addr} {vs : List Value} {i : Int} {u : Tok} {j : Nat} {y : Value} (S : ES c m x mu news s) (ht : (t, tupO vs) ∈ mu ++ news) (hlo : -(2 ^ 63) ≤ i) (hhi : i < 2 ^ 63) (hj : seqIndex? i vs.length = some j) (hx : vs[j]? = some y) (h : Q y s)
    (hs : subscripted slice false (.ref t) (.int i u) = operate [.ref t, .int i u] (getItem (.ref t) (.int i u))) (hg : ∀ r, letTemporaryGo value (.ref t) r = pure ()) : wpAny G.M A (subscriptTail value slice (.ref t) (.int i u)) Q E s :=
  item_tupleL ⟨_, S.at ht, rfl, _, rfl⟩ hlo hhi hj hx h hs hg
theorem v_itemL {value slice : Expr} {t : Addr} {o : Obj} {vs : List Value} {i : Int} {u : Tok} {y : Value} (S : ES c m x mu news s) (ht : (t, o) ∈ mu ++ news) (P : LstP vs o) (h0 : 0 ≤ i) (hhi : i < 2 ^ 63) (hx : vs[i.toNat]? = some y) (h : Q y s)
    (hs : subscripted slice false (.ref t) (.int i u) = operate [.ref t, .int i u] (getItem (.ref t) (.int i u))) (hg : ∀ r, letTemporaryGo value (.ref t) r = pure ()) : wpAny G.M A (subscriptTail value slice (.ref t) (.int i u)) Q E s :=
  subscriptTail_builtin (S.lst ht P).typeIs slot_list_getitem.lookup (getItem_listL (S.lst ht P) h0 hhi hx h) hs hg
theorem v_setL {l : Addr} {o : Obj} {vs : List Value} {g : Obj → LedT} {i : Int} {t : Tok} {v : Value} {Q : Unit → Shared → Prop} (S : ES c m x mu news s) (U : UpM l o mu g) (P : LstP vs o) (h0 : 0 ≤ i) (h1 : i < vs.length) (hz : vs.length ≤ 1000000)
    (h : ∀ o' s', LstP (vs.set i.toNat v) o' → ES c m x (g o') news s' → Q () s') : wpAny G.M A (setItem (.ref l) (.int i t) v) Q E s := by
  obtain ⟨pre, post, rfl, hg⟩ := U.split
  have hl : (l, o) ∈ (pre ++ (l, o) :: post) ++ news := by simp
  refine wpAny_setItem_list (S.lst hl P) h0 (by omega) (by rw [List.size_toArray]; exact h1) fun h' hi hs => ?_
  obtain ⟨o', h1, h2, nn, h3⟩ := hi
  have S2 := S.upd' h1 hs
  rw [← hg] at S2
  exact h o' _ ⟨h2, nn, by rw [h3]; simp⟩ S2
theorem v_append {l : Addr} {vs : List Value} {nn : Nat} {g : Obj → LedT} {v : Value} (S : ES c m x mu news s) (U : UpM l (lstO vs nn) mu g) (hz : vs.length ≤ 1000000)
    (h : ∀ s', ES c m x (g (lstO (vs ++ [v]) (nn + 1))) news s' → Q .none s') : wpAny G.M A (call (.builtin "list.append") [.ref l, v]) Q E s := by
  obtain ⟨pre, post, rfl, hg⟩ := U.split
  have ⟨a1, a2⟩ := S.apart
  refine append_K (its := vs.toArray) (n := nn) S.F (news := (x ++ pre) ++ (l, lstO vs nn) :: (post ++ news)) (news' := (x ++ pre) ++ (l, lstO (vs ++ [v]) (nn + 1)) :: (post ++ news)) (fun p hq => S.N p (by simpa [List.append_assoc] using hq)) ?_ (fun h' F' N' => ?_) (by rw [List.size_toArray, sizeLine_eq]; omega)
  · have upd : ∀ (l' r : LedT) {o o' : Obj}, (∀ p ∈ l', p.1 ≠ l) → (∀ p ∈ r, p.1 ≠ l) → Upd l o o' (l' ++ (l, o) :: r) (l' ++ (l, o') :: r) := by
      intro l'
      induction l' with
      | nil => intro r o o' _ hr; exact .head hr
      | cons p l' ih => intro r o o' hl hr; exact .tail (hl p (.head _)) (ih r (fun q hq => hl q (.tail _ hq)) hr)
    have e : listOf (vs.toArray.push v) (nn + 1) = lstO (vs ++ [v]) (nn + 1) := by simp [lstO]
    rw [e]
    exact upd _ _ a1 a2
  · have S2 := S.upd (o' := lstO (vs ++ [v]) (nn + 1)) F' (by simpa [List.append_assoc] using N')
    rw [← hg] at S2
    exact h _ S2
theorem v_methAppend {l : Addr} {vs : List Value} {nn : Nat} {pl : Sem Bool} {Q : Value × List Value → Shared → Prop} (S : ES c m x mu news s) (hl : (l, lstO vs nn) ∈ mu ++ news) (h : Q (.builtin "list.append", [.ref l]) s) : wpAny G.M A (getMethod (.ref l) "append" pl) Q E s :=
  getMethod_list_append (S.at hl) rfl rfl h
theorem v_lenB {b : Array UInt8} {t : Tok} (S : ES c m x mu news s) (hz : b.size ≤ 1099511627776) (h : ∀ t s', ES c m x mu news s' → Q (.int (b.size : Int) t) s') : wpAny G.M A (call (.builtin "len") [.bytes b t]) Q E s := len_bytes hz (h _ _ (S.tok _))
end
section
variable {G : Gl} {c : Cx} {n k : Nat} {m : Str → Option Value} {x mu news : LedT} {s : Shared} {A : Around} {env : Env} {E : Value → Shared → Prop} {Q : Value → Shared → Prop}
variable {K : Type} [DecidableEq K] {knd : KeyKind G.prog G.w K} {kvs : List (K × Value)} {d : Addr} {o : Obj} {key : Value} {kk : K}
theorem v_dget1 (S : ES c m x mu news s) (hd : (d, o) ∈ mu ++ news) (P : DctP knd kvs d o) (hk : knd.is kk key = true) (h : ∀ s', ES c m x mu news s' → Q ((valueAt kvs kk).getD .none) s') : wpAny G.M A (call (.builtin "dict.get") [.ref d, key]) Q E s :=
  kdg_get1 S.N (S.total hd) P.2 P.1 hk _ rfl (h _ (S.tok _))
theorem v_methGet {pl : Sem Bool} {Q : Value × List Value → Shared → Prop} (S : ES c m x mu news s) (hd : (d, o) ∈ mu ++ news) (P : DctP knd kvs d o) (h : Q (.builtin "dict.get", [.ref d]) s) : wpAny G.M A (getMethod (.ref d) "get" pl) Q E s := kdg_method S.N (S.total hd) P.2 h
theorem v_ditem {value slice : PySem.Expr} {v : Value} (S : ES c m x mu news s) (hd : (d, o) ∈ mu ++ news) (P : DctP knd kvs d o) (hk : knd.is kk key = true) (hl : valueAt kvs kk = some v) (h : ∀ s', ES c m x mu news s' → Q v s')
    (hs : subscripted slice false (.ref d) key = operate [.ref d, key] (getItem (.ref d) key)) (hg : ∀ r, letTemporaryGo value (.ref d) r = pure ()) : wpAny G.M A (subscriptTail value slice (.ref d) key) Q E s :=
  kda_item S.N (S.total hd) P.2 hk hl (h _ (S.tok _)) hs hg
theorem v_dset {v : Value} {g : Obj → LedT} {Q : Unit → Shared → Prop} (S : ES c m x mu news s) (U : UpM d o mu g) (P : DctP knd kvs d o) (hk : knd.is kk key = true) (hz : kvs.length ≤ 1000)
    (h : ∀ o' s', DctP knd (stored kvs kk v) d o' → ES c m x (g o') news s' → Q () s') : wpAny G.M A (setItem (.ref d) key v) Q E s := by
  obtain ⟨pre, post, rfl, hg⟩ := U.split
  have hl : (d, o) ∈ (pre ++ (d, o) :: post) ++ news := by simp
  refine wpAny_setItem_pairs (hsz := by rw [sizeLine_eq]; omega) hk (Heap.dictOf_iff.mpr ⟨o, S.at hl, P.2⟩) fun h' hmm hs => ?_
  obtain ⟨o', ho', hd'⟩ := Heap.dictOf_iff.mp hmm
  have S2 := (S.upd' ho' hs).tok (s.toks + 1)
  rw [← hg] at S2
  exact h o' _ ⟨P.1, hd'⟩ S2
noncomputable def DictK (G : Gl) (d : Addr) (Q : Value → Shared → Prop) (vs : List (Value × Value)) (s₁ : Shared) : Prop :=
  ∃ kvs, Carries (PySem.strKind G.prog G.w) vs kvs ∧ s₁.heap.DictOf (PySem.strKind G.prog G.w) d [] ∧ ∀ h', h'.DictOf (PySem.strKind G.prog G.w) d (merged [] kvs) → Heap.SameBut d s₁.heap h' → Q (.ref d) { s₁ with heap := h', toks := s₁.toks + vs.length }
noncomputable abbrev emD : Obj := { cls := .type "dict", data := .dict #[] }
theorem emD_is {K : Type} [DecidableEq K] {prog : Program} {w : World} {knd : KeyKind prog w K} : emD.IsDictOf knd [] := by
  obtain ⟨o, ho, hd⟩ := Heap.dictOf_iff.mp (Heap.DictOf.new (knd := knd) default)
  rw [Heap.get?_push_size _ rfl] at ho
  cases Option.some.inj ho
  exact hd
theorem v_dict {keys : List (Option Expr)} {values : List Expr} {pos : Pos} (O : Ok G c n) (S : ES c m x mu news s) (hall : keys.all (·.isSome) = true) (hl : keys.length = values.length) (h0 : keys ≠ []) (hlen : keys.length ≤ 15)
    (h : ∀ d s', (d == sysModules) = false → ES c m x ((d, emD) :: mu) news s' → wpAny G.M A (evalPairs (pairTrees keys values env pos)) (DictK G d Q) E s') : wpAny G.M A (eval (.Dict keys values pos) env) Q E s :=
  wpAny_Dict_walk hall hl h0 hlen (h _ _ (S.F.notModules (modules_low O.T.nolimit)) (S.push _ rfl).thaw)
theorem dictK {vs : List (Value × Value)} (S : ES c m x ((d, emD) :: mu) news s) (hd : (d == sysModules) = false) (hk : allStrKeys vs = true) (hn : ((strPairs vs).map (·.1)).Nodup)
    (h : ∀ o s', DctP (PySem.strKind G.prog G.w) (strPairs vs) d o → ES c m x ((d, o) :: mu) news s' → Q (.ref d) s') : DictK G d Q vs s := by
  have hg : s.heap.get? d = some emD := S.at (by simp)
  refine display_done_str hk hn (Heap.dictOf_iff.mpr ⟨emD, hg, emD_is⟩) fun h' hm hs => ?_
  obtain ⟨o, ho, hd'⟩ := Heap.dictOf_iff.mp hm
  have S2 := (ES.upd' (pre := []) S ho hs).tok (s.toks + vs.length)
  exact h o _ ⟨hd, hd'⟩ S2
theorem v_dict0 {pos : Pos} (O : Ok G c n) (S : ES c m x mu news s) (h : ∀ d s', (d == sysModules) = false → ES c m x ((d, emD) :: mu) news s' → Q (.ref d) s') : wpAny G.M A (eval (.Dict [] [] pos) env) Q E s :=
  wpAny_Dict_empty (h _ _ (S.F.notModules (modules_low O.T.nolimit)) (S.push _ rfl).thaw)
end
end

-- V2f
section
open PySem PySem.W PyProof.Rows PySem.Spec PySem.Calls PyProof.V
section
variable {G : Gl} {c : Cx} {n : Nat} {ns : List (Str × NameKind)} {m : Str → Option Value} {x mu news xc : LedT} {s : Shared} {R : Tab} {A : Around}
theorem v_forL {l : Addr} {o : Obj} {vs : List Value} {target : Expr} {body rest : List Stmt} {Q : Flow → Shared → Prop} (J : Nat → Tab → LedT → LedT → Prop) (T : FT G c ns m xc R) (S : ES c m x mu news s) (hl : (l, o) ∈ news) (P : LstP vs o)
    (h0 : J 0 R mu news)
    (turn : ∀ i v I oI m R mu news' s, vs[i]? = some v → J i R mu news' → Gr news news' → FT G c ns m xc R → ES c m ((I, oI) :: x) mu news' s → wpAny G.M c.A (assign target c.env v) (fun _ s₂ =>
      wpAny G.M c.A (execs body c.env) (LoopK G c ns xc ((I, oI) :: x) news (J (i + 1)) Q) noE s₂) noE s)
    (done : ∀ m R mu news' s, J vs.length R mu news' → Gr news news' → FT G c ns m xc R → ES c m x mu news' s → wpAny G.M c.A (execs rest c.env) Q noE s) : ForGo G.M c.A target body rest c.env Q noE (.ref l) s := by
  have hl' : s.heap.IsList l vs.toArray := S.lst (List.mem_append_right _ hl) P
  refine wpAny_pyIter_list hl' ?_
  have S' := (S.push { cls := .type "list_iterator", data := .fields #[.ref l, .int 0 0] } rfl).hide
  have hne : l ≠ s.heap.objs.size := Nat.ne_of_lt (Heap.lt_size (S.get hl))
  have W := Walks.list (prog := G.prog) (w := G.w) (A := c.A) rfl s.heap.objs.size l hne vs.toArray
  have hz : vs.toArray.size = vs.length := by simp
  rw [hz] at W
  refine v_forW W (fun s i v Q hst hq => ?_) (fun i h hst => ?_) J (fun b hb hbI => ?_) T S' ?_ h0 (fun i v oI m R mu news s hi hP hJ hg T S => turn i v _ oI m R mu news s (by simpa using hP) hJ hg T S) done
  · obtain ⟨⟨o, ho, hc, hd⟩, _⟩ := hst
    exact owned_no ho hc hd (.inl rfl) hq
  · obtain ⟨⟨o, ho, _⟩, _⟩ := hst
    exact ⟨o, ho⟩
  · have : b = l := by
      rcases List.mem_cons.mp hb with h | h
      · exact absurd h hbI
      · exact List.mem_singleton.mp h
    subst this
    exact ⟨_, hl⟩
  · exact ⟨⟨_, Heap.get?_push_size _ rfl, rfl, rfl⟩, hl'.at fun o e => Heap.get?_push_of_some _ e⟩
theorem v_forB {b : Array UInt8} {tb : Tok} {target : Expr} {body rest : List Stmt} {Q : Flow → Shared → Prop} (J : Nat → Tab → LedT → LedT → Prop) (T : FT G c ns m xc R) (S : ES c m x mu news s)
    (h0 : J 0 R mu news)
    (turn : ∀ i (v : Int) t I oI m R mu news' s, (KBw.bInts b)[i]? = some v → J i R mu news' → Gr news news' → FT G c ns m xc R → ES c m ((I, oI) :: x) mu news' s → wpAny G.M c.A (assign target c.env (.int v t)) (fun _ s₂ =>
      wpAny G.M c.A (execs body c.env) (LoopK G c ns xc ((I, oI) :: x) news (J (i + 1)) Q) noE s₂) noE s)
    (done : ∀ m R mu news' s, J b.size R mu news' → Gr news news' → FT G c ns m xc R → ES c m x mu news' s → wpAny G.M c.A (execs rest c.env) Q noE s) : ForGo G.M c.A target body rest c.env Q noE (.bytes b tb) s := by
  refine KBw.pyIter_bytes ?_
  have S' := (S.push { cls := .type "bytes_iterator", data := .fields #[.bytes b tb, .int 0 0] } rfl).hide
  have W := KBw.walks (prog := G.prog) (w := G.w) (A := c.A) rfl s.heap.objs.size b tb
  refine v_forW W (fun s i v Q hst hq => ?_) (fun i h hst => ?_) J (fun b hb hbI => ?_) T S' ?_ h0 (fun i v oI m R mu news s hi hP hJ hg T S => ?_) done
  · obtain ⟨o, ho, hc, hd⟩ := hst
    exact owned_no ho hc hd (.inr (.inl rfl)) hq
  · obtain ⟨o, ho, _⟩ := hst
    exact ⟨o, ho⟩
  · exact absurd (List.mem_singleton.mp hb) hbI
  · exact ⟨_, Heap.get?_push_size _ rfl, rfl, rfl⟩
  · obtain ⟨ch, u, hc, rfl⟩ := hP
    exact turn i _ u _ oI m R mu news s (KBw.ints_get hc) hJ hg T S
noncomputable abbrev rngO (a b d : Int) (t u v : Tok) : Obj := { cls := .type "range", data := .fields #[.int a t, .int b u, .int d v] }
theorem v_forR {l : Addr} {a d : Int} {e : Int} {t u v : Tok} {num : Nat} {target : Expr} {body rest : List Stmt} {Q : Flow → Shared → Prop} (J : Nat → Tab → LedT → LedT → Prop) (T : FT G c ns m xc R) (S : ES c m x mu news s) (hl : (l, rngO a e d t u v) ∈ news)
    (hs : Builtin.Range.small a e d = true) (hn : Builtin.Range.rangeSize a e d = (num : Int)) (h0 : J 0 R mu news)
    (turn : ∀ i t I oI m R mu news' s, i < num → J i R mu news' → Gr news news' → FT G c ns m xc R → ES c m ((I, oI) :: x) mu news' s → wpAny G.M c.A (assign target c.env (.int (a + (i : Int) * d) t)) (fun _ s₂ =>
      wpAny G.M c.A (execs body c.env) (LoopK G c ns xc ((I, oI) :: x) news (J (i + 1)) Q) noE s₂) noE s)
    (done : ∀ m R mu news' s, J num R mu news' → Gr news news' → FT G c ns m xc R → ES c m x mu news' s → wpAny G.M c.A (execs rest c.env) Q noE s) : ForGo G.M c.A target body rest c.env Q noE (.ref l) s := by
  refine wpAny_pyIter_range (S.get hl) hs ?_
  rw [hn]
  have S' := (S.push { cls := .type "range_iterator", data := .fields #[rawInt a, rawInt (num : Int), rawInt d] } rfl).hide
  have W := Walks.range (prog := G.prog) (w := G.w) (A := c.A) rfl s.heap.objs.size a d num
  refine v_forW W (fun s i v Q hst hq => ?_) (fun i h hst => ⟨_, hst⟩) J (fun b hb hbI => ?_) T S' ?_ h0 (fun i v oI m R mu news s hi hP hJ hg T S => ?_) done
  · exact owned_no hst rfl rfl (.inr (.inr rfl)) hq
  · exact absurd (List.mem_singleton.mp hb) hbI
  · show IsRangeIter _ _ _ _ _
    unfold IsRangeIter
    simp only [Int.ofNat_zero, Int.zero_mul, Int.add_zero, Int.sub_zero]
    exact Heap.get?_push_size _ rfl
  · obtain ⟨tk, rfl⟩ := hP
    exact turn i tk _ oI m R mu news s hi hJ hg T S
theorem v_range1 {nn : Int} {t : Tok} {Q E : Value → Shared → Prop} (S : ES c m x mu news s) (h : ∀ l t u v s', ES c m x mu ((l, rngO 0 nn 1 t u v) :: news) s' → Q (.ref l) s') : wpAny G.M A (call (.type "range") [.int nn t]) Q E s :=
  call_range_1 (h _ _ _ _ _ (S.pushTok _ rfl _))
end
end

-- V2g
section
open PySem PySem.W PyProof.Rows PySem.Spec PySem.Calls PyProof.V
section
variable {c : Cx} {m : Str → Option Value} {x mu news : LedT} {s : Shared}
theorem ES.permX (S : ES c m x mu news s) {x' : LedT} (hp : x'.Perm x) : ES c m x' mu news s :=
  ⟨S.F, fun p hq => S.N p (by
    rw [List.mem_append] at hq ⊢
    exact hq.imp (fun h => hp.mem_iff.mp h) id), ((hp.append_right _).map _).nodup_iff.mpr S.nd, S.hs⟩
theorem ES.show {I : Addr} {o : Obj} (S : ES c m ((I, o) :: x) mu news s) : ES c m x mu ((I, o) :: news) s :=
  ⟨S.F, fun p hp => S.N p (by
    simp only [List.cons_append, List.mem_cons, List.mem_append] at hp ⊢
    rcases hp with h | h | h | h
    · exact .inr (.inl h)
    · exact .inr (.inr (.inl h))
    · exact .inl h
    · exact .inr (.inr (.inr h))), by
    have h := S.nd
    simp only [List.map_append, List.map_cons, List.cons_append] at h ⊢
    refine (List.Perm.nodup_iff ?_).mpr h
    refine List.Perm.trans (List.Perm.append_left _ List.perm_middle) ?_
    exact List.perm_middle, S.hs⟩
end
section
variable {prog : Program} {w : World} {A : Around}
theorem loop_gen {elt iter target : Expr} {ifs : List Expr} {scope : Scope} {pos : Pos} {it acc : Value} {env : Env} {R : Result → Shared → Prop} {s : Shared} (I : Nat → Shared → Prop)
    (turn : ∀ n s, I n s → wpAny (model prog w) A (pyNext it) (fun r s₁ => match r with
      | none => R (.ok .next) s₁
      | some v => wpAny (model prog w) A (letOwnedTupleGo target it v) (fun _ s₁' => wpAny (model prog w) A (assign target env v) (fun _ s₂ =>
          wpAny (model prog w) A (forIn ifs true fun c r => if r = true then do let ok ← isTrue c env (eval c env); pure (ForInStep.yield ok) else pure (ForInStep.yield r)) (fun ok s₃ =>
            if ok = true then wpAny (model prog w) A (eval elt env) (fun x s₄ =>
              wpAny (model prog w) A (call (.builtin "list.append") [acc, x]) (fun _ s₅ => ∃ m, m < n ∧ I m s₅) noE s₄) noE s₃
            else ∃ m, m < n ∧ I m s₃) noE s₂) noE s₁') noE s₁) noE s)
    (n : Nat) (h : I n s) : codeAny (model prog w) A (.compLoop (.ListComp elt [⟨target, iter, ifs, 0⟩] scope pos) 0 it acc env) R s := by
  have weak : ∀ {α : Type} {t : Sem α} {Q : α → Shared → Prop} {E : Value → Shared → Prop} {s : Shared}, wpAny (model prog w) A t Q noE s → wpAny (model prog w) A t Q E s := fun h => wpAny_mono h (fun _ _ h => h) fun _ _ h => False.elim h
  refine codeAny_loop rfl I (fun n s hI => ?_) n h
  show wpAny _ A ((compTurn (.ListComp elt [⟨target, iter, ifs, 0⟩] scope pos) 0 it acc env).onRaise (fun x => do noteFrame x env; theTreesLotGoes x)) _ _ s
  refine wpAny_noted ?_
  rw [compTurn_list]
  refine weak (wpAny_bind (wpAny_standAt (wpAny_bind (wpAny_mono (turn n s hI) (fun r s₁ h₁ => ?_) fun _ _ h' => h'))))
  cases r with
  | none => exact wpAny_pure h₁
  | some v =>
    refine wpAny_bind (wpAny_mono h₁ (fun _ s₁' h₁' => ?_) fun _ _ h' => h')
    refine wpAny_bind (wpAny_mono h₁' (fun _ s₂ h₂ => wpAny_bind (wpAny_mono h₂ (fun ok s₃ h₃ => ?_) fun _ _ h' => h')) fun _ _ h' => h')
    cases ok with
    | false => exact wpAny_pure ⟨rfl, h₃⟩
    | true =>
      exact wpAny_bind (wpAny_bind (wpAny_mono h₃ (fun x s₄ h₄ => wpAny_bind (wpAny_mono h₄ (fun _ s₅ h₅ => wpAny_pure (wpAny_pure ⟨rfl, h₅⟩)) fun _ _ h' => h')) fun _ _ h' => h'))
end
section
variable {G : Gl} {c : Cx} {m : Str → Option Value} {x mu news n0 : LedT} {s : Shared}
noncomputable def CompK (c : Cx) (m : Str → Option Value) (I : Addr) (oI : Obj) (C : Addr) (oC : Obj) (D : Addr) (ys : List Value) (x n0 : LedT) (J : List Value → LedT → LedT → Prop) (y : Value) (s : Shared) : Prop :=
  ∃ mu news, J (ys ++ [y]) mu news ∧ Gr n0 news ∧ ES c m ((I, oI) :: (C, oC) :: (D, LCg.lst ys) :: x) mu news s
noncomputable def CompSkip (c : Cx) (m : Str → Option Value) (I : Addr) (oI : Obj) (C : Addr) (oC : Obj) (D : Addr) (ys : List Value) (x n0 : LedT) (J : List Value → LedT → LedT → Prop) (s : Shared) : Prop :=
  ∃ mu news, J ys mu news ∧ Gr n0 news ∧ ES c m ((I, oI) :: (C, oC) :: (D, LCg.lst ys) :: x) mu news s
noncomputable def TestK (G : Gl) (c : Cx) (A : Around) (ifs : List Expr) (elt : Expr) (env : Env) (K : Value → Shared → Prop) (skip : Shared → Prop) (s : Shared) : Prop :=
  wpAny G.M A (forIn ifs true fun c r => if r = true then do let ok ← isTrue c env (eval c env); pure (ForInStep.yield ok) else pure (ForInStep.yield r)) (fun ok s₃ => if ok = true then wpAny G.M A (eval elt env) K noE s₃ else skip s₃) noE s
theorem testK_nil {A : Around} {elt : Expr} {env : Env} {K : Value → Shared → Prop} {skip : Shared → Prop} (h : wpAny G.M A (eval elt env) K noE s) : TestK G c A [] elt env K skip s := wpAny_tests_nil (by rw [if_pos rfl]; exact h)
theorem testK_one {A : Around} {ct elt : Expr} {env : Env} {K : Value → Shared → Prop} {skip : Shared → Prop} (h : wpAny G.M A (isTrue ct env (eval ct env)) (fun ok s₃ => if ok = true then wpAny G.M A (eval elt env) K noE s₃ else skip s₃) noE s) : TestK G c A [ct] elt env K skip s := wpAny_tests_one h

inductive CompInv (c : Cx) (m : Str → Option Value) (I C D : Addr) (x news : LedT) (num : Nat) (St : Nat → Heap → Prop) (J : Nat → List Value → LedT → LedT → Prop) (k : Nat) (s' : Shared) : Prop
  | mk (i : Nat) (oI oC : Obj) (m₂ : Str → Option Value) (ys : List Value) (mu news' : LedT) (hk : k = num + 1 - i) (hi : i ≤ num) (hyl : ys.length ≤ i) (hst : St i s'.heap) (hJ : J i ys mu news') (hg : Gr news news') (hC : LCg.NsObj oC m₂) (S : ES c m ((I, oI) :: (C, oC) :: (D, LCg.lst ys) :: x) mu news' s') : CompInv c m I C D x news num St J k s'
theorem compCore {elt iter target : Expr} {ifs : List Expr} {scope : Scope} {pos : Pos} {cl : List (Str × Addr)} {I : Addr} {oI : Obj} {fp : List Addr} {num : Nat} {P : Nat → Value → Prop} {St : Nat → Heap → Prop} {RR : Value → Addr → Result → Shared → Prop}
    (W : Walks G.prog G.w c.A I fp [I] num P St) (hT : ∀ (s : Shared) (i : Nat) (v : Value) (Q : Unit → Shared → Prop), St i s.heap → Q () s → wpAny G.M c.A (letOwnedTupleGo target (.ref I) v) Q noE s)
    (hlive : ∀ i h, St i h → ∃ o, h.get? I = some o) (hfp : ∀ b ∈ fp, b ≠ I → ∃ ob, (b, ob) ∈ news) (hcell : ∀ y ∈ scope.names, y.2 ≠ .cell) (hkind : scope.kind = .function) (hz : num ≤ 1000000)
    (J : Nat → List Value → LedT → LedT → Prop) (S : ES c m ((I, oI) :: x) mu news s) (hst : St 0 s.heap) (h0 : J 0 [] mu news)
    (turn : ∀ i v oI C oC D m₂ ys mu news' s, i < num → P i v → J i ys mu news' → ys.length ≤ i → Gr news news' → LCg.NsObj oC m₂ → ES c m ((I, oI) :: (C, oC) :: (D, LCg.lst ys) :: x) mu news' s →
      wpAny G.M c.A (assign target (compEnvC scope cl C c.env) v) (fun _ s₂ => ∃ oC, TestK G c c.A ifs elt (compEnvC scope cl C c.env) (CompK c m I oI C oC D ys x news (J (i + 1))) (CompSkip c m I oI C oC D ys x news (J (i + 1))) s₂ ∧ ∃ m₂, LCg.NsObj oC m₂) noE s)
    (hRR : ∀ D C oC m' ys mu news' s', J num ys mu news' → ys.length ≤ num → Gr news news' → LCg.NsObj oC m' → ES c m ((C, oC) :: x) mu ((D, LCg.lst ys) :: news') s' → RR (.ref D) C (.ok .next) s') :
    wpAny G.M c.A (newList []) (fun acc s₃ => wpAny G.M c.A (newFunctionEnv scope c.env.globals cl [] c.env.qual none .none (some c.env)) (fun cenv s₄ =>
      codeAny G.M c.A (.compStart (.ListComp elt [⟨target, iter, ifs, 0⟩] scope pos) 0 (.ref I) acc { cenv with scope := relabel scope c.env }) (RR acc cenv.locals) s₄) noE s₃) noE s := by
  refine wpAny_newObj_type ?_ (by show ([] : List Value).toArray.size ≤ sizeLine; exact Nat.zero_le _)
  have S1 := (S.push (LCg.lst []) rfl).hide
  refine wpAny_newFunctionEnv hcell (by intro y hy; cases hy) (fun h₁ hns₁ hsb₁ => ?_) hkind
  have S2 := (S1.push { cls := .type (if (some c.env).isSome then "dict" else "frame"), data := .dict #[] } rfl).hide
  obtain ⟨oC₀, hoC₀, hC₀⟩ := LCg.ns_obj hns₁
  have S3 := S2.step (tk := s.toks + ([] : List (Str × Value)).length) (fun b ob hb e => (hsb₁.2 b hb).trans e) hoC₀
  have S4 : ES c m ((I, oI) :: (_, oC₀) :: (_, LCg.lst []) :: x) mu news _ := S3.permX (by
    refine List.Perm.trans (List.Perm.swap _ _ _) (List.Perm.cons _ ?_)
    exact List.Perm.swap _ _ _)
  have hst₁ : St 0 h₁ := keepSt W hfp hst S (Gr.refl _) S4 (Gr.refl _)
  have loop : ∀ (C D : Addr) (s₃ : Shared) (oI oC : Obj) (m₂ : Str → Option Value), ES c m ((I, oI) :: (C, oC) :: (D, LCg.lst []) :: x) mu news s₃ → St 0 s₃.heap → LCg.NsObj oC m₂ →
      codeAny G.M c.A (.compLoop (.ListComp elt [⟨target, iter, ifs, 0⟩] scope pos) 0 (.ref I) (.ref D) (compEnvC scope cl C c.env)) (RR (.ref D) C) s₃ := by
    intro C D s₃ oI oC m₂ S hst hC
    refine loop_gen (CompInv c m I C D x news num St J) (fun k s' h => ?_) (num + 1) (.mk 0 oI oC m₂ [] mu news rfl (Nat.zero_le _) (Nat.le_refl _) hst h0 (Gr.refl _) hC S)
    obtain ⟨i, oI', oC', m₂', ys, mu', news', hk', hi, hyl, hst', hJ, hg, hC', S'⟩ := h
    subst hk'
    by_cases hlt : i < num
    · refine W.item i s' _ _ hlt hst' fun v h' tk hP hst₁ hk => ?_
      obtain ⟨o', ho'⟩ := hlive _ _ hst₁
      have S₁ := S'.step (tk := tk) (fun b ob hb e => hk b ob (by simpa using hb) e) ho'
      refine hT _ (i + 1) v _ hst₁ (wpAny_mono (turn i v o' C oC' D m₂' ys mu' news' _ hlt hP hJ hyl hg hC' S₁) (fun _ s₂ h₂ => ?_) fun _ _ h => h)
      obtain ⟨oC₂, hTK, m₃, hC₂⟩ := h₂
      refine wpAny_mono hTK (fun ok s₃ h₃ => ?_) fun _ _ h => h
      cases ok with
      | false =>
        simp only [Bool.false_eq_true, if_false] at h₃ ⊢
        obtain ⟨mu₃, news₃, hJ₃, hg₃, S₃⟩ := h₃
        exact ⟨num + 1 - (i + 1), turn_lt hlt, .mk (i + 1) o' oC₂ m₃ ys mu₃ news₃ rfl hlt (Nat.le_succ_of_le hyl) (keepSt W hfp hst₁ S₁ hg S₃ hg₃) hJ₃ hg₃ hC₂ S₃⟩
      | true =>
        simp only [if_true] at h₃ ⊢
        refine wpAny_mono h₃ (fun y s₄ h₄ => ?_) fun _ _ h => h
        obtain ⟨mu₄, news₄, hJ₄, hg₄, S₄⟩ := h₄
        have hD₄ := (S₄.N (D, LCg.lst ys) (by simp)).1
        refine append_at (hsz := by show ys.toArray.size ≤ sizeLine; rw [List.size_toArray, sizeLine_eq]; omega) hD₄ fun h₅ hs₅ hd₅ => ?_
        rw [LCg.lst_snoc] at hd₅
        have pD : ∀ (o : Obj), ((I, o') :: (C, oC₂) :: (D, o) :: x : LedT).Perm ((D, o) :: (I, o') :: (C, oC₂) :: x) := fun o => by
          refine List.Perm.trans (List.Perm.cons _ (List.Perm.swap _ _ _)) ?_
          exact List.Perm.swap _ _ _
        have S₅ := (S₄.permX (pD _).symm).step (tk := s₄.toks) (fun b ob hb e => (hs₅.2 b hb).trans e) hd₅
        have S₆ : ES c m ((I, o') :: (C, oC₂) :: (D, LCg.lst (ys ++ [y])) :: x) mu₄ news₄ { s₄ with heap := h₅ } := S₅.permX (pD _)
        exact ⟨num + 1 - (i + 1), turn_lt hlt, .mk (i + 1) o' oC₂ m₃ (ys ++ [y]) mu₄ news₄ rfl hlt (by rw [List.length_append]; exact Nat.succ_le_succ hyl) (keepSt W hfp hst₁ S₁ hg S₆ hg₄) hJ₄ hg₄ hC₂ S₆⟩
    · have e : i = num := by omega
      subst e
      refine W.done s' _ _ hst' fun h' tk hk => ?_
      have S₁ := S'.stepDrop (tk := tk) (fun b ob hb e => hk b ob (by simpa using hb) e)
      exact hRR D C oC' m₂' ys mu' news' _ hJ hyl hg hC' (ES.show (S₁.permX (List.Perm.swap _ _ _)))
  have weak : ∀ {α : Type} {t : Sem α} {Q : α → Shared → Prop} {E : Value → Shared → Prop} {s : Shared}, wpAny G.M c.A t Q noE s → wpAny G.M c.A t Q E s := fun h => wpAny_mono h (fun _ _ h => h) fun _ _ h => False.elim h
  exact codeAny_compStart_list (loop _ _ _ _ _ _ S4 hst₁ hC₀) (weak (W.self 0 _ _ _ hst₁ (loop _ _ _ _ _ _ S4 hst₁ hC₀)))
end
end

-- V2h
section
open PySem PySem.W PyProof.Rows PySem.Spec PySem.Calls PyProof.V
inductive InitK (G : Gl) (ns : List (Str × NameKind)) (R : Tab) (m₂ : Str → Option Value) : List (Str × NameKind) → Tab → Prop
  | nil : InitK G ns R m₂ [] []
  | loc {y v cs RC} : m₂ y = some v → InitK G ns R m₂ cs RC → InitK G ns R m₂ ((y, .local) :: cs) ((y, some v) :: RC)
  | loc0 {y cs RC} : InitK G ns R m₂ cs RC → InitK G ns R m₂ ((y, .local) :: cs) ((y, none) :: RC)
  | fre {y v cs RC} : (y, NameKind.cell) ∈ ns → (y, some v) ∈ R → InitK G ns R m₂ cs RC → InitK G ns R m₂ ((y, .free) :: cs) ((y, some v) :: RC)
  | glo {y v cs RC} : Gn G y v → InitK G ns R m₂ cs RC → InitK G ns R m₂ ((y, .globalImplicit) :: cs) ((y, some v) :: RC)
theorem InitK.get {G : Gl} {ns cs : List (Str × NameKind)} {R RC : Tab} {m₂ : Str → Option Value} (h : InitK G ns R m₂ cs RC) : ∀ y v, (y, some v) ∈ RC → ∃ k, (y, k) ∈ cs ∧ ((k = .local ∧ m₂ y = some v) ∨ (k = .free ∧ (y, NameKind.cell) ∈ ns ∧ (y, some v) ∈ R) ∨ (k = .globalImplicit ∧ Gn G y v)) := by
  induction h with
  | nil => intro y v h; cases h
  | loc hm _ ih =>
    intro y v h
    rcases List.mem_cons.mp h with h | h
    · cases h; exact ⟨_, .head _, .inl ⟨rfl, hm⟩⟩
    · obtain ⟨k, a, b⟩ := ih y v h; exact ⟨k, .tail _ a, b⟩
  | loc0 _ ih =>
    intro y v h
    rcases List.mem_cons.mp h with h | h
    · cases h
    · obtain ⟨k, a, b⟩ := ih y v h; exact ⟨k, .tail _ a, b⟩
  | fre h1 h2 _ ih =>
    intro y v h
    rcases List.mem_cons.mp h with h | h
    · cases h; exact ⟨_, .head _, .inr (.inl ⟨rfl, h1, h2⟩)⟩
    · obtain ⟨k, a, b⟩ := ih y v h; exact ⟨k, .tail _ a, b⟩
  | glo hg _ ih =>
    intro y v h
    rcases List.mem_cons.mp h with h | h
    · cases h; exact ⟨_, .head _, .inr (.inr ⟨rfl, hg⟩)⟩
    · obtain ⟨k, a, b⟩ := ih y v h; exact ⟨k, .tail _ a, b⟩
noncomputable def ClOk (c : Cx) (scope : Scope) (cl : List (Str × Addr)) : Prop := ∀ y a, (y, NameKind.free) ∈ scope.names → c.cl.lookup y = some a → cl.lookup y = some a
theorem lookup_relabel {env : Env} {names : List (Str × NameKind)} (hnd : (names.map (·.1)).Nodup) {y : Str} {k : NameKind} (hm : (y, k) ∈ names) :
    (names.map fun (n, k) => if (k == NameKind.free && env.scope.kind == ScopeKind.function && env.kindOf n == some NameKind.cell) then (n, NameKind.cell) else (n, k)).lookup y = some (if (k == NameKind.free && env.scope.kind == ScopeKind.function && env.kindOf y == some NameKind.cell) then NameKind.cell else k) := by
  refine lookup_mem ?_ ?_
  · have e : (names.map fun (n, k) => if (k == NameKind.free && env.scope.kind == ScopeKind.function && env.kindOf n == some NameKind.cell) then (n, NameKind.cell) else (n, k)).map (·.1) = names.map (·.1) := by
      rw [List.map_map]
      refine List.map_congr_left fun p _ => ?_
      obtain ⟨n, k⟩ := p
      simp only [Function.comp]
      split <;> rfl
    rw [e]; exact hnd
  · refine List.mem_map.mpr ⟨(y, k), hm, ?_⟩
    dsimp only
    split <;> rfl
section
variable {G : Gl} {c : Cx} {n : Nat} {m : Str → Option Value} {x mu news n0 xc : LedT} {s : Shared} {ns : List (Str × NameKind)} {R RC : Tab}
theorem initK_rds {scope : Scope} {cl : List (Str × Addr)} {C : Addr} {oC : Obj} {m₂ : Str → Option Value} (O : Ok G c n) (T : FT G c ns m xc R) (hcl : ClOk c scope cl) (hC : LCg.NsObj oC m₂) (hnd : (scope.names.map (·.1)).Nodup) (hkind : scope.kind = .function)
    (hdbg : (scope.names.any fun y => y.1 == ("__debug__" : Str)) = false) (K : InitK G ns R m₂ scope.names RC) : Rds G c m ((C, oC) :: xc) (compEnvC scope cl C c.env) RC := ⟨by
  intro y v h s pos Q E F N hq
  have hkf : (compEnvC scope cl C c.env).scope.kind = .function := hkind
  obtain ⟨k, hm, h⟩ := K.get y v h
  have hb : (y == ("__debug__" : Str)) = false := by
    rw [List.any_eq_false] at hdbg
    simpa using hdbg _ hm
  have hlk := lookup_relabel (env := c.env) hnd hm
  have X' : G.K.In s.heap := O.X.keeps F.keep
  rcases h with ⟨rfl, hv⟩ | ⟨rfl, h1, h2⟩ | ⟨rfl, hg⟩
  · exact LCgL.ld_own N (.head _) hC hv hq hkf (by show List.lookup y _ = _; exact hlk) hb
  · obtain ⟨a, o, h3, h4, h5⟩ := T.cel y _ h2 _ (T.hns ▸ h1) rfl
    have hkc : c.env.kindOf y = some .cell := by
      show c.sc.names.lookup y = some .cell
      exact lookup_mem T.nd (T.hns ▸ h1)
    have hl : (compEnvC scope cl C c.env).kindOf y = some .cell := by
      show List.lookup y _ = _
      rw [show List.lookup y (compEnvC scope cl C c.env).scope.names = _ from hlk, hkc]
      have : c.env.scope.kind = .function := O.hk
      rw [this]
      rfl
    exact wpAny_Name (wpAny_loadName_cell hkf hl (hcl y a hm h3) ⟨o, (N _ (.tail _ h4)).1, h5⟩ hq) hb
  · have hl : (compEnvC scope cl C c.env).kindOf y = some .globalImplicit := by show List.lookup y _ = _; exact hlk
    rcases hg with hg | ⟨hg, hbb, hn⟩
    · exact Name_function_global hkf hl (loadGlobal_global (env := compEnvC scope cl C c.env) (O.T.g.keeps F.keep) (mg_of O.X O.T.g hg) hq) hb
    · exact Name_function_global hkf hl (loadGlobal_builtin (env := compEnvC scope cl C c.env) (O.T.g.keeps F.keep) (mg_none_of O.X O.T.g hg) (O.T.b.keeps F.keep) ((O.T.builtins y hn).trans hbb) hq) hb⟩
theorem comp_store {scope : Scope} {cl : List (Str × Addr)} {I C D : Addr} {oI oC : Obj} {ys : List Value} {m₂ : Str → Option Value} {y : Str} {v : Value} {Q : Unit → Shared → Prop} {E : Value → Shared → Prop} {A : Around}
    (S : ES c m ((I, oI) :: (C, oC) :: (D, LCg.lst ys) :: x) mu news s) (hC : LCg.NsObj oC m₂) (hx : scope.names.lookup y = some .local) (hkind : scope.kind = .function)
    (h : ∀ oC' s', LCg.NsObj oC' (fun z => if z = y then some v else m₂ z) → ES c m ((I, oI) :: (C, oC') :: (D, LCg.lst ys) :: x) mu news s' → Q () s') : wpAny G.M A (storeName (compEnvC scope cl C c.env) y v) Q E s := by
  have hg := (S.N (C, oC) (by simp)).1
  refine wpAny_storeName_local (lookup_relabel_local hx) (hC.ns hg) (fun h₃ hn₃ hs₃ => ?_) (by simp [compEnvC, relabel, hkind])
  obtain ⟨oC', heC, hoC⟩ := LCg.ns_obj hn₃
  have S' := (S.permX (x' := (C, oC) :: (I, oI) :: (D, LCg.lst ys) :: x) (List.Perm.swap _ _ _)).step (tk := s.toks + 1) (fun b ob hb e => (hs₃.2 b hb).trans e) heC
  exact h oC' _ hoC (S'.permX (List.Perm.swap _ _ _))
theorem clos_ex (scope : Scope) (env : Env) (h : ∀ y, (y, NameKind.free) ∈ scope.names → ∃ a, env.cells.lookup y = some a) (hnd : (scope.names.map (·.1)).Nodup) :
    ∃ cl, closureFor scope env = pure cl ∧ ∀ y a, (y, NameKind.free) ∈ scope.names → env.cells.lookup y = some a → cl.lookup y = some a := by
  have go : ∀ (names : List (Str × NameKind)) (acc : List (Str × Addr)), (∀ y, (y, NameKind.free) ∈ names → ∃ a, env.cells.lookup y = some a) → (names.map (·.1)).Nodup →
      ∃ cl, (forIn names acc fun (p : Str × NameKind) (r : List (Str × Addr)) => (if p.2 == NameKind.free then do let a ← cellOf env p.1; pure (ForInStep.yield ((p.1, a) :: r)) else pure (ForInStep.yield r) : Sem (ForInStep (List (Str × Addr))))) = pure cl ∧
        (∀ y a, (y, NameKind.free) ∈ names → env.cells.lookup y = some a → cl.lookup y = some a) ∧ ∀ y, y ∉ names.map (·.1) → cl.lookup y = acc.lookup y := by
    intro names
    induction names with
    | nil => intro acc _ _; exact ⟨acc, rfl, (fun _ _ h => by cases h), fun _ _ => rfl⟩
    | cons p r ih =>
      obtain ⟨y, k⟩ := p
      intro acc hh nd
      simp only [List.map_cons, List.nodup_cons] at nd
      by_cases hk : k = .free
      · subst hk
        obtain ⟨a, ha⟩ := hh y (.head _)
        obtain ⟨cl, e, h1, h2⟩ := ih ((y, a) :: acc) (fun z hz => hh z (.tail _ hz)) nd.2
        refine ⟨cl, ?_, fun z b hz hb => ?_, fun z hz => ?_⟩
        · rw [List.forIn_cons]
          have : cellOf env y = pure a := by unfold cellOf; rw [ha]
          simp only [beq_self_eq_true, if_true, this, pure_bind]
          exact e
        · rcases List.mem_cons.mp hz with hz | hz
          · cases hz
            rw [ha] at hb
            cases hb
            rw [h2 y nd.1, List.lookup_cons]
            simp
          · exact h1 z b hz hb
        · simp only [List.map_cons, List.mem_cons, not_or] at hz
          rw [h2 z hz.2, List.lookup_cons, beq_eq_false_iff_ne.mpr hz.1]
      · obtain ⟨cl, e, h1, h2⟩ := ih acc (fun z hz => hh z (.tail _ hz)) nd.2
        refine ⟨cl, ?_, fun z b hz hb => ?_, fun z hz => ?_⟩
        · rw [List.forIn_cons]
          have : (k == NameKind.free) = false := beq_eq_false_iff_ne.mpr hk
          simp only [this, Bool.false_eq_true, if_false, pure_bind]
          exact e
        · rcases List.mem_cons.mp hz with hz | hz
          · cases hz; exact absurd rfl hk
          · exact h1 z b hz hb
        · simp only [List.map_cons, List.mem_cons, not_or] at hz
          exact h2 z hz.2
  obtain ⟨cl, e, h1, _⟩ := go scope.names [] h hnd
  refine ⟨cl, ?_, h1⟩
  unfold closureFor
  simp only [bind_pure]
  exact e
end
end

-- V2i
section
open PySem PySem.W PyProof.Rows PySem.Spec PySem.Calls PyProof.V
noncomputable def CompGo (G : Gl) (c : Cx) (elt target iter : Expr) (ifs : List Expr) (scope : Scope) (pos : Pos) (cl : List (Str × Addr)) (use : Option (Value → Sem Unit)) (Q : Value → Shared → Prop) (xv : Value) (s : Shared) : Prop :=
  wpAny G.M c.A (pyIter xv) (fun it s₂ => wpAny G.M c.A (newList []) (fun acc s₃ => wpAny G.M c.A (newFunctionEnv scope c.env.globals cl [] c.env.qual none .none (some c.env)) (fun cenv s₄ =>
    codeAny G.M c.A (.compStart (.ListComp elt [⟨target, iter, ifs, 0⟩] scope pos) 0 it acc { cenv with scope := relabel scope c.env }) (compPost G.M c.A noE use Q acc cenv.locals) s₄) noE s₃) noE s₂) noE s
section
variable {G : Gl} {c : Cx} {n : Nat} {m : Str → Option Value} {x mu news n0 xc : LedT} {s : Shared} {ns : List (Str × NameKind)} {R RC : Tab}
theorem clos_of {scope : Scope} (T : FT G c ns m xc R) (hf : (scope.names.all fun p => p.2 != NameKind.free || ns.lookup p.1 == some NameKind.cell) = true) (hnd : (scope.names.map (·.1)).Nodup) : ∃ cl, closureFor scope c.env = pure cl ∧ ClOk c scope cl := by
  refine clos_ex scope c.env (fun y hy => ?_) hnd
  have := List.all_eq_true.mp hf _ hy
  simp only [bne_self_eq_false, Bool.false_or, beq_iff_eq] at this
  have hmem : (y, NameKind.cell) ∈ ns := by
    clear hf hy hnd T
    induction ns with
    | nil => cases this
    | cons p r ih =>
      obtain ⟨z, k⟩ := p
      rw [List.lookup_cons] at this
      by_cases e : y = z
      · subst e; simp at this; subst this; exact .head _
      · rw [beq_eq_false_iff_ne.mpr e] at this; exact .tail _ (ih this)
  have hy' : y ∈ R.map (·.1) := by rw [T.len, T.hns]; exact List.mem_map_of_mem (f := (·.1)) hmem
  obtain ⟨⟨z, v⟩, hR, e⟩ := List.mem_map.mp hy'
  cases e
  obtain ⟨a, o, h1, _, _⟩ := T.cel z v hR _ (T.hns ▸ hmem) rfl
  exact ⟨a, h1⟩
theorem v_ListComp {elt target iter : Expr} {ifs : List Expr} {scope : Scope} {pos : Pos} {Q : Value → Shared → Prop} (T : FT G c ns m xc R) (hf : (scope.names.all fun p => p.2 != NameKind.free || ns.lookup p.1 == some NameKind.cell) = true)
    (hnd : (scope.names.map (·.1)).Nodup) (hkind : scope.kind = .function) (hs : ∀ x, foldedSetIterable iter c.env x = pure x) (h : ∀ cl, ClOk c scope cl → wpAny G.M c.A (eval iter c.env) (CompGo G c elt target iter ifs scope pos cl none Q) noE s) :
    wpAny G.M c.A (eval (.ListComp elt [⟨target, iter, ifs, 0⟩] scope pos) c.env) Q noE s := by
  obtain ⟨cl, hcl, hok⟩ := clos_of T hf hnd
  rw [eval_ListComp]
  exact wpAny_comprehension_free (use := none) rfl hs hcl hkind (fun y hy e => by obtain ⟨y, k⟩ := y; cases e; exact lookup_mem hnd hy) (h cl hok)
theorem v_asgComp {elt target iter : Expr} {ifs : List Expr} {scope : Scope} {pos spos py : Pos} {y : Str} {rest : List Stmt} {Q : Flow → Shared → Prop} (T : FT G c ns m xc R) (hf : (scope.names.all fun p => p.2 != NameKind.free || ns.lookup p.1 == some NameKind.cell) = true)
    (hnd : (scope.names.map (·.1)).Nodup) (hkind : scope.kind = .function) (hs : ∀ x, foldedSetIterable iter c.env x = pure x) (hy : (y, NameKind.local) ∈ ns) (hpl : (py.line == (Expr.ListComp elt [⟨target, iter, ifs, 0⟩] scope pos).pos.line) = true)
    (hfree : (scope.names.any fun (n, k) => n == y && (k == .local || k == .cell)) = false)
    (h : ∀ cl, ClOk c scope cl → wpAny G.M c.A (eval iter c.env) (CompGo G c elt target iter ifs scope pos cl (some (assign (.Name y py) c.env)) (fun _ s' => wpAny G.M c.A (execs rest c.env) Q noE s')) noE s)
    (O : Ok G c n) : wpAny G.M c.A (execs (.Assign [.Name y py] (.ListComp elt [⟨target, iter, ifs, 0⟩] scope pos) spos :: rest) c.env) Q noE s := by
  obtain ⟨cl, hcl, hok⟩ := clos_of T hf hnd
  have hsw : swapsWith (.ListComp elt [⟨target, iter, ifs, 0⟩] scope pos) (some (.Name y py)) spos.line c.env = pure true := by
    have hk : c.env.kindOf y = some .local := by show c.sc.names.lookup y = _; exact lookup_mem T.nd (T.hns ▸ hy)
    have hb : c.env.blockKind = .function := by
      unfold Env.blockKind
      rw [show c.env.scope.kind = .function from O.hk]
      rfl
    show (pure (c.env.blockKind == .function && c.env.kindOf y == some .local && py.line == (Expr.ListComp elt [⟨target, iter, ifs, 0⟩] scope pos).pos.line && !(scope.names.any fun (n, k) => n == y && (k == .local || k == .cell))) : Sem Bool) = pure true
    rw [hk, hb, hpl, hfree]
    rfl
  refine v_cons ?_
  rw [exec_Assign_Name_used _ _ _ _ hsw]
  refine wpAny_bind (wpAny_standAt (wpAny_bind ?_))
  show wpAny _ c.A (do let _ ← comprehension (.ListComp elt [⟨target, iter, ifs, 0⟩] scope pos) scope c.env _ (newList []) false (eval iter c.env) (some (assign (.Name y py) c.env))) _ _ s
  refine wpAny_bind (wpAny_mono (wpAny_comprehension_free (use := some (assign (.Name y py) c.env)) (Q := fun _ s' => wpAny G.M c.A (execs rest c.env) Q noE s') rfl hs hcl hkind (fun y hy e => by obtain ⟨y, k⟩ := y; cases e; exact lookup_mem hnd hy) (h cl hok)) (fun _ s' hq => wpAny_pure (wpAny_pure hq)) fun _ _ e => e)

theorem doneN {C D : Addr} {oC : Obj} {m' : Str → Option Value} {Q : Value → Shared → Prop} {E : Value → Shared → Prop} (hC : LCg.NsObj oC m') (S : ES c m ((C, oC) :: x) mu news s) (h : ∀ s', ES c m x mu news s' → Q (.ref D) s') : compPost G.M c.A E none Q (.ref D) C (.ok .next) s :=
  ⟨m', hC.ns (S.N _ (.head _)).1, fun h' hs => h _ (S.stepDrop (tk := s.toks) fun b ob hb e => (hs.2 b hb).trans e)⟩
theorem doneU {C D : Addr} {oC : Obj} {m' : Str → Option Value} {Q : Value → Shared → Prop} {y : Str} {py : Pos} {R' : Tab} (O : Ok G c n) (T : FT G c ns m xc R) (hC : LCg.NsObj oC m') (S : ES c m ((C, oC) :: x) mu news s) (hU : SetAt y (.ref D) R R') (hy : (y, NameKind.local) ∈ ns)
    (h : ∀ m' s', FT G c ns m' xc R' → ES c m' x mu news s' → Q .none s') : compPost G.M c.A noE (some (assign (.Name y py) c.env)) Q (.ref D) C (.ok .next) s := by
  show wpAny G.M c.A (assign (.Name y py) c.env (.ref D)) _ noE s
  refine wpAny_assign_Name (v_store O T S hU hy rfl fun m₁ s₁ T₁ S₁ => ?_)
  exact ⟨m', hC.ns (S₁.N _ (.head _)).1, fun h' hs => h m₁ _ T₁ (S₁.stepDrop (tk := s₁.toks) fun b ob hb e => (hs.2 b hb).trans e)⟩

variable {elt target iter : Expr} {ifs : List Expr} {scope : Scope} {pos : Pos} {cl : List (Str × Addr)} {use : Option (Value → Sem Unit)} {Q : Value → Shared → Prop}
theorem goL {l : Addr} {o : Obj} {vs : List Value} (J : Nat → List Value → LedT → LedT → Prop) (S : ES c m x mu news s) (hl : (l, o) ∈ news) (P : LstP vs o) (hcell : ∀ y ∈ scope.names, y.2 ≠ .cell) (hkind : scope.kind = .function) (hz : vs.length ≤ 1000000) (h0 : J 0 [] mu news)
    (turn : ∀ i v I oI C oC D m₂ ys mu news' s, vs[i]? = some v → J i ys mu news' → Gr news news' → LCg.NsObj oC m₂ → ES c m ((I, oI) :: (C, oC) :: (D, LCg.lst ys) :: x) mu news' s →
      wpAny G.M c.A (assign target (compEnvC scope cl C c.env) v) (fun _ s₂ => ∃ oC, TestK G c c.A ifs elt (compEnvC scope cl C c.env) (CompK c m I oI C oC D ys x news (J (i + 1))) (CompSkip c m I oI C oC D ys x news (J (i + 1))) s₂ ∧ ∃ m₂, LCg.NsObj oC m₂) noE s)
    (done : ∀ D C oC m' ys mu news' s', J vs.length ys mu news' → ys.length ≤ vs.length → Gr news news' → LCg.NsObj oC m' → ES c m ((C, oC) :: x) mu ((D, lstO ys ys.length) :: news') s' → compPost G.M c.A noE use Q (.ref D) C (.ok .next) s') :
    CompGo G c elt target iter ifs scope pos cl use Q (.ref l) s := by
  have hl' : s.heap.IsList l vs.toArray := S.lst (List.mem_append_right _ hl) P
  refine wpAny_pyIter_list hl' ?_
  have S' := (S.push { cls := .type "list_iterator", data := .fields #[.ref l, .int 0 0] } rfl).hide
  have hne : l ≠ s.heap.objs.size := Nat.ne_of_lt (Heap.lt_size (S.get hl))
  have W := Walks.list (prog := G.prog) (w := G.w) (A := c.A) rfl s.heap.objs.size l hne vs.toArray
  have hzz : vs.toArray.size = vs.length := by simp
  rw [hzz] at W
  refine compCore W (fun s i v Q hst hq => ?_) (fun i h hst => ?_) (fun b hb hbI => ?_) hcell hkind hz J S' ?_ h0 (fun i v oI C oC D m₂ ys mu news s hi hP hJ _ hg hC S => turn i v _ oI C oC D m₂ ys mu news s (by simpa using hP) hJ hg hC S) (fun D C oC m' ys mu news' s' hJ hy hg hC S => done D C oC m' ys mu news' s' hJ hy hg hC S)
  · obtain ⟨⟨o, ho, hc, hd⟩, _⟩ := hst
    exact owned_no ho hc hd (.inl rfl) hq
  · obtain ⟨⟨o, ho, _⟩, _⟩ := hst
    exact ⟨o, ho⟩
  · have : b = l := by
      rcases List.mem_cons.mp hb with h | h
      · exact absurd h hbI
      · exact List.mem_singleton.mp h
    subst this
    exact ⟨_, hl⟩
  · exact ⟨⟨_, Heap.get?_push_size _ rfl, rfl, rfl⟩, hl'.at fun o e => Heap.get?_push_of_some _ e⟩
theorem goB {b : Array UInt8} {tb : Tok} (J : Nat → List Value → LedT → LedT → Prop) (S : ES c m x mu news s) (hcell : ∀ y ∈ scope.names, y.2 ≠ .cell) (hkind : scope.kind = .function) (hz : b.size ≤ 1000000) (h0 : J 0 [] mu news)
    (turn : ∀ i (v : Int) t I oI C oC D m₂ ys mu news' s, (KBw.bInts b)[i]? = some v → J i ys mu news' → Gr news news' → LCg.NsObj oC m₂ → ES c m ((I, oI) :: (C, oC) :: (D, LCg.lst ys) :: x) mu news' s →
      wpAny G.M c.A (assign target (compEnvC scope cl C c.env) (.int v t)) (fun _ s₂ => ∃ oC, TestK G c c.A ifs elt (compEnvC scope cl C c.env) (CompK c m I oI C oC D ys x news (J (i + 1))) (CompSkip c m I oI C oC D ys x news (J (i + 1))) s₂ ∧ ∃ m₂, LCg.NsObj oC m₂) noE s)
    (done : ∀ D C oC m' ys mu news' s', J b.size ys mu news' → ys.length ≤ b.size → Gr news news' → LCg.NsObj oC m' → ES c m ((C, oC) :: x) mu ((D, lstO ys ys.length) :: news') s' → compPost G.M c.A noE use Q (.ref D) C (.ok .next) s') :
    CompGo G c elt target iter ifs scope pos cl use Q (.bytes b tb) s := by
  refine KBw.pyIter_bytes ?_
  have S' := (S.push { cls := .type "bytes_iterator", data := .fields #[.bytes b tb, .int 0 0] } rfl).hide
  have W := KBw.walks (prog := G.prog) (w := G.w) (A := c.A) rfl s.heap.objs.size b tb
  refine compCore W (fun s i v Q hst hq => ?_) (fun i h hst => ?_) (fun b hb hbI => absurd (List.mem_singleton.mp hb) hbI) hcell hkind hz J S' ⟨_, Heap.get?_push_size _ rfl, rfl, rfl⟩ h0 (fun i v oI C oC D m₂ ys mu news s hi hP hJ _ hg hC S => ?_) (fun D C oC m' ys mu news' s' hJ hy hg hC S => done D C oC m' ys mu news' s' hJ hy hg hC S)
  · obtain ⟨o, ho, hc, hd⟩ := hst
    exact owned_no ho hc hd (.inr (.inl rfl)) hq
  · obtain ⟨o, ho, _⟩ := hst
    exact ⟨o, ho⟩
  · obtain ⟨ch, u, hc, rfl⟩ := hP
    exact turn i _ u _ oI C oC D m₂ ys mu news s (KBw.ints_get hc) hJ hg hC S
theorem goR {l : Addr} {a d e : Int} {t u v : Tok} {num : Nat} (J : Nat → List Value → LedT → LedT → Prop) (S : ES c m x mu news s) (hl : (l, rngO a e d t u v) ∈ news) (hs : Builtin.Range.small a e d = true) (hn : Builtin.Range.rangeSize a e d = (num : Int))
    (hcell : ∀ y ∈ scope.names, y.2 ≠ .cell) (hkind : scope.kind = .function) (hz : num ≤ 1000000) (h0 : J 0 [] mu news)
    (turn : ∀ i t I oI C oC D m₂ ys mu news' s, i < num → J i ys mu news' → Gr news news' → LCg.NsObj oC m₂ → ES c m ((I, oI) :: (C, oC) :: (D, LCg.lst ys) :: x) mu news' s →
      wpAny G.M c.A (assign target (compEnvC scope cl C c.env) (.int (a + (i : Int) * d) t)) (fun _ s₂ => ∃ oC, TestK G c c.A ifs elt (compEnvC scope cl C c.env) (CompK c m I oI C oC D ys x news (J (i + 1))) (CompSkip c m I oI C oC D ys x news (J (i + 1))) s₂ ∧ ∃ m₂, LCg.NsObj oC m₂) noE s)
    (done : ∀ D C oC m' ys mu news' s', J num ys mu news' → ys.length ≤ num → Gr news news' → LCg.NsObj oC m' → ES c m ((C, oC) :: x) mu ((D, lstO ys ys.length) :: news') s' → compPost G.M c.A noE use Q (.ref D) C (.ok .next) s') :
    CompGo G c elt target iter ifs scope pos cl use Q (.ref l) s := by
  refine wpAny_pyIter_range (S.get hl) hs ?_
  rw [hn]
  have S' := (S.push { cls := .type "range_iterator", data := .fields #[rawInt a, rawInt (num : Int), rawInt d] } rfl).hide
  have W := Walks.range (prog := G.prog) (w := G.w) (A := c.A) rfl s.heap.objs.size a d num
  refine compCore W (fun s i v Q hst hq => ?_) (fun i h hst => ⟨_, hst⟩) (fun b hb hbI => absurd (List.mem_singleton.mp hb) hbI) hcell hkind hz J S' ?_ h0 (fun i v oI C oC D m₂ ys mu news s hi hP hJ _ hg hC S => ?_) (fun D C oC m' ys mu news' s' hJ hy hg hC S => done D C oC m' ys mu news' s' hJ hy hg hC S)
  · exact owned_no hst rfl rfl (.inr (.inr rfl)) hq
  · show IsRangeIter _ _ _ _ _
    unfold IsRangeIter
    simp only [Int.ofNat_zero, Int.zero_mul, Int.add_zero, Int.sub_zero]
    exact Heap.get?_push_size _ rfl
  · obtain ⟨tk, rfl⟩ := hP
    exact turn i tk _ oI C oC D m₂ ys mu news s hi hJ hg hC S
end
end

-- FactsK
section
open PySem PySem.W PyProof.Rows PySem.Spec PySem.Calls
structure Gp where
  w : World
  p : Program
  loose : List Str
  mean : ExcName → Option Value
  mg : Str → Option Value
  mb : Str → Option Value
noncomputable abbrev GG (g : Gp) : Gl := { prog := PySem.Challenge.pw_og0191_01, w := g.w, K := hd.heap_1 g.w.params, p := g.p, loose := g.loose, mean := g.mean, mg := g.mg, mb := g.mb }
end

-- V4
section
open PySem PySem.W PyProof.Rows PySem.Spec PySem.Calls
local macro_rules | `(tactic| walk_at "is") => `(tactic| (first | k_is | kit_is))
noncomputable def Ty (g : Gp) (tv v : Value) (l : LedT) : Prop := v ≠ .builtin "__main__.__loader__#opaque" ∧ ∃ H, KitX (hd.heap_1 g.w.params) v tv H ∧ ∀ h : Heap, (∀ p ∈ l, h.get? p.1 = some p.2) → H h
structure XOk (K : Frag) (C : Addr) : Prop where
  a : plainGet K C "__class__" = true
  b : hasDictIn K C = true
  c : findIn K (.ref C) "__class__" = some (some (.builtin "object.__class__"))
  d : specialIn K (.builtin "object.__class__") "__get__" = some (some (.builtin "getset_descriptor.__get__"))
  e : takesIn K (.builtin "object.__class__") = some true
  f : mroIn K C (.type "object") = some true
structure MkOk (K : Frag) (C fI : Addr) : Prop where
  m : makesIn K C = true
  i : findIn K (.ref C) "__init__" = some (some (.ref fI))
  f : isFn K (.ref fI) = true
section
variable {g : Gp} {l : LedT}
theorem ty_int {i : Int} {t : Tok} : Ty g (.type "int") (.int i t) l := ⟨by (intro h; cases h), _, kitx_int, fun _ _ => trivial⟩
theorem ty_none : Ty g (.type "NoneType") .none l := ⟨by (intro h; cases h), _, kitx_none, fun _ _ => trivial⟩
theorem ty_list {a : Addr} {o : Obj} (h : (a, o) ∈ l) (hc : o.cls = .type "list") : Ty g (.type "list") (.ref a) l := ⟨by (intro h; cases h), _, kitx_list, fun _ k => ⟨o, k _ h, hc⟩⟩
theorem ty_dict {a : Addr} {o : Obj} (h : (a, o) ∈ l) (hc : o.cls = .type "dict") : Ty g (.type "dict") (.ref a) l := ⟨by (intro h; cases h), _, kitx_dict, fun _ k => ⟨o, k _ h, hc⟩⟩
theorem ty_inst {C a : Addr} {fs : List (Str × Value)} (x : XOk (hd.heap_1 g.w.params) C) (I : Inst C a fs l) : Ty g (.ref C) (.ref a) l := by
  obtain ⟨dx, od, h1, h2, _⟩ := I
  exact ⟨by (intro h; cases h), _, kitx_own x.a x.b x.c x.d x.e x.f, fun h k => ⟨k _ h1, rfl, rfl, k _ h2⟩⟩
theorem Ty.gr {tv v : Value} {l' : LedT} (gr : Gr l l') (T : Ty g tv v l) : Ty g tv v l' := by obtain ⟨a, H, b, d⟩ := T; exact ⟨a, H, b, fun hh k => d hh fun p hp => k p (gr.mem hp)⟩
theorem Ty.cons {tv v : Value} {p : Addr × Obj} (T : Ty g tv v l) : Ty g tv v (p :: l) := T.gr (Gr.refl _).cons
end
section
variable {g : Gp} {c : Cx} {n : Nat} {m : Str → Option Value} {x mu news : LedT} {s : Shared} {A : Around} {env : Env} {E : Value → Shared → Prop} {Q : Value → Shared → Prop}
theorem isi {v tv k : Value} {r : Bool} (O : Ok (GG g) c n) (S : ES c m x mu news s) (T : Ty g tv v news) (e : kitOne (hd.heap_1 g.w.params) tv k = some r) (h : ∀ s', ES c m x mu news s' → Q (.bool r) s') : wpAny (GG g).M A (call (.builtin "isinstance") [v, k]) Q E s := by
  obtain ⟨hn, H, hk, hh⟩ := T
  exact v_isi (G := GG g) hk O S (hh _ fun p hp => (S.N p (List.mem_append_right _ (List.mem_append_right _ hp))).1) e hn h
theorem getF' {a C : Addr} {fs : List (Str × Value)} {name : Str} {v : Value} {expr : Bool} (O : Ok (GG g) c n) (S : ES c m x mu news s) (I : Inst C a fs news) (f : FieldOk (hd.heap_1 g.w.params) C name) (hl : getF name fs = some v) (hv : handedIn v = true)
    (h : ∀ s', ES c m x mu news s' → Q v s') : wpAny (GG g).M A (getAttr (.ref a) name expr) Q E s := v_getF (G := GG g) O S I f hl hv h
theorem meth' {a C f : Addr} {fs : List (Str × Value)} {name : Str} {pl : Sem Bool} {Q : Value × List Value → Shared → Prop} (O : Ok (GG g) c n) (S : ES c m x mu news s) (I : Inst C a fs news) (M : MethOk (hd.heap_1 g.w.params) C name f) (hl : getF name fs = none)
    (h : Q (.ref f, [.ref a]) s) : wpAny (GG g).M A (getMethod (.ref a) name pl) Q E s := v_meth (G := GG g) O S I M hl h
theorem setF' {y dx C : Addr} {o : Obj} {fs fs' : List (Str × Value)} {name : Str} {v : Value} {gg : Obj → LedT} {Q : Unit → Shared → Prop} (O : Ok (GG g) c n) (S : ES c m x mu news s) (h1 : (y, instObj C dx) ∈ news) (U : UpM dx o mu gg) (hdd : DictS fs o) (f : SetOk (hd.heap_1 g.w.params) C name) (hz : Nat.ble (fs.length + 1) 1000 = true)
    (hf : putF name v fs = fs') (h : ∀ o' s', DictS fs' o' → ES c m x (gg o') news s' → Q () s') : wpAny (GG g).M A (setAttr (.ref y) name v) Q E s := v_setF (G := GG g) O S h1 U hdd f hz (hf ▸ h)
theorem make' {C fI : Addr} {k : Nat} {D : Obj → Prop} {vs : List Value} (M : MkOk (hd.heap_1 g.w.params) C fI)
    (hI : ∀ y dx, CtX (GG g) k fI (.ref y :: vs) ((dx, dictOf [] 0) :: mu) ((y, instObj C dx) :: news) (fun r mu' _ => r = .none ∧ ∃ od, D od ∧ mu' = (dx, od) :: mu)) :
    Ct (GG g) k C vs mu news (fun r mu' news' => mu' = mu ∧ ∃ y dx od, r = .ref y ∧ (y, instObj C dx) ∈ news' ∧ (dx, od) ∈ news' ∧ D od) := make (G := GG g) M.m M.i M.f hI
theorem enterD {name qual : Str} {params : Arguments} {body : List Stmt} {scope : Scope} {dV kV doc pm cdv ct oc : Value} {an od : Option Addr} {osl : Array (Option Value)} {f : Addr} {vs : List Value} (vs' : List Value) {binds : List (Str × Value)} {R : Tab} {mu news : LedT} {P : Value → LedT → LedT → Prop}
    (hlk : (hd.heap_1 g.w.params).lookup f = some ⟨oc, od, .func (fnOf name qual params body scope dV kV doc pm an cdv ct), osl⟩) (hcd : codeIn (hd.heap_1 g.w.params) cdv qual = true)
    (hin : InitC (GG g) scope.names vs' binds R) (hbind : ∀ s : Shared, (hd.heap_1 g.w.params).In s.heap → BindsTo s (fnOf name qual params body scope dV kV doc pm an cdv ct) ⟨vs, []⟩ binds) (hnd : (scope.names.map (·.1)).Nodup) (hdbg : (scope.names.any fun y => y.1 == ("__debug__" : Str)) = false)
    (hco : scope.isCoroutine = false) (hgen : scope.isGenerator = false) (hk : scope.kind = .function)
    (h : ∀ c m x cells s, Ok (GG g) c n → FT (GG g) c scope.names m cells R → ES c m (cells ++ x) mu news s → wpAny (GG g).M c.A (execs body c.env) (Back c x news P) noE s) : CtX (GG g) (n + 1) f vs mu news P :=
  enterX (G := GG g) hlk hcd hbind hin hnd hdbg hco hgen hk h
theorem gnK {y : Str} {v : Value} (h : nsIn (hd.heap_1 g.w.params) mainGlobals y = some (some v)) : Gn (GG g) y v := Or.inl h
theorem gnB {y : Str} {v : Value} (h : nsIn (hd.heap_1 g.w.params) mainGlobals y = some none) (hb : bootBuiltins y = some v) (hn : y ≠ "__name__") : Gn (GG g) y v := Or.inr ⟨h, hb, hn⟩
theorem dictS_nil : DictS [] (dictOf [] 0) := ⟨[], 0, .nil, rfl⟩
theorem enterG {name qual : Str} {params : Arguments} {body : List Stmt} {scope : Scope} {dV kV doc pm cdv ct oc : Value} {an od : Option Addr} {osl : Array (Option Value)} {f : Addr} {vs : List Value} {binds : List (Str × Value)} {R : Tab} {mu news : LedT} {P : Value → LedT → LedT → Prop}
    (hlk : (hd.heap_1 g.w.params).lookup f = some ⟨oc, od, .func (fnOf name qual params body scope dV kV doc pm an cdv ct), osl⟩) (hcd : codeIn (hd.heap_1 g.w.params) cdv qual = true)
    (hin : InitC (GG g) scope.names vs binds R) (hbind : bindArgs (fnOf name qual params body scope dV kV doc pm an cdv ct) ⟨vs, []⟩ = pure binds) (hnd : (scope.names.map (·.1)).Nodup) (hdbg : (scope.names.any fun y => y.1 == ("__debug__" : Str)) = false)
    (hco : scope.isCoroutine = false) (hgen : scope.isGenerator = false) (hk : scope.kind = .function)
    (h : ∀ c m x cells s, Ok (GG g) c n → FT (GG g) c scope.names m cells R → ES c m (cells ++ x) mu news s → wpAny (GG g).M c.A (execs body c.env) (Back c x news P) noE s) : CtX (GG g) (n + 1) f vs mu news P :=
  enterX (G := GG g) hlk hcd (fun _ _ => BindsTo.of_eq hbind) hin hnd hdbg hco hgen hk h
end
section
variable (P : Params)
theorem xo_155 : XOk (hd.heap_1 P) 155 := ⟨by walk_at "is", by walk_at "is", by walk_at "is", by walk_at "is", by walk_at "is", by walk_at "is"⟩
theorem xo_197 : XOk (hd.heap_1 P) 197 := ⟨by walk_at "is", by walk_at "is", by walk_at "is", by walk_at "is", by walk_at "is", by walk_at "is"⟩
theorem mk_155 : MkOk (hd.heap_1 P) 155 75 := ⟨by walk_at "is", by walk_at "is", by walk_at "is"⟩
theorem mk_197 : MkOk (hd.heap_1 P) 197 194 := ⟨by walk_at "is", by walk_at "is", by walk_at "is"⟩
theorem mk_318 : MkOk (hd.heap_1 P) 318 301 := ⟨by walk_at "is", by walk_at "is", by walk_at "is"⟩
theorem mk_344 : MkOk (hd.heap_1 P) 344 336 := ⟨by walk_at "is", by walk_at "is", by walk_at "is"⟩
theorem mk_587 : MkOk (hd.heap_1 P) 587 565 := ⟨by walk_at "is", by walk_at "is", by walk_at "is"⟩
end
noncomputable def DecAt (a : Addr) (top : Int) (p : Nat) (news : LedT) : Prop := ∃ t1 t2, Inst 155 a [("top", .int top t1), ("places", .int (p : Int) t2)] news
theorem DecAt.gr {a : Addr} {top : Int} {p : Nat} {l l' : LedT} (gr : Gr l l') (h : DecAt a top p l) : DecAt a top p l' := by obtain ⟨t1, t2, I⟩ := h; exact ⟨t1, t2, I.gr gr⟩
theorem Paired.get {α β : Type} {F : α → β → Prop} {l : List α} {k : List β} (h : Paired F l k) : ∀ {i : Nat} {y : α}, l[i]? = some y → ∃ p, k[i]? = some p ∧ F y p := by
  induction h with
  | nil => intro i y h; simp at h
  | @cons a b l k hab _ ih =>
    intro i y h
    cases i with
    | zero => simp at h; subst h; exact ⟨b, by simp, hab⟩
    | succ i => simpa using ih (by simpa using h)
theorem Paired.get' {α β : Type} {F : α → β → Prop} {l : List α} {k : List β} (h : Paired F l k) : ∀ {i : Nat} {p : β}, k[i]? = some p → ∃ y, l[i]? = some y ∧ F y p := by
  induction h with
  | nil => intro i y h; simp at h
  | @cons a b l k hab _ ih =>
    intro i y h
    cases i with
    | zero => simp at h; subst h; exact ⟨a, by simp, hab⟩
    | succ i => simpa using ih (by simpa using h)
theorem v_truthyT {G : Gl} {c : Cx} {m : Str → Option Value} {x mu news : LedT} {s : Shared} {A : Around} {E : Value → Shared → Prop} {l : Addr} {o : Obj} {vs : List Value} {Q : Bool → Shared → Prop} (S : ES c m x mu news s) (hl : (l, o) ∈ mu ++ news) (P : LstP vs o) (hv : vs ≠ []) (hz : vs.length ≤ 1000000) (h : ∀ s', ES c m x mu news s' → Q true s') : wpAny G.M A (truthy (.ref l)) Q E s :=
  v_truthyL S hl P hz fun s' S' => by
    have : (!vs.isEmpty) = true := by cases vs with | nil => exact absurd rfl hv | cons a b => rfl
    rw [this]; exact h s' S'
theorem v_inT {G : Gl} {c : Cx} {m : Str → Option Value} {x mu news : LedT} {s : Shared} {A : Around} {E : Value → Shared → Prop} {l : Addr} {vs : List Value} {ys : List Str} {k : Str} {t : Tok} (r : Bool) {Q : Value → Shared → Prop} (S : ES c m x mu news s) (hl : (l, tupO vs) ∈ mu ++ news) (hi : StrsAre vs ys) (hr : ys.any (· == k) = r) (h : Q (.bool r) s) :
    wpAny G.M A (compareOp .In (.str k t) (.ref l)) Q E s := in_tuple_strs (S.tup hl) hi (hr ▸ h)
theorem iteT {c : Bool} {a b : Prop} (h : c = true) (ha : a) : if c = true then a else b := by rw [if_pos h]; exact ha
theorem iteF {c : Bool} {a b : Prop} (h : c = false) (hb : b) : if c = true then a else b := by rw [if_neg (by rw [h]; exact Bool.false_ne_true)]; exact hb
theorem v_dict0F {G : Gl} {c : Cx} {n : Nat} {m : Str → Option Value} {x mu news : LedT} {s : Shared} {A : Around} {E : Value → Shared → Prop} {env : Env} {Q : Value → Shared → Prop} {pos : Pos} (O : Ok G c n) (S : ES c m x mu news s) (h : ∀ d s', (d == sysModules) = false → ES c m x mu ((d, emD) :: news) s' → Q (.ref d) s') : wpAny G.M A (eval (.Dict [] [] pos) env) Q E s :=
  v_dict0 O S fun d s' hd S' => h d s' hd S'.freeze
theorem take_snoc {α : Type} {l : List α} {i : Nat} {v : α} (h : l[i]? = some v) : l.take (i + 1) = l.take i ++ [v] := by rw [List.take_add_one, h]; rfl
noncomputable def PairAt (y : Value) (p : Int × Int) (news : LedT) : Prop := ∃ a t u, y = .ref a ∧ (a, tupO [.int p.1 t, .int p.2 u]) ∈ news
theorem PairAt.gr {y : Value} {p : Int × Int} {l l' : LedT} (g : Gr l l') (h : PairAt y p l) : PairAt y p l' := by obtain ⟨a, t, u, e, h⟩ := h; exact ⟨a, t, u, e, g.mem h⟩
theorem mulOk_pow10 {a : Int} {k : Nat} (h : k ≤ 12) : IntMulOk a (10 ^ k) := by
  have h1 : (10 : Nat) ^ k ≤ 10 ^ 12 := Nat.pow_le_pow_right (by decide) h
  have h2 : ((10 : Int) ^ k) = ((10 ^ k : Nat) : Int) := by simp
  have h3 : (10 : Nat) ^ 12 = 1000000000000 := by decide
  rw [h2]
  rw [h3] at h1
  generalize (10 : Nat) ^ k = n at h1
  exact IntMulOk.of_right (intBits_le_64 (by omega) (by omega))
end

-- W1
section
open PySem PySem.W PyProof.Rows PySem.Spec PySem.Calls
section
variable {α : Type} {a b0 b1 b2 b3 b4 b5 b6 b7 b8 b9 b10 b11 : α} {l : List α}
theorem m1 : a ∈ b0 :: a :: l := .tail _ (.head _)
theorem m2 : a ∈ b0 :: b1 :: a :: l := .tail _ m1
theorem m3 : a ∈ b0 :: b1 :: b2 :: a :: l := .tail _ m2
theorem ma0 {r : List α} : a ∈ (a :: l) ++ r := .head _
theorem ma1 {r : List α} : a ∈ (b0 :: a :: l) ++ r := .tail _ (.head _)
theorem ma2 {r : List α} : a ∈ (b0 :: b1 :: a :: l) ++ r := .tail _ (.tail _ (.head _))
end
noncomputable def isPlain (e : Expr) : Bool := !Nat.beq e.ctorIdx 22
noncomputable def Ev (G : Gl) (A : Around) (env : Env) (c : Cx) (m : Str → Option Value) (x mu news : LedT) (e : Expr) (f : Tok → Value) : Prop :=
  ∀ (s : Shared) (Q E : Value → Shared → Prop), ES c m x mu news s → (∀ t s', ES c m x mu news s' → Q (f t) s') → wpAny G.M A (eval e env) Q E s
noncomputable def EvT (G : Gl) (A : Around) (env : Env) (c : Cx) (m : Str → Option Value) (x mu news : LedT) (e : Expr) (b : Bool) : Prop :=
  ∀ (s : Shared) (Q : Bool → Shared → Prop) (E : Value → Shared → Prop), ES c m x mu news s → (∀ s', ES c m x mu news s' → Q b s') → wpAny G.M A (isTrue e env (eval e env)) Q E s
noncomputable def noneIs : Value → Option Bool | .none => some true | .ref _ => some false | .int .. => some false | .str .. => some false | .bool _ => some false | .bytes .. => some false | _ => none
theorem noneIs_is {M : Model} {A : Around} {E : Value → Shared → Prop} {s : Shared} {Q : Value → Shared → Prop} {v : Value} {b : Bool} (hb : noneIs v = some b) (h : Q (.bool b) s) : wpAny M A (compareOp .Is v .none) Q E s := by
  cases v with
  | none => cases hb; exact is_none_none h
  | ref => cases hb; exact is_none_ne (by intro x; cases x) h
  | int => cases hb; exact is_none_ne (by intro x; cases x) h
  | str => cases hb; exact is_none_ne (by intro x; cases x) h
  | bool => cases hb; exact is_none_ne (by intro x; cases x) h
  | bytes => cases hb; exact is_none_ne (by intro x; cases x) h
  | _ => cases hb
theorem noneIs_not {M : Model} {A : Around} {E : Value → Shared → Prop} {s : Shared} {Q : Value → Shared → Prop} {v : Value} {b : Bool} (hb : noneIs v = some b) (h : Q (.bool (!b)) s) : wpAny M A (compareOp .IsNot v .none) Q E s := by
  cases v with
  | none => cases hb; exact isnot_none_none h
  | ref => cases hb; exact isnot_none_ne (by intro x; cases x) h
  | int => cases hb; exact isnot_none_ne (by intro x; cases x) h
  | str => cases hb; exact isnot_none_ne (by intro x; cases x) h
  | bool => cases hb; exact isnot_none_ne (by intro x; cases x) h
  | bytes => cases hb; exact isnot_none_ne (by intro x; cases x) h
  | _ => cases hb
section
variable {M : Model} {A : Around} {E : Value → Shared → Prop} {s : Shared} {env : Env} {Q : List Value → Shared → Prop} {pos : Pos} {e : Expr} {r : List Expr}
theorem plain_cons (h : isPlain e = true) : starEach (e :: r) env = (false, eval e env) :: starEach r env := by revert h; cases e <;> first | exact fun _ => rfl | exact fun h => (Bool.false_ne_true h).elim
theorem plain_any : ∀ {r : List Expr}, r.all isPlain = true → (backTo pos (starEach r env)).any (·.1) = false
  | [], _ => rfl
  | e :: r, h => by
    simp only [List.all_cons, Bool.and_eq_true] at h
    rw [plain_cons h.1]
    show (false || (backTo pos (starEach r env)).any (·.1)) = false
    rw [plain_any h.2]; rfl
theorem sp_cons (hp : isPlain e = true) (h : wpAny M A (eval e env) (fun v s₁ => wpAny M A (spliced (backTo pos (starEach r env))) (fun vs s₂ => Q (v :: vs) s₂) E s₁) E s) : wpAny M A (spliced (backTo pos (starEach (e :: r) env))) Q E s := spliced_more h (plain_cons hp)
end
section
variable {G : Gl} {A : Around} {env : Env} {c : Cx} {n : Nat} {m : Str → Option Value} {x mu news xc : LedT} {R : Tab} {s : Shared} {e e1 e2 : Expr} {f f1 f2 : Tok → Value} {pos : Pos}
theorem Ev.name {y : Str} {v : Value} (T : Rds G c m xc env R) (hx : ∀ p ∈ xc, p ∈ x) (hA : A = c.A) (hm : (y, some v) ∈ R) : Ev G A env c m x mu news (.Name y pos) (fun _ => v) := fun s _ _ S k => v_name T S hx hA hm (k 0 s S)
theorem Ev.int {i : Int} {k : Nat} : Ev G A env c m x mu news (.Constant (.int i) k pos) (fun t => .int i t) := fun _ _ _ S h => v_int S h
theorem Ev.str {y : Str} {k : Nat} : Ev G A env c m x mu news (.Constant (.str y) k pos) (fun t => .str y t) := fun _ _ _ S h => v_str S h
theorem Ev.none {k : Nat} : Ev G A env c m x mu news (.Constant .none k pos) (fun _ => .none) := fun s _ _ S h => v_none (h 0 s S)
theorem Ev.bin {op : Operator} (h1 : Ev G A env c m x mu news e1 f1) (h2 : Ev G A env c m x mu news e2 f2)
    (h : ∀ t1 t2 s (Q E : Value → Shared → Prop), ES c m x mu news s → (∀ t s', ES c m x mu news s' → Q (f t) s') → wpAny G.M A (binaryOp op (f1 t1) (f2 t2)) Q E s) : Ev G A env c m x mu news (.BinOp e1 op e2 pos) f :=
  fun s Q E S k => wpAny_BinOp (h1 s _ E S fun t1 s1 S1 => h2 s1 _ E S1 fun t2 s2 S2 => h t1 t2 s2 Q E S2 k)
variable {i j : Int} {k1 k2 : Tok → Tok}
theorem Ev.add (h1 : Ev G A env c m x mu news e1 (fun t => .int i (k1 t))) (h2 : Ev G A env c m x mu news e2 (fun t => .int j (k2 t))) : Ev G A env c m x mu news (.BinOp e1 .Add e2 pos) (fun t => .int (i + j) t) := Ev.bin h1 h2 fun _ _ _ _ _ S k => v_add S k
theorem Ev.sub (h1 : Ev G A env c m x mu news e1 (fun t => .int i (k1 t))) (h2 : Ev G A env c m x mu news e2 (fun t => .int j (k2 t))) : Ev G A env c m x mu news (.BinOp e1 .Sub e2 pos) (fun t => .int (i - j) t) := Ev.bin h1 h2 fun _ _ _ _ _ S k => v_sub S k
theorem Ev.mul (h1 : Ev G A env c m x mu news e1 (fun t => .int i (k1 t))) (h2 : Ev G A env c m x mu news e2 (fun t => .int j (k2 t))) (hm : IntMulOk i j) : Ev G A env c m x mu news (.BinOp e1 .Mult e2 pos) (fun t => .int (i * j) t) := Ev.bin h1 h2 fun _ _ _ _ _ S k => v_mul S hm k
noncomputable def isIdx (e : Expr) : Bool := !Nat.beq e.ctorIdx 26
noncomputable def okIdx : Int → Bool | .ofNat n => Nat.blt n 1000000 | _ => false
theorem okIdx_of {i : Int} (h : okIdx i = true) : 0 ≤ i ∧ i < 2 ^ 63 := by
  cases i with
  | ofNat n => have := Nat.lt_of_lt_of_le (Nat.le_of_ble_eq_true h : n < 1000000) (by omega : 1000000 ≤ 2 ^ 63); rw [Int.ofNat_eq_natCast]; constructor <;> omega
  | negSucc n => cases h
theorem subs_plain {e : Expr} {o i : Value} (h : isIdx e = true) : subscripted e false o i = operate [o, i] (getItem o i) := by revert h; cases e <;> first | exact fun _ => rfl | exact fun h => (Bool.false_ne_true h).elim
theorem EvT.cmp {op : CmpOp} {b : Bool} (h1 : Ev G A env c m x mu news e1 f1) (h2 : Ev G A env c m x mu news e2 f2) (hm : behindInMarks op e2 = false)
    (h : ∀ t1 t2 s (Q E : Value → Shared → Prop), Q (.bool b) s → wpAny G.M A (compareOp op (f1 t1) (f2 t2)) Q E s) : EvT G A env c m x mu news (.Compare e1 [op] [e2] pos) b :=
  fun s Q E S k => wpAny_isTrue_Compare1 (h1 s _ E S fun t1 s1 S1 => h2 s1 _ E S1 fun t2 s2 S2 => h t1 t2 s2 _ E (wpAny_truthy_bool (k s2 S2))) hm
theorem EvT.isN {b : Bool} {k : Nat} {p : Pos} {v : Value} (h1 : Ev G A env c m x mu news e1 (fun _ => v)) (hb : noneIs v = some b) : EvT G A env c m x mu news (.Compare e1 [.Is] [.Constant .none k p] pos) b := EvT.cmp h1 Ev.none rfl fun _ _ _ _ _ h => noneIs_is hb h
theorem EvT.isNN {b : Bool} {k : Nat} {p : Pos} {v : Value} (h1 : Ev G A env c m x mu news e1 (fun _ => v)) (hb : noneIs v = some b) : EvT G A env c m x mu news (.Compare e1 [.IsNot] [.Constant .none k p] pos) (!b) := EvT.cmp h1 Ev.none rfl fun _ _ _ _ _ h => noneIs_not hb h
variable {e3 e4 e5 : Expr} {f3 f4 f5 : Tok → Value}
section
variable {Q : List Value → Shared → Prop} {E : Value → Shared → Prop}
theorem sp1 (S : ES c m x mu news s) (p1 : isPlain e1 = true) (h1 : Ev G A env c m x mu news e1 f1) (h : ∀ t1 s', ES c m x mu news s' → Q [f1 t1] s') :
    wpAny G.M A (spliced (backTo pos (starEach [e1] env))) Q E s := sp_cons p1 (h1 s _ E S fun t1 s' S' => spliced_none (h t1 s' S'))
theorem sp2 (S : ES c m x mu news s) (p1 : isPlain e1 = true) (p2 : isPlain e2 = true) (h1 : Ev G A env c m x mu news e1 f1) (h2 : Ev G A env c m x mu news e2 f2) (h : ∀ t1 t2 s', ES c m x mu news s' → Q [f1 t1, f2 t2] s') :
    wpAny G.M A (spliced (backTo pos (starEach [e1, e2] env))) Q E s := sp_cons p1 (h1 s _ E S fun t1 _ S' => sp1 (Q := fun vs s => Q (f1 t1 :: vs) s) S' p2 h2 fun t2 s' S' => h t1 t2 s' S')
theorem sp3 (S : ES c m x mu news s) (p1 : isPlain e1 = true) (p2 : isPlain e2 = true) (p3 : isPlain e3 = true) (h1 : Ev G A env c m x mu news e1 f1) (h2 : Ev G A env c m x mu news e2 f2) (h3 : Ev G A env c m x mu news e3 f3) (h : ∀ t1 t2 t3 s', ES c m x mu news s' → Q [f1 t1, f2 t2, f3 t3] s') :
    wpAny G.M A (spliced (backTo pos (starEach [e1, e2, e3] env))) Q E s := sp_cons p1 (h1 s _ E S fun t1 _ S' => sp2 (Q := fun vs s => Q (f1 t1 :: vs) s) S' p2 p3 h2 h3 fun t2 t3 s' S' => h t1 t2 t3 s' S')
theorem sp4 (S : ES c m x mu news s) (p1 : isPlain e1 = true) (p2 : isPlain e2 = true) (p3 : isPlain e3 = true) (p4 : isPlain e4 = true) (h1 : Ev G A env c m x mu news e1 f1) (h2 : Ev G A env c m x mu news e2 f2) (h3 : Ev G A env c m x mu news e3 f3) (h4 : Ev G A env c m x mu news e4 f4)
    (h : ∀ t1 t2 t3 t4 s', ES c m x mu news s' → Q [f1 t1, f2 t2, f3 t3, f4 t4] s') :
    wpAny G.M A (spliced (backTo pos (starEach [e1, e2, e3, e4] env))) Q E s := sp_cons p1 (h1 s _ E S fun t1 _ S' => sp3 (Q := fun vs s => Q (f1 t1 :: vs) s) S' p2 p3 p4 h2 h3 h4 fun t2 t3 t4 s' S' => h t1 t2 t3 t4 s' S')
end
section
variable {Q E : Value → Shared → Prop} {y : Str} {np : Pos} {fn : Addr}
theorem ec {e : Expr} {r : List Expr} (O : Ok G c n) (S : ES c m x mu news s) (hf : Ev G A env c m x mu news (.Name y np) (fun _ => .ref fn)) (hk : keepIn G.K (.ref fn) = true) (p1 : isPlain e = true) (p2 : r.all isPlain = true)
    (h : ∀ s', ES c m x mu news s' → wpAny G.M A (spliced (backTo pos (starEach (e :: r) env))) (fun vs s₁ => (∃ m' x' mu' news', ES c m' x' mu' news' s₁) ∧ wpAny G.M A (call (.ref fn) vs) Q E s₁) E s') : wpAny G.M A (eval (.Call (.Name y np) (e :: r) [] pos) env) Q E s :=
  Call_Name rfl (hf s _ E S fun _ s1 S1 => v_callK (first := []) O hk (h s1 S1) (plain_cons p1) (plain_any p2))
theorem ec0 (O : Ok G c n) (S : ES c m x mu news s) (hf : Ev G A env c m x mu news (.Name y np) (fun _ => .ref fn)) (hk : keepIn G.K (.ref fn) = true) (h : ∀ s', ES c m x mu news s' → wpAny G.M A (call (.ref fn) []) Q E s') :
    wpAny G.M A (eval (.Call (.Name y np) [] [] pos) env) Q E s := Call_Name rfl (hf s _ E S fun _ s1 S1 => callWith_K0 (O.X.keeps S1.F.keep) hk (h s1 S1))
theorem ec1 (O : Ok G c n) (S : ES c m x mu news s) (hf : Ev G A env c m x mu news (.Name y np) (fun _ => .ref fn)) (hk : keepIn G.K (.ref fn) = true) (p1 : isPlain e1 = true) (h1 : Ev G A env c m x mu news e1 f1) (h : ∀ t1 s', ES c m x mu news s' → wpAny G.M A (call (.ref fn) [f1 t1]) Q E s') :
    wpAny G.M A (eval (.Call (.Name y np) [e1] [] pos) env) Q E s := ec O S hf hk p1 rfl fun _ S1 => sp1 S1 p1 h1 fun t1 s2 S2 => ⟨⟨_, _, _, _, S2⟩, h t1 s2 S2⟩
theorem ec2 (O : Ok G c n) (S : ES c m x mu news s) (hf : Ev G A env c m x mu news (.Name y np) (fun _ => .ref fn)) (hk : keepIn G.K (.ref fn) = true) (p1 : isPlain e1 = true) (p2 : isPlain e2 = true) (h1 : Ev G A env c m x mu news e1 f1) (h2 : Ev G A env c m x mu news e2 f2)
    (h : ∀ t1 t2 s', ES c m x mu news s' → wpAny G.M A (call (.ref fn) [f1 t1, f2 t2]) Q E s') :
    wpAny G.M A (eval (.Call (.Name y np) [e1, e2] [] pos) env) Q E s := ec O S hf hk p1 (by simp [p2]) fun _ S1 => sp2 S1 p1 p2 h1 h2 fun t1 t2 s2 S2 => ⟨⟨_, _, _, _, S2⟩, h t1 t2 s2 S2⟩
theorem ec3 (O : Ok G c n) (S : ES c m x mu news s) (hf : Ev G A env c m x mu news (.Name y np) (fun _ => .ref fn)) (hk : keepIn G.K (.ref fn) = true) (p1 : isPlain e1 = true) (p2 : isPlain e2 = true) (p3 : isPlain e3 = true) (h1 : Ev G A env c m x mu news e1 f1) (h2 : Ev G A env c m x mu news e2 f2) (h3 : Ev G A env c m x mu news e3 f3)
    (h : ∀ t1 t2 t3 s', ES c m x mu news s' → wpAny G.M A (call (.ref fn) [f1 t1, f2 t2, f3 t3]) Q E s') :
    wpAny G.M A (eval (.Call (.Name y np) [e1, e2, e3] [] pos) env) Q E s := ec O S hf hk p1 (by simp [p2, p3]) fun _ S1 => sp3 S1 p1 p2 p3 h1 h2 h3 fun t1 t2 t3 s2 S2 => ⟨⟨_, _, _, _, S2⟩, h t1 t2 t3 s2 S2⟩
end
section
variable {Q E : Value → Shared → Prop} {y : Str} {np : Pos} {id : String} {v : Value}
theorem cwb {e : Expr} {r : List Expr} (p1 : isPlain e = true) (p2 : r.all isPlain = true) (h : wpAny G.M A (spliced (backTo pos (starEach (e :: r) env))) (fun vs s₁ => wpAny G.M A (call (.builtin id) vs) Q E s₁) E s) :
    wpAny G.M A (callWith pos (.builtin id) [] (backTo pos (starEach (e :: r) env)) []) Q E s := callWith_method1 h (plain_cons p1) (plain_any p2)
theorem cwt {e : Expr} {r : List Expr} (p1 : isPlain e = true) (p2 : r.all isPlain = true) (h : wpAny G.M A (spliced (backTo pos (starEach (e :: r) env))) (fun vs s₁ => wpAny G.M A (call (.type id) vs) Q E s₁) E s) :
    wpAny G.M A (callWith pos (.type id) [] (backTo pos (starEach (e :: r) env)) []) Q E s := PyProof.Rows.callWith_type1 h (plain_cons p1) (plain_any p2)
theorem ecb1 (S : ES c m x mu news s) (hf : Ev G A env c m x mu news (.Name y np) (fun _ => .builtin id)) (p1 : isPlain e1 = true) (h1 : Ev G A env c m x mu news e1 f1) (h : ∀ t1 s', ES c m x mu news s' → wpAny G.M A (call (.builtin id) [f1 t1]) Q E s') :
    wpAny G.M A (eval (.Call (.Name y np) [e1] [] pos) env) Q E s := Call_Name rfl (hf s _ E S fun _ _ S1 => cwb p1 rfl (sp1 S1 p1 h1 h))
theorem ecb2 (S : ES c m x mu news s) (hf : Ev G A env c m x mu news (.Name y np) (fun _ => .builtin id)) (p1 : isPlain e1 = true) (p2 : isPlain e2 = true) (h1 : Ev G A env c m x mu news e1 f1) (h2 : Ev G A env c m x mu news e2 f2) (h : ∀ t1 t2 s', ES c m x mu news s' → wpAny G.M A (call (.builtin id) [f1 t1, f2 t2]) Q E s') :
    wpAny G.M A (eval (.Call (.Name y np) [e1, e2] [] pos) env) Q E s := Call_Name rfl (hf s _ E S fun _ _ S1 => cwb p1 (by simp [p2]) (sp2 S1 p1 p2 h1 h2 h))
theorem ect1 (S : ES c m x mu news s) (hf : Ev G A env c m x mu news (.Name y np) (fun _ => .type id)) (p1 : isPlain e1 = true) (h1 : Ev G A env c m x mu news e1 f1) (h : ∀ t1 s', ES c m x mu news s' → wpAny G.M A (call (.type id) [f1 t1]) Q E s') :
    wpAny G.M A (eval (.Call (.Name y np) [e1] [] pos) env) Q E s := Call_Name rfl (hf s _ E S fun _ _ S1 => cwt p1 rfl (sp1 S1 p1 h1 h))
end
section
variable {Q E : Value → Shared → Prop} {o : Expr} {name : Str} {apos : Pos} {fn a C : Addr} {fs : List (Str × Value)} {pl : Sem Bool}
end
end
end

-- V5
section
open PySem PySem.W PyProof.Rows PySem.Spec PySem.Calls PyProof.V
theorem szl' {n : Nat} (h : n ≤ 100000) : n + 2 ≤ sizeLine := by rw [sizeLine_eq]; omega
theorem szl {n : Nat} (h : n ≤ 100000) : n ≤ sizeLine := by rw [sizeLine_eq]; omega
section
variable {G : Gl} {c : Cx} {n : Nat} {m : Str → Option Value} {x mu news : LedT} {s : Shared} {A : Around} {env : Env} {E : Value → Shared → Prop} {Q : Value → Shared → Prop}
theorem v_lAdd {a b : Addr} {oa ob : Obj} {vs ws : List Value} (S : ES c m x mu news s) (ha : (a, oa) ∈ mu ++ news) (Pa : LstP vs oa) (hb : (b, ob) ∈ mu ++ news) (Pb : LstP ws ob) (hz : vs.length + ws.length ≤ 100000)
    (h : ∀ D s', ES c m x mu ((D, lstO (vs ++ ws) 0) :: news) s' → Q (.ref D) s') : wpAny G.M A (binaryOp .Add (.ref a) (.ref b)) Q E s :=
  kmk_add_lit S.F S.N (S.lst ha Pa) (S.lst hb Pb) rfl (fun D h' F' N' hd => h D _ (S.grew F' N' hd)) (szl hz)
theorem v_lMul {a : Addr} {oa : Obj} {vs : List Value} {k : Int} {u : Tok} (S : ES c m x mu news s) (ha : (a, oa) ∈ mu ++ news) (Pa : LstP vs oa) (h0 : 0 ≤ k) (h1 : k ≤ 256) (hz : vs.length * k.toNat ≤ 256)
    (h : ∀ D s', ES c m x mu ((D, lstO (List.replicate k.toNat vs).flatten 0) :: news) s' → Q (.ref D) s') : wpAny G.M A (binaryOp .Mult (.ref a) (.int k u)) Q E s :=
  KMa.mul S.F S.N (S.lst ha Pa) (by omega) (by omega) hz rfl (fun D h' F' N' hd => h D _ (S.grew F' N' hd))
theorem v_lSlice {value slice : PySem.Expr} {a : Addr} {oa : Obj} {vs zs : List Value} {vl vu : Value} {lo hi : Option Int} (S : ES c m x mu news s) (ha : (a, oa) ∈ mu ++ news) (Pa : LstP vs oa) (pl : IsPart vl lo) (pu : IsPart vu hi) (e : (slicePick vs.toArray lo hi none).toList = zs)
    (hz : vs.length ≤ 100000) (h : ∀ D s', ES c m x mu ((D, lstO zs 0) :: news) s' → Q (.ref D) s')
    (hs : subscripted slice false (.ref a) (.ref s.heap.objs.size) = operate [.ref s.heap.objs.size, .ref a] (getItem (.ref a) (.ref s.heap.objs.size))) (ht : ∀ r, letTemporaryGo value (.ref a) r = pure ()) :
    wpAny G.M A (subscriptTail value slice (.ref a) (.ref s.heap.objs.size)) Q E { s with heap := s.heap.push { cls := .type "slice", data := .fields #[vl, vu, .none] } } :=
  kmk_slice_lit S.F S.N (S.lst ha Pa) pl pu e (fun D h' F' N' hd => h D _ (S.grew F' N' hd)) hs ht (by rw [List.size_toArray]; exact szl hz)
theorem v_bItem {value slice : PySem.Expr} {b : Array UInt8} {t ui : Tok} {i k : Int} (S : ES c m x mu news s) (h0 : 0 ≤ i) (hx : (KBw.bInts b)[i.toNat]? = some k) (hz : b.size ≤ 100000)
    (h : ∀ t' s', ES c m x mu news s' → Q (.int k t') s')
    (hs : subscripted slice false (.bytes b t) (.int i ui) = operate [.bytes b t, .int i ui] (getItem (.bytes b t) (.int i ui))) (ht : ∀ r, letTemporaryGo value (.bytes b t) r = pure ()) :
    wpAny G.M A (subscriptTail value slice (.bytes b t) (.int i ui)) Q E s := by
  have hl : i.toNat < (KBw.bInts b).length := (List.getElem?_eq_some_iff.mp hx).1
  have hl' := hl
  rw [KBw.ints_length] at hl'
  refine KBw.item_K rfl (by rw [KBw.ints_length]; omega) h0 (by omega) (fun t' k' _ _ => ?_) hs ht
  have : (KBw.bInts b).getD i.toNat 0 = k := by rw [List.getD_eq_getElem?_getD, hx]; rfl
  rw [this]
  exact h _ _ (S.tok _)
theorem v_bSlice {value slice : PySem.Expr} {b : Array UInt8} {t : Tok} {vl vu : Value} {lo hi : Option Int} (S : ES c m x mu news s) (pl : IsPart vl lo) (pu : IsPart vu hi) (hz : b.size ≤ 100000)
    (h : ∀ b' t' s', KBw.bInts b' = ((KBw.bInts b).drop (lo.elim 0 (clipAt b.size))).take (hi.elim b.size (clipAt b.size) - lo.elim 0 (clipAt b.size)) → ES c m x mu news s' → Q (.bytes b' t') s')
    (hs : subscripted slice false (.bytes b t) (.ref s.heap.objs.size) = operate [.ref s.heap.objs.size, .bytes b t] (getItem (.bytes b t) (.ref s.heap.objs.size))) (ht : ∀ r, letTemporaryGo value (.bytes b t) r = pure ()) :
    wpAny G.M A (subscriptTail value slice (.bytes b t) (.ref s.heap.objs.size)) Q E { s with heap := s.heap.push { cls := .type "slice", data := .fields #[vl, vu, .none] } } := by
  refine KBc.slice_K S.F S.N rfl pl pu (by rw [KBw.ints_length]; omega) (fun h' t' k F' N' e => h _ _ _ ?_ (S.heapTok F' N' S.nd)) hs ht
  rw [KBw.ints_length] at e
  exact e
theorem v_bMake {D : Addr} {o : Obj} {vs : List Value} {ns : List Int} (hA : A = c.A) (S : ES c m x mu news s) (hd : (D, o) ∈ mu ++ news) (P : LstP vs o) (hi : IntsAre vs ns) (hr : ∀ k ∈ ns, 0 ≤ k ∧ k < 256) (hz : ns.length ≤ 100000)
    (h : ∀ b t' s', KBw.bInts b = ns → b.size = ns.length → ES c m x mu news s' → Q (.bytes b t') s') : wpAny G.M A (call (.type "bytes") [.ref D]) Q E s := by
  subst hA
  refine KBa.make_K S.F S.N rfl (S.lst hd P) hi hr (by omega) fun h' t' k F' N' _ => ?_
  have e := KBa.ints_make (ns := ns) hr
  exact h _ _ _ e (by rw [← KBw.ints_length, e]) (S.heapTok F' N' S.nd)
theorem v_min {l : Addr} {o : Obj} {vs : List Value} {ns : List Int} (hA : A = c.A) (S : ES c m x mu news s) (hl : (l, o) ∈ mu ++ news) (P : LstP vs o) (hi : IntsAre vs ns) (hne : 0 < ns.length)
    (h : ∀ M t s', M ∈ ns → (∀ a ∈ ns, M ≤ a) → ES c m x mu news s' → Q (.int M t) s') : wpAny G.M A (call (.builtin "min") [.ref l]) Q E s := by
  subst hA
  exact min_list_N rfl S.F S.N (S.lst hl P) hi hne fun h' M t tk F' N' a b => h M t _ a b (S.heapTok F' N' S.nd)
theorem v_max {l : Addr} {o : Obj} {vs : List Value} {ns : List Int} (hA : A = c.A) (S : ES c m x mu news s) (hl : (l, o) ∈ mu ++ news) (P : LstP vs o) (hi : IntsAre vs ns) (hne : 0 < ns.length)
    (h : ∀ M t s', M ∈ ns → (∀ a ∈ ns, a ≤ M) → ES c m x mu news s' → Q (.int M t) s') : wpAny G.M A (call (.builtin "max") [.ref l]) Q E s := by
  subst hA
  exact max_list_N rfl S.F S.N (S.lst hl P) hi hne fun h' M t tk F' N' a b => h M t _ a b (S.heapTok F' N' S.nd)
theorem updAt {l : Addr} : ∀ (l' r : LedT) {o o' : Obj}, (∀ p ∈ l', p.1 ≠ l) → (∀ p ∈ r, p.1 ≠ l) → Upd l o o' (l' ++ (l, o) :: r) (l' ++ (l, o') :: r) := by
  intro l'
  induction l' with
  | nil => intro r o o' _ hr; exact .head hr
  | cons p l' ih => intro r o o' hl hr; exact .tail (hl p (.head _)) (ih r (fun q hq => hl q (.tail _ hq)) hr)
theorem v_pop0 {l : Addr} {vs : List Value} {nn : Nat} {g : Obj → LedT} {v : Value} {u : Tok} (S : ES c m x mu news s) (U : UpM l (lstO (v :: vs) nn) mu g) (hz : vs.length ≤ 10000)
    (h : ∀ s', ES c m x (g (lstO vs (nn + 1))) news s' → Q v s') : wpAny G.M A (call (.builtin "list.pop") [.ref l, .int 0 u]) Q E s := by
  obtain ⟨pre, post, rfl, hg⟩ := U.split
  have ⟨a1, a2⟩ := S.apart
  refine kl_popAt (its := (v :: vs).toArray) (n := nn) (k := 0) (p := []) (q := vs) (y := v) S.F (news := (x ++ pre) ++ (l, lstO (v :: vs) nn) :: (post ++ news)) (news' := (x ++ pre) ++ (l, lstO vs (nn + 1)) :: (post ++ news)) (fun p hq => S.N p (by simpa [List.append_assoc] using hq)) (by decide) ?_ rfl (updAt _ _ a1 a2) (szl (by simp; omega)) fun h' F' N' => ?_
  · simp [seqIndex?]
  · have S2 := S.upd (o' := lstO vs (nn + 1)) F' (by simpa [List.append_assoc] using N')
    rw [← hg] at S2
    exact h _ S2
theorem v_methList {l : Addr} {vs : List Value} {nn : Nat} {name : Str} {id : String} {pl : Sem Bool} {Q : Value × List Value → Shared → Prop} (S : ES c m x mu news s) (hl : (l, lstO vs nn) ∈ mu ++ news) (slot : Slot "list" name id) (hty : typeOf (.builtin id) = pure (.type "method_descriptor"))
    (h : Q (.builtin id, [.ref l]) s) : wpAny G.M A (getMethod (.ref l) name pl) Q E s := kl_method S.N (S.total hl) slot hty h
theorem v_split0 {y : Str} {t : Tok} (S : ES c m x mu news s) (hz : y.length ≤ 100000) (h : ∀ D vs s', StrsAre vs (Txt.words y) → ES c m x mu ((D, lstO vs 0) :: news) s' → Q (.ref D) s') : wpAny G.M A (call (.builtin "str.split") [.str y t]) Q E s :=
  KSpl.split0 S.F S.N (fun D l h' k e hs F' N' hd => h D _ _ (e ▸ hs) (S.grew F' N' hd)) (szl' hz)
theorem v_neg {i : Int} {t : Tok} (S : ES c m x mu news s) (h : ∀ t s', ES c m x mu news s' → Q (.int (-i) t) s') : wpAny G.M A (unaryOp .USub (.int i t)) Q E s := neg_int (h _ _ (S.tok _))
theorem v_rshift {a k : Int} {t u : Tok} (S : ES c m x mu news s) (h0 : 0 ≤ k) (h : ∀ t s', ES c m x mu news s' → Q (.int (a.fdiv (2 ^ k.toNat)) t) s') : wpAny G.M A (binaryOp .RShift (.int a t) (.int k u)) Q E s := rshift_int h0 (h _ _ (S.tok _))
theorem v_and {a b : Int} {t u : Tok} (S : ES c m x mu news s) (h : ∀ t s', ES c m x mu news s' → Q (.int (Builtin.bitAnd a b) t) s') : wpAny G.M A (binaryOp .BitAnd (.int a t) (.int b u)) Q E s := and_int (h _ _ (S.tok _))
end
section
variable {G : Gl} {c : Cx} {n : Nat} {m : Str → Option Value} {x mu news : LedT} {s : Shared} {R R' : Tab} {ns : List (Str × NameKind)}
theorem ES.toMu (S : ES c m x mu news s) : ES c m [] (x ++ mu) news s := ⟨S.F, by simpa [List.append_assoc] using S.N, by simpa [List.append_assoc] using S.nd, S.hs⟩
theorem ES.ofMu (S : ES c m [] (x ++ mu) news s) : ES c m x mu news s := ⟨S.F, by simpa [List.append_assoc] using S.N, by simpa [List.append_assoc] using S.nd, S.hs⟩
theorem v_storeC {xc : LedT} {y : Str} {v : Value} {k : NameKind} {Q : Unit → Shared → Prop} {E : Value → Shared → Prop} (O : Ok G c n) (T : FT G c ns m xc R) (S : ES c m (xc ++ x) mu news s) (hU : SetAt y v R R') (hk : (y, k) ∈ ns) (hl : k = .cell)
    (h : ∀ xc' s', FT G c ns m xc' R' → ES c m (xc' ++ x) mu news s' → Q () s') : wpAny G.M c.A (storeName c.env y v) Q E s := by
  subst hl
  have hk := T.hns ▸ hk
  obtain ⟨pre, o0, post, rfl, rfl⟩ := hU.split
  have hlk := lookup_mem T.nd hk
  have hRnd : ((pre ++ (y, o0) :: post).map (·.1)).Nodup := by rw [T.len]; exact T.nd
  obtain ⟨a, ob, hcl, hmem, hcell⟩ := T.cel y o0 (by simp) _ hk rfl
  obtain ⟨p1, p2, rfl⟩ := List.append_of_mem hmem
  have hN := S.N (a, ob) (by simp)
  refine wpAny_storeName_cell O.hk hlk hcl ⟨ob, hN.1, hcell⟩ fun h' hv hs => ?_
  obtain ⟨o', ho', hd'⟩ := hv
  have S1 : ES c m [] (p1 ++ (a, ob) :: (p2 ++ x ++ mu)) news s := by
    have := S.toMu
    simpa [List.append_assoc] using this
  have S2 : ES c m ((p1 ++ (a, o') :: p2) ++ x) mu news { s with heap := h' } := by
    refine ES.ofMu ?_
    have := ES.upd' S1 ho' hs
    simpa [List.append_assoc] using this
  refine h _ _ ⟨T.hns, ?_, T.nd, fun z u hz j hj e => ?_, fun z u hz j hj e => ?_, fun z u hz j hj h1 h2 => ?_, T.clx, T.dbg⟩ S2
  · rw [← T.len]; simp
  · subst e
    have hzy : z ≠ y := by rintro rfl; have := eq_of_mem_nd T.nd hk hj; cases this
    refine T.loc z u ?_ _ hj rfl
    simp only [List.mem_append, List.mem_cons] at hz ⊢
    rcases hz with hz | hz | hz
    · exact .inl hz
    · cases hz; exact absurd rfl hzy
    · exact .inr (.inr hz)
  · subst e
    by_cases hzy : z = y
    · subst hzy
      have hnd' : ((pre ++ (z, some v) :: post).map (·.1)).Nodup := by simpa using hRnd
      obtain rfl := eq_of_mem_nd hnd' hz (by simp : (z, some v) ∈ pre ++ (z, some v) :: post)
      exact ⟨a, o', hcl, by simp, hd'⟩
    · obtain ⟨a2, o2, c1, c2, c3⟩ := T.cel z u (by
        simp only [List.mem_append, List.mem_cons] at hz ⊢
        rcases hz with hz | hz | hz
        · exact .inl hz
        · cases hz; exact absurd rfl hzy
        · exact .inr (.inr hz)) _ hj rfl
      refine ⟨a2, o2, c1, ?_, c3⟩
      have hne : a2 ≠ a := fun e => hzy (T.clx z y a (e ▸ c1) hcl)
      simp only [List.mem_append, List.mem_cons] at c2 ⊢
      rcases c2 with c2 | c2 | c2
      · exact .inl c2
      · cases c2; exact absurd rfl hne
      · exact .inr (.inr c2)
  · have hzy : z ≠ y := by rintro rfl; exact h2 (eq_of_mem_nd T.nd hj hk)
    refine T.glo z u ?_ _ hj h1 h2
    simp only [List.mem_append, List.mem_cons] at hz ⊢
    rcases hz with hz | hz | hz
    · exact .inl hz
    · cases hz; exact absurd rfl hzy
    · exact .inr (.inr hz)
end
theorem v_expr {G : Gl} {c : Cx} {n : Nat} {M : Model} {A : Around} {E : Value → Shared → Prop} {s : Shared} {rest : List Stmt} {Q : Flow → Shared → Prop} {e : Expr} {pos : Pos} (O : Ok G c n) (h : wpAny M A (eval e c.env) (fun v s₂ => v = .none ∧ wpAny M A (execs rest c.env) Q E s₂) E s)
    (hs : swapsWith e none pos.line c.env = pure false) : wpAny M A (execs (.Expr e pos :: rest) c.env) Q E s :=
  v_cons (wpAny_Expr (wpAny_mono h (fun v s' h => by obtain ⟨rfl, h⟩ := h; exact h) fun _ _ e => e) (by
    have h2 : (c.sc.kind == ScopeKind.module) = false := by rw [O.hk]; rfl
    exact Bool.and_eq_false_iff.mpr (.inl h2)) hs)
end

-- V6
section
open PySem PySem.W PyProof.Rows PySem.Spec PySem.Calls PyProof.V
theorem bytes_len_lookup : typeLookup (.type "bytes") "__len__" = pure (some (.builtin "bytes.__len__")) := by rw [typeLookup_type, builtinLookup_eq_fast]; kernel_rfl
noncomputable def OctAt (b : Array UInt8) (i : Nat) (v : Value) : Prop := ∃ c u, b[i]? = some c ∧ v = .int (c.toNat : Int) u
section
variable {prog : Program} {w : World} {A : Around} {E : Value → Shared → Prop} {s : Shared}
theorem extend_bytes {R : Result → Shared → Prop} (hh : A.handled = none) (b : Array UInt8) (t : Tok) (S : Addr) (res : Value) (c₀ : Nat) (hS : s.heap.get? S = some { cls := .type "list", data := .seq #[] c₀ })
    (hR : ∀ h' tk acc' c', (∀ b o, b ≠ S → s.heap.get? b = some o → h'.get? b = some o) → h'.get? S = some { cls := .type "list", dict := none, data := .seq acc' c', slots := #[] } →
      ItemsOf (OctAt b) acc' b.size → R (.ok (.ret res)) { s with heap := h', toks := tk }) (hn : b.size ≤ sizeLine) :
    wpAny (model prog w) A.in1 (Builtin.List.listExtendWith (.ref S) (.bytes b t) res)
      (fun fin s' => match fin with | .done f => R (.ok f) s' | .again c' => c'.quiet = true ∧ codeAny (model prog w) A c' R s') (fun e s' => R (.error e) s') s := by
  have hSI : S ≠ s.heap.objs.size := Nat.ne_of_lt (Heap.lt_size hS)
  have hSf : S ∉ [s.heap.objs.size] := fun hm => hSI (List.mem_singleton.mp hm)
  unfold Builtin.List.listExtendWith
  refine wpAny_bind (wpAny_typeOf (T := "bytes") (v := .bytes b t) rfl ?_)
  have h1 : Builtin.List.listSameRef (.ref S) (.bytes b t) = false := rfl
  have h2 : (Value.type "bytes" == Value.type "list") = false := by decide
  have h3 : (Value.type "bytes" == Value.type "tuple") = false := by decide
  simp only [h1, h2, h3, Bool.or_false, Bool.false_eq_true, if_false]
  refine wpAny_bind (KBw.pyIter_bytes ?_)
  refine wpAny_bind (wpAny_holding ?_)
  unfold Builtin.List.listLengthHint
  refine wpAny_bind (wpAny_specialOf (T := "bytes") (v := .bytes b t) rfl bytes_len_lookup ?_)
  wp_delta
  refine wpAny_bind (wpAny_isInstance (T := "bytes") (v := .bytes b t) (b := true) rfl (by rw [isSubtype_type]; kernel_rfl) ?_)
  show wpAny _ _ (typeOf (Value.bytes b t) >>= _) _ _ _
  refine wpAny_bind (wpAny_typeOf (T := "bytes") (v := .bytes b t) rfl ?_)
  refine wpAny_pure ?_
  rw [if_neg (by decide)]
  refine wpAny_pure ⟨plainId_quiet F.plain_extend_loop _, codeAny_extend_loopS (P := OctAt b) (KBw.walks (A := A.in1) hh s.heap.objs.size b t).toS hn _ hSf _ b.size 0 _ _ _ rfl (Nat.zero_le _) ⟨_, Heap.get?_push_size _ rfl, rfl, rfl⟩ (Heap.get?_push_of_some _ hS) (ItemsOf.nil _) fun s' acc' c' hm hS' hacc => ?_⟩
  rw [Moved.eq_with hm]
  refine hR s'.heap s'.toks acc' c' (fun b ob hb e => hm.heap b ob (fun hmem => ?_) (Heap.get?_push_of_some _ e)) hS' hacc
  rcases List.mem_cons.mp hmem with e' | hmem
  · exact hb e'
  · exact absurd (Heap.lt_size e) (by rw [List.mem_singleton.mp hmem]; exact Nat.lt_irrefl _)
theorem list_init_bytes {R : Result → Shared → Prop} (hh : A.handled = none) (b : Array UInt8) (t : Tok) (S : Addr) (hS : s.heap.get? S = some { cls := .type "list", data := .seq #[] })
    (hR : ∀ h' tk acc' c', (∀ b o, b ≠ S → s.heap.get? b = some o → h'.get? b = some o) → h'.get? S = some { cls := .type "list", dict := none, data := .seq acc' c', slots := #[] } →
      ItemsOf (OctAt b) acc' b.size → R (.ok (.ret .none)) { s with heap := h', toks := tk }) (hn : b.size ≤ sizeLine) :
    wpAny (model prog w) A.in1 (Builtin.«list.__init__» ⟨[.ref S, .bytes b t], []⟩)
      (fun fin s' => match fin with | .done f => R (.ok f) s' | .again c' => c'.quiet = true ∧ codeAny (model prog w) A c' R s') (fun e s' => R (.error e) s') s := by
  show wpAny _ _ (do let old ← Builtin.List.listItems (.ref S); Builtin.List.listUpdate (.ref S) (fun _ => #[]); letGo old.toList.reverse; Builtin.List.listExtendWith (.ref S) (.bytes b t) .none) _ _ s
  refine wpAny_bind ?_
  unfold Builtin.List.listItems
  refine wpAny_bind (wpAny_seqItems hS rfl (wpAny_pure ?_))
  show wpAny _ _ (updateSeq S (fun _ => #[]) >>= fun _ => letGo (#[] : Array Value).toList.reverse >>= fun _ => Builtin.List.listExtendWith (.ref S) (.bytes b t) .none) _ _ s
  refine wpAny_bind (wpAny_updateSeq hS rfl ?_)
  have hS₂ := Heap.get?_update_self (Obj.mapSeq (fun _ => (#[] : Array Value))) hS rfl
  have oth : ∀ b o, b ≠ S → s.heap.get? b = some o → (s.heap.update S (Obj.mapSeq (fun _ => (#[] : Array Value)))).get? b = some o :=
    fun b o hb e => (Heap.get?_update_other _ _ (Ne.symm hb)).trans e
  refine wpAny_bind (wpAny_letGo ?_)
  refine extend_bytes (hn := hn) hh b t S .none _ hS₂ fun h' tk acc' c' hk hS' hacc => ?_
  exact hR h' tk acc' c' (fun b o hb e => hk b o hb (oth b o hb e)) hS' hacc
theorem call_list_bytes {Q : Value → Shared → Prop} (hh : A.handled = none) (b : Array UInt8) (t : Tok)
    (hQ : ∀ h' tk acc' c', (∀ b o, s.heap.get? b = some o → h'.get? b = some o) →
      h'.get? s.heap.objs.size = some { cls := .type "list", dict := none, data := .seq acc' c', slots := #[] } → ItemsOf (OctAt b) acc' b.size → Q (.ref s.heap.objs.size) { s with heap := h', toks := tk }) (hn : b.size ≤ sizeLine) :
    wpAny (model prog w) A (call (.type "list") [.bytes b t]) Q E s := by
  refine callType_codes (Q₁ := fun obj s₁ => obj = .ref s.heap.objs.size ∧ s₁ = { s with heap := s.heap.push { cls := .type "list", data := .seq #[] } }) F.called_list (F.typeCall_list_1 _) F.entry_list_init
    (code_list_new _ ⟨rfl, rfl⟩) fun obj s₁ h₁ => ?_
  obtain ⟨rfl, rfl⟩ := h₁
  have hS : (s.heap.push { cls := .type "list", data := .seq #[] }).get? s.heap.objs.size = some { cls := .type "list", data := .seq #[] } := Heap.get?_push_size _ rfl
  refine ⟨⟨_, hS, rfl⟩, F.args_list_init_2 _ _, list_init_bytes (A := A.in1) (hn := hn) hh b t _ hS fun h' tk acc' c' hk hS' hacc => ?_⟩
  exact ⟨rfl, hQ h' tk acc' c' (fun b o e => hk b o (Nat.ne_of_lt (Heap.lt_size e)) (Heap.get?_push_of_some _ e)) hS' hacc⟩
end
section
variable {G : Gl} {c : Cx} {m : Str → Option Value} {x mu news : LedT} {s : Shared} {A : Around} {E : Value → Shared → Prop} {Q : Value → Shared → Prop}
theorem ints_of_get : ∀ {vs : List Value} {ns : List Int}, vs.length = ns.length → (∀ (j : Nat) (v : Value), vs[j]? = some v → ∃ (k : Int) (t : Tok), ns[j]? = some k ∧ v = Value.int k t) → IntsAre vs ns
  | [], [], _, _ => IntsAre.nil
  | v :: vs, n :: ns, hl, h => by
    obtain ⟨k, t, e, rfl⟩ := h 0 v rfl
    simp at e
    subst e
    exact IntsAre.cons _ _ (ints_of_get (by simpa using hl) fun j v hv => by simpa using h (j + 1) v (by simpa using hv))
theorem v_listB {b : Array UInt8} {t : Tok} (hA : A = c.A) (S : ES c m x mu news s) (hz : b.size ≤ 100000) (h : ∀ D vs k s', IntsAre vs (KBw.bInts b) → ES c m x mu ((D, lstO vs k) :: news) s' → Q (.ref D) s') : wpAny G.M A (call (.type "list") [.bytes b t]) Q E s := by
  subst hA
  refine call_list_bytes rfl b t (fun h' tk acc' c' hk hS' hacc => ?_) (szl hz)
  have hN : News c.h₀ c.L h' ((s.heap.objs.size, lstO acc'.toList c') :: (x ++ (mu ++ news))) := by
    intro p hp
    rcases List.mem_cons.mp hp with rfl | hp
    · refine ⟨by simpa using hS', ?_, ?_⟩
      · intro e
        obtain ⟨oL, es, ep, hL, r⟩ := S.F.ns
        have := Heap.lt_size hL
        rw [← e] at this
        exact Nat.lt_irrefl _ this
      · cases e : c.h₀.get? s.heap.objs.size with
        | none => rfl
        | some o => exact absurd (Heap.lt_size (S.F.keep _ _ e)) (Nat.lt_irrefl _)
    · exact ⟨hk _ _ (S.N p hp).1, (S.N p hp).2⟩
  refine h _ acc'.toList c' _ (ints_of_get (by simp [hacc.1, KBw.ints_length]) fun j v hv => ?_) (S.grew (S.F.grownK hk) hN S.low)
  obtain ⟨cc, u, hc, rfl⟩ := hacc.2 j v (by simpa using hv)
  exact ⟨_, u, KBw.ints_get hc, rfl⟩
theorem v_ninT {l : Addr} {vs : List Value} {ys : List Str} {k : Str} {t : Tok} (r : Bool) (S : ES c m x mu news s) (hl : (l, tupO vs) ∈ mu ++ news) (hi : StrsAre vs ys) (hr : (!(ys.any (· == k))) = r) (h : Q (.bool r) s) :
    wpAny G.M A (compareOp .NotIn (.str k t) (.ref l)) Q E s := notin_tuple_strs (S.tup hl) hi (hr ▸ h)
theorem v_inL {l : Addr} {o : Obj} {vs : List Value} {ys : List Str} {k : Str} {t : Tok} (S : ES c m x mu news s) (hl : (l, o) ∈ mu ++ news) (P : LstP vs o) (hi : StrsAre vs ys) (h : Q (.bool (ys.any (· == k))) s) :
    wpAny G.M A (compareOp .In (.str k t) (.ref l)) Q E s := in_list_strs (S.lst hl P) hi h
theorem v_methPop {l : Addr} {vs : List Value} {nn : Nat} {pl : Sem Bool} {Q : Value × List Value → Shared → Prop} (S : ES c m x mu news s) (hl : (l, lstO vs nn) ∈ mu ++ news) (h : Q (.builtin "list.pop", [.ref l]) s) : wpAny G.M A (getMethod (.ref l) "pop" pl) Q E s :=
  v_methList S hl F.slot_list_pop F.type_list_pop h
end
end

-- V7
section
open PySem PySem.W PyProof.Rows PySem.Spec PySem.Calls PyProof.V
section
variable {G : Gl} {c : Cx} {n k : Nat} {m : Str → Option Value} {x mu news : LedT} {s : Shared} {A : Around} {env : Env} {E : Value → Shared → Prop} {Q : Value → Shared → Prop} {f : Addr} {vs : List Value}
theorem pick_nat {vs : List Value} {a b : Nat} (hb : b ≤ vs.length) (hab : a ≤ b) : kms_pick vs (some (a : Int)) (some (b : Int)) = (vs.drop a).take (b - a) := by
  unfold kms_pick kms_lo kms_hi
  simp only [show ¬ ((a : Int) < 0) by omega, show ¬ ((b : Int) < 0) by omega, if_false, Int.toNat_natCast]
  rw [Nat.min_eq_left (by omega), Nat.min_eq_left (by omega)]
theorem ite_decK {P : Prop} [Decidable P] {a b : Prop} (h1 : P → a) (h2 : ¬ P → b) : AtLoop (if decide P = true then a else b) := ite_dec h1 h2
theorem v_range2 {a b : Int} {t u : Tok} (S : ES c m x mu news s) (h : ∀ l t u v s', ES c m x mu ((l, rngO a b 1 t u v) :: news) s' → Q (.ref l) s') : wpAny G.M A (call (.type "range") [.int a t, .int b u]) Q E s :=
  call_range_2 (h _ _ _ _ _ (S.pushTok _ rfl _))
theorem v_split1 {y z : Str} {t u : Tok} (S : ES c m x mu news s) (hy : (z.length == 0) = false) (hz : y.length ≤ 100000) (h : ∀ D vs s', StrsAre vs (Txt.split y z) → ES c m x mu ((D, lstO vs 0) :: news) s' → Q (.ref D) s') : wpAny G.M A (call (.builtin "str.split") [.str y t, .str z u]) Q E s :=
  KSpl.split1 S.F S.N hy (fun D l h' k e hs F' N' hd => h D _ _ (e ▸ hs) (S.grew F' N' hd)) (szl' hz)
theorem v_chr {i : Int} {t : Tok} (S : ES c m x mu news s) (h0 : 0 ≤ i) (h1 : i ≤ 1114111) (h : ∀ t s', ES c m x mu news s' → Q (.str ⟨#[i.toNat]⟩ t) s') : wpAny G.M A (call (.builtin "chr") [.int i t]) Q E s :=
  P.chr_of_int (by rw [Bool.or_eq_false_iff]; exact ⟨decide_eq_false (by omega), decide_eq_false (by omega)⟩) (h _ _ (S.tok _))
theorem v_lower {y : Str} {t : Tok} (S : ES c m x mu news s) (hz : y.length ≤ 5592405) (h : ∀ t s', ES c m x mu news s' → Q (.str (Txt.lower y) t) s') : wpAny G.M A (call (.builtin "str.lower") [.str y t]) Q E s :=
  SCL.lower hz fun _ => h _ _ (S.tok _)
theorem v_intS {y : Str} {i : Int} {t : Tok} (S : ES c m x mu news s) (hn : PySem.intText? y = some i) (hl : y.length ≤ 640) (h : ∀ t s', ES c m x mu news s' → Q (.int i t) s') : wpAny G.M A (call (.type "int") [.str y t]) Q E s :=
  KIN.call_text hn hl (h _ _ (S.tok _))
theorem v_join {y : Str} {t : Tok} {D : Addr} {o : Obj} {ys : List Str} (S : ES c m x mu news s) (hl : (D, o) ∈ mu ++ news) (P : LstP vs o) (hi : StrsAre vs ys) (hok : (ys.map (·.length)).sum + ys.length * y.length ≤ 16777216)
    (h : ∀ t s', ES c m x mu news s' → Q (.str (Txt.join y ys) t) s') : wpAny G.M A (call (.builtin "str.join") [.str y t, .ref D]) Q E s :=
  join_list (S.lst hl P) (by simpa using hi) hok fun t' k => h _ _ (S.tok k)
theorem v_sItem {value slice : Expr} {y : Str} {i : Int} {t u : Tok} (S : ES c m x mu news s) (h0 : 0 ≤ i) (h1 : i < y.length) (hz : y.length ≤ 1000000) (h : ∀ t s', ES c m x mu news s' → Q (.str (Txt.item y i) t) s')
    (hs : subscripted slice false (.str y t) (.int i u) = operate [.str y t, .int i u] (getItem (.str y t) (.int i u))) (hg : ∀ r, letTemporaryGo value (.str y t) r = pure ()) : wpAny G.M A (subscriptTail value slice (.str y t) (.int i u)) Q E s :=
  item_str (by unfold fitsSsize; simp; omega) (by omega) h1 (fun _ => h _ _ (S.tok _)) hs hg
theorem v_sSliceNs {value slice : Expr} {y : Str} {t : Tok} {j : Int} {uj : Tok} (S : ES c m x mu news s) (hz : y.length ≤ 100000) (h : ∀ t' s', ES c m x mu news s' → Q (.str (Txt.slice y none (some j)) t') s')
    (hs : subscripted slice false (.str y t) (.ref s.heap.objs.size) = operate [.ref s.heap.objs.size, .str y t] (getItem (.str y t) (.ref s.heap.objs.size))) (ht : ∀ r, letTemporaryGo value (.str y t) r = pure ()) :
    wpAny G.M A (subscriptTail value slice (.str y t) (.ref s.heap.objs.size)) Q E { s with heap := s.heap.push { cls := .type "slice", data := .fields #[.none, .int j uj, .none] } } :=
  slice_strN_ns S.F S.N (fun h' t' k F' N' => h _ _ (S.heapTok F' N' S.nd)) hs ht (szl hz)
theorem idx_ne {k : Str} : ∀ {ns : List Str} {j : Nat}, j < ns.idxOf k → ∀ (h2 : j < ns.length), (ns[j] == k) = false
  | [], _, h, _ => by simp at h
  | a :: r, j, h, h2 => by
    rw [List.idxOf_cons] at h
    cases e : a == k with
    | true => rw [e] at h; simp at h
    | false =>
      rw [e] at h
      cases j with
      | zero => exact e
      | succ j => exact idx_ne (ns := r) (by simpa using h) (by simpa using h2)
theorem v_index {l : Addr} {o : Obj} {ys : List Str} {key : Str} {t : Tok} (S : ES c m x mu news s) (hl : (l, o) ∈ mu ++ news) (P : LstP vs o) (hi : StrsAre vs ys) (hk : key ∈ ys) (hz : ys.length ≤ 1000000) (h : ∀ t s', ES c m x mu news s' → Q (.int (ys.idxOf key : Nat) t) s') :
    wpAny G.M A (call (.builtin "list.index") [.ref l, .str key t]) Q E s := by
  have at_ : ∀ {vs : List Value} {ys : List Str}, StrsAre vs ys → ∀ (j : Nat) (h1 : j < vs.length) (h2 : j < ys.length), isStrOf key vs[j] = (ys[j] == key) := by
    intro vs ys hi
    induction hi with
    | nil => intro j h1; cases h1
    | cons n t h ih =>
      intro j h1 h2
      cases j with
      | zero => rfl
      | succ j => exact ih j (by simpa using h1) (by simpa using h2)
  obtain ⟨⟨cls, dd, data, sl⟩, ho, hc, n, hd⟩ := id (S.lst hl P)
  simp only at hc hd
  subst hc hd
  have hlen := hi.length
  have hj : ys.idxOf key < ys.length := List.idxOf_lt_length_iff.mpr hk
  refine call_meets PySem.F.slot_list_index ⟨_, ho, rfl⟩ PySem.F.entry_list_index (PySem.F.args_list_index_2 _ _)
    (PySem.SeqAt.list_indexAt l vs.toArray n dd sl (.str key t) (isStrOf key) (ys.idxOf key) (by simpa [hlen] using hj) (by omega) ?_ ?_) ⟨ho, fun y hy => (eq_isStrOf key t hi y (by simpa using hy)).at _ _, h _ _ (S.tok _)⟩
  · show isStrOf key vs[ys.idxOf key] = true
    rw [at_ hi _ (by omega) hj]
    simpa using List.getElem_idxOf hj
  · intro j hjs hlt
    show isStrOf key vs[j] = false
    rw [at_ hi j (by simpa using hjs) (by omega)]
    exact idx_ne hlt _
theorem strs_get {vs : List Value} {ys : List Str} (h : StrsAre vs ys) : ∀ {i : Nat} {v : Value}, vs[i]? = some v → ∃ y t, ys[i]? = some y ∧ v = .str y t := by
  induction h with
  | nil => intro i v h; simp at h
  | cons n t _ ih =>
    intro i v h
    cases i with
    | zero => simp at h; subst h; exact ⟨_, _, rfl, rfl⟩
    | succ i => exact ih (by simpa using h)
theorem strs_get' {vs : List Value} {ys : List Str} (h : StrsAre vs ys) : ∀ {i : Nat} {y : Str}, ys[i]? = some y → ∃ t, vs[i]? = some (.str y t) := by
  induction h with
  | nil => intro i v h; simp at h
  | cons n t _ ih =>
    intro i v h
    cases i with
    | zero => simp at h; subst h; exact ⟨_, rfl⟩
    | succ i => exact ih (by simpa using h)
theorem strs_snoc {vs : List Value} {ys : List Str} {y : Str} {t : Tok} (h : StrsAre vs ys) : StrsAre (vs ++ [.str y t]) (ys ++ [y]) := by
  induction h with
  | nil => exact .cons _ _ .nil
  | cons n t _ ih => exact .cons _ _ ih
theorem strs_app {vs ws : List Value} {ys zs : List Str} (h : StrsAre vs ys) (h2 : StrsAre ws zs) : StrsAre (vs ++ ws) (ys ++ zs) := by
  induction h with
  | nil => exact h2
  | cons n t _ ih => exact .cons _ _ ih
noncomputable def WordsAt (D : Addr) (ys : List Str) (news : LedT) : Prop := ∃ vs o, (D, o) ∈ news ∧ LstP vs o ∧ StrsAre vs ys
theorem WordsAt.gr {D : Addr} {ys : List Str} {l l' : LedT} (g : Gr l l') (h : WordsAt D ys l) : WordsAt D ys l' := by obtain ⟨vs, o, a, b, c⟩ := h; exact ⟨vs, o, g.mem a, b, c⟩
theorem strs_set {vs : List Value} {ys : List Str} (h : StrsAre vs ys) : ∀ (i : Nat) (y : Str) (t : Tok), StrsAre (vs.set i (.str y t)) (ys.set i y) := by
  induction h with
  | nil => intro i y t; exact .nil
  | cons n t _ ih =>
    intro i y u
    cases i with
    | zero => exact .cons _ _ (by assumption)
    | succ i => exact .cons _ _ (ih i y u)
theorem strs_rep {y : Str} {t : Tok} : ∀ n, StrsAre (List.replicate n (.str y t)) (List.replicate n y)
  | 0 => .nil
  | n + 1 => .cons _ _ (strs_rep n)
theorem strs_take {vs : List Value} {ys : List Str} (h : StrsAre vs ys) : ∀ i, StrsAre (vs.take i) (ys.take i) := by
  induction h with
  | nil => intro i; simp; exact .nil
  | cons n t _ ih =>
    intro i
    cases i with
    | zero => exact .nil
    | succ i => exact .cons _ _ (ih i)
theorem strs_drop {vs : List Value} {ys : List Str} (h : StrsAre vs ys) : ∀ i, StrsAre (vs.drop i) (ys.drop i) := by
  induction h with
  | nil => intro i; simp; exact .nil
  | cons n t hr ih =>
    intro i
    cases i with
    | zero => exact .cons _ _ hr
    | succ i => exact ih i
end
end

-- V8
section
open PySem PySem.W PyProof.Rows PySem.Spec PySem.Calls PyProof.V
section
variable {prog : Program} {w : World} {A : Around} {E : Value → Shared → Prop} {s : Shared} {d : Addr} {o : Obj} {es : Array DictEntry} {ep : Nat}
theorem meets_lenO (hd : (d == sysModules) = false) : MeetsIn prog w (Builtin.«dict.__len__» ⟨[.ref d], []⟩) (fun _ R s => ∃ o es ep, s.heap.get? d = some o ∧ o.data = .dict es ep ∧ R (.ok (.ret (.int es.size s.toks))) { s with toks := s.toks + 1 }) :=
  .of_wp fun A R s ⟨o, es, ep, ho, hdat, h⟩ => by
    show wpAny _ _ (dictSize d >>= _) _ _ s
    unfold dictSize
    refine wpAny_bind (wpAny_bind (wpAny_dictEntries ho hdat (wpAny_pure ?_)))
    show wpAny _ _ (Builtin.Dict.pendingCount d >>= _) _ _ s
    refine wpAny_bind (wpAny_pendingCount_other hd ?_)
    refine wpAny_ret_mkInt ?_
    rw [Nat.add_zero]; exact h
theorem len_bodyO {Q : Value → Shared → Prop} (hd : (d == sysModules) = false) (ho : s.heap.get? d = some o) (hc : o.ExactDict) (hdat : o.data = .dict es ep) (hfit : (es.size : Int) < 2 ^ 63)
    (h : Q (.int es.size (s.toks + 1)) { s with toks := s.toks + 1 + 1 }) : wpAny (model prog w) A (Builtin.«len» ⟨[.ref d], []⟩) (fun fin s' => ∃ r, fin = .done (.ret r) ∧ Q r s') E s := by
  have hT : s.TypeIs (.ref d) "dict" := ⟨o, ho, hc.1⟩
  unfold Builtin.«len»
  refine wpAny_bind (m := oneArg "len" _) (wpAny_pure ?_)
  refine wpAny_bind (m := callSpecial? (.ref d) (Str.ofString "__len__")) (wpAny_callSpecial?_slot (name := Str.ofString "__len__") hT F.slot_dict_len
    (call_meetsIn F.slot_dict_len hT F.entry_dict_len (F.args_dict_len_1 _) (meets_lenO hd) ⟨o, es, ep, ho, hdat, ?_⟩))
  show wpAny _ _ _ _ _ { s with toks := s.toks + 1 }
  refine wpAny_bind (wpAny_holding (wpAny_pure ?_))
  refine wpAny_bind (wpAny_letGo ?_)
  show wpAny _ _ (if ((es.size : Nat) : Int) < 0 then _ else _) _ _ _
  rw [if_neg (by omega)]
  show wpAny _ _ (if ((es.size : Nat) : Int) ≥ 2 ^ 63 then _ else _) _ _ _
  rw [if_neg (by omega)]
  exact wpAny_bind (wpAny_mkInt (wpAny_pure ⟨_, rfl, h⟩))
theorem truthyO {Q : Bool → Shared → Prop} (hd : (d == sysModules) = false) (ho : s.heap.get? d = some o) (hc : o.ExactDict) (hdat : o.data = .dict es ep) (hfit : (es.size : Int) < 2 ^ 63)
    (h : Q (decide (es.size ≠ 0)) { s with toks := s.toks + 1 + 1 }) : wpAny (model prog w) A (truthy (.ref d)) Q E s := by
  have hT : s.TypeIs (.ref d) "dict" := ⟨o, ho, hc.1⟩
  have hne : ((es.size : Int) != 0) = decide (es.size ≠ 0) := by
    by_cases e : es.size = 0
    · simp [e]
    · simp [e]
  have key : wpAny (model prog w) A (runValue (.builtin "len" ⟨[.ref d], []⟩)) (fun r s' => r = .int es.size (s.toks + 1) ∧ Q (decide (es.size ≠ 0)) s') E s := by
    refine wpAny_runValue (codeAny_builtin entry_len ?_)
    rw [Around.under_plainId plain_len _]
    exact wpAny_mono (len_bodyO (Q := fun r s' => r = .int es.size (s.toks + 1) ∧ Q (decide (es.size ≠ 0)) s') hd ho hc hdat hfit ⟨rfl, h⟩)
      (fun fin s' h' => by obtain ⟨r, rfl, hq⟩ := h'; exact hq) fun _ _ e => e
  unfold truthy
  first
    | refine wpAny_bind (wpAny_callSpecial?_none (name := Str.ofString "__bool__") hT noBool_dict ?_)
    | refine wpAny_bind (wpAny_pure (wpAny_bind (wpAny_callSpecial?_none (name := Str.ofString "__bool__") hT noBool_dict ?_)))
  first
    | refine wpAny_bind (wpAny_specialOf (name := Str.ofString "__len__") hT F.slot_dict_len.lookup ?_)
    | refine wpAny_bind (wpAny_pure (wpAny_bind (wpAny_specialOf (name := Str.ofString "__len__") hT F.slot_dict_len.lookup ?_)))
  first
    | exact wpAny_bind (wpAny_mono key (fun r s' h' => by obtain ⟨rfl, hq⟩ := h'; exact wpAny_pure (hne ▸ hq)) fun _ _ e => e)
    | exact wpAny_bind (wpAny_pure (wpAny_bind (wpAny_mono key (fun r s' h' => by obtain ⟨rfl, hq⟩ := h'; exact wpAny_pure (hne ▸ hq)) fun _ _ e => e)))
end
theorem fl_str {v : Value} {y : Str} (h : Flat v (.str y)) : ∃ t, v = .str y t := by cases h {} with | str _ t => exact ⟨t, rfl⟩
noncomputable abbrev encI (p : Int × Int) : PyData := encTuple PyData.int [p.1, p.2]
noncomputable def Chs (prog : Program) (w : World) (d : Addr) (D : List (PyData × PyData)) (led : LedT) : Prop := TupTab (PySem.intKind prog w) PyData.int led d D
noncomputable def StrVals (D : List (PyData × PyData)) : Prop := ∀ kv ∈ D, ∃ y : Str, kv.2 = .str y ∧ y.length ≤ 2
section
variable {prog : Program} {w : World} {d : Addr} {D : List (PyData × PyData)} {led led' : LedT}
theorem Chs.mono (T : Chs prog w d D led) (h : ∀ p ∈ led, p ∈ led') : Chs prog w d D led' :=
  by
  obtain ⟨lo, o, es, ep, xs, hm, hc, hd, he, hn, hk, hf⟩ := T
  exact ⟨lo, o, es, ep, xs, h _ hm, hc, hd, he, hn, fun x hx => let ⟨okx, hmk, t⟩ := hk x hx; ⟨okx, h _ hmk, t⟩, hf⟩
theorem Chs.up {mu : LedT} (T : Chs prog w d D led) : Chs prog w d D (mu ++ led) := T.mono fun _ h => List.mem_append_right _ h
theorem Chs.gr (g : Gr led led') (T : Chs prog w d D led) : Chs prog w d D led' := T.mono fun _ => g.mem
theorem lookup_mem_val {k : PyData} {v : PyData} : ∀ {D : List (PyData × PyData)}, Spec.lookup k D = some v → ∃ k', (k', v) ∈ D
  | [], h => by cases h
  | (a, b) :: r, h => by
    unfold Spec.lookup at h
    split at h
    · cases h; exact ⟨a, List.mem_cons_self⟩
    · obtain ⟨k', hk⟩ := lookup_mem_val h; exact ⟨k', List.mem_cons_of_mem _ hk⟩
theorem StrVals.get (h : StrVals D) {k v : PyData} (hl : Spec.lookup k D = some v) : ∃ y : Str, v = .str y ∧ y.length ≤ 2 := by
  obtain ⟨k', hk⟩ := lookup_mem_val hl
  exact h _ hk
noncomputable def chAt (D : List (PyData × PyData)) (p : Int × Int) : Option Str := match Spec.lookup (encI p) D with
  | some (.str y) => some y
  | _ => none
theorem chAt_some (h : StrVals D) {p : Int × Int} (hl : (Spec.lookup (encI p) D).isSome = true) : ∃ y, Spec.lookup (encI p) D = some (.str y) ∧ chAt D p = some y ∧ y.length ≤ 2 := by
  obtain ⟨v, hv⟩ := Option.isSome_iff_exists.mp hl
  obtain ⟨y, rfl, hy⟩ := h.get hv
  exact ⟨y, hv, by unfold chAt; rw [hv], hy⟩
theorem chAt_none {p : Int × Int} (hl : (Spec.lookup (encI p) D).isSome = false) : chAt D p = none := by
  unfold chAt
  cases h : Spec.lookup (encI p) D with
  | none => rfl
  | some v => rw [h] at hl; cases hl
theorem chAt_len (h : StrVals D) {p : Int × Int} {y : Str} (e : chAt D p = some y) : y.length ≤ 2 := by
  cases hl : (Spec.lookup (encI p) D).isSome with
  | true =>
    obtain ⟨y', h1, h2, h3⟩ := chAt_some h hl
    rw [e] at h2; cases h2; exact h3
  | false => rw [chAt_none hl] at e; cases e
theorem tupKey {a b : Int} {t u : Tok} : TupKeyObj (PySem.intKind prog w) [a, b] (tupO [.int a t, .int b u]) :=
  TupKeyObj.made (.cons (intKind_is prog w a t) (.cons (intKind_is prog w b u) .nil))
end
section
variable {G : Gl} {c : Cx} {n k : Nat} {m : Str → Option Value} {x mu news : LedT} {s : Shared} {A : Around} {env : Env} {E : Value → Shared → Prop} {Q : Value → Shared → Prop} {d a : Addr} {D : List (PyData × PyData)} {p1 p2 : Int} {t u : Tok}
theorem ES.sub (S : ES c m x mu news s) : News c.h₀ c.L s.heap (mu ++ news) := fun p hp => S.N p (List.mem_append_right _ hp)
theorem units_ok (O : Ok G c n) : c.A.units + 1 < cLine := by have := O.un; show c.un + 1 < cLine; omega
theorem v_chIn (O : Ok G c n) (hA : A = c.A) (S : ES c m x mu news s) (T : Chs G.prog G.w d D news) (p : Int × Int) (ha : (a, tupO [.int p.1 t, .int p.2 u]) ∈ mu ++ news)
    (h : ∀ s', ES c m x mu news s' → Q (.bool (Spec.lookup (encI p) D).isSome) s') : wpAny G.M A (compareOp .In (.ref a) (.ref d)) Q E s := by
  subst hA
  exact in_tupTab same_int (units_ok O) S.sub T.up ha tupKey (h _ (S.tok _))
theorem v_chItem {value slice : Expr} {y : Str} (O : Ok G c n) (hA : A = c.A) (S : ES c m x mu news s) (T : Chs G.prog G.w d D news) (p : Int × Int) (ha : (a, tupO [.int p.1 t, .int p.2 u]) ∈ mu ++ news)
    (hl : Spec.lookup (encI p) D = some (.str y)) (h : ∀ t s', ES c m x mu news s' → Q (.str y t) s')
    (hs : subscripted slice false (.ref d) (.ref a) = operate [.ref d, .ref a] (getItem (.ref d) (.ref a))) (hg : ∀ r, letTemporaryGo value (.ref d) r = pure ()) : wpAny G.M A (subscriptTail value slice (.ref d) (.ref a)) Q E s := by
  subst hA
  refine item_tupTab same_int (units_ok O) S.sub T.up ha tupKey hl (fun v hf => ?_) hs hg
  obtain ⟨t, rfl⟩ := fl_str hf
  exact h _ _ (S.tok _)
theorem v_chGetM {pl : Sem Bool} {Q : Value × List Value → Shared → Prop} (S : ES c m x mu news s) (T : Chs G.prog G.w d D news) (h : Q (.builtin "dict.get", [.ref d]) s) : wpAny G.M A (getMethod (.ref d) "get" pl) Q E s :=
  getMethod_tupTab_get S.sub T.up h
theorem v_chGet2 {dy : Str} {dt : Tok} (O : Ok G c n) (hA : A = c.A) (S : ES c m x mu news s) (T : Chs G.prog G.w d D news) (hD : StrVals D) (p : Int × Int) (ha : (a, tupO [.int p.1 t, .int p.2 u]) ∈ mu ++ news)
    (h : ∀ t s', ES c m x mu news s' → Q (.str ((chAt D p).getD dy) t) s') : wpAny G.M A (call (.builtin "dict.get") [.ref d, .ref a, .str dy dt]) Q E s := by
  subst hA
  refine call_get2_tupTab same_int (units_ok O) S.sub T.up ha tupKey (dd := .str dy) (PyProof.V.Flat.str dy dt) fun v hf => ?_
  have e : (Spec.lookup (encI p) D).getD (.str dy) = .str ((chAt D p).getD dy) := by
    cases hl : (Spec.lookup (encI p) D).isSome with
    | true =>
      obtain ⟨y, h1, h2, _⟩ := chAt_some hD hl
      rw [h1, h2]; rfl
    | false =>
      rw [chAt_none hl]
      have : Spec.lookup (encI p) D = none := by cases q : Spec.lookup (encI p) D with | none => rfl | some v => rw [q] at hl; cases hl
      rw [this]; rfl
  rw [show encTuple PyData.int [p.1, p.2] = encI p from rfl, e] at hf
  obtain ⟨t, rfl⟩ := fl_str hf
  exact h _ _ (S.tok _)
theorem chs_size {prog : Program} {w : World} {led : LedT} (T : Chs prog w d D led) : (d == sysModules) = false ∧ ∃ o es ep, (d, o) ∈ led ∧ o.ExactDict ∧ o.data = .dict es ep ∧ es.size = D.length := by
  obtain ⟨lo, o, es, ep, xs, hm, hc, hd, he, hn, hk, hf⟩ := T
  refine ⟨lo, o, es, ep, hm, hc, hd, ?_⟩
  have e := hf.length
  have e2 := congrArg List.length he
  simp only [kvsOf, List.length_map, Array.length_toList] at e e2
  omega
theorem v_chTruthy {Q : Bool → Shared → Prop} (S : ES c m x mu news s) (T : Chs G.prog G.w d D news) (hz : D.length ≤ 1000) (h : ∀ s', ES c m x mu news s' → Q (!D.isEmpty) s') : wpAny G.M A (truthy (.ref d)) Q E s := by
  obtain ⟨lo, o, es, ep, hm, hc, hd, he⟩ := chs_size (T.up (mu := mu))
  refine truthyO lo (S.at hm) hc hd (by omega) ?_
  have e : decide (es.size ≠ 0) = !D.isEmpty := by
    rw [he]; cases D <;> simp
  rw [e]
  exact h _ (S.tok _)
theorem v_chSet {o : Obj} {v : Value} {dv : PyData} {g : Obj → LedT} {Q : Unit → Shared → Prop} (O : Ok G c n) (hA : A = c.A) (S : ES c m x mu news s) (U : UpM d o mu g) (T : Chs G.prog G.w d D ((d, o) :: news)) (p : Int × Int) (ha : (a, tupO [.int p.1 t, .int p.2 u]) ∈ news) (hv : Flat v dv) (hz : D.length ≤ 1000)
    (h : ∀ o' s', Chs G.prog G.w d (putD (encI p) dv D) ((d, o') :: news) → ES c m x (g o') news s' → Q () s') : wpAny G.M A (setItem (.ref d) (.ref a) v) Q E s := by
  subst hA
  obtain ⟨pre, post, rfl, hg⟩ := U.split
  obtain ⟨lo, o0, es, ep, xs, hm, hc, hd, he, hn, hk, hf⟩ := T
  have sub : ∀ q ∈ (d, o) :: news, q ∈ (pre ++ (d, o) :: post) ++ news := by
    intro q hq
    rcases List.mem_cons.mp hq with rfl | hq
    · simp
    · exact List.mem_append_right _ hq
  obtain rfl : o = o0 := Option.some.inj ((S.at (sub _ List.mem_cons_self)).symm.trans (S.at (sub _ hm)))
  have hD : s.heap.DictOfH (tupleKind (PySem.intKind G.prog G.w)) d xs := ⟨o, es, ep, S.at (sub _ hm), hc, hd, he, fun x hx => let ⟨_, hmk, t⟩ := hk x hx; t.key (S.at (sub _ hmk)), hn⟩
  have hne : ∀ {b : Addr} {ob : Obj} {ks' : List Int}, (b, ob) ∈ (d, o) :: news → TupKeyObj (PySem.intKind G.prog G.w) ks' ob → b ≠ d := by
    intro b ob ks' hb t e
    subst e
    obtain rfl : ob = o := Option.some.inj ((S.at (sub _ hb)).symm.trans (S.at (sub _ hm)))
    have h1 := t.1
    rw [hc.1] at h1
    injection h1 with h2
    exact absurd h2 (by decide)
  have hxs : xs.length ≤ sizeLine := by
    have e := hf.length; simp only [kvsOf, List.length_map] at e; rw [sizeLine_eq]; omega
  have hkey := tupKey (prog := G.prog) (w := G.w) (a := p.1) (b := p.2) (t := t) (u := u)
  have ha' : (a, tupO [.int p.1 t, .int p.2 u]) ∈ (d, o) :: news := List.mem_cons_of_mem _ ha
  refine wpAny_setItem_heap (hsz := hxs) (knd := tupleKind (PySem.intKind G.prog G.w)) (tupleKind_room_in1 (units_ok O)) (hkey.key (S.at (sub _ ha'))) hD fun h' hm' hs => ?_
  obtain ⟨o', es', ep', ho', hc', hd', he', _, hn'⟩ := hm'
  have S2 := (S.upd' ho' hs).tok (s.toks + (tupleKind (PySem.intKind G.prog G.w)).draws [p.1, p.2])
  have keep : ∀ {b : Addr} {ob : Obj}, (b, ob) ∈ (d, o) :: news → b ≠ d → (b, ob) ∈ (d, o') :: news := by
    intro b ob hb hbd
    rcases List.mem_cons.mp hb with hb | hb
    · cases hb; exact absurd rfl hbd
    · exact List.mem_cons_of_mem _ hb
  rw [← hg] at S2
  refine h o' _ ?_ S2
  refine ⟨lo, o', es', ep', storedH xs [p.1, p.2] a v, by simp, hc', hd', he', hn', fun x hx => ?_, by rw [kvsOf_storedH]; exact hf.stored (same_encTuple same_int) [p.1, p.2] hv⟩
  rcases mem_storedH hx with ⟨y, hy, e1, e2⟩ | ⟨e1, e2⟩
  · obtain ⟨oky, hmk, t⟩ := hk y hy
    exact ⟨oky, by rw [e2]; exact keep hmk (hne hmk t), by rw [e1]; exact t⟩
  · exact ⟨_, by rw [e2]; exact keep ha' (hne ha' hkey), by rw [e1]; exact hkey⟩
theorem v_truthyTup {l : Addr} {vs : List Value} {Q : Bool → Shared → Prop} (S : ES c m x mu news s) (hl : (l, tupO vs) ∈ mu ++ news) (hz : vs.length ≤ 1000000) (h : ∀ s', ES c m x mu news s' → Q (!vs.isEmpty) s') : wpAny G.M A (truthy (.ref l)) Q E s := by
  refine truthy_tuple (S.tup hl) (by rw [List.size_toArray]; omega) ?_
  rw [List.isEmpty_toArray]
  exact h _ (S.tok _)
theorem chs_empty {prog : Program} {w : World} {led : LedT} (hd : (d == sysModules) = false) (hm : (d, emD) ∈ led) : Chs prog w d [] led := TupTab.ofEmpty hm hd (emD_is (knd := PySem.intKind prog w))
end
end

-- V9
section
open PySem PySem.W PyProof.Rows PySem.Spec PySem.Calls PyProof.V
noncomputable def MidQ (P : Shared → Prop) (Q : Flow → Shared → Prop) (f : Flow) (s : Shared) : Prop := match f with
  | .next => P s
  | f => Q f s
section
variable {M : Model} {A : Around} {E : Value → Shared → Prop} {s : Shared} {env : Env} {rest : List Stmt} {Q : Flow → Shared → Prop}
theorem v_joinS {st : Stmt} (P : Shared → Prop) (h1 : wpAny M A (execs [st] env) (MidQ P Q) E s) (h2 : ∀ s, P s → wpAny M A (execs rest env) Q E s) : wpAny M A (execs (st :: rest) env) Q E s := fun Γ p hΓ => by
  have h := h1 Γ p hΓ
  rw [execs_cons, Sem.wp_bind'] at h ⊢
  refine Sem.wp_mono M Γ _ (fun f p' s' h' => ?_) (fun _ _ _ h' => h') _ _ h
  cases f with
  | next => exact h2 s' h' Γ p' hΓ
  | ret v => exact h'
  | brk => exact h'
  | cont => exact h'
end
end

-- V10
section
open PySem PySem.W PyProof.Rows PySem.Spec PySem.Calls PyProof.V
section
variable {c : Cx} {m : Str → Option Value} {x mu news r : LedT} {s : Shared} {a b d : Addr × Obj}
end
section
variable {K : Type} [DecidableEq K]
theorem val_eq (kvs : List (K × Value)) (k : K) (v : Value) : valueAt (stored kvs k v) k = some v := by
  induction kvs with
  | nil => simp [stored, valueAt]
  | cons p r ih =>
    obtain ⟨j, u⟩ := p
    by_cases h : j = k
    · subst h; simp [stored, valueAt]
    · by_cases ha : (r.any fun kv => decide (kv.1 = k)) = true
      · have e1 : stored ((j, u) :: r) k v = (j, u) :: stored r k v := by
          unfold stored
          rw [List.any_cons, ha, Bool.or_true, if_pos rfl, if_pos rfl, List.map_cons, if_neg h]
        rw [e1]
        simpa [valueAt, h] using ih
      · have e1 : stored ((j, u) :: r) k v = (j, u) :: stored r k v := by
          unfold stored
          rw [List.any_cons, if_neg ha, if_neg (by simp [h] at ha ⊢; exact ha)]
          rfl
        rw [e1]
        simpa [valueAt, h] using ih
theorem val_ne {kvs : List (K × Value)} {j k : K} (v : Value) (hne : j ≠ k) : valueAt (stored kvs k v) j = valueAt kvs j := by
  induction kvs with
  | nil => simp [stored, valueAt, Ne.symm hne]
  | cons p r ih =>
    obtain ⟨i, u⟩ := p
    by_cases ha : (r.any fun kv => decide (kv.1 = k)) = true
    · by_cases h : i = k
      · subst h
        have e1 : stored ((i, u) :: r) i v = (i, v) :: stored r i v := by
          unfold stored
          rw [List.any_cons, ha, Bool.or_true, if_pos rfl, if_pos rfl, List.map_cons, if_pos rfl]
        rw [e1]
        simpa [valueAt, Ne.symm hne] using ih
      · have e1 : stored ((i, u) :: r) k v = (i, u) :: stored r k v := by
          unfold stored
          rw [List.any_cons, ha, Bool.or_true, if_pos rfl, if_pos rfl, List.map_cons, if_neg h]
        rw [e1]
        by_cases hj : i = j
        · simp [valueAt, hj]
        · simpa [valueAt, hj] using ih
    · by_cases h : i = k
      · subst h
        have e1 : stored ((i, u) :: r) i v = (i, v) :: r := by
          unfold stored
          rw [if_pos (by simp), List.map_cons, if_pos rfl]
          congr 1
          have : ∀ kv ∈ r, ¬ kv.1 = i := fun kv hkv e => ha (List.any_eq_true.mpr ⟨kv, hkv, decide_eq_true e⟩)
          exact (List.map_congr_left fun kv hkv => if_neg (this kv hkv)).trans (List.map_id _)
        rw [e1]
        by_cases hj : i = j
        · exact absurd hj.symm hne
        · simp [valueAt, hj]
      · have e1 : stored ((i, u) :: r) k v = (i, u) :: stored r k v := by
          unfold stored
          rw [List.any_cons, if_neg ha, if_neg (by simp [h] at ha ⊢; exact ha)]
          rfl
        rw [e1]
        by_cases hj : i = j
        · simp [valueAt, hj]
        · simpa [valueAt, hj] using ih
end
theorem strVals_put {D : List (PyData × PyData)} {k : PyData} {y : Str} (h : StrVals D) (hy : y.length ≤ 2) : StrVals (putD k (.str y) D) := by
  intro kv hkv
  unfold putD at hkv
  split at hkv
  · obtain ⟨p, hp, rfl⟩ := List.mem_map.mp hkv
    split
    · exact ⟨y, rfl, hy⟩
    · exact h p hp
  · rcases List.mem_append.mp hkv with q | q
    · exact h kv q
    · rw [List.mem_singleton.mp q]; exact ⟨y, rfl, hy⟩
theorem putD_len (k v : PyData) (D : List (PyData × PyData)) : (putD k v D).length ≤ D.length + 1 := putD_length_le k v D
theorem rng_small {b : Int} (h0 : 0 ≤ b) (h1 : b ≤ 100000) : Builtin.Range.small 0 b 1 = true := small_one (by decide) (by decide) (by omega) (by omega)
theorem rng_size (b : Int) : Builtin.Range.rangeSize 0 b 1 = (b.toNat : Int) := by rw [rangeSize_nat]; simp
end

-- V11
section
open PySem PySem.W PyProof.Rows PySem.Spec PySem.Calls PyProof.V
open PySem.SeqAt
noncomputable def nthS : List Stmt → Nat → Stmt
  | [], _ => .Pass default
  | a :: _, 0 => a
  | _ :: r, n + 1 => nthS r n
noncomputable def bodyS : Stmt → List Stmt
  | .FunctionDef _ _ b _ _ _ _ _ _ _ => b
  | .For _ _ b _ _ => b
  | .While _ b _ _ => b
  | .If _ b _ _ => b
  | _ => []
noncomputable def dropS : List Stmt → Nat → List Stmt
  | l, 0 => l
  | [], _ + 1 => []
  | _ :: r, n + 1 => dropS r n
noncomputable def fnBody (k : Nat) : List Stmt := bodyS (nthS PySem.Challenge.pw_og0191_01.main.body k)
section
variable {G : Gl} {c : Cx} {n k : Nat} {m : Str → Option Value} {x mu news : LedT} {s : Shared} {E : Value → Shared → Prop} {Q : Value → Shared → Prop}
theorem ES.kept (S : ES c m x mu news s) {h' : Heap} {tk : Nat} (hk : ∀ b o, s.heap.get? b = some o → h'.get? b = some o) : ES c m x mu news { s with heap := h', toks := tk } :=
  S.heapTok (S.F.kept hk) (fun p hp => ⟨hk _ _ (S.N p hp).1, (S.N p hp).2⟩) S.nd
theorem v_abs {A : Around} {i : Int} {t : Tok} (S : ES c m x mu news s) (h : ∀ t s', ES c m x mu news s' → Q (.int (if i < 0 then -i else i) t) s') : wpAny G.M A (call (.builtin "abs") [.int i t]) Q E s := call_abs_int fun u tk => h _ _ (S.tok tk)
theorem v_sum {l : Addr} {o : Obj} {vs : List Value} {ns : List Int} (S : ES c m x mu news s) (hl : (l, o) ∈ mu ++ news) (P : LstP vs o) (hi : IntsAre vs ns)
    (h : ∀ t s', ES c m x mu news s' → Q (.int ns.sum t) s') : wpAny G.M c.A (call (.builtin "sum") [.ref l]) Q E s := by
  obtain ⟨xs, hx⟩ := hi.allInts.items
  have hl' : s.heap.IsList l (intItems xs) := hx ▸ S.lst hl P
  refine sum_intListG rfl hl' fun h' tk t' hk => ?_
  have e : preSum (numAt xs) xs.size = ns.sum := by
    rw [preSum_eq, List.take_of_length_le (by simp), ← nums_intItems, ← hx, show vs.toArray.toList = vs from rfl, hi.numsOf]
  rw [e]
  exact h t' _ (S.kept hk)
theorem iteB {b : Bool} {p q : Prop} (h1 : b = true → p) (h2 : b = false → q) : AtLoop (if b = true then p else q) := by
  cases b with
  | true => show if _ then _ else _; rw [if_pos rfl]; exact h1 rfl
  | false => show if _ then _ else _; rw [if_neg Bool.false_ne_true]; exact h2 rfl
theorem all_true {e : Nat → Bool} (n : Nat) (h : ∀ j, e j = true) : (List.range n).all e = true := List.all_eq_true.mpr fun j _ => h j
theorem eqPair {A : Around} {v w : Value} {p : Int × Int} (S : ES c m x mu news s) (hA : A.units < cLine) (hv : PairAt v p (mu ++ news)) (hw : PairAt w p (mu ++ news)) : EqAt A s v w true := by
  obtain ⟨a, t, u, rfl, ha⟩ := hv
  obtain ⟨b, t', u', rfl, hb⟩ := hw
  by_cases hne : a = b
  · subst hne; exact EqAt.same _
  · have h := RcAt.tuples (A := A) (s := s) (items := ([.int p.1 t, .int p.2 u] : List Value).toArray) (items2 := ([.int p.1 t', .int p.2 u'] : List Value).toArray) (e := fun _ => true) (⟨_, S.at ha, rfl, _, rfl⟩ : s.heap.IsTuple a _) (⟨_, S.at hb, rfl, _, rfl⟩ : s.heap.IsTuple b _) hA (fun j h1 h2 => by
      match j, h1 with
      | 0, _ => have := EqAt.int_int (A := A.in1) (s := s) p.1 t p.1 t'; rw [beq_self_eq_true] at this; exact this
      | 1, _ => have := EqAt.int_int (A := A.in1) (s := s) p.2 u p.2 u'; rw [beq_self_eq_true] at this; exact this)
    rw [all_true _ fun _ => rfl] at h
    exact EqAt.of_refs hne h
theorem v_neTup {v w : Value} {p : Int × Int} (O : Ok G c n) (S : ES c m x mu news s) (hv : PairAt v p news) (hw : PairAt w p news)
    (h : Q (.bool false) s) : wpAny G.M c.A (compareOp .NotEq v w) Q E s := by
  obtain ⟨a, t, u, rfl, ha⟩ := hv
  obtain ⟨b, t', u', rfl, hb⟩ := hw
  have := RcNeAt.tuples (A := c.A) (s := s) (items := ([.int p.1 t, .int p.2 u] : List Value).toArray) (items2 := ([.int p.1 t', .int p.2 u'] : List Value).toArray) (e := fun _ => true) (⟨_, S.get ha, rfl, _, rfl⟩ : s.heap.IsTuple a _) (⟨_, S.get hb, rfl, _, rfl⟩ : s.heap.IsTuple b _) (by have := units_ok O; omega) (fun j h1 h2 => by
      match j, h1 with
      | 0, _ => have := EqAt.int_int (A := c.A.in1) (s := s) p.1 t p.1 t'; rw [beq_self_eq_true] at this; exact this
      | 1, _ => have := EqAt.int_int (A := c.A.in1) (s := s) p.2 u p.2 u'; rw [beq_self_eq_true] at this; exact this)
  rw [all_true _ fun _ => rfl] at this
  exact this _ _ E Q h
theorem v_nePairs {a b : Addr} {oa ob : Obj} {vs us : List Value} {cs : List (Int × Int)} (O : Ok G c n) (S : ES c m x mu news s) (ha : (a, oa) ∈ mu ++ news) (hb : (b, ob) ∈ mu ++ news) (Pa : LstP vs oa) (Pb : LstP us ob)
    (hv : Paired (fun v p => PairAt v p (mu ++ news)) vs cs) (hu : Paired (fun v p => PairAt v p (mu ++ news)) us cs) (h : Q (.bool false) s) : wpAny G.M c.A (compareOp .NotEq (.ref a) (.ref b)) Q E s := by
  have l1 := Paired.length hv
  have l2 := Paired.length hu
  have := RcNeAt.lists (A := c.A) (s := s) (e := fun _ => true) (S.lst ha Pa) (S.lst hb Pb) (by simp only [List.size_toArray]; omega) (by have := units_ok O; omega) (fun j h1 h2 => by
      simp only [List.size_toArray] at h1 h2
      simp only [List.getElem_toArray]
      obtain ⟨p, hp, f1⟩ := Paired.get hv (List.getElem?_eq_getElem h1)
      obtain ⟨q, hq, f2⟩ := Paired.get hu (List.getElem?_eq_getElem h2)
      obtain rfl : p = q := Option.some.inj (hp.symm.trans hq)
      exact eqPair S (by have := O.un; show c.un + 1 < cLine; omega) f1 f2)
  rw [all_true _ fun _ => rfl] at this
  exact this _ _ E Q h
end
end

-- V13
section
open PySem
noncomputable abbrev bmF : List Value := [.ref 46, .type "Exception", .type "BaseException", .type "object"]
section
variable {M : Model} {prog : Program} {w : World} {A : Around} {E : Value → Shared → Prop} {R : Result → Shared → Prop} {h : Heap} {g : Array GenState} {d : Drawn} {t : Nat} {os : OsState}
variable {nm q : Str} {N : Addr} {bs : List Value} {hdct : Bool} {sn : List Str} {sub : List Value} {ab : Bool} {col : Option Bool} {dd : Option Addr} {k0 k1 k2 k3 k5 : Option Value}
noncomputable abbrev FFIs (h : Heap) (nm q : Str) (N : Addr) (bs : List Value) (hdct : Bool) (sn : List Str) (sub : List Value) (ab : Bool) (col : Option Bool) (dd : Option Addr) (k0 k1 k2 k3 k5 : Option Value) : Prop :=
  h.get? 59 = some (excClassObj nm q 59 N bs bmF hdct sn sub ab col dd k0 k1 k2 k3 k5 "Exception.__new__")
theorem bmF_has (X : String) (hX : (bmF.contains (.type X)) = true) : (Value.ref 59 :: bmF).contains (.type X) = true := by rw [List.contains_cons, hX, Bool.or_true]
theorem ff_check_new {rest : List Value} {Q : Unit → Shared → Prop} (hC : FFIs h nm q N bs hdct sn sub ab col dd k0 k1 k2 k3 k5) (hq : Q () ⟨h, g, d, t, os⟩) :
    wpAny M A (checkBuiltinCall "Exception.__new__" ⟨.ref 59 :: rest, []⟩) Q E ⟨h, g, d, t, os⟩ :=
  wpAny_check_new_subU PySem.F.excBase_Exception (bmB := bmF) rfl .base hC hq
theorem ff_new {rest : List Value} (hC : FFIs h nm q N bs hdct sn sub ab col dd k0 k1 k2 k3 k5) (hrest : rest.length ≤ sizeLine)
    (hq : R (.ok (.ret (.ref (h.objs.size + 1)))) ⟨(h.push { cls := .type "tuple", data := .seq rest.toArray }).push { cls := .ref 59, data := .fields #[.ref h.objs.size, .none, .none, .none, .bool false, .none] }, g, d, t, os⟩) :
    codeAny (model prog w) A (.builtin "Exception.__new__" ⟨.ref 59 :: rest, []⟩) R ⟨h, g, d, t, os⟩ := by
  have F := PySem.F.excBase_Exception
  have hends := F.ends
  have hcB := bmF_has "Exception" rfl
  have hcA : (Value.ref 59 :: bmF).contains (.type "AttributeError") = false := rfl
  have hcN : (Value.ref 59 :: bmF).contains (.type "NameError") = false := rfl
  refine codeAny_builtinAt F.entry ?_
  unfold Builtin.«BaseException.__new__»
  refine wpAt_bind ?_
  show wpAt _ _ _ (stack >>= _) _ _ _
  refine wpAt_bind (wpAt_stack fun p below => wpAt_of_wpAny ?_)
  wp_walk
  refine wpAt_of_wpAny ?_
  rw [F.owner]
  repeat (first | with_reducible refine wpAny_madeHere_exc F.canon hC ?_ | with_reducible refine wpAny_loadPart_at hC ?_ | (with_reducible refine wpAny_isSubtype_exc hC ?_; first | rw [hcB] | rw [hcA] | rw [hcN]) | wp_step)
  show R _ _
  rw [Heap.size_push]
  exact hq
open PySem.W in
theorem ff_type_call {K : Frag} {rest : List Value} {Q : Fin → Shared → Prop} {fI : Addr} (hC : FFIs h nm q N bs hdct sn sub ab col dd k0 k1 k2 k3 k5) (X : K.In h) (hl : findIn K (.ref 59) "__init__" = some (some (.ref fI))) (hf : typeIn K (.ref fI) = some (.type "function")) (hrest : rest.length ≤ sizeLine)
    (hq : codeAny (model prog w) A (.call (.ref fI) ⟨.ref (h.objs.size + 1) :: rest, []⟩) (fun r s' => r = .ok (.ret .none) ∧ Q (.done (.ret (.ref (h.objs.size + 1)))) s')
      ⟨(h.push { cls := .type "tuple", data := .seq rest.toArray }).push { cls := .ref 59, data := .fields #[.ref h.objs.size, .none, .none, .none, .bool false, .none] }, g, d, t, os⟩) :
    wpAny (model prog w) A (Builtin.«type.__call__» ⟨.ref 59 :: rest, []⟩) Q E ⟨h, g, d, t, os⟩ := by
  have F := PySem.F.excBase_Exception
  repeat (first | with_reducible refine wpAny_loadPart_at hC ?_ | with_reducible refine wpAny_madeBy_exc hC ?_ | wp_step)
  refine codeAny_call_builtin_code (Code.quiet_builtin _ F.quiet) (ff_check_new hC ?_)
  refine ff_new hC hrest ?_
  show wpAny _ _ _ _ _ _
  have keep : ∀ b o, h.get? b = some o → ((h.push { cls := .type "tuple", data := .seq rest.toArray }).push { cls := .ref 59, data := .fields #[.ref h.objs.size, .none, .none, .none, .bool false, .none] }).get? b = some o := fun b o e => Heap.get?_push_of_some _ (Heap.get?_push_of_some _ e)
  have hC₁ := keep _ _ hC
  have hget : ((h.push { cls := .type "tuple", data := .seq rest.toArray }).push
      { cls := .ref 59, data := .fields #[.ref h.objs.size, .none, .none, .none, .bool false, .none] }).get? (h.objs.size + 1) = some
      { cls := .ref 59, data := .fields #[.ref h.objs.size, .none, .none, .none, .bool false, .none] } := by heap_get
  have hcC : (Value.ref 59 :: bmF).contains (.ref 59) = true := by simp
  unfold isInstance
  repeat (first | with_reducible refine wpAny_loadPart_at hget ?_ | (with_reducible refine wpAny_isSubtype_exc hC₁ ?_; rw [hcC]) | wp_step)
  show wpAny _ _ (typeLookup (.ref 59) _) _ _ _
  refine (looks_findIn (Frag.In.keeps X keep) hl).here ?_
  refine wpAny_holding (wpAny_bind ((bind_fn (Frag.In.keeps X keep) _ hf).here ?_))
  refine wpAny_bind (wpAny_call (codeAny_mono hq fun r s' hr => ?_))
  obtain ⟨rfl, hQ⟩ := hr
  obtain ⟨hp, g, d, t, os⟩ := s'
  wp_walk
  exact hQ
open PySem.W in
theorem ff_call {K : Frag} {rest : List Value} {Q : Value → Shared → Prop} {fI : Addr} (hC : FFIs h nm q N bs hdct sn sub ab col dd k0 k1 k2 k3 k5) (X : K.In h) (hl : findIn K (.ref 59) "__init__" = some (some (.ref fI))) (hf : typeIn K (.ref fI) = some (.type "function")) (hrest : rest.length ≤ sizeLine)
    (hq : codeAny (model prog w) (A.under (.builtin "type.__call__" ⟨.ref 59 :: rest, []⟩)) (.call (.ref fI) ⟨.ref (h.objs.size + 1) :: rest, []⟩) (fun r s' => r = .ok (.ret .none) ∧ Q (.ref (h.objs.size + 1)) s')
      ⟨(h.push { cls := .type "tuple", data := .seq rest.toArray }).push { cls := .ref 59, data := .fields #[.ref h.objs.size, .none, .none, .none, .bool false, .none] }, g, d, t, os⟩) :
    wpAny (model prog w) A (call (.ref 59) rest) Q E ⟨h, g, d, t, os⟩ := by
  have f1 := tc_lookup
  have f2 := tc_bind (.ref 59)
  have hT : (⟨h, g, d, t, os⟩ : Shared).TypeIs (.ref 59) "type" := ⟨_, hC, rfl⟩
  refine wpAny_call (codeAny_of_tree ?_)
  show wpAny _ _ (callAny (.ref 59) _) _ _ _
  repeat (any_goals (first | assumption | with_reducible refine wpAny_loadPart_at hC ?_ | wp_step))
  refine ⟨rfl, ?_⟩
  exact codeAny_call_builtin_at (Code.quiet_builtin _ (by decide +kernel)) entry_typeCall (wpAny_check_type_call_sub hC (ff_type_call hC X hl hf hrest hq))
noncomputable def FF (h : Heap) : Prop := ∃ nm q N bs hdct sn sub ab col dd k0 k1 k2 k3 k5, FFIs h nm q N bs hdct sn sub ab col dd k0 k1 k2 k3 k5
theorem FF.keeps {h h' : Heap} (x : FF h) (k : ∀ b o, h.get? b = some o → h'.get? b = some o) : FF h' := by
  obtain ⟨nm, q, N, bs, hdct, sn, sub, ab, col, dd, k0, k1, k2, k3, k5, a1⟩ := x
  exact ⟨nm, q, N, bs, hdct, sn, sub, ab, col, dd, k0, k1, k2, k3, k5, k _ _ a1⟩
noncomputable def ExO (o : Obj) : Prop := o.cls = .ref 59 ∧ ∃ tp, o.data = .fields #[.ref tp, .none, .none, .none, .bool false, .none]
theorem ff_raiseStmt {env : Env} {s : Shared} {x : Sem Value} {Q : Flow → Shared → Prop} (hh : A.handled = none)
    (hx : wpAny M A x (fun v s₁ => ∃ e oe, v = .ref e ∧ FF s₁.heap ∧ s₁.heap.get? e = some oe ∧ ExO oe ∧ E (.ref e) s₁) E s) :
    wpAny M A (raiseStmt env (some x) none) Q E s := by
  have hcB := bmF_has "BaseException" rfl
  unfold raiseStmt
  refine wpAny_bind (wpAny_mono hx (fun v s₁ h₁ => ?_) fun _ _ x => x)
  obtain ⟨e, oe, rfl, ⟨nm, q, N, bs, hdct, sn, sub, ab, col, dd, k0, k1, k2, k3, k5, hC⟩, he, ⟨hc, tp, hd⟩, hE⟩ := h₁
  obtain ⟨hp, g, d, tk, os⟩ := s₁
  obtain ⟨oc, odi, oda, osl⟩ := oe
  dsimp only at hc hd
  subst hc hd
  repeat (first | with_reducible refine wpAny_loadPart_at he ?_ | with_reducible refine wpAny_loadPart_at hC ?_ | (with_reducible refine wpAny_isSubtype_exc hC ?_; rw [hcB]) | wp_step)
  exact wpAny_raiseNew_none hh hE
theorem ff_raise {env : Env} {s : Shared} {e : PySem.Expr} {pos : Pos} {Q : Flow → Shared → Prop} (hh : A.handled = none)
    (hx : wpAny M A (eval e env) (fun v s₁ => ∃ a oe, v = .ref a ∧ FF s₁.heap ∧ s₁.heap.get? a = some oe ∧ ExO oe ∧ E (.ref a) s₁) E s) :
    wpAny M A (exec (.Raise (some e) none pos) env) Q E s := by
  rw [arm_exec_Raise]
  exact wpAny_bind (wpAny_standAt (ff_raiseStmt hh (wpAny_bind (wpAny_mono hx (fun v s₁ h₁ => wpAny_bind (wpAny_standAt (wpAny_pure h₁))) fun _ _ x => x))))
theorem ff_matches {e : Addr} {oe : Obj} {Q : Bool → Shared → Prop} (hC : FF h) (he : h.get? e = some oe) (hcls : oe.cls = .ref 59) (hq : Q true ⟨h, g, d, t, os⟩) : wpAny M A (excMatches (.ref e) (.ref 59)) Q E ⟨h, g, d, t, os⟩ := by
  obtain ⟨nm, q, N, bs, hdct, sn, sub, ab, col, dd, k0, k1, k2, k3, k5, hC⟩ := hC
  exact wpAny_excMatches_sub_self hC he hcls rfl hq
end
end

-- V14
section
open PySem PySem.W PyProof.Rows PySem.Spec PySem.Calls PyProof.V
noncomputable def Big (c : Cx) (x : LedT) (b : Heap) : Prop := c.base.StaysIn b ∧ ∀ p ∈ x, (∀ vs, p.2.data ≠ .fields vs) → b.get? p.1 = some p.2
theorem Big.sub {c : Cx} {x x' : LedT} {b : Heap} (u : Big c x' b) (k : ∀ p ∈ x, p ∈ x') : Big c x b := ⟨u.1, fun p hp => u.2 p (k p hp)⟩
theorem funFrames_base {h base b : Heap} {l : List Env} (hl : h.FunFrames base l) (hb : ∀ L ∈ l.filterMap (·.frame), b.get? L = none) : h.FunFrames b l := by
  induction l with
  | nil => trivial
  | cons env r ih =>
    obtain ⟨h1, ⟨L, o, hf, hn, ho, hd⟩, hr⟩ := hl
    rw [List.filterMap_cons, hf] at hb
    exact ⟨h1, ⟨L, o, hf, hb L (.head _), ho, hd⟩, ih hr fun b hb' => hb b (.tail _ hb')⟩
noncomputable def HsOf (c : Cx) (s : Shared) : Prop := ∃ h tk, s = { c.s₀ with heap := h, toks := tk }
noncomputable def FlyX (c : Cx) (x : LedT) (e : Addr) (s : Shared) : Prop := HsOf c s ∧ ∃ b a0, Big c x b ∧ Heap.FlyingW b (c.env :: c.outer) e (.ref 59) a0 s.heap
noncomputable def HeldX (c : Cx) (x : LedT) (e : Addr) (s : Shared) : Prop := HsOf c s ∧ ∃ b a0 fl, Big c x b ∧ b.StaysIn s.heap ∧ b.get? e = none ∧ s.heap.FunFrames b (c.env :: c.outer) ∧ s.heap.TracedAtW b e (.ref 59) a0 fl
noncomputable def MadeX (c : Cx) (x : LedT) (e : Addr) (s : Shared) : Prop := ∃ m x' mu news oe, (∀ p ∈ x, p ∈ x') ∧ ES c m x' ((e, oe) :: mu) news s ∧ ExO oe
noncomputable def RaiE (c : Cx) (x : LedT) (v : Value) (s : Shared) : Prop := ∃ e, v = .ref e ∧ (MadeX c x e s ∨ FlyX c x e s ∨ HeldX c x e s)
section
variable {M : Model} {A : Around} {E : Value → Shared → Prop} {s : Shared}
theorem turnT {base h : Heap} {l : List Env} {e : Addr} {cls a0 fl : Value} (hkb : base.StaysIn h) (hl : h.FunFrames base l) (ht : h.TracedAtW base e cls a0 fl) :
    ∃ oe vs T oT ts, h.get? e = some oe ∧ oe.data = .fields vs ∧ vs[1]? = some (.ref T) ∧ h.get? T = some oT ∧ oT.data = .fields ts ∧ ts[3]? = some fl ∧ oe.cls = cls ∧ vs[0]? = some a0 ∧
      ∀ v h', h' = h.update T (Obj.mapFields (·.setIfInBounds 3 v)) → h'.get? e = some oe ∧ base.StaysIn h' ∧ h'.FunFrames base l ∧ h'.TracedAtW base e cls a0 v ∧ h.UpToSlots h' := by
  obtain ⟨oe, vs, T, oT, ts, he, hc, hd, h1, hnT, hTe, hT, hdT, h3⟩ := ht
  refine ⟨oe, vs, T, oT, ts, he, hd, h1, hT, hdT, h3, hc.1, hc.2, ?_⟩
  rintro v h' rfl
  have other : ∀ b, b ≠ T → (h.update T (Obj.mapFields (·.setIfInBounds 3 v))).get? b = h.get? b := fun b hb => Heap.get?_update_other _ _ (Ne.symm hb)
  have noRec : ∀ b o, h.get? b = some o → (∀ vs, o.data ≠ .fields vs) → b ≠ T := fun b o hb hnf q => by
    subst q
    exact hnf ts (Option.some.inj (hb.symm.trans hT) ▸ hdT)
  have hn : oT.isFreed = false := Obj.isFreed_of_fields hdT
  have hz : 3 < ts.size := (Array.getElem?_eq_some_iff.mp h3).1
  refine ⟨(other e (Ne.symm hTe)).trans he, fun b o hb => (other b fun q => by rw [q, hnT] at hb; cases hb).trans (hkb b o hb), hl.of_keeps fun b o hb hnf => ⟨o, (other b (noRec b o hb hnf)).trans hb, rfl⟩, ?_, fun b o hb hnf => ⟨o.slots, (other b (noRec b o hb hnf)).trans hb⟩⟩
  exact ⟨oe, vs, T, _, _, (other e (Ne.symm hTe)).trans he, hc, hd, h1, hnT, hTe, Heap.get?_update_self _ hT (Obj.isFreed_of_fields (Obj.data_mapFields hdT _)), Obj.data_mapFields hdT _, by simp [hz]⟩
theorem setFlightT {base : Heap} {l : List Env} {e : Addr} {cls a0 fl : Value} {fr : Option Addr} {Q : Unit → Shared → Prop} (hkb : base.StaysIn s.heap) (hl : s.heap.FunFrames base l) (ht : s.heap.TracedAtW base e cls a0 fl)
    (h : ∀ v h', base.StaysIn h' → h'.FunFrames base l → h'.TracedAtW base e cls a0 v → (fr = none → v = .none) → s.heap.UpToSlots h' → Q () { s with heap := h' }) : wpAny M A (setFlight (.ref e) fr) Q E s := by
  obtain ⟨oe, vs, T, oT, ts, he, hd, h1, hT, hdT, h3, _, _, hh⟩ := turnT hkb hl ht
  unfold setFlight
  refine wpAny_bind (wpAny_field he hd h1 ?_)
  rw [if_pos (show (Value.ref T != Value.none) = true from by simp)]
  obtain ⟨_, k1, k2, k3, k4⟩ := hh (fr.elim Value.none fun f => rawInt f) _ rfl
  exact wpAny_setField hT hdT (Array.getElem?_eq_some_iff.mp h3).1 (h _ _ k1 k2 k3 (fun e => by rw [e]; rfl) k4)
theorem noteFrame_env {e : Value} {env env' : Env} (h : env.frame = env'.frame) : noteFrame e env = noteFrame e env' := by
  unfold noteFrame PySem.frameOf
  rw [h]
theorem noteT {base : Heap} {env env' : Env} {outer : List Env} {L e : Addr} {cls a0 fl : Value} {Q : Unit → Shared → Prop} (hfr : A.frames = some (env :: outer)) (hf : env.frame = some L) (hf' : env'.frame = some L)
    (hkb : base.StaysIn s.heap) (hen : base.get? e = none) (hl : s.heap.FunFrames base (env :: outer)) (ht : s.heap.TracedAtW base e cls a0 fl)
    (h : ∀ v h', base.StaysIn h' → h'.FunFrames base (env :: outer) → h'.TracedAtW base e cls a0 v → s.heap.UpToSlots h' → Q () { s with heap := h' }) : wpAny M A (noteFrame (.ref e) env') Q E s := by
  rw [noteFrame_env (hf'.trans hf.symm)]
  obtain ⟨oe, vs, T, oT, ts, he, hd, h1, hT, hdT, h3, hcls, h0, hh⟩ := turnT hkb hl ht
  subst hcls
  unfold noteFrame
  simp only [hf]
  refine wpAny_bind (wpAny_field he hd h1 ?_)
  rw [if_pos (show (Value.ref T != Value.none) = true from by simp)]
  refine wpAny_bind (wpAny_field hT hdT h3 ?_)
  by_cases hq : (fl == rawInt L) = true
  · rw [if_pos hq]
    exact wpAny_pure (h fl s.heap hkb hl ht (Heap.UpToSlots.refl _))
  · rw [if_neg hq]
    refine wpAny_bind (wpAny_setField hT hdT (Array.getElem?_eq_some_iff.mp h3).1 ?_)
    obtain ⟨k0, k1, k2, k3, k4⟩ := hh .none _ rfl
    exact wpAny_entryW hfr k2 hf k0 k1 hen hd (Array.getElem?_eq_some_iff.mp h1).1 h0 fun h' ⟨x1, x2, x3, x4⟩ => h _ h' x1 x2 x3 (k4.trans x4)
end
section
variable {G : Gl} {c : Cx} {n : Nat} {x : LedT} {s : Shared} {M : Model} {A : Around} {E : Value → Shared → Prop} {e : Addr} {Q : Unit → Shared → Prop}
theorem HsOf.at {h' : Heap} (h : HsOf c s) : HsOf c { s with heap := h' } := by obtain ⟨_, b, q⟩ := h; exact ⟨h', b, by rw [q]⟩
theorem FlyX.held (h : FlyX c x e s) : HeldX c x e s := by obtain ⟨a, b, a0, u, k1, k2, k3, k4⟩ := h; exact ⟨a, b, a0, _, u, k1, k2, k3, k4.at⟩
theorem FlyX.sub {x' : LedT} (h : FlyX c x' e s) (k : ∀ p ∈ x, p ∈ x') : FlyX c x e s := by obtain ⟨a, b, a0, u, r⟩ := h; exact ⟨a, b, a0, u.sub k, r⟩
theorem HeldX.note {env' : Env} (h : HeldX c x e s) (hA : A.frames = some (c.env :: c.outer)) (hf : env'.frame = some c.L) (hQ : ∀ s', HeldX c x e s' → Q () s') : wpAny M A (noteFrame (.ref e) env') Q E s := by
  obtain ⟨a, b, a0, fl, u, k1, k2, k3, k4⟩ := h
  exact noteT hA rfl hf k1 k2 k3 k4 fun v h' j1 j2 j3 j4 => hQ _ ⟨a.at, b, a0, v, u, j1, k2, j2, j3⟩
theorem HeldX.flight {fr : Option Addr} (h : HeldX c x e s) (hQ : ∀ s', HeldX c x e s' → Q () s') : wpAny M A (setFlight (.ref e) fr) Q E s := by
  obtain ⟨a, b, a0, fl, u, k1, k2, k3, k4⟩ := h
  exact setFlightT k1 k3 k4 fun v h' j1 j2 j3 _ j4 => hQ _ ⟨a.at, b, a0, v, u, j1, k2, j2, j3⟩
theorem HeldX.leave (h : HeldX c x e s) (hA : A.frames = some (c.env :: c.outer)) (hQ : ∀ h', (∃ b a0, Big c x b ∧ Heap.FlyingW b c.outer e (.ref 59) a0 h') → HsOf c { s with heap := h' } → Q () { s with heap := h' }) : wpAny M A (leaving c.env (.ref e)) Q E s := by
  obtain ⟨a, b, a0, fl, u, k1, k2, k3, k4⟩ := h
  unfold leaving
  refine wpAny_bind (noteT hA rfl rfl k1 k2 k3 k4 fun v h' j1 j2 j3 j4 => ?_)
  refine setFlightT j1 j2 j3 fun v h'' i1 i2 i3 i5 i4 => hQ h'' ⟨b, a0, u, i1, k2, i2.2.2, ?_⟩ a.at
  obtain rfl := i5 rfl
  exact i3
theorem HeldX.field {R : Value → Shared → Prop} (h : HeldX c x e s) (hQ : ∀ T, R (.ref T) s) : wpAny M A (field (.ref e) 1) R E s := by
  obtain ⟨a, b, a0, fl, u, k1, k2, k3, oe, vs, T, oT, ts, he, hc, hd, h1, _⟩ := h
  exact wpAny_field he hd h1 (hQ T)
theorem MadeX.big (O : Ok G c n) {m : Str → Option Value} {x' mu news : LedT} {oe : Obj} (hx : ∀ p ∈ x, p ∈ x') (S : ES c m x' ((e, oe) :: mu) news s) : ∃ b, Big c x b ∧ b.StaysIn s.heap ∧ b.get? e = none ∧ s.heap.FunFrames b (c.env :: c.outer) := by
  have B := pushX (env := c.env) O.B S.F rfl O.hk
  have he := S.N (e, oe) (by simp)
  have hl : ∀ {a : Addr}, a ∈ (c.env :: c.outer).filterMap (·.frame) → c.base.get? a = none := fun ha => (B.frames.mem ha).1
  refine ⟨hideAll s.heap (e :: (c.env :: c.outer).filterMap (·.frame)), ⟨fun a o ha => hideAll_get _ (B.stays a o ha) fun hm => ?_, fun p hp _ => hideAll_get _ (S.N p (List.mem_append_left _ (hx p hp))).1 fun hm => ?_⟩, fun a o ha => of_hideAll _ ha, hideAll_none _ (.head _), funFrames_base B.frames fun L hL => hideAll_none _ (.tail _ hL)⟩
  · rcases List.mem_cons.mp hm with rfl | hm
    · rw [fresh_of_stays O.B.stays he.2.2] at ha; cases ha
    · rw [hl hm] at ha; cases ha
  · have hp' := S.N p (List.mem_append_left _ (hx p hp))
    rcases List.mem_cons.mp hm with q | hm
    · have nd := S.nd
      rw [List.map_append, List.nodup_append] at nd
      exact nd.2.2 _ (List.mem_map_of_mem (f := (·.1)) (hx p hp)) _ (by rw [List.cons_append, List.map_cons]; exact .head _) q
    · rw [List.filterMap_cons] at hm
      rcases List.mem_cons.mp hm with q | hb
      · exact hp'.2.1 q
      · obtain ⟨_, o, ho, _⟩ := O.B.frames.mem hb
        have := hp'.2.2
        rw [ho] at this
        cases this
theorem HeldX.back {env' : Env} (h : HeldX c x e s) (hQ : ∀ s', HeldX c x e s' → E (.ref e) s') : cameBackBy M A env' E (.ref e) s := by
  unfold cameBackBy
  refine wpAny_bind (h.field fun T => ?_)
  rw [if_neg (show ¬ ((Value.ref T == Value.none) = true) from by simp)]
  exact h.flight hQ
theorem HeldX.passOn {α : Type} {what : String} {env' : Env} {R : α → Shared → Prop} (h : HeldX c x e s) (hQ : ∀ s', HeldX c x e s' → E (.ref e) s') : wpAny M A (passOn what (.ref e) env' : Sem α) R E s := by
  unfold PySem.passOn
  refine wpAny_bind (h.field fun T => ?_)
  rw [if_neg (show ¬ ((Value.ref T == Value.none) = true) from by simp)]
  exact wpAny_bind (h.flight fun s' h' => wpAny_throw (hQ s' h'))
end
noncomputable def CtE (G : Gl) (k : Nat) (f : Addr) (vs : List Value) (mu news : LedT) : Prop :=
  ∀ (c : Cx) (m : Str → Option Value) (x : LedT) (s : Shared) (A : Around) (R : Result → Shared → Prop), Ok G c k → ES c m x mu news s → RA c A →
    (∀ e s', FlyX c x e s' → R (.error (.ref e)) s') → codeAny G.M A (.call (.ref f) ⟨vs, []⟩) R s
section
variable {G : Gl} {c : Cx} {n k : Nat} {f : Addr} {vs : List Value} {mu news x x' : LedT} {m : Str → Option Value} {s : Shared}
theorem CtE.atX {Q : Value → Shared → Prop} (C : CtE G k f vs mu news) (O : Ok G c n) (hk : Nat.ble k n = true) (S : ES c m x mu news s) : wpAny G.M c.A (call (.ref f) vs) Q (fun v s' => ∃ e, v = .ref e ∧ FlyX c x e s') s :=
  wpAny_call (C c m x s c.A _ (O.le hk) S (RA.own c) fun e s' b => ⟨e, rfl, b⟩)
theorem CtE.at {Q : Value → Shared → Prop} (C : CtE G k f vs mu news) (O : Ok G c n) (hk : Nat.ble k n = true) (S : ES c m x' mu news s) (hx : ∀ p ∈ x, p ∈ x') : wpAny G.M c.A (call (.ref f) vs) Q (RaiE c x) s :=
  wpAny_mono (C.atX O hk S) (fun _ _ h => h) fun v s' hh => by obtain ⟨e, e1, h⟩ := hh; exact ⟨e, e1, .inr (.inl (h.sub hx))⟩
theorem leaveRai {M : Model} {A : Around} {E : Value → Shared → Prop} {v : Value} {Q : Unit → Shared → Prop} (O : Ok G c n) (hA : A.frames = some (c.env :: c.outer)) (h : RaiE c x v s)
    (hQ : ∀ e h', v = .ref e → (∃ b a0, Big c x b ∧ Heap.FlyingW b c.outer e (.ref 59) a0 h') → HsOf c { s with heap := h' } → Q () { s with heap := h' }) : wpAny M A (leaving c.env v) Q E s := by
  obtain ⟨e, rfl, h⟩ := h
  rcases h with ⟨m, x', mu, news, oe, hx, S, hc, tp, hd⟩ | h | h
  · obtain ⟨b, u, k1, k2, k3⟩ := MadeX.big O hx S
    refine wpAny_leaving_firstW (a0 := .ref tp) hA k3 rfl (S.N (e, oe) (by simp)).1 k1 k2 hd rfl rfl fun h' hL => ?_
    obtain ⟨j1, ⟨_, _, j2⟩, j3, j4⟩ := hL
    rw [hc] at j3
    exact hQ e h' rfl ⟨b, _, u, j1, k2, j2, j3⟩ (HsOf.at S.hs)
  · exact h.held.leave hA fun h' a d => hQ e h' rfl a d
  · exact h.leave hA fun h' a d => hQ e h' rfl a d
end
noncomputable def CtXE (G : Gl) (k : Nat) (f : Addr) (vs : List Value) (mu news : LedT) (P : Value → LedT → LedT → Prop) : Prop :=
  ∀ (c : Cx) (m : Str → Option Value) (x : LedT) (s : Shared) (A : Around) (R : Result → Shared → Prop), Ok G c k → ES c m x mu news s → RA c A →
    (∀ r mu' ext s', ES c m x mu' (ext ++ news) s' → P r mu' (ext ++ news) → R (.ok (.ret r)) s') → (∀ e s', FlyX c x e s' → R (.error (.ref e)) s') → codeAny G.M A (.call (.ref f) ⟨vs, []⟩) R s
section
variable {G : Gl} {n : Nat} {name qual : Str} {params : Arguments} {body : List Stmt} {scope : Scope} {dV kV doc pm cdv ct oc : Value} {an od : Option Addr} {osl : Array (Option Value)} {f : Addr} {vs vs' : List Value} {binds : List (Str × Value)} {R : Tab} {mu news : LedT} {P : Value → LedT → LedT → Prop}
theorem enterXG 
    (hlk : G.K.lookup f = some ⟨oc, od, .func (fnOf name qual params body scope dV kV doc pm an cdv ct), osl⟩) (hcd : codeIn G.K cdv qual = true)
    (hbind : ∀ s, G.K.In s.heap → BindsTo s (fnOf name qual params body scope dV kV doc pm an cdv ct) ⟨vs, []⟩ binds) (hin : InitC G scope.names vs' binds R) (hnd : (scope.names.map (·.1)).Nodup) (hdbg : (scope.names.any fun y => y.1 == ("__debug__" : Str)) = false)
    (hco : scope.isCoroutine = false) (hgen : scope.isGenerator = false) (hk : scope.kind = .function)
    (h : ∀ c m x cells s, Ok G c n → FT G c scope.names m cells R → ES c m (cells ++ x) mu news s → wpAny G.M c.A (execs body c.env) (Back c x news P) (RaiE c x) s) : CtXE G (n + 1) f vs mu news P := fun c m x s A Rr O S ra hq hx =>
  enterCore hlk hcd hbind hin hnd hdbg hco hgen hk O S ra fun c' m' cells s' hb ho hs O' T' S' back =>
    wpAny_mono (h c' m' x cells s' O' T' S') (fun fl s2 ⟨m2, x2, mu2, ext, S2, hP⟩ => hq (retOf fl) mu2 ext s2 (back m2 x2 mu2 ext s2 S2) hP) fun v s2 hr => by
      refine leaveRai O' (by rw [ho]; exact Around.frames_deeper ra.fr) hr fun e h' hv hf hh => ?_
      subst hv
      obtain ⟨h9, tk9, e9⟩ := hh
      obtain ⟨h3, tk3, e3⟩ := S.hs
      obtain ⟨b, a0, u, hf⟩ := hf
      rw [ho] at hf
      refine hx e _ ⟨⟨h9, tk9, by rw [e9, hs, e3]⟩, b, a0, ⟨hb ▸ u.1, u.2⟩, hf⟩

theorem CtXE.e {G : Gl} {k : Nat} {f : Addr} {vs : List Value} {mu news : LedT} {P : Value → LedT → LedT → Prop} (h : CtXE G k f vs mu news P) (hp : ∀ r mu' news', ¬ P r mu' news') : CtE G k f vs mu news :=
  fun c m x s A R O S ra hx => h c m x s A R O S ra (fun r mu' ext s' _ p => absurd p (hp _ _ _)) hx
end
end

-- V15
section
open PySem PySem.W PyProof.Rows PySem.Spec PySem.Calls PyProof.V
theorem meta_Exception : typeOf (.type "Exception") = pure (.type "type") := by kernel_rfl
theorem ff_of_in {g : Gp} {h : Heap} (X : (hd.heap_1 g.w.params).In h) : FF h := by
  have h59 : ∃ nm q N bs hdct sn sub ab col dd k0 k1 k2 k3 k5, (hd.heap_1 g.w.params).lookup 59 = some (excClassObj nm q 59 N bs bmF hdct sn sub ab col dd k0 k1 k2 k3 k5 "Exception.__new__") := by
    refine ⟨_, _, _, _, _, _, _, _, _, _, _, _, _, _, _, by k_is⟩
  obtain ⟨nm, q, N, bs, hdct, sn, sub, ab, col, dd, k0, k1, k2, k3, k5, a1⟩ := h59
  exact ⟨nm, q, N, bs, hdct, sn, sub, ab, col, dd, k0, k1, k2, k3, k5, X _ _ a1⟩
theorem ff_init {g : Gp} : findIn (hd.heap_1 g.w.params) (.ref 59) "__init__" = some (some (.ref 36)) := by
  k_is
theorem ff_cls {g : Gp} : ∃ cd, clsIn (hd.heap_1 g.w.params) 59 = some cd ∧ cd.mro = .ref 59 :: bmF ∧ cd.hasDict = true := by
  exact ⟨_, by k_is, rfl, rfl⟩
theorem ff_setattr {g : Gp} : findIn (hd.heap_1 g.w.params) (.ref 59) "__setattr__" = some (some (.builtin "object.__setattr__")) := by
  k_is
theorem ff_fn {g : Gp} : typeIn (hd.heap_1 g.w.params) (.ref 36) = some (.type "function") := by
  k_is
theorem exc_find {g : Gp} : findCls (hd.heap_1 g.w.params) (.type "Exception") (.type "type") "__init__" = some (.val (.builtin "Exception.__init__")) := by
  k_is
section
variable {g : Gp} {c : Cx} {n k : Nat} {m : Str → Option Value} {x mu news : LedT} {s : Shared} {A : Around} {E : Value → Shared → Prop}
theorem ES.ff (O : Ok (GG g) c n) (S : ES c m x mu news s) : FF s.heap := ff_of_in (O.X.keeps S.F.keep)
theorem v_excMeth {pl : Sem Bool} {Q : Value × List Value → Shared → Prop} (O : Ok (GG g) c n) (S : ES c m x mu news s) (h : ∀ s', ES c m x mu news s' → Q (.builtin "Exception.__init__", []) s') : wpAny (GG g).M A (getMethod (.type "Exception") "__init__" pl) Q E s :=
by
  with_reducible refine' method_type S.F O.X meta_Exception ?a exc_find ?b ?c
  case a => decide +kernel
  case b => kernel_rfl
  case c => exact h _ (S.tok _)
theorem exc_check {M : Model} {h : Heap} {gs : Array GenState} {d : Drawn} {tk : Nat} {os : OsState} {e : Addr} {oe : Obj} {rest : List Value} {Q : Unit → Shared → Prop} (hF : FF h) (he : h.get? e = some oe) (hcls : oe.cls = .ref 59) (hq : Q () ⟨h, gs, d, tk, os⟩) :
    wpAny M A (checkBuiltinCall "Exception.__init__" ⟨.ref e :: rest, []⟩) Q E ⟨h, gs, d, tk, os⟩ := by
  have F := PySem.F.excBase_Exception
  have hcB := bmF_has "Exception" rfl
  have hshort := F.noStar
  obtain ⟨nm, q, N, bs, hdct, sn, sub, ab, col, dd, k0, k1, k2, k3, k5, hC⟩ := hF
  simp only [checkBuiltinCall, F.initKind, F.initSplit, F.initRow]
  repeat (first | (with_reducible refine wpAny_loadPart_at he ?_; rw [hcls]) | with_reducible refine wpAny_loadPart_at hC ?_ | (with_reducible refine wpAny_isSubtype_exc hC ?_; rw [hcB]) | wp_step)
  refine wpAny_onRaise ?_
  exact wpAny_of_eq (check_star_args _ _ _ _ _ _) hq
theorem v_excInit {e : Addr} {oe : Obj} {w : Value} {Q : Value → Shared → Prop} (O : Ok (GG g) c n) (S : ES c m x ((e, oe) :: mu) news s) (hX : ExO oe)
    (h : ∀ oe' tp s', ES c m x ((e, oe') :: mu) ((tp, tupO [w]) :: news) s' → ExO oe' → oe'.dict = oe.dict → Q .none s') : wpAny (GG g).M A (call (.builtin "Exception.__init__") [.ref e, w]) Q E s := by
  have F := PySem.F.excBase_Exception
  have he := (S.N (e, oe) (by simp)).1
  have hF := S.ff O
  have S1 := S.push (tupO [w]) rfl
  have he1 := (S1.N (e, oe) (by simp)).1
  obtain ⟨hc, tp, hd⟩ := hX
  obtain ⟨hp, gs, d, tk, os⟩ := s
  obtain ⟨oc, odi, oda, osl⟩ := oe
  dsimp only at hc hd
  subst hc hd
  refine wpAny_call (codeAny_call_builtin F.init.plain F.initEntry (exc_check hF he rfl ?_))
  unfold Builtin.«BaseException.__init__»
  wp_walk
  have S2 := ES.upd' (pre := []) S1 (Heap.get?_update_self (Obj.mapFields fun x => x.setIfInBounds 0 (Value.ref hp.objs.size)) he1 rfl) (Heap.SameBut.update _ _ _)
  exact h _ hp.objs.size _ S2 ⟨rfl, _, rfl⟩ rfl
theorem refuse_ff (self : Value) : refuseLoop self "__setattr__" (.ref 59 :: bmF) = pure () := by
  rw [refuseLoop_ref, refuseLoop_ref]
  exact PySem.F.store_Exception.passes self
theorem exc_set {e : Addr} {oe : Obj} {name : Str} {tk : Tok} {v : Value} {R : Result → Shared → Prop} (O : Ok (GG g) c n) (S : ES c m x ((e, oe) :: mu) news s) (hX : ExO oe) (hf : findIn (hd.heap_1 g.w.params) (.ref 59) name = some none)
    (h : ∀ b, wpAny (GG g).M A.in1 (Builtin.ObjectAttr.storeInOwnDict (.ref e) (.ref 59) (.str name tk) name v b) (fun fin s' => match fin with | PySem.Fin.done f => R (.ok f) s' | PySem.Fin.again c' => c'.quiet = true ∧ codeAny (GG g).M A c' R s') (fun e s' => R (.error e) s') s) :
    codeAny (GG g).M A (.call (.builtin "object.__setattr__") ⟨[.ref e, .str name tk, v], []⟩) R s := by
  have SF := PySem.F.store_object
  have he := (S.N (e, oe) (by simp)).1
  have X := O.X.keeps S.F.keep
  have T : Looks (GG g).M s.heap (typeOf (.ref e)) (.ref 59) := hX.1 ▸ (Looks.ld he).andThen .now
  obtain ⟨cd, hcd, hm, _⟩ := @ff_cls g
  have sub : Looks (GG g).M s.heap (isInstance (.ref e) (.type "object")) true := T.andThen (looks_mroIn X (by unfold mroIn; rw [hcd, Option.bind_some, hm]; rfl))
  have LM : Looks (GG g).M s.heap (mroOf (.ref 59)) cd.mro := (looks_clsIn X hcd).andThen .now
  rw [hm] at LM
  refine codeAny_call_builtin SF.slot.plain SF.entry (@check_slot (GG g).M _ _ s "object.__setattr__" "object" "__setattr__" (.ref e) [.str name tk, v] [] _ SF.kind SF.split sub (SF.args (.ref e) (.str name tk) v) ?_)
  rw [osa_eq, refuse_eq]
  refine wpAny_bind (wpAny_bind (T.here (wpAny_bind (LM.here ?_))))
  rw [refuse_ff]
  refine wpAny_pure (wpAny_bind (T.here (wpAny_bind ((looks_findIn X hf).here (wpAny_bind ((Looks.now : Looks (GG g).M s.heap (pure none) none).here ?_))))))
  exact h _
noncomputable def ExD (D : Addr) (od : Obj) (k : Nat) : Prop := ∃ mA ns, PySem.Within mA ns ∧ ns.length ≤ k ∧ ∀ h : Heap, h.get? D = some od → h.Ns1 D mA
theorem exc_into {kk : Nat} {D : Addr} {od : Obj} {mA : Str → Option Value} {ns : List Str} {name : Str} {tk : Tok} {v : Value} {Q : PySem.Fin → Shared → Prop} (S : ES c m x ((D, od) :: mu) news s) (hns : s.heap.Ns1 D mA) (hw : PySem.Within mA ns) (hz : ns.length ≤ kk) (hk : kk ≤ 50)
    (h : ∀ od' s', ES c m x ((D, od') :: mu) news s' → ExD D od' (kk + 1) → Q (.done (.ret .none)) s') : wpAny (GG g).M A (Builtin.ObjectAttr.storeInDict D (.str name tk) name v) Q E s := by
  unfold Builtin.ObjectAttr.storeInDict Builtin.ObjectAttr.newKeyGuard
  refine wpAny_bind (wpAny_pure (wpAny_bind (wpAny_nsSet1 hns fun h' hn' hs => ?_)))
  obtain ⟨oD, esD, epD, hoD, hdD, hcD⟩ := hn'.count (PySem.Within.cons name v hw)
  have S2 := (ES.upd' (pre := []) S hoD hs).tok (s.toks + 1)
  refine wpAny_bind (wpAny_lookBehind hoD (by rw [hdD]; exact pastItsLine_dict (Nat.le_trans hcD (by rw [List.length_cons, sizeLine_eq]; omega))) ?_)
  refine wpAny_pure (h oD _ S2 ⟨_, name :: ns, PySem.Within.cons name v hw, by rw [List.length_cons]; omega, fun hh e1 => ?_⟩)
  exact hn'.at fun o e2 => by rw [e1]; rw [hoD] at e2; exact e2
theorem exc_set1 {e : Addr} {oe : Obj} {name : Str} {tk : Tok} {v : Value} {R : Result → Shared → Prop} (O : Ok (GG g) c n) (S : ES c m x ((e, oe) :: mu) news s) (hX : ExO oe) (hdn : oe.dict = none) (hf : findIn (hd.heap_1 g.w.params) (.ref 59) name = some none)
    (h : ∀ D od oe' s', ES c m x ((D, od) :: (e, oe') :: mu) news s' → ExO oe' → oe'.dict = some D → ExD D od 1 → R (.ok (.ret .none)) s') : codeAny (GG g).M A (.call (.builtin "object.__setattr__") ⟨[.ref e, .str name tk, v], []⟩) R s := by
  refine exc_set O S hX hf fun b => ?_
  obtain ⟨cd, hcd, hm, hdict⟩ := @ff_cls g
  have he := (S.N (e, oe) (by simp)).1
  have LC : Looks (GG g).M s.heap (classData 59) cd := looks_clsIn (O.X.keeps S.F.keep) hcd
  have S1 := (S.push { cls := .type "dict", data := .dict #[] } rfl).thaw
  have he1 := (S1.N (e, oe) (by simp)).1
  obtain ⟨hc, tp, hda⟩ := hX
  obtain ⟨oc, odi, oda, osl⟩ := oe
  dsimp only at hc hdn hda
  subst hc hdn hda
  have S2 := ES.upd' (pre := [(_, { cls := .type "dict", data := .dict #[] })]) (o' := { cls := .ref 59, dict := some s.heap.objs.size, data := .fields #[.ref tp, .none, .none, .none, .bool false, .none], slots := osl }) S1 (Heap.get?_update_self (fun o => { o with dict := some s.heap.objs.size }) he1 rfl) (Heap.SameBut.update _ _ _)
  have hD := (S2.N (s.heap.objs.size, { cls := .type "dict", data := .dict #[] }) (by simp)).1
  refine wpAny_bind (wpAny_pure ?_)
  refine wpAny_bind (wpAny_bind (wpAny_loadPart he (wpAny_bind (LC.here ?_))))
  rw [hdict]
  rw [if_neg (by decide)]
  have hty : typeHasDict (.ref 59) = true := rfl
  dsimp only
  rw [hty, if_neg (by decide)]
  refine wpAny_bind (wpAny_alloc ?_)
  refine wpAny_bind (wpAny_update he1 ?_)
  refine wpAny_pure ?_
  exact exc_into S2 (Heap.Ns1.of_empty ⟨_, #[], _, hD, rfl, fun e he => absurd he (by simp), fun _ => rfl⟩) PySem.Within.nil (Nat.le_refl 0) (by decide) fun od' s' S3 hx => h _ od' _ s' S3 ⟨rfl, _, rfl⟩ rfl hx
theorem exc_set2 {e D : Addr} {oe od : Obj} {name : Str} {tk : Tok} {v : Value} {R : Result → Shared → Prop} (O : Ok (GG g) c n) (S : ES c m x ((D, od) :: (e, oe) :: mu) news s) (hX : ExO oe) (hdn : oe.dict = some D) {kk : Nat} (hx : ExD D od kk) (hk : kk ≤ 50) (hf : findIn (hd.heap_1 g.w.params) (.ref 59) name = some none)
    (h : ∀ od' s', ES c m x ((D, od') :: (e, oe) :: mu) news s' → ExD D od' (kk + 1) → R (.ok (.ret .none)) s') : codeAny (GG g).M A (.call (.builtin "object.__setattr__") ⟨[.ref e, .str name tk, v], []⟩) R s := by
  refine exc_set O (S.perm (List.Perm.append_right _ (List.Perm.swap _ _ _))) hX hf fun b => ?_
  obtain ⟨cd, hcd, hm, hdict⟩ := @ff_cls g
  have he := (S.N (e, oe) (by simp)).1
  have hD := (S.N (D, od) (by simp)).1
  have LC : Looks (GG g).M s.heap (classData 59) cd := looks_clsIn (O.X.keeps S.F.keep) hcd
  obtain ⟨hc, tp, hda⟩ := hX
  obtain ⟨oc, odi, oda, osl⟩ := oe
  dsimp only at hc hdn hda
  subst hc hdn hda
  obtain ⟨mA, ns, hw, hz, hns⟩ := hx
  refine wpAny_bind (wpAny_pure ?_)
  refine wpAny_bind (wpAny_bind (wpAny_loadPart he (wpAny_bind (LC.here ?_))))
  rw [hdict]
  rw [if_neg (by decide)]
  dsimp only
  refine wpAny_pure ?_
  exact exc_into S (hns _ hD) hw hz hk fun od' s' S3 hx => h od' s' S3 hx
theorem exc_attr {e : Addr} {oe : Obj} {name : Str} {v : Value} {Q : Unit → Shared → Prop} (O : Ok (GG g) c n) (S : ES c m x ((e, oe) :: mu) news s) (hX : ExO oe)
    (h : ∀ tk, ES c m x ((e, oe) :: mu) news { s with toks := tk } → ∀ A' : Around, codeAny (GG g).M A' (.call (.builtin "object.__setattr__") ⟨[.ref e, .str name s.toks, v], []⟩) (fun r s' => r = .ok (.ret .none) ∧ Q () s') { s with toks := tk }) : wpAny (GG g).M A (setAttr (.ref e) name v) Q E s := by
  have he := (S.N (e, oe) (by simp)).1
  have X := O.X.keeps S.F.keep
  have T : Looks (GG g).M s.heap (typeOf (.ref e)) (.ref 59) := hX.1 ▸ (Looks.ld he).andThen .now
  have f3 := PySem.F.store_object.slot.bind (.ref e)
  have LS : Looks (GG g).M s.heap (typeLookup (.ref 59) "__setattr__") (some (.builtin "object.__setattr__")) := looks_findIn X ff_setattr
  have S2 := S.tok (s.toks + 1)
  unfold setAttr callSpecial? specialOf
  refine wpAny_bind (wpAny_mkText (wpAny_bind (wpAny_bind (wpAny_bind (Looks.here (s := { s with toks := s.toks + 1 }) T (Looks.here (s := { s with toks := s.toks + 1 }) LS ?_))))))
  refine wpAny_holding (wpAny_bind (wpAny_of_eq f3 (wpAny_bind (wpAny_call (codeAny_mono (h _ S2 _) fun r s' hr => ?_)))))
  obtain ⟨rfl, hq⟩ := hr
  exact wpAny_pure (wpAny_pure hq)
theorem v_setX1 {e : Addr} {oe : Obj} {name : Str} {v : Value} {Q : Unit → Shared → Prop} (O : Ok (GG g) c n) (S : ES c m x ((e, oe) :: mu) news s) (hX : ExO oe) (hdn : oe.dict = none) (hf : findIn (hd.heap_1 g.w.params) (.ref 59) name = some none)
    (h : ∀ D od oe' s', ES c m x ((D, od) :: (e, oe') :: mu) news s' → ExO oe' → oe'.dict = some D → ExD D od 1 → Q () s') : wpAny (GG g).M A (setAttr (.ref e) name v) Q E s :=
  exc_attr O S hX fun tk S2 A' => exc_set1 O S2 hX hdn hf fun D od oe' s' S3 a b d => ⟨rfl, h D od oe' s' S3 a b d⟩
theorem v_setX2 {e D : Addr} {oe od : Obj} {name : Str} {v : Value} {Q : Unit → Shared → Prop} {kk : Nat} (O : Ok (GG g) c n) (S : ES c m x ((D, od) :: (e, oe) :: mu) news s) (hX : ExO oe) (hdn : oe.dict = some D) (hx : ExD D od kk) (hk : kk ≤ 50) (hf : findIn (hd.heap_1 g.w.params) (.ref 59) name = some none)
    (h : ∀ od' s', ES c m x ((D, od') :: (e, oe) :: mu) news s' → ExD D od' (kk + 1) → Q () s') : wpAny (GG g).M A (setAttr (.ref e) name v) Q E s := by
  have sw : ∀ {a b : Addr × Obj} {s : Shared}, ES c m x (a :: b :: mu) news s → ES c m x (b :: a :: mu) news s := fun S => S.perm (List.Perm.append_right _ (List.Perm.swap _ _ _))
  exact exc_attr O (sw S) hX fun tk S2 A' => exc_set2 O (sw S2) hX hdn hx hk hf fun od' s' S3 d => ⟨rfl, h od' s' S3 d⟩
theorem find_what {g : Gp} : findIn (hd.heap_1 g.w.params) (.ref 59) "what" = some none := by
  k_is
theorem find_at {g : Gp} : findIn (hd.heap_1 g.w.params) (.ref 59) "at" = some none := by
  k_is
end
end

-- V16
section
open PySem PySem.W PyProof.Rows PySem.Spec PySem.Calls PyProof.V
section
variable {G : Gl} {c : Cx} {n : Nat} {x : LedT} {s : Shared} {M : Model} {A : Around} {E : Value → Shared → Prop} {e : Addr} {v : Value} {Q : Unit → Shared → Prop}
theorem MadeX.note (O : Ok G c n) (h : MadeX c x e s) (hA : A.frames = some (c.env :: c.outer)) (hQ : ∀ s', HeldX c x e s' → Q () s') : wpAny M A (noteFrame (.ref e) c.env) Q E s := by
  obtain ⟨m, x', mu, news, oe, hx, S, hc, tp, hd⟩ := h
  obtain ⟨b, u, k1, k2, k3⟩ := MadeX.big O hx S
  have he := S.N (e, oe) (by simp)
  unfold noteFrame
  refine wpAny_bind (wpAny_field (x := .none) he.1 hd rfl ?_)
  rw [if_neg (show ¬ ((Value.none != Value.none) = true) from by decide)]
  refine wpAny_entryW (a0 := .ref tp) hA k3 rfl he.1 k1 k2 hd (show 1 < 6 from by decide) rfl fun h' hN => ?_
  obtain ⟨j1, j2, j3, j4⟩ := hN
  rw [hc] at j3
  exact hQ _ ⟨HsOf.at S.hs, b, _, _, u, j1, k2, j2, j3⟩
theorem RaiE.note (O : Ok G c n) (h : RaiE c x v s) (hA : A.frames = some (c.env :: c.outer)) (hQ : ∀ e s', v = .ref e → HeldX c x e s' → Q () s') : wpAny M A (noteFrame v c.env) Q E s := by
  obtain ⟨e, rfl, h⟩ := h
  rcases h with h | h | h
  · exact h.note O hA fun s' h' => hQ e s' rfl h'
  · exact h.held.note hA rfl fun s' h' => hQ e s' rfl h'
  · exact h.note hA rfl fun s' h' => hQ e s' rfl h'
theorem HeldX.rai (h : HeldX c x e s) : RaiE c x (.ref e) s := ⟨e, rfl, .inr (.inr h)⟩
theorem cxA (c : Cx) : c.A.frames = some (c.env :: c.outer) := rfl
theorem v_whileR {test : Expr} {body rest : List Stmt} {pos : Pos} {Q : Flow → Shared → Prop} (O : Ok G c n)
    (h : wpAny G.M c.A (isTrue test c.env (eval test c.env)) (fun b s₂ => b = true ∧ wpAny G.M c.A (execs body c.env) (fun _ _ => False) (RaiE c x) s₂) (RaiE c x) s) : wpAny G.M c.A (execs (.While test body [] pos :: rest) c.env) Q (RaiE c x) s := by
  refine v_cons (wpAny_While (codeAny_of_tree ?_))
  show wpAny _ c.A ((whileTurn test body [] c.env).onRaise (fun x => do noteFrame x c.env; theTreesLotGoes x)) _ _ s
  refine wpAny_noted ?_
  have pass : ∀ v s', RaiE c x v s' → notedBy G.M c.A c.env (fun e s'' => cameBackBy G.M c.A c.env (RaiE c x) e s'') v s' := fun v s' hr => by
    refine hr.note O (cxA c) fun e s'' hv hh => ?_
    subst hv
    exact hh.back fun s3 h3 => h3.rai
  simp only [whileTurn]
  refine wpAny_bind (wpAny_mono h (fun b s₂ h₂ => ?_) pass)
  obtain ⟨rfl, h₂⟩ := h₂
  simp only [if_true]
  exact wpAny_bind (wpAny_mono h₂ (fun f s₃ h₃ => h₃.elim) pass)
theorem funFrames_other {h h' base : Heap} {l : List Env} (hl : h.FunFrames base l) (hC : ∀ b ∈ l.filterMap (·.frame), h'.get? b = h.get? b) : h'.FunFrames base l := by
  induction l with
  | nil => trivial
  | cons env r ih =>
    obtain ⟨h1, ⟨L, o, hf, hn, ho, hd⟩, hr⟩ := hl
    rw [List.filterMap_cons, hf] at hC
    exact ⟨h1, ⟨L, o, hf, hn, (hC L (.head _)).trans ho, hd⟩, ih hr fun b hb => hC b (.tail _ hb)⟩
theorem HeldX.same {C : Addr} {o : Obj} {x' : LedT} (h : HeldX c x' e s) (hx : ∀ p ∈ x, p ∈ x' ∧ p.1 ≠ C) (ho : s.heap.get? C = some o) (hd : ∀ vs, o.data ≠ .fields vs) (hb : c.base.get? C = none) (hf : ∀ b ∈ (c.env :: c.outer).filterMap (·.frame), b ≠ C) {h' : Heap} (hs : Heap.SameBut C s.heap h') : HeldX c x e { s with heap := h' } := by
  obtain ⟨a, b, a0, fl, u, k1, k2, k3, oe, vs, T, oT, ts, he, hc, hde, h1, hnT, hTe, hT, hdT, h3⟩ := h
  have noRec : ∀ b ob vs, s.heap.get? b = some ob → ob.data = .fields vs → b ≠ C := fun b ob vs hz hnf q => by
    subst q
    exact hd vs (Option.some.inj (hz.symm.trans ho) ▸ hnf)
  have sub : ∀ {z : Addr}, b.get? z = none → (hideAll b [C]).get? z = none := fun {z} hz => by
    cases q : (hideAll b [C]).get? z with
    | none => rfl
    | some o' => have := of_hideAll _ q; rw [hz] at this; cases this
  refine ⟨a.at, hideAll b [C], a0, fl, ⟨fun z oz hz => hideAll_get _ (u.1 z oz hz) fun hm => ?_, fun p hp hn => hideAll_get _ (u.2 p (hx p hp).1 hn) fun hm => (hx p hp).2 (List.mem_singleton.mp hm)⟩, fun z oz hz => (hs.2 z fun q => ?_).trans (k1 z oz (of_hideAll _ hz)), sub k2,
    funFrames_other (funFrames_base k3 fun L hL => sub (k3.mem hL).1) fun b hb => hs.2 b (hf b hb), oe, vs, T, oT, ts, (hs.2 _ (noRec _ _ _ he hde)).trans he, hc, hde, h1, sub hnT, hTe, (hs.2 _ (noRec _ _ _ hT hdT)).trans hT, hdT, h3⟩
  · obtain rfl := List.mem_singleton.mp hm
    rw [hb] at hz
    cases hz
  · subst q
    rw [hideAll_none _ (.head _)] at hz
    cases hz
noncomputable def RaiC (c : Cx) (x : LedT) (v : Value) (s : Shared) : Prop := ∃ e, v = .ref e ∧ FlyX c x e s
section
variable {m : Str → Option Value} {mu news xc : LedT} {ns : List (Str × NameKind)} {R : Tab} {elt target iter : Expr} {scope : Scope} {pos : Pos}
noncomputable def CompGoR (G : Gl) (c : Cx) (elt target iter : Expr) (scope : Scope) (pos : Pos) (cl : List (Str × Addr)) (Q E : Value → Shared → Prop) (xv : Value) (s : Shared) : Prop :=
  wpAny G.M c.A (pyIter xv) (fun it s₂ => wpAny G.M c.A (newList []) (fun acc s₃ => wpAny G.M c.A (newFunctionEnv scope c.env.globals cl [] c.env.qual none .none (some c.env)) (fun cenv s₄ =>
    codeAny G.M c.A (.compStart (.ListComp elt [⟨target, iter, [], 0⟩] scope pos) 0 it acc { cenv with scope := relabel scope c.env }) (compPost G.M c.A E none Q acc cenv.locals) s₄) E s₃) E s₂) E s
theorem v_ListCompR {Q E : Value → Shared → Prop} (T : FT G c ns m xc R) (hf : (scope.names.all fun p => p.2 != NameKind.free || ns.lookup p.1 == some NameKind.cell) = true)
    (hnd : (scope.names.map (·.1)).Nodup) (hkind : scope.kind = .function) (hs : ∀ x, foldedSetIterable iter c.env x = pure x) (h : ∀ cl, ClOk c scope cl → wpAny G.M c.A (eval iter c.env) (CompGoR G c elt target iter scope pos cl Q E) E s) :
    wpAny G.M c.A (eval (.ListComp elt [⟨target, iter, [], 0⟩] scope pos) c.env) Q E s := by
  obtain ⟨cl, hcl, hok⟩ := clos_of T hf hnd
  rw [eval_ListComp]
  exact wpAny_comprehension_free (use := none) rfl hs hcl hkind (fun y hy e => by obtain ⟨y, k⟩ := y; cases e; exact lookup_mem hnd hy) (h cl hok)
theorem pass_comp {x0 : LedT} (hx0 : ∀ p ∈ x0, p ∈ x) {I C D : Addr} {oI oC oD : Obj} {scope : Scope} {cl : List (Str × Addr)} {mC : Str → Option Value} {Q : Value → Shared → Prop} {s0 : Shared} {acc : Value} (O : Ok G c n) {oC0 : Obj} (S : ES c m ((I, oI) :: (C, oC0) :: (D, oD) :: x) mu news s0) (hC : LCg.NsObj oC mC) (h : RaiC c ((I, oI) :: (C, oC) :: (D, oD) :: x) v s) :
    notedBy G.M c.A (compEnvC scope cl C c.env) (fun e s' => compPost G.M c.A (RaiE c x0) none Q acc C (.error e) s') v s := by
  obtain ⟨e, rfl, h⟩ := h
  refine h.held.note (cxA c) rfl fun s' h' => ?_
  have hN := S.N (C, oC0) (by simp)
  obtain ⟨es, ep, hd, hr⟩ := id hC
  have hg : s'.heap.get? C = some oC := by
    obtain ⟨_, b, _, _, u, k1, _⟩ := id h'
    exact k1 _ _ (u.2 (C, oC) (by simp) fun vs q => by rw [hd] at q; cases q)
  refine ⟨mC, ⟨_, es, ep, hg, hd, hr⟩, fun h'' hs cenv hcenv => ?_⟩
  have hx : ∀ p ∈ x, p.1 ≠ C := fun p hp q => by
    have := S.nd
    simp only [List.cons_append, List.map_cons, List.nodup_cons] at this
    exact this.2.1 (by rw [← q]; exact List.mem_cons_of_mem _ (List.mem_map_of_mem (f := (·.1)) (List.mem_append_left _ hp)))
  refine HeldX.passOn (HeldX.same h' (fun p hp => ⟨.tail _ (.tail _ (.tail _ (hx0 p hp))), hx p (hx0 p hp)⟩) hg (fun vs q => by rw [hd] at q; cases q) (fresh_of_stays O.B.stays hN.2.2) (fun b hb q => ?_) hs) fun s3 h3 => h3.rai
  subst q
  rw [List.filterMap_cons] at hb
  rcases List.mem_cons.mp hb with q | hb
  · exact hN.2.1 q
  · obtain ⟨_, o, ho, _⟩ := O.B.frames.mem hb
    have := hN.2.2
    rw [ho] at this
    cases this
theorem goLR {x0 : LedT} (hx0 : ∀ p ∈ x0, p ∈ x) {l : Addr} {o : Obj} {vs : List Value} {y : Str} {py : Pos} {cl : List (Str × Addr)} {Q : Value → Shared → Prop} (K : Nat) (O : Ok G c n) (S : ES c m x mu news s) (hl : (l, o) ∈ news) (P : LstP vs o) (hcell : ∀ y ∈ scope.names, y.2 ≠ .cell) (hkind : scope.kind = .function) (hz : vs.length ≤ 1000000) (hK : K < vs.length)
    (turn : ∀ i v I oI C oC D m₂ ys news' s, i < K → vs[i]? = some v → Gr news news' → LCg.NsObj oC m₂ → ES c m ((I, oI) :: (C, oC) :: (D, LCg.lst ys) :: x) mu news' s →
      wpAny G.M c.A (assign (.Name y py) (compEnvC scope cl C c.env) v) (fun _ s₂ => ∃ oC, wpAny G.M c.A (eval elt (compEnvC scope cl C c.env)) (CompK c m I oI C oC D ys x news (fun _ mu' _ => mu' = mu)) noE s₂ ∧ ∃ m₂, LCg.NsObj oC m₂) noE s)
    (last : ∀ v I oI C oC D m₂ ys news' s, vs[K]? = some v → Gr news news' → LCg.NsObj oC m₂ → ES c m ((I, oI) :: (C, oC) :: (D, LCg.lst ys) :: x) mu news' s →
      wpAny G.M c.A (assign (.Name y py) (compEnvC scope cl C c.env) v) (fun _ s₂ => ∃ oC, wpAny G.M c.A (eval elt (compEnvC scope cl C c.env)) (fun _ _ => False) (RaiC c ((I, oI) :: (C, oC) :: (D, LCg.lst ys) :: x)) s₂ ∧ ∃ m₂, LCg.NsObj oC m₂) noE s) :
    CompGoR G c elt (.Name y py) iter scope pos cl Q (RaiE c x0) (.ref l) s := by
  have weak : ∀ {α : Type} {t : Sem α} {Q : α → Shared → Prop} {E : Value → Shared → Prop} {s : Shared}, wpAny G.M c.A t Q noE s → wpAny G.M c.A t Q E s := fun h => wpAny_mono h (fun _ _ h => h) fun _ _ h => False.elim h
  have hl' : s.heap.IsList l vs.toArray := S.lst (List.mem_append_right _ hl) P
  refine wpAny_pyIter_list hl' ?_
  have S' := (S.push { cls := .type "list_iterator", data := .fields #[.ref l, .int 0 0] } rfl).hide
  have hne : l ≠ s.heap.objs.size := Nat.ne_of_lt (Heap.lt_size (S.get hl))
  have W := Walks.list (prog := G.prog) (w := G.w) (A := c.A) rfl s.heap.objs.size l hne vs.toArray
  have hzz : vs.toArray.size = vs.length := by simp
  rw [hzz] at W
  generalize s.heap.objs.size = I at *
  refine wpAny_newObj_type ?_ (by show ([] : List Value).toArray.size ≤ sizeLine; exact Nat.zero_le _)
  have S1 := (S'.push (LCg.lst []) rfl).hide
  refine wpAny_newFunctionEnv hcell (by intro y hy; cases hy) (fun h₁ hns₁ hsb₁ => ?_) hkind
  have S2 := (S1.push { cls := .type (if (some c.env).isSome then "dict" else "frame"), data := .dict #[] } rfl).hide
  obtain ⟨oC₀, hoC₀, hC₀⟩ := LCg.ns_obj hns₁
  have S3 := S2.step (tk := s.toks + ([] : List (Str × Value)).length) (fun b ob hb e => (hsb₁.2 b hb).trans e) hoC₀
  have S4 := S3.permX (x' := (I, _) :: (_, oC₀) :: (_, LCg.lst []) :: x) (by
    refine List.Perm.trans (List.Perm.swap _ _ _) (List.Perm.cons _ ?_)
    exact List.Perm.swap _ _ _)
  have hit₁ : h₁.IsListIter I l 0 := ⟨_, (S4.N _ (.head _)).1, rfl, rfl⟩
  have lis : ∀ {mA : Str → Option Value} {xA muA newsA : LedT} {sA : Shared}, Gr news newsA → ES c mA xA muA newsA sA → sA.heap.IsList l vs.toArray := fun g SA => SA.lst (List.mem_append_right _ (g.mem hl)) P
  have loop : ∀ (C D : Addr) (s₃ : Shared) (oI oC : Obj) (m₂ : Str → Option Value), ES c m ((I, oI) :: (C, oC) :: (D, LCg.lst []) :: x) mu news s₃ → s₃.heap.IsListIter I l 0 → LCg.NsObj oC m₂ →
      codeAny G.M c.A (.compLoop (.ListComp elt [⟨.Name y py, iter, [], 0⟩] scope pos) 0 (.ref I) (.ref D) (compEnvC scope cl C c.env)) (compPost G.M c.A (RaiE c x0) none Q (.ref D) C) s₃ := by
    intro C D s₃ oI oC m₂ S hst hC
    refine codeAny_compLoop_list (CompInv c m I C D x news K (fun i h => h.IsListIter I l i) (fun _ _ mu' _ => mu' = mu)) (fun k s' h => ?_) (K + 1) (.mk 0 _ _ _ [] mu news rfl (Nat.zero_le _) (Nat.le_refl _) hst rfl (Gr.refl _) hC S)
    obtain ⟨i, oI', oC', m₂', ys, mu', news', hk', hi, hyl, hit', hJ, hg, hC', S'⟩ := h
    subst hk'
    rw [hJ] at S'
    refine W.item i s' _ _ (by omega) ⟨hit', lis hg S'⟩ fun v h' tk hP hst₁ hk => ?_
    obtain ⟨o', ho'⟩ : ∃ o', h'.get? I = some o' := let ⟨o, ho, _⟩ := hst₁.1; ⟨o, ho⟩
    have S₁ := S'.step (tk := tk) (fun b ob hb e => hk b ob (by simpa using hb) e) ho'
    have hv : vs[i]? = some v := by simpa using hP
    have keepIt : ∀ {xA muA newsA : LedT} {sA : Shared}, ES c m ((I, o') :: xA) muA newsA sA → sA.heap.IsListIter I l (i + 1) := fun SA => by
      obtain ⟨oo, h1, h2, h3⟩ := hst₁.1
      obtain rfl : oo = o' := Option.some.inj (h1.symm.trans ho')
      exact ⟨_, (SA.N _ (.head _)).1, h2, h3⟩
    by_cases hlt : i < K
    · refine weak (wpAny_mono (turn i v I _ _ _ _ _ ys news' _ hlt hv hg hC' S₁) (fun _ s₂ h₂ => ?_) fun _ _ h => h)
      obtain ⟨oC₂, hE, m₃, hC₂⟩ := h₂
      refine weak (wpAny_mono hE (fun yv s₄ h₄ => ?_) fun _ _ h => h)
      obtain ⟨mu₄, news₄, rfl, hg₄, S₄⟩ := h₄
      have hD₄ := (S₄.N (D, LCg.lst ys) (by simp)).1
      refine append_at (hsz := by show ys.toArray.size ≤ sizeLine; rw [List.size_toArray, sizeLine_eq]; omega) hD₄ fun h₅ hs₅ hd₅ => ?_
      rw [LCg.lst_snoc] at hd₅
      have pD : ∀ {C D : Addr} {oC : Obj} (o : Obj), ((I, o') :: (C, oC) :: (D, o) :: x : LedT).Perm ((D, o) :: (I, o') :: (C, oC) :: x) := fun o => by
        refine List.Perm.trans (List.Perm.cons _ (List.Perm.swap _ _ _)) ?_
        exact List.Perm.swap _ _ _
      have S₅ := (S₄.permX (pD _).symm).step (tk := s₄.toks) (fun b ob hb e => (hs₅.2 b hb).trans e) hd₅
      have S₆ := S₅.permX (pD (LCg.lst (ys ++ [yv])))
      exact ⟨K + 1 - (i + 1), turn_lt hlt, .mk (i + 1) o' oC₂ m₃ (ys ++ [yv]) _ news₄ rfl hlt (by rw [List.length_append]; exact Nat.succ_le_succ hyl) (keepIt S₆) rfl hg₄ hC₂ S₆⟩
    · obtain rfl : i = K := by omega
      refine weak (wpAny_mono (last v I _ _ _ _ _ ys news' _ hv hg hC' S₁) (fun _ s₂ h₂ => ?_) fun _ _ h => h)
      obtain ⟨oC₂, hE, m₃, hC₂⟩ := h₂
      exact wpAny_mono hE (fun _ _ h => h.elim) fun v s3 h3 => pass_comp hx0 O S₁ hC₂ h3
  exact codeAny_compStart_list (loop _ _ _ _ _ _ S4 hit₁ hC₀) (weak (W.self 0 _ _ _ ⟨hit₁, lis (Gr.refl _) S4⟩ (loop _ _ _ _ _ _ S4 hit₁ hC₀)))
end
end
end

-- X1
section
open PySem PySem.W PyProof.Rows PySem.Spec PySem.Calls PyProof.V
structure Zx where
  c : Cx
  m : Str → Option Value
  xc : LedT
  x : LedT
  y : LedT
  env : Env
inductive Mode | fn (ns : List (Str × NameKind)) | cp
structure Fm where
  g : Gp
  n : Nat
  mode : Mode
  r : Bool
  /-- the cells stand still -/
  fz : Bool
noncomputable def Fm.In (F : Fm) (z : Zx) (R : Tab) : Prop := Ok (GG F.g) z.c F.n ∧ match F.mode with
  | .fn ns => z.env = z.c.env ∧ FT (GG F.g) z.c ns z.m z.xc R ∧ z.x = z.xc ++ z.y
  | .cp => Rds (GG F.g) z.c z.m z.xc z.env R ∧ (∀ p ∈ z.xc, p ∈ z.x) ∧ z.x = z.y
noncomputable def Fm.E (F : Fm) (z : Zx) : Value → Shared → Prop := if F.r = true then (match F.mode with | .fn _ => RaiE z.c z.y | .cp => RaiC z.c z.y) else noE
theorem Fm.In.ok {F : Fm} {z : Zx} {R : Tab} (I : F.In z R) : Ok (GG F.g) z.c F.n := I.1
theorem Fm.In.rds {F : Fm} {z : Zx} {R : Tab} (I : F.In z R) : Rds (GG F.g) z.c z.m z.xc z.env R ∧ ∀ p ∈ z.xc, p ∈ z.x := by
  obtain ⟨O, I⟩ := I
  obtain ⟨g, n, mode, r⟩ := F
  cases mode with
  | fn ns => obtain ⟨h1, h2, h3⟩ := I; rw [h1, h3]; exact ⟨h2.rds O, fun p h => List.mem_append_left _ h⟩
  | cp => exact ⟨I.1, I.2.1⟩
noncomputable def WT {α : Type} (F : Fm) (R : Tab) (mu news : LedT) (t : Zx → Sem α) (K : α → LedT → LedT → Prop) : Prop :=
  ∀ (z : Zx) (s : Shared) (Q : α → Shared → Prop), F.In z R → ES z.c z.m z.x mu news s → (∀ v mu' news' s', K v mu' news' → ES z.c z.m z.x mu' news' s' → Q v s') → wpAny (GG F.g).M z.c.A (t z) Q (F.E z) s
noncomputable def WE (F : Fm) (R : Tab) (mu news : LedT) (e : Expr) (K : Value → LedT → LedT → Prop) : Prop := WT F R mu news (fun z => eval e z.env) K
noncomputable def WB (F : Fm) (R : Tab) (mu news : LedT) (e : Expr) (K : Bool → LedT → LedT → Prop) : Prop := WT F R mu news (fun z => isTrue e z.env (eval e z.env)) K
noncomputable def WO {α : Type} (F : Fm) (R : Tab) (mu news : LedT) (t : Sem α) (K : α → LedT → LedT → Prop) : Prop := WT F R mu news (fun _ => t) K
noncomputable def WA (F : Fm) (R : Tab) (mu news : LedT) (pos : Pos) (es : List Expr) (K : List Value → LedT → LedT → Prop) : Prop := WT F R mu news (fun z => spliced (backTo pos (starEach es z.env))) K
noncomputable def Zx.to (z : Zx) (m : Str → Option Value) (xc : LedT) : Zx := { z with m := m, xc := xc, x := xc ++ z.y }
noncomputable def Fm.Post (F : Fm) (z : Zx) (K : Tab → LedT → LedT → Prop) (q : Shared → Prop) : Prop :=
  ∀ R' mu' news' m' xc' s', K R' mu' news' → (F.fz = true → xc' = z.xc) → F.In (z.to m' xc') R' → ES z.c m' (xc' ++ z.y) mu' news' s' → q s'
noncomputable def WP (F : Fm) (R : Tab) (mu news : LedT) (ss : List Stmt) (K : Flow → Tab → LedT → LedT → Prop) : Prop :=
  ∀ (z : Zx) (s : Shared) (Q : Flow → Shared → Prop), F.In z R → ES z.c z.m z.x mu news s → (∀ fl, F.Post z (K fl) (Q fl)) → wpAny (GG F.g).M z.c.A (execs ss z.env) Q (F.E z) s
theorem Fm.Post.to {F : Fm} {z : Zx} {K : Tab → LedT → LedT → Prop} {q : Shared → Prop} {m : Str → Option Value} {xc : LedT} (h : F.Post z K q) (hx : F.fz = true → xc = z.xc) : F.Post (z.to m xc) K q :=
  fun R' mu' news' m' xc' s' k e I S => h R' mu' news' m' xc' s' k (fun b => (e b).trans (hx b)) I S
noncomputable def EV (F : Fm) (R : Tab) (mu news : LedT) (e : Expr) (f : Tok → Value) : Prop := ∀ (z : Zx), F.In z R → Ev (GG F.g) z.c.A z.env z.c z.m z.x mu news e f
noncomputable def ET (F : Fm) (R : Tab) (mu news : LedT) (e : Expr) (b : Bool) : Prop := ∀ (z : Zx), F.In z R → EvT (GG F.g) z.c.A z.env z.c z.m z.x mu news e b
inductive NmAt : List (Str × NameKind) → Nat → Str → NameKind → Prop
  | here {y k r} : NmAt ((y, k) :: r) 0 y k
  | there {p r i y k} : NmAt r i y k → NmAt (p :: r) (i + 1) y k
section
variable {y : Str} {k : NameKind} {b0 b1 b2 b3 b4 b5 b6 b7 : Str × NameKind} {r : List (Str × NameKind)} {i : Nat}
theorem n0 : NmAt ((y, k) :: r) 0 y k := .here
theorem n1 : NmAt (b0 :: (y, k) :: r) 1 y k := .there n0
theorem n2 : NmAt (b0 :: b1 :: (y, k) :: r) 2 y k := .there n1
theorem n3 : NmAt (b0 :: b1 :: b2 :: (y, k) :: r) 3 y k := .there n2
theorem n4 : NmAt (b0 :: b1 :: b2 :: b3 :: (y, k) :: r) 4 y k := .there n3
theorem n5 : NmAt (b0 :: b1 :: b2 :: b3 :: b4 :: (y, k) :: r) 5 y k := .there n4
theorem n6 : NmAt (b0 :: b1 :: b2 :: b3 :: b4 :: b5 :: (y, k) :: r) 6 y k := .there n5
theorem n7 : NmAt (b0 :: b1 :: b2 :: b3 :: b4 :: b5 :: b6 :: (y, k) :: r) 7 y k := .there n6
theorem n8 (h : NmAt r i y k) : NmAt (b0 :: b1 :: b2 :: b3 :: b4 :: b5 :: b6 :: b7 :: r) (i + 8) y k := .there (.there (.there (.there (.there (.there (.there (.there h)))))))
end
theorem NmAt.get {ns : List (Str × NameKind)} {i : Nat} {y : Str} {k : NameKind} (h : NmAt ns i y k) : ns[i]? = some (y, k) := by
  induction h with
  | here => rfl
  | there _ ih => exact ih
theorem NmAt.mem {ns : List (Str × NameKind)} {i : Nat} {y : Str} {k : NameKind} (h : NmAt ns i y k) : (y, k) ∈ ns := List.mem_of_getElem? h.get
theorem setAt_of {y : Str} {v : Value} : ∀ {R : Tab} {i : Nat} {o : Option Value}, R[i]? = some (y, o) → SetAt y v R (R.set i (y, some v))
  | [], _, _, h => by simp at h
  | p :: r, 0, o, h => by simp at h; subst h; exact .here
  | p :: r, i + 1, o, h => .there (setAt_of (R := r) (i := i) (by simpa using h))
theorem FT.setAt {G : Gl} {c : Cx} {ns : List (Str × NameKind)} {m : Str → Option Value} {x : LedT} {R : Tab} (T : FT G c ns m x R) {i : Nat} {y : Str} {k : NameKind} (h : NmAt ns i y k) (v : Value) : SetAt y v R (R.set i (y, some v)) := by
  have hl : R.map (·.1) = ns.map (·.1) := by rw [T.len, T.hns]
  have h1 : (R.map (·.1))[i]? = some y := by rw [hl, List.getElem?_map, h.get]; rfl
  rw [List.getElem?_map] at h1
  cases hr : R[i]? with
  | none => rw [hr] at h1; cases h1
  | some p =>
    rw [hr] at h1
    obtain ⟨z, o⟩ := p
    simp at h1
    subst h1
    exact setAt_of hr
section
variable {F : Fm} {R : Tab} {mu news : LedT} {e e1 e2 : Expr} {f f1 f2 : Tok → Value} {pos : Pos}
theorem EV.mem {y : Str} {v : Value} (h : (y, some v) ∈ R) : EV F R mu news (.Name y pos) (fun _ => v) := fun z I => Ev.name I.rds.1 I.rds.2 rfl h
theorem EV.int {i : Int} {k : Nat} : EV F R mu news (.Constant (.int i) k pos) (fun t => .int i t) := fun _ _ => Ev.int
theorem EV.str {y : Str} {k : Nat} : EV F R mu news (.Constant (.str y) k pos) (fun t => .str y t) := fun _ _ => Ev.str
theorem EV.none {k : Nat} : EV F R mu news (.Constant .none k pos) (fun _ => .none) := fun _ _ => Ev.none
variable {i j : Int} {k1 k2 : Tok → Tok}
theorem EV.add (h1 : EV F R mu news e1 (fun t => .int i (k1 t))) (h2 : EV F R mu news e2 (fun t => .int j (k2 t))) : EV F R mu news (.BinOp e1 .Add e2 pos) (fun t => .int (i + j) t) := fun z I => Ev.add (h1 z I) (h2 z I)
theorem EV.sub (h1 : EV F R mu news e1 (fun t => .int i (k1 t))) (h2 : EV F R mu news e2 (fun t => .int j (k2 t))) : EV F R mu news (.BinOp e1 .Sub e2 pos) (fun t => .int (i - j) t) := fun z I => Ev.sub (h1 z I) (h2 z I)
theorem EV.mul (h1 : EV F R mu news e1 (fun t => .int i (k1 t))) (h2 : EV F R mu news e2 (fun t => .int j (k2 t))) (hm : IntMulOk i j) : EV F R mu news (.BinOp e1 .Mult e2 pos) (fun t => .int (i * j) t) := fun z I => Ev.mul (h1 z I) (h2 z I) hm
theorem ET.isN {b : Bool} {k : Nat} {p : Pos} {v : Value} (h1 : EV F R mu news e1 (fun _ => v)) (hb : noneIs v = some b) : ET F R mu news (.Compare e1 [.Is] [.Constant .none k p] pos) b := fun z I => EvT.isN (h1 z I) hb
theorem ET.isNN {b : Bool} {k : Nat} {p : Pos} {v : Value} (h1 : EV F R mu news e1 (fun _ => v)) (hb : noneIs v = some b) : ET F R mu news (.Compare e1 [.IsNot] [.Constant .none k p] pos) (!b) := fun z I => EvT.isNN (h1 z I) hb
theorem WE.told {K : Value → LedT → LedT → Prop} (h : EV F R mu news e f) (k : ∀ t, K (f t) mu news) : WE F R mu news e K := fun z s Q I S q => h z I s Q _ S fun t s' S' => q _ _ _ _ (k t) S'
theorem WE.toldV {K : Value → LedT → LedT → Prop} {v : Value} (h : EV F R mu news e (fun _ => v)) (k : K v mu news) : WE F R mu news e K := WE.told h fun _ => k
theorem WB.told {K : Bool → LedT → LedT → Prop} {b : Bool} (h : ET F R mu news e b) (k : K b mu news) : WB F R mu news e K := fun z s Q I S q => h z I s Q _ S fun s' S' => q _ _ _ _ k S'
theorem WT.mono {α : Type} {t : Zx → Sem α} {K K' : α → LedT → LedT → Prop} (h : WT F R mu news t K) (k : ∀ v mu' news', K v mu' news' → K' v mu' news') : WT F R mu news t K' := fun z s Q I S q => h z s Q I S fun v mu' news' s' a b => q v mu' news' s' (k _ _ _ a) b
end
noncomputable abbrev Ck (K K' : Value → LedT → LedT → Prop) : Prop := ∀ v mu news, K v mu news → K' v mu news
theorem CtX.w {F : Fm} {R : Tab} {mu news : LedT} {k : Nat} {f : Addr} {vs : List Value} {P : Value → LedT → LedT → Prop} {K : Value → LedT → LedT → Prop} (C : CtX (GG F.g) k f vs mu news P) (h : ∀ K', Ck K K' → ∀ r mu' news', P r mu' news' → Gr news news' → K' r mu' news') (hk : Nat.ble k F.n = true := by with_unfolding_all rfl) : WO F R mu news (call (.ref f) vs) K :=
  fun z s Q I S q => C.at I.ok hk S fun r mu' news' s' p g S' => q r mu' news' s' (h K (fun _ _ _ a => a) r mu' news' p g) S'
section
variable {g : Gp} {n : Nat} {ns : List (Str × NameKind)} {r : Bool} {R : Tab} {mu news : LedT} {e e1 e2 : Expr} {f f1 f2 : Tok → Value} {pos : Pos} {K : Flow → Tab → LedT → LedT → Prop} {rest : List Stmt}
theorem EV.name {fz : Bool} {y : Str} {v : Value} {i : Nat} {k : NameKind} (hi : NmAt ns i y k) (hr : R[i]? = some (y, some v)) : EV ⟨g, n, .fn ns, r, fz⟩ R mu news (.Name y pos) (fun _ => v) := EV.mem (List.mem_of_getElem? hr)
theorem enterW {name qual : Str} {params : Arguments} {body : List Stmt} {scope : Scope} {dV kV doc pm cdv ct oc : Value} {an od : Option Addr} {osl : Array (Option Value)} {f : Addr} {vs : List Value} {binds : List (Str × Value)} {P : Value → LedT → LedT → Prop}
    (hlk : (hd.heap_1 g.w.params).lookup f = some ⟨oc, od, .func (fnOf name qual params body scope dV kV doc pm an cdv ct), osl⟩) (hcd : codeIn (hd.heap_1 g.w.params) cdv qual = true)
    (hin : InitC (GG g) scope.names vs binds R) (hbind : bindArgs (fnOf name qual params body scope dV kV doc pm an cdv ct) ⟨vs, []⟩ = pure binds) (hnd : (scope.names.map (·.1)).Nodup) (hdbg : (scope.names.any fun y => y.1 == ("__debug__" : Str)) = false)
    (hco : scope.isCoroutine = false) (hgen : scope.isGenerator = false) (hk : scope.kind = .function)
    (h : ∀ K : Flow → Tab → LedT → LedT → Prop, (∀ fl R' mu' news', Gr news news' → P (retOf fl) mu' news' → K fl R' mu' news') → let Rt := R; WP ⟨g, n, .fn scope.names, false, false⟩ Rt mu news body K) : CtX (GG g) (n + 1) f vs mu news P :=
  enterG hlk hcd hin hbind hnd hdbg hco hgen hk fun c m x cells s O T S => h (fun fl _ mu' news' => Gr news news' ∧ P (retOf fl) mu' news') (fun _ _ _ _ a b => ⟨a, b⟩) ⟨c, m, cells, cells ++ x, x, c.env⟩ s _ ⟨O, rfl, T, rfl⟩ S fun fl R' mu' news' m' xc' s' hp _ I' S' => backG S' hp.1 hp.2
noncomputable def SeqW (F : Fm) (rest : List Stmt) (K : Flow → Tab → LedT → LedT → Prop) (f : Flow) (R : Tab) (mu news : LedT) : Prop := match f with
  | .next => WP F R mu news rest K
  | f => K f R mu news
variable {fz : Bool}
theorem In.same {z : Zx} (I : Fm.In ⟨g, n, .fn ns, r, fz⟩ z R) : z.to z.m z.xc = z := by
  obtain ⟨O, h1, h2, h3⟩ := I; cases z; dsimp only at h3; subst h3; rfl
theorem Fm.Post.now {z : Zx} {K : Tab → LedT → LedT → Prop} {q : Shared → Prop} {s : Shared} (h : Fm.Post ⟨g, n, .fn ns, r, fz⟩ z K q) (k : K R mu news) (I : Fm.In ⟨g, n, .fn ns, r, fz⟩ z R) (S : ES z.c z.m z.x mu news s) : q s :=
  h R mu news z.m z.xc s k (fun _ => rfl) ((In.same I).symm ▸ I) (by rw [← I.2.2.2]; exact S)
theorem WP.nil (h : K .next R mu news) : WP ⟨g, n, .fn ns, r, fz⟩ R mu news [] K := fun z s Q I S q => wpAny_execs_nil ((q .next).now h I S)
theorem WP.nilS (h : WP ⟨g, n, .fn ns, r, fz⟩ R mu news rest K) : WP ⟨g, n, .fn ns, r, fz⟩ R mu news [] (SeqW ⟨g, n, .fn ns, r, fz⟩ rest K) := WP.nil h
theorem WP.ret {p : Pos} (h : WE ⟨g, n, .fn ns, r, fz⟩ R mu news e (fun v => K (.ret v) R)) : WP ⟨g, n, .fn ns, r, fz⟩ R mu news (.Return (some e) p :: rest) K := fun z s Q I S q =>
  v_ret (h z s (fun v => Q (.ret v)) I S fun v mu' news' s' k S' => (q _).now k I S')
theorem seqW {F : Fm} {z : Zx} {s : Shared} {Q : Flow → Shared → Prop} {ss : List Stmt} (h : WP F R mu news ss (SeqW F rest K)) (I : F.In z R) (S : ES z.c z.m z.x mu news s)
    (q : ∀ fl, F.Post z (K fl) (Q fl)) : wpAny (GG F.g).M z.c.A (execs ss z.env) (SeqK (GG F.g).M z.c.A rest z.env Q (F.E z)) (F.E z) s :=
  h z s _ I S fun fl R' mu' news' m' xc' s' k e I' S' => by
    cases fl with
    | next => exact k (z.to m' xc') s' Q I' S' fun fl => (q fl).to e
    | ret v => exact q _ _ _ _ _ _ _ k e I' S'
    | brk => exact q _ _ _ _ _ _ _ k e I' S'
    | cont => exact q _ _ _ _ _ _ _ k e I' S'
theorem WP.if {F : Fm} {test : Expr} {body orelse : List Stmt} (h : WB F R mu news test (fun b mu' news' => if b = true then WP F R mu' news' body (SeqW F rest K) else WP F R mu' news' orelse (SeqW F rest K))) : WP F R mu news (.If test body orelse pos :: rest) K := fun z s Q I S q =>
  v_if (h z s _ I S fun b mu' news' s' k S' => by
    cases b with
    | true => exact seqW k I S' q
    | false => exact seqW k I S' q)
theorem WP.ifT {F : Fm} {test : Expr} {body orelse : List Stmt} {b : Bool} (ht : ET F R mu news test b) (h : if b = true then WP F R mu news body (SeqW F rest K) else WP F R mu news orelse (SeqW F rest K)) : WP F R mu news (.If test body orelse pos :: rest) K := WP.if (WB.told ht h)
noncomputable def okStore (fz : Bool) : NameKind → Bool | .local => true | .cell => !fz | _ => false
theorem storeW {z : Zx} {s : Shared} {y : Str} {v : Value} {i : Nat} {k : NameKind} {q : Shared → Prop} {KT : Tab → LedT → LedT → Prop} (hi : NmAt ns i y k) (hk : okStore fz k = true) (I : Fm.In ⟨g, n, .fn ns, r, fz⟩ z R) (S : ES z.c z.m z.x mu news s)
    (kt : KT (R.set i (y, some v)) mu news) (h : Fm.Post ⟨g, n, .fn ns, r, fz⟩ z KT q) (E : Value → Shared → Prop) : wpAny (GG g).M z.c.A (storeName z.env y v) (fun _ => q) E s := by
  obtain ⟨O, h1, h2, h3⟩ := I
  rw [h1]
  rw [h3] at S
  cases k with
  | «local» => exact v_store O h2 S (h2.setAt hi v) hi.mem rfl fun m' s' T' S' => h _ _ _ m' z.xc s' kt (fun _ => rfl) ⟨O, h1, T', rfl⟩ S'
  | cell =>
    have hf : fz = false := by simpa [okStore] using hk
    exact v_storeC O h2 S (h2.setAt hi v) hi.mem rfl fun xc' s' T' S' => h _ _ _ z.m xc' s' kt (fun b => by rw [hf] at b; cases b) ⟨O, h1, T', rfl⟩ S'
  | _ => cases hk
end
end

-- X2
section
open PySem PySem.W PyProof.Rows PySem.Spec PySem.Calls PyProof.V
noncomputable def notComp (e : Expr) : Bool := !(Nat.beq e.ctorIdx 8 || Nat.beq e.ctorIdx 9 || Nat.beq e.ctorIdx 10)
noncomputable def notDisp (e : Expr) : Bool := !Nat.beq e.ctorIdx 25
theorem swaps_no {e : Expr} {t : Option Expr} {l : Nat} {env : Env} (h : notComp e = true) : swapsWith e t l env = pure false := by revert h; cases e <;> first | exact fun _ => rfl | exact fun h => (Bool.false_ne_true h).elim
noncomputable def WAs (F : Fm) (R : Tab) (mu news : LedT) (t : Expr) (v : Value) (K : Tab → LedT → LedT → Prop) : Prop :=
  ∀ (z : Zx) (s : Shared) (q : Shared → Prop), F.In z R → ES z.c z.m z.x mu news s → F.Post z K q → wpAny (GG F.g).M z.c.A (assign t z.env v) (fun _ => q) (F.E z) s
noncomputable def WAL (F : Fm) (R : Tab) (mu news : LedT) (ts : List Expr) (vs : List Value) (K : Tab → LedT → LedT → Prop) : Prop :=
  ∀ (z : Zx) (s : Shared) (q : Shared → Prop), F.In z R → ES z.c z.m z.x mu news s → F.Post z K q → wpAny (GG F.g).M z.c.A (assignInOrder ((assignEach ts z.env).map (·.2)) vs) (fun _ => q) (F.E z) s
noncomputable def isTarget (e : Expr) : Bool := Nat.beq e.ctorIdx 23
section
variable {g : Gp} {n : Nat} {ns : List (Str × NameKind)} {r fz : Bool} {R : Tab} {mu news : LedT} {e e1 e2 : Expr} {f f1 f2 : Tok → Value} {pos : Pos} {K : Flow → Tab → LedT → LedT → Prop} {rest : List Stmt} {KT : Tab → LedT → LedT → Prop}
theorem WAs.name {y : Str} {p : Pos} {v : Value} {i : Nat} {k : NameKind} (hi : NmAt ns i y k) (hk : okStore fz k = true) (h : let Rt := R.set i (y, some v); KT Rt mu news) : WAs ⟨g, n, .fn ns, r, fz⟩ R mu news (.Name y p) v KT := fun z s q I S h' =>
  wpAny_assign_Name (storeW hi hk I S h h' _)
theorem WAL.nil {vs : List Value} (h : KT R mu news) : WAL ⟨g, n, .fn ns, r, fz⟩ R mu news [] vs KT := fun z s q I S h' => PyProof.Rows.assignInOrder_nil (h'.now h I S)
theorem WAL.cons {t : Expr} {ts : List Expr} {v : Value} {vs : List Value} (ht : isTarget t = true) (h : WAs ⟨g, n, .fn ns, r, fz⟩ R mu news t v (fun R' mu' news' => WAL ⟨g, n, .fn ns, r, fz⟩ R' mu' news' ts vs KT)) : WAL ⟨g, n, .fn ns, r, fz⟩ R mu news (t :: ts) (v :: vs) KT := fun z s q I S h' => by
  have e : (assignEach (t :: ts) z.env).map (·.2) = assign t z.env :: (assignEach ts z.env).map (·.2) := by revert ht; cases t <;> first | exact fun _ => rfl | exact fun h => (Bool.false_ne_true h).elim
  rw [e]
  exact PyProof.Rows.assignInOrder_cons (h z s _ I S fun R' mu' news' m' xc' s' k e I' S' => k (z.to m' xc') s' q I' S' (h'.to e))
theorem isTarget_name {t : Expr} (h : isTarget t = true) : ∃ y p, t = .Name y p := by revert h; cases t <;> first | exact fun _ => ⟨_, _, rfl⟩ | exact fun h => (Bool.false_ne_true h).elim
theorem each_len {ts : List Expr} {env : Env} (h : ts.all isTarget = true) : (assignEach ts env).length = ts.length ∧ (assignEach ts env).findIdx? (·.1) = none := by
  induction ts with
  | nil => exact ⟨rfl, rfl⟩
  | cons t ts ih =>
    rw [List.all_cons, Bool.and_eq_true] at h
    obtain ⟨y, p, rfl⟩ := isTarget_name h.1
    have ih := ih h.2
    exact ⟨congrArg (· + 1) ih.1, by rw [show assignEach (.Name y p :: ts) env = (false, assign (.Name y p) env) :: assignEach ts env from rfl, List.findIdx?_cons, ih.2]; rfl⟩
theorem WAs.tup {ts : List Expr} {kk : Nat} {p : Pos} {t : Addr} {vs : List Value} (hm : (t, tupO vs) ∈ mu ++ news) (ht : ts.all isTarget = true) (hl : ts.length = vs.length) (h : WAL ⟨g, n, .fn ns, r, fz⟩ R mu news ts vs KT) : WAs ⟨g, n, .fn ns, r, fz⟩ R mu news (.Tuple ts kk p) (.ref t) KT := fun z s q I S h' =>
  v_unpack rfl S hm ((each_len ht).1.trans hl) (each_len ht).2 fun s' S' => h z s' q I S' h'
theorem WP.asg {y : Str} {p' p : Pos} {i : Nat} {k : NameKind} (hc : notComp e = true) (hi : NmAt ns i y k) (hk : okStore fz k = true) (h : WE ⟨g, n, .fn ns, r, fz⟩ R mu news e (fun v mu' news' => let Rt := R.set i (y, some v); WP ⟨g, n, .fn ns, r, fz⟩ Rt mu' news' rest K)) :
    WP ⟨g, n, .fn ns, r, fz⟩ R mu news (.Assign [.Name y p'] e p :: rest) K := fun z s Q I S q =>
  v_asg (h z s _ I S fun v mu' news' s' kk S' => storeW (KT := fun R' mu' news' => WP ⟨g, n, .fn ns, r, fz⟩ R' mu' news' rest K) hi hk I S' kk (fun R' mu' news' m' xc' s2 k2 e I2 S2 => k2 (z.to m' xc') s2 Q I2 S2 fun fl => (q fl).to e) _) (swaps_no hc)
theorem WP.asgE {y : Str} {p' p : Pos} {i : Nat} {k : NameKind} (hc : notComp e = true) (hi : NmAt ns i y k) (hk : okStore fz k = true) (he : EV ⟨g, n, .fn ns, r, fz⟩ R mu news e f) (h : ∀ t, let Rt := R.set i (y, some (f t)); WP ⟨g, n, .fn ns, r, fz⟩ Rt mu news rest K) :
    WP ⟨g, n, .fn ns, r, fz⟩ R mu news (.Assign [.Name y p'] e p :: rest) K := WP.asg hc hi hk (WE.told he h)
theorem WP.asgV {y : Str} {p' p : Pos} {i : Nat} {k : NameKind} {v : Value} (hc : notComp e = true) (hi : NmAt ns i y k) (hk : okStore fz k = true) (he : EV ⟨g, n, .fn ns, r, fz⟩ R mu news e (fun _ => v)) (h : let Rt := R.set i (y, some v); WP ⟨g, n, .fn ns, r, fz⟩ Rt mu news rest K) :
    WP ⟨g, n, .fn ns, r, fz⟩ R mu news (.Assign [.Name y p'] e p :: rest) K := WP.asgE hc hi hk he fun _ => h
theorem WP.asgT {ts : List Expr} {kk : Nat} {tp p : Pos} (hc : notComp e = true) (hd : notDisp e = true) (h : WE ⟨g, n, .fn ns, r, fz⟩ R mu news e (fun v mu' news' => WAs ⟨g, n, .fn ns, r, fz⟩ R mu' news' (.Tuple ts kk tp) v (fun R' mu' news' => WP ⟨g, n, .fn ns, r, fz⟩ R' mu' news' rest K))) :
    WP ⟨g, n, .fn ns, r, fz⟩ R mu news (.Assign [.Tuple ts kk tp] e p :: rest) K := fun z s Q I S q =>
  v_asgT (h z s _ I S fun v mu' news' s' k S' => k z s' _ I S' fun R' mu' news' m' xc' s2 k2 e I2 S2 => k2 (z.to m' xc') s2 Q I2 S2 fun fl => (q fl).to e) (swaps_no (t := some (.Tuple ts kk tp)) (l := p.line) (env := z.env) hc) (by revert hd; cases e <;> first | exact fun _ => rfl | exact fun h => (Bool.false_ne_true h).elim)
theorem WP.asgTV {ts : List Expr} {kk : Nat} {tp p : Pos} {t : Addr} {vs : List Value} (hc : notComp e = true) (hd : notDisp e = true) (he : EV ⟨g, n, .fn ns, r, fz⟩ R mu news e (fun _ => .ref t)) (hm : (t, tupO vs) ∈ mu ++ news) (ht : ts.all isTarget = true) (hl : ts.length = vs.length)
    (h : WAL ⟨g, n, .fn ns, r, fz⟩ R mu news ts vs (fun R' mu' news' => WP ⟨g, n, .fn ns, r, fz⟩ R' mu' news' rest K)) : WP ⟨g, n, .fn ns, r, fz⟩ R mu news (.Assign [.Tuple ts kk tp] e p :: rest) K := WP.asgT hc hd (WE.toldV he (WAs.tup hm ht hl h))
noncomputable def LoopW (n0 : LedT) (J : Tab → LedT → LedT → Prop) (K : Flow → Tab → LedT → LedT → Prop) (f : Flow) (R : Tab) (mu news : LedT) : Prop := match f with
  | .ret v => K (.ret v) R mu news
  | .brk => False
  | _ => J R mu news ∧ Gr n0 news
noncomputable def notSet (e : Expr) : Bool := !Nat.beq e.ctorIdx 7
theorem fold_no {iter : Expr} {env : Env} {x : Value} (h : notSet iter = true) : foldedSetIterable iter env x = pure x := by revert h; cases iter <;> first | exact fun _ => rfl | exact fun h => (Bool.false_ne_true h).elim
theorem ES.dropX {c : Cx} {m : Str → Option Value} {xc y : LedT} {p : Addr × Obj} {s : Shared} (S : ES c m (xc ++ p :: y) mu news s) : ES c m (xc ++ y) mu news s := by
  have hs : ((xc ++ y) ++ (mu ++ news)).Sublist ((xc ++ p :: y) ++ (mu ++ news)) := ((List.Sublist.refl xc).append (List.sublist_cons_self p y)).append (List.Sublist.refl _)
  exact ⟨S.F, fun q hq => S.N q (hs.subset hq), S.nd.sublist (hs.map _), S.hs⟩
noncomputable def WFor (F : Fm) (R : Tab) (mu news : LedT) (target : Expr) (body rest : List Stmt) (v : Value) (K : Flow → Tab → LedT → LedT → Prop) : Prop :=
  ∀ (z : Zx) (s : Shared) (Q : Flow → Shared → Prop), F.In z R → ES z.c z.m z.x mu news s → (∀ fl, F.Post z (K fl) (Q fl)) → ForGo (GG F.g).M z.c.A target body rest z.env Q (F.E z) v s
theorem WP.for {F : Fm} {target iter : Expr} {body : List Stmt} (hs : notSet iter = true) (h : WE F R mu news iter (fun v mu' news' => WFor F R mu' news' target body rest v K)) : WP F R mu news (.For target iter body [] pos :: rest) K := fun z s Q I S q =>
  v_for (h z s _ I S fun v mu' news' s' k S' => k z s' Q I S' q) fun _ => fold_no hs
theorem loopEnd {z : Zx} {Q : Flow → Shared → Prop} {J : Tab → LedT → LedT → Prop} {m m' : Str → Option Value} {xc' : LedT} {p : Addr × Obj} {n0 : LedT} {fl : Flow} {s : Shared} (hx : z.x = z.xc ++ z.y) (q : ∀ fl, Fm.Post ⟨g, n, .fn ns, false, fz⟩ z (K fl) (Q fl))
    (k : LoopW n0 J K fl R mu news) (e : xc' = z.xc) (I : Fm.In ⟨g, n, .fn ns, false, true⟩ (Zx.to ⟨z.c, m, z.xc, z.xc ++ p :: z.y, p :: z.y, z.c.env⟩ m' xc') R) (hz : z.env = z.c.env) (S : ES z.c m' (xc' ++ p :: z.y) mu news s) : LoopK (GG g) z.c ns z.xc (p :: z.x) n0 J Q fl s := by
  subst e
  obtain ⟨O, h1, h2, h3⟩ := I
  cases fl with
  | ret v => exact q (.ret v) _ _ _ m' z.xc s k (fun _ => rfl) ⟨O, hz, h2, rfl⟩ S.dropX
  | brk => exact k.elim
  | next => exact ⟨m', R, mu, news, k.1, k.2, h2, by rw [hx]; exact S.permX (List.perm_middle.symm)⟩
  | cont => exact ⟨m', R, mu, news, k.1, k.2, h2, by rw [hx]; exact S.permX (List.perm_middle.symm)⟩
theorem turnW {z : Zx} {Q : Flow → Shared → Prop} {J : Tab → LedT → LedT → Prop} {m : Str → Option Value} {p : Addr × Obj} {n0 : LedT} {s : Shared} {t : Expr} {v : Value} {body : List Stmt} (hx : z.x = z.xc ++ z.y) (hz : z.env = z.c.env) (q : ∀ fl, Fm.Post ⟨g, n, .fn ns, false, fz⟩ z (K fl) (Q fl))
    (h : WAs ⟨g, n, .fn ns, false, true⟩ R mu news t v (fun R' mu' news' => WP ⟨g, n, .fn ns, false, true⟩ R' mu' news' body (LoopW n0 J K))) (O : Ok (GG g) z.c n) (T : FT (GG g) z.c ns m z.xc R) (S : ES z.c m (p :: z.x) mu news s) :
    wpAny (GG g).M z.c.A (assign t z.c.env v) (fun _ s₂ => wpAny (GG g).M z.c.A (execs body z.c.env) (LoopK (GG g) z.c ns z.xc (p :: z.x) n0 J Q) noE s₂) noE s :=
  h ⟨z.c, m, z.xc, z.xc ++ p :: z.y, p :: z.y, z.c.env⟩ s _ ⟨O, rfl, T, rfl⟩ (by rw [hx] at S; exact S.permX List.perm_middle) fun R' mu' news' m' xc' s' k e I' S' =>
    k (Zx.to ⟨z.c, m, z.xc, z.xc ++ p :: z.y, p :: z.y, z.c.env⟩ m' xc') s' _ I' S' fun fl R2 mu2 news2 m2 xc2 s2 k2 e2 I2 S2 => loopEnd (m := m) hx q k2 ((e2 rfl).trans (e rfl)) I2 hz S2
variable {target : Expr} {body : List Stmt}
theorem afterW {z : Zx} {Q : Flow → Shared → Prop} {m : Str → Option Value} {s : Shared} (hx : z.x = z.xc ++ z.y) (hz : z.env = z.c.env) (q : ∀ fl, Fm.Post ⟨g, n, .fn ns, false, fz⟩ z (K fl) (Q fl)) (h : WP ⟨g, n, .fn ns, false, fz⟩ R mu news rest K) (O : Ok (GG g) z.c n) (T : FT (GG g) z.c ns m z.xc R) (S : ES z.c m z.x mu news s) :
    wpAny (GG g).M z.c.A (execs rest z.c.env) Q noE s := by
  have := h (z.to m z.xc) s Q ⟨O, hz, T, rfl⟩ (by rw [hx] at S; exact S) fun fl => (q fl).to fun _ => rfl
  rw [show (z.to m z.xc).env = z.c.env from hz] at this
  exact this
theorem WFor.Ls {l : Addr} {o : Obj} {vs : List Value} (J : Nat → Tab → LedT → LedT → Prop) (hl : (l, o) ∈ news) (P : LstP vs o) (h0 : J 0 R mu news)
    (turn : ∀ i v R mu news', vs[i]? = some v → J i R mu news' → Gr news news' → WAs ⟨g, n, .fn ns, false, true⟩ R mu news' target v (fun R' mu' news2 => WP ⟨g, n, .fn ns, false, true⟩ R' mu' news2 body (LoopW news (J (i + 1)) K)))
    (done : ∀ R mu news', J vs.length R mu news' → Gr news news' → WP ⟨g, n, .fn ns, false, fz⟩ R mu news' rest K) : WFor ⟨g, n, .fn ns, false, fz⟩ R mu news target body rest (.ref l) K := fun z s Q I S q => by
  obtain ⟨O, h1, h2, h3⟩ := I
  rw [h1]
  exact v_forL J h2 S hl P h0 (fun i v I oI m R mu news' s hv hJ gr T S => turnW h3 h1 q (turn i v R mu news' hv hJ gr) O T S) fun m R mu news' s hJ gr T S => afterW h3 h1 q (done R mu news' hJ gr) O T S
theorem WFor.By {b : Array UInt8} {tb : Tok} (J : Nat → Tab → LedT → LedT → Prop) (h0 : J 0 R mu news)
    (turn : ∀ i (v : Int) t R mu news', (KBw.bInts b)[i]? = some v → J i R mu news' → Gr news news' → WAs ⟨g, n, .fn ns, false, true⟩ R mu news' target (.int v t) (fun R' mu' news2 => WP ⟨g, n, .fn ns, false, true⟩ R' mu' news2 body (LoopW news (J (i + 1)) K)))
    (done : ∀ R mu news', J b.size R mu news' → Gr news news' → WP ⟨g, n, .fn ns, false, fz⟩ R mu news' rest K) : WFor ⟨g, n, .fn ns, false, fz⟩ R mu news target body rest (.bytes b tb) K := fun z s Q I S q => by
  obtain ⟨O, h1, h2, h3⟩ := I
  rw [h1]
  exact v_forB J h2 S h0 (fun i v t I oI m R mu news' s hv hJ gr T S => turnW h3 h1 q (turn i v t R mu news' hv hJ gr) O T S) fun m R mu news' s hJ gr T S => afterW h3 h1 q (done R mu news' hJ gr) O T S
theorem WFor.Rg {l : Addr} {a d : Int} {e : Int} {t u v : Tok} {num : Nat} (J : Nat → Tab → LedT → LedT → Prop) (hl : (l, rngO a e d t u v) ∈ news) (hs : Builtin.Range.small a e d = true) (hn : Builtin.Range.rangeSize a e d = (num : Int)) (h0 : J 0 R mu news)
    (turn : ∀ i t R mu news', i < num → J i R mu news' → Gr news news' → WAs ⟨g, n, .fn ns, false, true⟩ R mu news' target (.int (a + (i : Int) * d) t) (fun R' mu' news2 => WP ⟨g, n, .fn ns, false, true⟩ R' mu' news2 body (LoopW news (J (i + 1)) K)))
    (done : ∀ R mu news', J num R mu news' → Gr news news' → WP ⟨g, n, .fn ns, false, fz⟩ R mu news' rest K) : WFor ⟨g, n, .fn ns, false, fz⟩ R mu news target body rest (.ref l) K := fun z s Q I S q => by
  obtain ⟨O, h1, h2, h3⟩ := I
  rw [h1]
  exact v_forR J h2 S hl hs hn h0 (fun i t I oI m R mu news' s hv hJ gr T S => turnW h3 h1 q (turn i t R mu news' hv hJ gr) O T S) fun m R mu news' s hJ gr T S => afterW h3 h1 q (done R mu news' hJ gr) O T S
end
end

-- X3
section
open PySem PySem.W PyProof.Rows PySem.Spec PySem.Calls PyProof.V
section
variable {g : Gp} {n : Nat} {md : Mode} {ns : List (Str × NameKind)} {r fz : Bool} {R : Tab} {mu news : LedT} {e e1 e2 e3 e4 e5 : Expr} {f f1 f2 f3 f4 f5 : Tok → Value} {pos : Pos} {rest : List Stmt} {KT : Tab → LedT → LedT → Prop}
theorem seqW_ret {F : Fm} {K : Flow → Tab → LedT → LedT → Prop} {v : Value} (h : K (.ret v) R mu news) : SeqW F rest K (.ret v) R mu news := h
noncomputable def cmpInt : CmpOp → Int → Int → Option Bool
  | .Lt, i, j => some (decide (i < j)) | .Gt, i, j => some (decide (j < i)) | .LtE, i, j => some (decide (i ≤ j)) | .GtE, i, j => some (decide (j ≤ i)) | .Eq, i, j => some (i == j) | .NotEq, i, j => some (i != j) | _, _, _ => none
theorem cmpInt_ok {G : Gl} {A : Around} {op : CmpOp} {i j : Int} {b : Bool} {t u : Tok} {s : Shared} {Q E : Value → Shared → Prop} (h : cmpInt op i j = some b) (q : Q (.bool b) s) : wpAny G.M A (compareOp op (.int i t) (.int j u)) Q E s := by
  cases op with
  | Lt => cases h; exact PyProof.Rows.lt_int q
  | Gt => cases h; exact PyProof.Rows.gt_int q
  | LtE => cases h; exact PyProof.Rows.le_int q
  | GtE => cases h; exact PyProof.Rows.ge_int q
  | Eq => cases h; exact PyProof.Rows.eq_int q
  | NotEq => cases h; exact PyProof.Rows.ne_int q
  | _ => cases h
section
variable {F : Fm} {K : Bool → LedT → LedT → Prop} {x : Expr} {xs : List Expr} {i j k : Int} {k1 k2 k3 : Tok → Tok} {b1 b2 : Bool} {op1 op2 : CmpOp}
theorem ET.int (h1 : EV F R mu news e1 (fun t => .int i (k1 t))) (h2 : EV F R mu news e2 (fun t => .int j (k2 t))) (hm : behindInMarks op1 e2 = false) (hc : cmpInt op1 i j = some b1) : ET F R mu news (.Compare e1 [op1] [e2] pos) b1 := fun z I => EvT.cmp (h1 z I) (h2 z I) hm fun _ _ _ _ _ h => cmpInt_ok hc h
theorem WB.and_nil (h : K true mu news) : WB F R mu news (.BoolOp .And [] pos) K := fun z s Q I S q => isTrue_and_nil (q true mu news s h S)
theorem WB.or_nil (h : K false mu news) : WB F R mu news (.BoolOp .Or [] pos) K := fun z s Q I S q => isTrue_or_nil (q false mu news s h S)
theorem WB.and (h : WB F R mu news x (fun c mu' news' => if c = true then WB F R mu' news' (.BoolOp .And xs pos) K else K false mu' news')) : WB F R mu news (.BoolOp .And (x :: xs) pos) K := fun z s Q I S q =>
  isTrue_and (h z s _ I S fun c mu' news' s' k S' => by
    cases c with
    | true => exact k z s' Q I S' q
    | false => exact q _ _ _ _ k S')
theorem WB.or (h : WB F R mu news x (fun c mu' news' => if c = true then K true mu' news' else WB F R mu' news' (.BoolOp .Or xs pos) K)) : WB F R mu news (.BoolOp .Or (x :: xs) pos) K := fun z s Q I S q =>
  isTrue_or (h z s _ I S fun c mu' news' s' k S' => by
    cases c with
    | false => exact k z s' Q I S' q
    | true => exact q _ _ _ _ k S')
theorem WB.and1 (h : WB F R mu news x K) : WB F R mu news (.BoolOp .And [x] pos) K := WB.and (h.mono fun c mu' news' k => by
  cases c with
  | true => exact WB.and_nil k
  | false => exact k)
theorem WB.or1 (h : WB F R mu news x K) : WB F R mu news (.BoolOp .Or [x] pos) K := WB.or (h.mono fun c mu' news' k => by
  cases c with
  | false => exact WB.or_nil k
  | true => exact k)
theorem WB.not (h : WB F R mu news x (fun c => K (!c))) : WB F R mu news (.UnaryOp .Not x pos) K := fun z s Q I S q => isTrue_not (h z s _ I S fun c mu' news' s' k S' => q _ _ _ _ k S')
theorem WB.chain2 (h1 : EV F R mu news e1 (fun t => .int i (k1 t))) (h2 : EV F R mu news e2 (fun t => .int j (k2 t))) (h3 : EV F R mu news e3 (fun t => .int k (k3 t))) (hm : lastMarks [op1, op2] [e2, e3] = false) (c1 : cmpInt op1 i j = some b1) (c2 : cmpInt op2 j k = some b2)
    (h : if b1 = true then K b2 mu news else K false mu news) : WB F R mu news (.Compare e1 [op1, op2] [e2, e3] pos) K := fun z s Q I S q =>
  isTrue_chain (h1 z I s _ _ S fun t1 s1 S1 => test_link (h2 z I s1 _ _ S1 fun t2 s2 S2 => cmpInt_ok c1 (wpAny_truthy_bool (by
    cases b1 with
    | true => exact test_last (h3 z I s2 _ _ S2 fun t3 s3 S3 => cmpInt_ok c2 (wpAny_truthy_bool (q _ _ _ _ h S3)))
    | false => exact q _ _ _ _ h S2)))) hm
noncomputable def isTest : Expr → Bool | .IfExp .. => true | .Compare .. => true | .BoolOp .. => true | .UnaryOp .Not _ _ => true | _ => false
theorem isTrue_of {M : Model} {A : Around} {env : Env} {x : Expr} {Q : Bool → Shared → Prop} {E : Value → Shared → Prop} {s : Shared} (hp : isTest x = false) (h : wpAny M A (eval x env) (fun v s₁ => wpAny M A (truthy v) Q E s₁) E s) : wpAny M A (isTrue x env (eval x env)) Q E s :=
  isTrue_plain h (by revert hp; cases x <;> first | exact fun _ => rfl | exact fun h => (Bool.false_ne_true h.symm).elim | (rename_i op _ _; cases op <;> first | exact fun _ => rfl | exact fun h => (Bool.false_ne_true h.symm).elim))
theorem WB.plain (hp : isTest x = false) (h : WE F R mu news x (fun v mu' news' => WO F R mu' news' (truthy v) K)) : WB F R mu news x K := fun z s Q I S q =>
  isTrue_of hp (h z s _ I S fun v mu' news' s' k S' => k z s' Q I S' q)
theorem WO.true {b : Bool} (h : K b mu news) : WO F R mu news (truthy (.bool b)) K := fun z s Q I S q => wpAny_truthy_bool (q _ _ _ _ h S)
end
section
variable {K : Value → LedT → LedT → Prop} {y : Str} {np : Pos} {fn : Addr} {id : String}
theorem WE.call0 (hf : EV ⟨g, n, md, r, fz⟩ R mu news (.Name y np) (fun _ => .ref fn)) (hk : keepIn (hd.heap_1 g.w.params) (.ref fn) = true)   (h : WO ⟨g, n, md, r, fz⟩ R mu news (call (.ref fn) []) K) :
    WE ⟨g, n, md, r, fz⟩ R mu news (.Call (.Name y np) [] [] pos) K := fun z s Q I S q => ec0 I.ok S (hf z I) hk   fun s' S' => h z s' Q I S' q
theorem WE.call1 (hf : EV ⟨g, n, md, r, fz⟩ R mu news (.Name y np) (fun _ => .ref fn)) (hk : keepIn (hd.heap_1 g.w.params) (.ref fn) = true) (p1 : isPlain e1 = true) (h1 : EV ⟨g, n, md, r, fz⟩ R mu news e1 f1) (h : ∀ t1, WO ⟨g, n, md, r, fz⟩ R mu news (call (.ref fn) [f1 t1]) K) :
    WE ⟨g, n, md, r, fz⟩ R mu news (.Call (.Name y np) [e1] [] pos) K := fun z s Q I S q => ec1 I.ok S (hf z I) hk p1 (h1 z I) fun t1 s' S' => h t1 z s' Q I S' q
theorem WE.call2 (hf : EV ⟨g, n, md, r, fz⟩ R mu news (.Name y np) (fun _ => .ref fn)) (hk : keepIn (hd.heap_1 g.w.params) (.ref fn) = true) (p1 : isPlain e1 = true) (p2 : isPlain e2 = true) (h1 : EV ⟨g, n, md, r, fz⟩ R mu news e1 f1) (h2 : EV ⟨g, n, md, r, fz⟩ R mu news e2 f2) (h : ∀ t1 t2, WO ⟨g, n, md, r, fz⟩ R mu news (call (.ref fn) [f1 t1, f2 t2]) K) :
    WE ⟨g, n, md, r, fz⟩ R mu news (.Call (.Name y np) [e1, e2] [] pos) K := fun z s Q I S q => ec2 I.ok S (hf z I) hk p1 p2 (h1 z I) (h2 z I) fun t1 t2 s' S' => h t1 t2 z s' Q I S' q
theorem WE.call3 (hf : EV ⟨g, n, md, r, fz⟩ R mu news (.Name y np) (fun _ => .ref fn)) (hk : keepIn (hd.heap_1 g.w.params) (.ref fn) = true) (p1 : isPlain e1 = true) (p2 : isPlain e2 = true) (p3 : isPlain e3 = true) (h1 : EV ⟨g, n, md, r, fz⟩ R mu news e1 f1) (h2 : EV ⟨g, n, md, r, fz⟩ R mu news e2 f2) (h3 : EV ⟨g, n, md, r, fz⟩ R mu news e3 f3) (h : ∀ t1 t2 t3, WO ⟨g, n, md, r, fz⟩ R mu news (call (.ref fn) [f1 t1, f2 t2, f3 t3]) K) :
    WE ⟨g, n, md, r, fz⟩ R mu news (.Call (.Name y np) [e1, e2, e3] [] pos) K := fun z s Q I S q => ec3 I.ok S (hf z I) hk p1 p2 p3 (h1 z I) (h2 z I) (h3 z I) fun t1 t2 t3 s' S' => h t1 t2 t3 z s' Q I S' q
theorem WE.callB1 (hf : EV ⟨g, n, md, r, fz⟩ R mu news (.Name y np) (fun _ => .builtin id)) (p1 : isPlain e1 = true) (h1 : EV ⟨g, n, md, r, fz⟩ R mu news e1 f1) (h : ∀ t1, WO ⟨g, n, md, r, fz⟩ R mu news (call (.builtin id) [f1 t1]) K) :
    WE ⟨g, n, md, r, fz⟩ R mu news (.Call (.Name y np) [e1] [] pos) K := fun z s Q I S q => ecb1 S (hf z I) p1 (h1 z I) fun t1 s' S' => h t1 z s' Q I S' q
theorem WE.callB2 (hf : EV ⟨g, n, md, r, fz⟩ R mu news (.Name y np) (fun _ => .builtin id)) (p1 : isPlain e1 = true) (p2 : isPlain e2 = true) (h1 : EV ⟨g, n, md, r, fz⟩ R mu news e1 f1) (h2 : EV ⟨g, n, md, r, fz⟩ R mu news e2 f2) (h : ∀ t1 t2, WO ⟨g, n, md, r, fz⟩ R mu news (call (.builtin id) [f1 t1, f2 t2]) K) :
    WE ⟨g, n, md, r, fz⟩ R mu news (.Call (.Name y np) [e1, e2] [] pos) K := fun z s Q I S q => ecb2 S (hf z I) p1 p2 (h1 z I) (h2 z I) fun t1 t2 s' S' => h t1 t2 z s' Q I S' q
theorem WE.callT1 (hf : EV ⟨g, n, md, r, fz⟩ R mu news (.Name y np) (fun _ => .type id)) (p1 : isPlain e1 = true) (h1 : EV ⟨g, n, md, r, fz⟩ R mu news e1 f1) (h : ∀ t1, WO ⟨g, n, md, r, fz⟩ R mu news (call (.type id) [f1 t1]) K) :
    WE ⟨g, n, md, r, fz⟩ R mu news (.Call (.Name y np) [e1] [] pos) K := fun z s Q I S q => ect1 S (hf z I) p1 (h1 z I) fun t1 s' S' => h t1 z s' Q I S' q
end
end
end

-- X4
section
open PySem PySem.W PyProof.Rows PySem.Spec PySem.Calls PyProof.V
section
variable {g : Gp} {n : Nat} {ns : List (Str × NameKind)} {r fz : Bool} {R : Tab} {mu news : LedT} {pos : Pos} {K : Flow → Tab → LedT → LedT → Prop} {rest body : List Stmt} {target : Expr} {Z : Type}
structure TurnK (Ro : Z → Tab) (Mo : Z → LedT) (J : Z → LedT → Prop) (n0 : LedT) (K K' : Flow → Tab → LedT → LedT → Prop) : Prop where
  next : ∀ z R mu news, R = Ro z → mu = Mo z → Gr n0 news → J z news → K' .next R mu news
  ret : ∀ v R mu news, K (.ret v) R mu news → K' (.ret v) R mu news
theorem turnK (Ro : Z → Tab) (Mo : Z → LedT) (J : Z → LedT → Prop) (n0 : LedT) : TurnK Ro Mo J n0 K (LoopW n0 (fun R mu news => ∃ z, R = Ro z ∧ mu = Mo z ∧ J z news) K) := ⟨fun z R mu news a b g j => ⟨⟨z, a, b, j⟩, g⟩, fun _ _ _ _ h => h⟩
theorem WFor.Lz {l : Addr} {o : Obj} {vs : List Value} (Ro : Z → Tab) (Mo : Z → LedT) (J : Nat → Z → LedT → Prop) (z0 : Z) (hl : (l, o) ∈ news) (P : LstP vs o) (hR : R = Ro z0) (hM : mu = Mo z0) (h0 : J 0 z0 news)
    (turn : ∀ i v z news' K', TurnK Ro Mo (J (i + 1)) news K K' → vs[i]? = some v → J i z news' → Gr news news' → let Rt := Ro z; WAs ⟨g, n, .fn ns, false, true⟩ Rt (Mo z) news' target v (fun R' mu' news2 => WP ⟨g, n, .fn ns, false, true⟩ R' mu' news2 body K'))
    (done : ∀ z news', J vs.length z news' → Gr news news' → let Rt := Ro z; WP ⟨g, n, .fn ns, false, fz⟩ Rt (Mo z) news' rest K) : WFor ⟨g, n, .fn ns, false, fz⟩ R mu news target body rest (.ref l) K :=
  WFor.Ls (fun i R mu news => ∃ z, R = Ro z ∧ mu = Mo z ∧ J i z news) hl P ⟨z0, hR, hM, h0⟩ (fun i v R mu news' hv hJ gr => by obtain ⟨z, rfl, rfl, hJ⟩ := hJ; exact turn i v z news' _ (turnK _ _ _ _) hv hJ gr)
    fun R mu news' hJ gr => by obtain ⟨z, rfl, rfl, hJ⟩ := hJ; exact done z news' hJ gr
theorem WFor.Bz {b : Array UInt8} {tb : Tok} (Ro : Z → Tab) (Mo : Z → LedT) (J : Nat → Z → LedT → Prop) (z0 : Z) (hR : R = Ro z0) (hM : mu = Mo z0) (h0 : J 0 z0 news)
    (turn : ∀ i (v : Int) t z news' K', TurnK Ro Mo (J (i + 1)) news K K' → (KBw.bInts b)[i]? = some v → J i z news' → Gr news news' → let Rt := Ro z; WAs ⟨g, n, .fn ns, false, true⟩ Rt (Mo z) news' target (.int v t) (fun R' mu' news2 => WP ⟨g, n, .fn ns, false, true⟩ R' mu' news2 body K'))
    (done : ∀ z news', J b.size z news' → Gr news news' → let Rt := Ro z; WP ⟨g, n, .fn ns, false, fz⟩ Rt (Mo z) news' rest K) : WFor ⟨g, n, .fn ns, false, fz⟩ R mu news target body rest (.bytes b tb) K :=
  WFor.By (fun i R mu news => ∃ z, R = Ro z ∧ mu = Mo z ∧ J i z news) ⟨z0, hR, hM, h0⟩ (fun i v t R mu news' hv hJ gr => by obtain ⟨z, rfl, rfl, hJ⟩ := hJ; exact turn i v t z news' _ (turnK _ _ _ _) hv hJ gr)
    fun R mu news' hJ gr => by obtain ⟨z, rfl, rfl, hJ⟩ := hJ; exact done z news' hJ gr
theorem WFor.Rz {l : Addr} {a d e : Int} {t u v : Tok} {num : Nat} (Ro : Z → Tab) (Mo : Z → LedT) (J : Nat → Z → LedT → Prop) (z0 : Z) (hl : (l, rngO a e d t u v) ∈ news) (hs : Builtin.Range.small a e d = true) (hn : Builtin.Range.rangeSize a e d = (num : Int)) (hR : R = Ro z0) (hM : mu = Mo z0) (h0 : J 0 z0 news)
    (turn : ∀ i t z news' K', TurnK Ro Mo (J (i + 1)) news K K' → i < num → J i z news' → Gr news news' → let Rt := Ro z; WAs ⟨g, n, .fn ns, false, true⟩ Rt (Mo z) news' target (.int (a + (i : Int) * d) t) (fun R' mu' news2 => WP ⟨g, n, .fn ns, false, true⟩ R' mu' news2 body K'))
    (done : ∀ z news', J num z news' → Gr news news' → let Rt := Ro z; WP ⟨g, n, .fn ns, false, fz⟩ Rt (Mo z) news' rest K) : WFor ⟨g, n, .fn ns, false, fz⟩ R mu news target body rest (.ref l) K :=
  WFor.Rg (fun i R mu news => ∃ z, R = Ro z ∧ mu = Mo z ∧ J i z news) hl hs hn ⟨z0, hR, hM, h0⟩ (fun i t R mu news' hv hJ gr => by obtain ⟨z, rfl, rfl, hJ⟩ := hJ; exact turn i t z news' _ (turnK _ _ _ _) hv hJ gr)
    fun R mu news' hJ gr => by obtain ⟨z, rfl, rfl, hJ⟩ := hJ; exact done z news' hJ gr
theorem WP.while {test : Expr} (Ro : Z → Tab) (Mo : Z → LedT) (J : Nat → Z → LedT → Prop) (k₀ : Nat) (z0 : Z) (hR : R = Ro z0) (hM : mu = Mo z0) (h0 : J k₀ z0 news)
    (turn : ∀ k z news' K', TurnK Ro Mo (fun z news => ∃ j, j < k ∧ J j z news) news K K' → J k z news' → Gr news news' →
      let Rt := Ro z; WB ⟨g, n, .fn ns, false, fz⟩ Rt (Mo z) news' test (fun b mu' news2 => if b = true then WP ⟨g, n, .fn ns, false, true⟩ Rt mu' news2 body K' else WP ⟨g, n, .fn ns, false, fz⟩ Rt mu' news2 rest K)) :
    WP ⟨g, n, .fn ns, false, fz⟩ R mu news (.While test body [] pos :: rest) K := fun z s Q I S q => by
  obtain ⟨O, h1, h2, h3⟩ := I
  rw [h1]
  refine v_while (fun k R mu news => ∃ z, R = Ro z ∧ mu = Mo z ∧ J k z news) k₀ h2 S ⟨z0, hR, hM, h0⟩ fun k m R mu news' s hJ gr T S => ?_
  obtain ⟨zz, rfl, rfl, hJ⟩ := hJ
  refine turn k zz news' _ (turnK _ _ _ _) hJ gr ⟨z.c, m, z.xc, z.x, z.y, z.c.env⟩ s _ ⟨O, rfl, T, h3⟩ S fun b mu' news2 s' k' S' => ?_
  cases b with
  | false => exact afterW h3 h1 q k' O T S'
  | true =>
    refine k' ⟨z.c, m, z.xc, z.x, z.y, z.c.env⟩ s' _ ⟨O, rfl, T, h3⟩ S' fun fl R2 mu2 news2 m2 xc2 s2 k2 e2 I2 S2 => ?_
    have e2 := e2 rfl
    dsimp only at e2 S2
    subst e2
    obtain ⟨O2, h12, h22, h32⟩ := I2
    cases fl with
    | ret v => exact q (.ret v) _ _ _ m2 z.xc s2 k2 (fun _ => rfl) ⟨O, h1, h22, rfl⟩ S2
    | brk => exact k2.elim
    | next => exact ⟨m2, R2, mu2, news2, (by obtain ⟨zz, a, b, j, hj, hJ⟩ := k2.1; exact ⟨j, hj, zz, a, b, hJ⟩), k2.2, h22, by rw [h3]; exact S2⟩
    | cont => exact ⟨m2, R2, mu2, news2, (by obtain ⟨zz, a, b, j, hj, hJ⟩ := k2.1; exact ⟨j, hj, zz, a, b, hJ⟩), k2.2, h22, by rw [h3]; exact S2⟩
theorem WP.join {st : Stmt} (Ro : Z → Tab) (Mo : Z → LedT) (J : Z → LedT → Prop) (h1 : ∀ K', TurnK Ro Mo J news K K' → WP ⟨g, n, .fn ns, r, fz⟩ R mu news [st] K')
    (h2 : ∀ z news', J z news' → Gr news news' → let Rt := Ro z; WP ⟨g, n, .fn ns, r, fz⟩ Rt (Mo z) news' rest K) : WP ⟨g, n, .fn ns, r, fz⟩ R mu news (st :: rest) K := fun z s Q I S q =>
  v_joinS (fun s => ∃ zz news' m' xc', J zz news' ∧ Gr news news' ∧ (fz = true → xc' = z.xc) ∧ Fm.In ⟨g, n, .fn ns, r, fz⟩ (z.to m' xc') (Ro zz) ∧ ES z.c m' (xc' ++ z.y) (Mo zz) news' s)
    (h1 (fun fl R mu news' => match fl with | .next => ∃ z, R = Ro z ∧ mu = Mo z ∧ J z news' ∧ Gr news news' | fl => K fl R mu news') ⟨fun z R mu news' a b g j => ⟨z, a, b, j, g⟩, fun _ _ _ _ h => h⟩ z s _ I S fun fl R' mu' news' m' xc' s' k e I' S' => by
      cases fl with
      | next => obtain ⟨zz, rfl, rfl, hJ, gr⟩ := k; exact ⟨zz, news', m', xc', hJ, gr, e, I', S'⟩
      | ret v => exact q _ _ _ _ _ _ _ k e I' S'
      | brk => exact q _ _ _ _ _ _ _ k e I' S'
      | cont => exact q _ _ _ _ _ _ _ k e I' S')
    fun s ⟨zz, news', m', xc', hJ, gr, e, I', S'⟩ => h2 zz news' hJ gr (z.to m' xc') s Q I' S' fun fl => (q fl).to e
end
inductive CTab (G : Gl) (ns : List (Str × NameKind)) (R : Tab) (bs : List (Str × Value)) : List (Str × NameKind) → Tab → Prop
  | nil : CTab G ns R bs [] []
  | loc {y v cs RC} : (y, v) ∈ bs → CTab G ns R bs cs RC → CTab G ns R bs ((y, .local) :: cs) ((y, some v) :: RC)
  | loc0 {y cs RC} : CTab G ns R bs cs RC → CTab G ns R bs ((y, .local) :: cs) ((y, none) :: RC)
  | fre {y v cs RC i} : NmAt ns i y .cell → R[i]? = some (y, some v) → CTab G ns R bs cs RC → CTab G ns R bs ((y, .free) :: cs) ((y, some v) :: RC)
  | glo {y v cs RC} : Gn G y v → CTab G ns R bs cs RC → CTab G ns R bs ((y, .globalImplicit) :: cs) ((y, some v) :: RC)
theorem CTab.initK {G : Gl} {ns : List (Str × NameKind)} {R : Tab} {bs : List (Str × Value)} {cs : List (Str × NameKind)} {RC : Tab} {m₂ : Str → Option Value} (hb : ∀ y v, (y, v) ∈ bs → m₂ y = some v) (h : CTab G ns R bs cs RC) : InitK G ns R m₂ cs RC := by
  induction h with
  | nil => exact .nil
  | loc h _ ih => exact .loc (hb _ _ h) ih
  | loc0 _ ih => exact .loc0 ih
  | fre h1 h2 _ ih => exact .fre h1.mem (List.mem_of_getElem? h2) ih
  | glo h _ ih => exact .glo h ih
noncomputable def WEl (g : Gp) (n : Nat) (ns : List (Str × NameKind)) (R : Tab) (mu news n0 : LedT) (elt target : Expr) (ifs : List Expr) (scope : Scope) (v : Value) (KY : Value → LedT → LedT → Prop) (KS : LedT → LedT → Prop) : Prop :=
  ∀ (c : Cx) (m : Str → Option Value) (xc x : LedT) (s : Shared) (cl : List (Str × Addr)) (I : Addr) (oI : Obj) (C : Addr) (oC : Obj) (D : Addr) (m₂ : Str → Option Value) (ys : List Value) (J : List Value → LedT → LedT → Prop), Ok (GG g) c n → FT (GG g) c ns m xc R → (∀ p ∈ xc, p ∈ x) → ClOk c scope cl → LCg.NsObj oC m₂ →
    ES c m ((I, oI) :: (C, oC) :: (D, LCg.lst ys) :: x) mu news s → (∀ y mu' news', KY y mu' news' → J (ys ++ [y]) mu' news' ∧ Gr n0 news') → (∀ mu' news', KS mu' news' → J ys mu' news' ∧ Gr n0 news') →
    wpAny (GG g).M c.A (assign target (compEnvC scope cl C c.env) v) (fun _ s₂ => ∃ oC, TestK (GG g) c c.A ifs elt (compEnvC scope cl C c.env) (CompK c m I oI C oC D ys x n0 J) (CompSkip c m I oI C oC D ys x n0 J) s₂ ∧ ∃ m₂, LCg.NsObj oC m₂) noE s
section
variable {g : Gp} {n : Nat} {ns : List (Str × NameKind)} {fz : Bool} {R RC : Tab} {mu news n0 : LedT} {elt ct : Expr} {scope : Scope} {v : Value} {KY : Value → LedT → LedT → Prop} {KS : LedT → LedT → Prop} {y : Str} {py : Pos}
theorem elemW {ifs : List Expr} {c : Cx} {m : Str → Option Value} {xc x : LedT} {s : Shared} {cl : List (Str × Addr)} {I : Addr} {oI : Obj} {C : Addr} {oC : Obj} {D : Addr} {m₂ : Str → Option Value} {ys : List Value} {J : List Value → LedT → LedT → Prop} {bs : List (Str × Value)}
    (hkind : scope.kind = .function) (hnd : (scope.names.map (·.1)).Nodup) (hdbg : (scope.names.any fun y => y.1 == ("__debug__" : Str)) = false) (hK : CTab (GG g) ns R bs scope.names RC)
    (h : (ifs = [] ∧ WE ⟨g, n, .cp, false, fz⟩ RC mu news elt KY) ∨ ∃ ct, ifs = [ct] ∧ WB ⟨g, n, .cp, false, fz⟩ RC mu news ct (fun b mu' news' => if b = true then WE ⟨g, n, .cp, false, fz⟩ RC mu' news' elt KY else KS mu' news'))
    (O : Ok (GG g) c n) (T : FT (GG g) c ns m xc R) (hx : ∀ p ∈ xc, p ∈ x) (hcl : ClOk c scope cl) (hC : LCg.NsObj oC m₂) (hb : ∀ y v, (y, v) ∈ bs → m₂ y = some v) (S : ES c m ((I, oI) :: (C, oC) :: (D, LCg.lst ys) :: x) mu news s)
    (hy : ∀ y mu' news', KY y mu' news' → J (ys ++ [y]) mu' news' ∧ Gr n0 news') (hs : ∀ mu' news', KS mu' news' → J ys mu' news' ∧ Gr n0 news') :
    TestK (GG g) c c.A ifs elt (compEnvC scope cl C c.env) (CompK c m I oI C oC D ys x n0 J) (CompSkip c m I oI C oC D ys x n0 J) s := by
  have I0 : Fm.In ⟨g, n, .cp, false, fz⟩ ⟨c, m, (C, oC) :: xc, (I, oI) :: (C, oC) :: (D, LCg.lst ys) :: x, (I, oI) :: (C, oC) :: (D, LCg.lst ys) :: x, compEnvC scope cl C c.env⟩ RC := ⟨O, initK_rds O T hcl hC hnd hkind hdbg (hK.initK hb), (fun p hp => by
    rcases List.mem_cons.mp hp with rfl | hp
    · exact .tail _ (.head _)
    · exact .tail _ (.tail _ (.tail _ (hx p hp)))), rfl⟩
  rcases h with ⟨rfl, h⟩ | ⟨ct, rfl, h⟩
  · exact testK_nil (h _ s _ I0 S fun y mu' news' s' k S' => ⟨mu', news', (hy y mu' news' k).1, (hy y mu' news' k).2, S'⟩)
  · refine testK_one (h _ s _ I0 S fun b mu' news' s' k S' => ?_)
    cases b with
    | true => exact k _ s' _ I0 S' fun y mu' news' s' k S' => ⟨mu', news', (hy y mu' news' k).1, (hy y mu' news' k).2, S'⟩
    | false => exact ⟨mu', news', (hs mu' news' k).1, (hs mu' news' k).2, S'⟩
theorem WEl.name {ifs : List Expr} (hx : scope.names.lookup y = some .local) (hkind : scope.kind = .function) (hnd : (scope.names.map (·.1)).Nodup) (hdbg : (scope.names.any fun y => y.1 == ("__debug__" : Str)) = false) (hK : CTab (GG g) ns R [(y, v)] scope.names RC)
    (h : (ifs = [] ∧ WE ⟨g, n, .cp, false, fz⟩ RC mu news elt KY) ∨ ∃ ct, ifs = [ct] ∧ WB ⟨g, n, .cp, false, fz⟩ RC mu news ct (fun b mu' news' => if b = true then WE ⟨g, n, .cp, false, fz⟩ RC mu' news' elt KY else KS mu' news')) :
    WEl g n ns R mu news n0 elt (.Name y py) ifs scope v KY KS := fun c m xc x s cl I oI C oC D m₂ ys J O T hxx hcl hC S hy hs =>
  wpAny_assign_Name (comp_store S hC hx hkind fun oC' s' hC' S' => by
    have hb : ∀ y' v', (y', v') ∈ [(y, v)] → (fun z => if z = y then some v else m₂ z) y' = some v' := by
      intro y' v' hm
      obtain ⟨rfl, rfl⟩ : y' = y ∧ v' = v := by simpa using hm
      exact if_pos rfl
    exact ⟨oC', elemW hkind hnd hdbg hK h O T hxx hcl hC' hb S' hy hs, _, hC'⟩)
theorem WEl.tup {ifs : List Expr} {y2 : Str} {py2 tp : Pos} {kk : Nat} {t : Addr} {v2 : Value} (hm : (t, tupO [v, v2]) ∈ mu ++ news) (hne : y ≠ y2) (hx : scope.names.lookup y = some .local) (hx2 : scope.names.lookup y2 = some .local) (hkind : scope.kind = .function) (hnd : (scope.names.map (·.1)).Nodup) (hdbg : (scope.names.any fun y => y.1 == ("__debug__" : Str)) = false)
    (hK : CTab (GG g) ns R [(y, v), (y2, v2)] scope.names RC)
    (h : (ifs = [] ∧ WE ⟨g, n, .cp, false, fz⟩ RC mu news elt KY) ∨ ∃ ct, ifs = [ct] ∧ WB ⟨g, n, .cp, false, fz⟩ RC mu news ct (fun b mu' news' => if b = true then WE ⟨g, n, .cp, false, fz⟩ RC mu' news' elt KY else KS mu' news')) :
    WEl g n ns R mu news n0 elt (.Tuple [.Name y py, .Name y2 py2] kk tp) ifs scope (.ref t) KY KS := fun c m xc x s cl I oI C oC D m₂ ys J O T hxx hcl hC S hy hs =>
  v_unpack rfl S hm rfl rfl fun s1 S1 => PyProof.Rows.assignInOrder_cons (wpAny_assign_Name (comp_store S1 hC hx hkind fun oC1 s2 hC1 S2 => PyProof.Rows.assignInOrder_cons (wpAny_assign_Name (comp_store S2 hC1 hx2 hkind fun oC' s' hC' S' => PyProof.Rows.assignInOrder_nil (by
    have hb : ∀ y' v', (y', v') ∈ [(y, v), (y2, v2)] → (fun z => if z = y2 then some v2 else if z = y then some v else m₂ z) y' = some v' := by
      intro y' v' hm
      rcases List.mem_cons.mp hm with h | h
      · cases h; exact (if_neg hne).trans (if_pos rfl)
      · obtain ⟨rfl, rfl⟩ : y' = y2 ∧ v' = v2 := by simpa using h
        exact if_pos rfl
    exact ⟨oC', elemW hkind hnd hdbg hK h O T hxx hcl hC' hb S' hy hs, _, hC'⟩)))))
theorem WEl.name0 (hx : scope.names.lookup y = some .local) (hkind : scope.kind = .function) (hnd : (scope.names.map (·.1)).Nodup) (hdbg : (scope.names.any fun y => y.1 == ("__debug__" : Str)) = false) (hK : CTab (GG g) ns R [(y, v)] scope.names RC) (h : let Rt := RC; WE ⟨g, n, .cp, false, false⟩ Rt mu news elt KY) :
    WEl g n ns R mu news n0 elt (.Name y py) [] scope v KY KS := WEl.name hx hkind hnd hdbg hK (.inl ⟨rfl, h⟩)
theorem WEl.name1 (hx : scope.names.lookup y = some .local) (hkind : scope.kind = .function) (hnd : (scope.names.map (·.1)).Nodup) (hdbg : (scope.names.any fun y => y.1 == ("__debug__" : Str)) = false) (hK : CTab (GG g) ns R [(y, v)] scope.names RC)
    (h : let Rt := RC; WB ⟨g, n, .cp, false, false⟩ Rt mu news ct (fun b mu' news' => if b = true then WE ⟨g, n, .cp, false, false⟩ Rt mu' news' elt KY else KS mu' news')) : WEl g n ns R mu news n0 elt (.Name y py) [ct] scope v KY KS := WEl.name hx hkind hnd hdbg hK (.inr ⟨ct, rfl, h⟩)
theorem WEl.tup0 {y2 : Str} {py2 tp : Pos} {kk : Nat} {t : Addr} {v2 : Value} (hm : (t, tupO [v, v2]) ∈ mu ++ news) (hne : y ≠ y2) (hx : scope.names.lookup y = some .local) (hx2 : scope.names.lookup y2 = some .local) (hkind : scope.kind = .function) (hnd : (scope.names.map (·.1)).Nodup) (hdbg : (scope.names.any fun y => y.1 == ("__debug__" : Str)) = false)
    (hK : CTab (GG g) ns R [(y, v), (y2, v2)] scope.names RC) (h : let Rt := RC; WE ⟨g, n, .cp, false, false⟩ Rt mu news elt KY) : WEl g n ns R mu news n0 elt (.Tuple [.Name y py, .Name y2 py2] kk tp) [] scope (.ref t) KY KS := WEl.tup hm hne hx hx2 hkind hnd hdbg hK (.inl ⟨rfl, h⟩)
theorem WEl.tup1 {y2 : Str} {py2 tp : Pos} {kk : Nat} {t : Addr} {v2 : Value} (hm : (t, tupO [v, v2]) ∈ mu ++ news) (hne : y ≠ y2) (hx : scope.names.lookup y = some .local) (hx2 : scope.names.lookup y2 = some .local) (hkind : scope.kind = .function) (hnd : (scope.names.map (·.1)).Nodup) (hdbg : (scope.names.any fun y => y.1 == ("__debug__" : Str)) = false)
    (hK : CTab (GG g) ns R [(y, v), (y2, v2)] scope.names RC) (h : let Rt := RC; WB ⟨g, n, .cp, false, false⟩ Rt mu news ct (fun b mu' news' => if b = true then WE ⟨g, n, .cp, false, false⟩ Rt mu' news' elt KY else KS mu' news')) :
    WEl g n ns R mu news n0 elt (.Tuple [.Name y py, .Name y2 py2] kk tp) [ct] scope (.ref t) KY KS := WEl.tup hm hne hx hx2 hkind hnd hdbg hK (.inr ⟨ct, rfl, h⟩)
noncomputable def WCo (F : Fm) (R : Tab) (mu news : LedT) (elt target iter : Expr) (ifs : List Expr) (scope : Scope) (pos : Pos) (xv : Value) (K : Value → LedT → LedT → Prop) : Prop :=
  ∀ (z : Zx) (s : Shared) (cl : List (Str × Addr)) (Q : Value → Shared → Prop), F.In z R → ES z.c z.m z.x mu news s → ClOk z.c scope cl → (∀ v mu' news' s', K v mu' news' → ES z.c z.m z.x mu' news' s' → Q v s') → CompGo (GG F.g) z.c elt target iter ifs scope pos cl none Q xv s
noncomputable def WCs (F : Fm) (R : Tab) (mu news : LedT) (elt target iter : Expr) (ifs : List Expr) (scope : Scope) (pos : Pos) (xv : Value) (y : Str) (py : Pos) (K : Tab → LedT → LedT → Prop) : Prop :=
  ∀ (z : Zx) (s : Shared) (cl : List (Str × Addr)) (q : Shared → Prop), F.In z R → ES z.c z.m z.x mu news s → ClOk z.c scope cl → F.Post z K q → CompGo (GG F.g) z.c elt target iter ifs scope pos cl (some (assign (.Name y py) z.c.env)) (fun _ => q) xv s
noncomputable def freeOk (ns : List (Str × NameKind)) (scope : Scope) : Bool := scope.names.all fun p => p.2 != NameKind.free || ns.lookup p.1 == some NameKind.cell
theorem WE.comp {target iter : Expr} {ifs : List Expr} {pos : Pos} {K : Value → LedT → LedT → Prop} (hf : freeOk ns scope = true) (hnd : (scope.names.map (·.1)).Nodup) (hkind : scope.kind = .function) (hs : notSet iter = true)
    (h : WE ⟨g, n, .fn ns, false, fz⟩ R mu news iter (fun v mu' news' => WCo ⟨g, n, .fn ns, false, fz⟩ R mu' news' elt target iter ifs scope pos v K)) : WE ⟨g, n, .fn ns, false, fz⟩ R mu news (.ListComp elt [⟨target, iter, ifs, 0⟩] scope pos) K := fun z s Q I S q => by
  have e := I.2.1
  show wpAny (GG g).M z.c.A (eval _ z.env) Q noE s
  rw [e]
  exact v_ListComp I.2.2.1 hf hnd hkind (fun _ => fold_no hs) fun cl hcl => by
    have h' : wpAny (GG g).M z.c.A (eval iter z.env) (CompGo (GG g) z.c elt target iter ifs scope pos cl none Q) noE s := h z s (CompGo (GG g) z.c elt target iter ifs scope pos cl none Q) I S fun v mu' news' s' k S' => k z s' cl Q I S' hcl q
    rw [e] at h'
    exact h'
theorem WP.asgComp {target iter : Expr} {ifs : List Expr} {pos spos : Pos} {i : Nat} {rest : List Stmt} {K : Flow → Tab → LedT → LedT → Prop} (hf : freeOk ns scope = true) (hnd : (scope.names.map (·.1)).Nodup) (hkind : scope.kind = .function) (hs : notSet iter = true) (hi : NmAt ns i y .local)
    (hpl : (py.line == (Expr.ListComp elt [⟨target, iter, ifs, 0⟩] scope pos).pos.line) = true) (hfree : (scope.names.any fun (n, k) => n == y && (k == .local || k == .cell)) = false)
    (h : WE ⟨g, n, .fn ns, false, fz⟩ R mu news iter (fun v mu' news' => WCs ⟨g, n, .fn ns, false, fz⟩ R mu' news' elt target iter ifs scope pos v y py (fun R' mu2 news2 => WP ⟨g, n, .fn ns, false, fz⟩ R' mu2 news2 rest K))) :
    WP ⟨g, n, .fn ns, false, fz⟩ R mu news (.Assign [.Name y py] (.ListComp elt [⟨target, iter, ifs, 0⟩] scope pos) spos :: rest) K := fun z s Q I S q => by
  have e := I.2.1
  show wpAny (GG g).M z.c.A (execs _ z.env) Q noE s
  rw [e]
  exact v_asgComp I.2.2.1 hf hnd hkind (fun _ => fold_no hs) hi.mem hpl hfree (fun cl hcl => by
    have h' : wpAny (GG g).M z.c.A (eval iter z.env) (CompGo (GG g) z.c elt target iter ifs scope pos cl (some (assign (.Name y py) z.c.env)) fun _ s' => wpAny (GG g).M z.c.A (execs rest z.c.env) Q noE s') noE s := h z s (CompGo (GG g) z.c elt target iter ifs scope pos cl (some (assign (.Name y py) z.c.env)) fun _ s' => wpAny (GG g).M z.c.A (execs rest z.c.env) Q noE s') I S fun v mu' news' s' k S' => k z s' cl _ I S' hcl fun R' mu2 news2 m' xc' s2 k2 e2 I2 S2 => by
      have w := k2 (z.to m' xc') s2 Q I2 S2 fun fl => (q fl).to e2
      rw [show (z.to m' xc').env = z.c.env from e] at w
      exact w
    rw [e] at h'
    exact h') I.1
variable {target iter : Expr} {ifs : List Expr} {pos : Pos} {Z : Type}
structure ElK (Mo : Z → LedT) (J : Z → List Value → LedT → Prop) (n0 : LedT) (ys : List Value) (KY : Value → LedT → LedT → Prop) (KS : LedT → LedT → Prop) : Prop where
  it : ∀ z y mu news, mu = Mo z → Gr n0 news → J z (ys ++ [y]) news → KY y mu news
  no : ∀ z mu news, mu = Mo z → Gr n0 news → J z ys news → KS mu news
theorem elK (Mo : Z → LedT) (J : Z → List Value → LedT → Prop) (n0 : LedT) (ys : List Value) : ElK Mo J n0 ys (fun y mu news => (∃ z, mu = Mo z ∧ J z (ys ++ [y]) news) ∧ Gr n0 news) (fun mu news => (∃ z, mu = Mo z ∧ J z ys news) ∧ Gr n0 news) := ⟨fun z y mu news a b c => ⟨⟨z, a, c⟩, b⟩, fun z mu news a b c => ⟨⟨z, a, c⟩, b⟩⟩
theorem doneC {z : Zx} {Q : Value → Shared → Prop} {D C : Addr} {oC : Obj} {m' : Str → Option Value} {s : Shared} {K : Value → LedT → LedT → Prop} (q : ∀ v mu' news' s', K v mu' news' → ES z.c z.m z.x mu' news' s' → Q v s') (k : K (.ref D) mu news) (hC : LCg.NsObj oC m') (S : ES z.c z.m ((C, oC) :: z.x) mu news s) : compPost (GG g).M z.c.A noE none Q (.ref D) C (.ok .next) s :=
  doneN hC S fun s' S' => q _ _ _ s' k S'
theorem doneS {z : Zx} {q : Shared → Prop} {D C : Addr} {oC : Obj} {m' : Str → Option Value} {s : Shared} {K : Tab → LedT → LedT → Prop} {i : Nat} (hi : NmAt ns i y .local) (I : Fm.In ⟨g, n, .fn ns, false, fz⟩ z R) (q' : Fm.Post ⟨g, n, .fn ns, false, fz⟩ z K q) (k : K (R.set i (y, some (.ref D))) mu news) (hC : LCg.NsObj oC m') (S : ES z.c z.m ((C, oC) :: z.x) mu news s) :
    compPost (GG g).M z.c.A noE (some (assign (.Name y py) z.c.env)) (fun _ => q) (.ref D) C (.ok .next) s :=
  doneU I.1 I.2.2.1 hC S (I.2.2.1.setAt hi _) hi.mem fun m' s' T' S' => q' _ _ _ m' z.xc s' k (fun _ => rfl) ⟨I.1, I.2.1, T', rfl⟩ (by rw [← I.2.2.2]; exact S')
theorem subX {z : Zx} (I : Fm.In ⟨g, n, .fn ns, false, fz⟩ z R) : ∀ p ∈ z.xc, p ∈ z.x := by rw [I.2.2.2]; exact fun p h => List.mem_append_left _ h
theorem WCo.Lz {l : Addr} {o : Obj} {vs : List Value} {K : Value → LedT → LedT → Prop} (Mo : Z → LedT) (J : Nat → Z → List Value → LedT → Prop) (z0 : Z) (hl : (l, o) ∈ news) (P : LstP vs o) (hcell : ∀ y ∈ scope.names, y.2 ≠ .cell) (hkind : scope.kind = .function) (hz : vs.length ≤ 1000000) (hM : mu = Mo z0) (h0 : J 0 z0 [] news)
    (turn : ∀ i v z ys news' KY KS, ElK Mo (J (i + 1)) news ys KY KS → vs[i]? = some v → J i z ys news' → Gr news news' → WEl g n ns R (Mo z) news' news elt target ifs scope v KY KS)
    (done : ∀ D z ys news', J vs.length z ys news' → ys.length ≤ vs.length → Gr news news' → K (.ref D) (Mo z) ((D, lstO ys ys.length) :: news')) : WCo ⟨g, n, .fn ns, false, fz⟩ R mu news elt target iter ifs scope pos (.ref l) K := fun z s cl Q I S hcl q =>
  goL (fun i ys mu news => ∃ zz, mu = Mo zz ∧ J i zz ys news) S hl P hcell hkind hz ⟨z0, hM, h0⟩ (fun i v I' oI C oC D m₂ ys mu news' s hv hJ gr hC S => by
    obtain ⟨zz, rfl, hJ⟩ := hJ
    exact turn i v zz ys news' _ _ (elK _ _ _ _) hv hJ gr z.c z.m z.xc z.x s cl I' oI C oC D m₂ ys _ I.1 I.2.2.1 (subX I) hcl hC S (fun _ _ _ k => k) (fun _ _ k => k))
    fun D C oC m' ys mu news' s' hJ hy gr hC S => by obtain ⟨zz, rfl, hJ⟩ := hJ; exact doneC q (done D zz ys news' hJ hy gr) hC S
theorem WCs.Lz {l : Addr} {o : Obj} {vs : List Value} {K : Tab → LedT → LedT → Prop} {i0 : Nat} (hi : NmAt ns i0 y .local) (Mo : Z → LedT) (J : Nat → Z → List Value → LedT → Prop) (z0 : Z) (hl : (l, o) ∈ news) (P : LstP vs o) (hcell : ∀ y ∈ scope.names, y.2 ≠ .cell) (hkind : scope.kind = .function) (hz : vs.length ≤ 1000000) (hM : mu = Mo z0) (h0 : J 0 z0 [] news)
    (turn : ∀ i v z ys news' KY KS, ElK Mo (J (i + 1)) news ys KY KS → vs[i]? = some v → J i z ys news' → Gr news news' → WEl g n ns R (Mo z) news' news elt target ifs scope v KY KS)
    (done : ∀ D z ys news', J vs.length z ys news' → ys.length ≤ vs.length → Gr news news' → let Rt := R.set i0 (y, some (.ref D)); K Rt (Mo z) ((D, lstO ys ys.length) :: news')) : WCs ⟨g, n, .fn ns, false, fz⟩ R mu news elt target iter ifs scope pos (.ref l) y py K := fun z s cl q I S hcl q' =>
  goL (fun i ys mu news => ∃ zz, mu = Mo zz ∧ J i zz ys news) S hl P hcell hkind hz ⟨z0, hM, h0⟩ (fun i v I' oI C oC D m₂ ys mu news' s hv hJ gr hC S => by
    obtain ⟨zz, rfl, hJ⟩ := hJ
    exact turn i v zz ys news' _ _ (elK _ _ _ _) hv hJ gr z.c z.m z.xc z.x s cl I' oI C oC D m₂ ys _ I.1 I.2.2.1 (subX I) hcl hC S (fun _ _ _ k => k) (fun _ _ k => k))
    fun D C oC m' ys mu news' s' hJ hy gr hC S => by obtain ⟨zz, rfl, hJ⟩ := hJ; exact doneS hi I q' (done D zz ys news' hJ hy gr) hC S
theorem WCo.Rz {l : Addr} {a d e : Int} {t u w : Tok} {num : Nat} {K : Value → LedT → LedT → Prop} (Mo : Z → LedT) (J : Nat → Z → List Value → LedT → Prop) (z0 : Z) (hl : (l, rngO a e d t u w) ∈ news) (hsm : Builtin.Range.small a e d = true) (hn : Builtin.Range.rangeSize a e d = (num : Int)) (hcell : ∀ y ∈ scope.names, y.2 ≠ .cell) (hkind : scope.kind = .function) (hz : num ≤ 1000000) (hM : mu = Mo z0) (h0 : J 0 z0 [] news)
    (turn : ∀ i t z ys news' KY KS, ElK Mo (J (i + 1)) news ys KY KS → i < num → J i z ys news' → Gr news news' → WEl g n ns R (Mo z) news' news elt target ifs scope (.int (a + (i : Int) * d) t) KY KS)
    (done : ∀ D z ys news', J num z ys news' → ys.length ≤ num → Gr news news' → K (.ref D) (Mo z) ((D, lstO ys ys.length) :: news')) : WCo ⟨g, n, .fn ns, false, fz⟩ R mu news elt target iter ifs scope pos (.ref l) K := fun z s cl Q I S hcl q =>
  goR (fun i ys mu news => ∃ zz, mu = Mo zz ∧ J i zz ys news) S hl hsm hn hcell hkind hz ⟨z0, hM, h0⟩ (fun i t I' oI C oC D m₂ ys mu news' s hv hJ gr hC S => by
    obtain ⟨zz, rfl, hJ⟩ := hJ
    exact turn i t zz ys news' _ _ (elK _ _ _ _) hv hJ gr z.c z.m z.xc z.x s cl I' oI C oC D m₂ ys _ I.1 I.2.2.1 (subX I) hcl hC S (fun _ _ _ k => k) (fun _ _ k => k))
    fun D C oC m' ys mu news' s' hJ hy gr hC S => by obtain ⟨zz, rfl, hJ⟩ := hJ; exact doneC q (done D zz ys news' hJ hy gr) hC S
theorem WCs.Rz {l : Addr} {a d e : Int} {t u w : Tok} {num : Nat} {K : Tab → LedT → LedT → Prop} {i0 : Nat} (hi : NmAt ns i0 y .local) (Mo : Z → LedT) (J : Nat → Z → List Value → LedT → Prop) (z0 : Z) (hl : (l, rngO a e d t u w) ∈ news) (hsm : Builtin.Range.small a e d = true) (hn : Builtin.Range.rangeSize a e d = (num : Int)) (hcell : ∀ y ∈ scope.names, y.2 ≠ .cell) (hkind : scope.kind = .function) (hz : num ≤ 1000000) (hM : mu = Mo z0) (h0 : J 0 z0 [] news)
    (turn : ∀ i t z ys news' KY KS, ElK Mo (J (i + 1)) news ys KY KS → i < num → J i z ys news' → Gr news news' → WEl g n ns R (Mo z) news' news elt target ifs scope (.int (a + (i : Int) * d) t) KY KS)
    (done : ∀ D z ys news', J num z ys news' → ys.length ≤ num → Gr news news' → let Rt := R.set i0 (y, some (.ref D)); K Rt (Mo z) ((D, lstO ys ys.length) :: news')) : WCs ⟨g, n, .fn ns, false, fz⟩ R mu news elt target iter ifs scope pos (.ref l) y py K := fun z s cl q I S hcl q' =>
  goR (fun i ys mu news => ∃ zz, mu = Mo zz ∧ J i zz ys news) S hl hsm hn hcell hkind hz ⟨z0, hM, h0⟩ (fun i t I' oI C oC D m₂ ys mu news' s hv hJ gr hC S => by
    obtain ⟨zz, rfl, hJ⟩ := hJ
    exact turn i t zz ys news' _ _ (elK _ _ _ _) hv hJ gr z.c z.m z.xc z.x s cl I' oI C oC D m₂ ys _ I.1 I.2.2.1 (subX I) hcl hC S (fun _ _ _ k => k) (fun _ _ k => k))
    fun D C oC m' ys mu news' s' hJ hy gr hC S => by obtain ⟨zz, rfl, hJ⟩ := hJ; exact doneS hi I q' (done D zz ys news' hJ hy gr) hC S
theorem WCo.Bz {b : Array UInt8} {tb : Tok} {K : Value → LedT → LedT → Prop} (Mo : Z → LedT) (J : Nat → Z → List Value → LedT → Prop) (z0 : Z) (hcell : ∀ y ∈ scope.names, y.2 ≠ .cell) (hkind : scope.kind = .function) (hz : b.size ≤ 1000000) (hM : mu = Mo z0) (h0 : J 0 z0 [] news)
    (turn : ∀ i (v : Int) t z ys news' KY KS, ElK Mo (J (i + 1)) news ys KY KS → (KBw.bInts b)[i]? = some v → J i z ys news' → Gr news news' → WEl g n ns R (Mo z) news' news elt target ifs scope (.int v t) KY KS)
    (done : ∀ D z ys news', J b.size z ys news' → ys.length ≤ b.size → Gr news news' → K (.ref D) (Mo z) ((D, lstO ys ys.length) :: news')) : WCo ⟨g, n, .fn ns, false, fz⟩ R mu news elt target iter ifs scope pos (.bytes b tb) K := fun z s cl Q I S hcl q =>
  goB (fun i ys mu news => ∃ zz, mu = Mo zz ∧ J i zz ys news) S hcell hkind hz ⟨z0, hM, h0⟩ (fun i v t I' oI C oC D m₂ ys mu news' s hv hJ gr hC S => by
    obtain ⟨zz, rfl, hJ⟩ := hJ
    exact turn i v t zz ys news' _ _ (elK _ _ _ _) hv hJ gr z.c z.m z.xc z.x s cl I' oI C oC D m₂ ys _ I.1 I.2.2.1 (subX I) hcl hC S (fun _ _ _ k => k) (fun _ _ k => k))
    fun D C oC m' ys mu news' s' hJ hy gr hC S => by obtain ⟨zz, rfl, hJ⟩ := hJ; exact doneC q (done D zz ys news' hJ hy gr) hC S
end
end

-- X5
section
open PySem PySem.W PyProof.Rows PySem.Spec PySem.Calls PyProof.V
section
variable {F : Fm} {R : Tab} {mu news : LedT} {e e1 e2 : Expr} {f f1 f2 : Tok → Value} {pos : Pos} {rest : List Stmt}
section
variable {K : Value → LedT → LedT → Prop} {op : Operator} {value slice test body orelse : Expr}
theorem WE.bin (h : WE F R mu news e1 (fun v mu' news' => WE F R mu' news' e2 (fun w mu2 news2 => WO F R mu2 news2 (binaryOp op v w) K))) : WE F R mu news (.BinOp e1 op e2 pos) K := fun z s Q I S q =>
  wpAny_BinOp (h z s _ I S fun v mu' news' s' k S' => k z s' _ I S' fun w mu2 news2 s2 k2 S2 => k2 z s2 Q I S2 q)
theorem WE.sub (h : WE F R mu news value (fun o mu' news' => WE F R mu' news' slice (fun i mu2 news2 => WO F R mu2 news2 (subscriptTail value slice o i) K))) : WE F R mu news (.Subscript value slice pos) K := fun z s Q I S q =>
  Subscript_ (h z s _ I S fun v mu' news' s' k S' => k z s' _ I S' fun w mu2 news2 s2 k2 S2 => k2 z s2 Q I S2 q)
theorem WE.ifExp (h : WB F R mu news test (fun b mu' news' => if b = true then WE F R mu' news' body K else WE F R mu' news' orelse K)) : WE F R mu news (.IfExp test body orelse pos) K := fun z s Q I S q =>
  IfExp_ (h z s _ I S fun b mu' news' s' k S' => by
    cases b with
    | true => exact k z s' Q I S' q
    | false => exact k z s' Q I S' q)
theorem WB.cmp {op : CmpOp} {KB : Bool → LedT → LedT → Prop} (hm : behindInMarks op e2 = false) (h : WE F R mu news e1 (fun a mu' news' => WE F R mu' news' e2 (fun b mu2 news2 => WO F R mu2 news2 (compareOp op a b) (fun v mu3 news3 => WO F R mu3 news3 (truthy v) KB)))) :
    WB F R mu news (.Compare e1 [op] [e2] pos) KB := fun z s Q I S q => wpAny_isTrue_Compare1 (h z s _ I S fun v mu' news' s' k S' => k z s' _ I S' fun w mu2 news2 s2 k2 S2 => k2 z s2 _ I S2 fun x mu3 news3 s3 k3 S3 => k3 z s3 Q I S3 q) hm
theorem WE.cmp {op : CmpOp} (hm : behindInMarks op e2 = false) (h : WE F R mu news e1 (fun a mu' news' => WE F R mu' news' e2 (fun b mu2 news2 => WO F R mu2 news2 (compareOp op a b) K))) :
    WE F R mu news (.Compare e1 [op] [e2] pos) K := fun z s Q I S q => wpAny_Compare1 (h z s _ I S fun v mu' news' s' k S' => k z s' _ I S' fun w mu2 news2 s2 k2 S2 => k2 z s2 Q I S2 q) hm
theorem WE.tuple {es : List Expr} {k : Nat} (h : WA F R mu news pos es (fun vs mu' news' => WO F R mu' news' (newTuple vs) K)) : WE F R mu news (.Tuple es k pos) K := fun z s Q I S q => Tuple_ (h z s _ I S fun v mu' news' s' k S' => k z s' Q I S' q)
theorem WE.list {es : List Expr} (h : WA F R mu news pos es (fun vs mu' news' => WO F R mu' news' (newList vs) K)) : WE F R mu news (.List es pos) K := fun z s Q I S q => List_ (h z s _ I S fun v mu' news' s' k S' => k z s' Q I S' q)
end
section
variable {K : List Value → LedT → LedT → Prop} {es : List Expr} {e3 e4 e5 : Expr} {f3 f4 f5 : Tok → Value}
theorem WA.nil (h : K [] mu news) : WA F R mu news pos [] K := fun z s Q I S q => spliced_none (q _ _ _ _ h S)
theorem WA.cons (hp : isPlain e = true) (h : WE F R mu news e (fun v mu' news' => WA F R mu' news' pos es (fun vs => K (v :: vs)))) : WA F R mu news pos (e :: es) K := fun z s Q I S q =>
  sp_cons hp (h z s _ I S fun v mu' news' s' k S' => k z s' _ I S' fun vs mu2 news2 s2 k2 S2 => q _ _ _ _ k2 S2)
theorem WA.t1 (p1 : isPlain e1 = true) (h1 : EV F R mu news e1 f1) (h : ∀ t1, K [f1 t1] mu news) : WA F R mu news pos [e1] K := fun z s Q I S q => sp1 S p1 (h1 z I) fun t1 s' S' => q _ _ _ _ (h t1) S'
theorem WA.t2 (p1 : isPlain e1 = true) (p2 : isPlain e2 = true) (h1 : EV F R mu news e1 f1) (h2 : EV F R mu news e2 f2) (h : ∀ t1 t2, K [f1 t1, f2 t2] mu news) : WA F R mu news pos [e1, e2] K := fun z s Q I S q => sp2 S p1 p2 (h1 z I) (h2 z I) fun t1 t2 s' S' => q _ _ _ _ (h t1 t2) S'
theorem WA.t3 (p1 : isPlain e1 = true) (p2 : isPlain e2 = true) (p3 : isPlain e3 = true) (h1 : EV F R mu news e1 f1) (h2 : EV F R mu news e2 f2) (h3 : EV F R mu news e3 f3) (h : ∀ t1 t2 t3, K [f1 t1, f2 t2, f3 t3] mu news) : WA F R mu news pos [e1, e2, e3] K := fun z s Q I S q =>
  sp3 S p1 p2 p3 (h1 z I) (h2 z I) (h3 z I) fun t1 t2 t3 s' S' => q _ _ _ _ (h t1 t2 t3) S'
theorem WA.t4 (p1 : isPlain e1 = true) (p2 : isPlain e2 = true) (p3 : isPlain e3 = true) (p4 : isPlain e4 = true) (h1 : EV F R mu news e1 f1) (h2 : EV F R mu news e2 f2) (h3 : EV F R mu news e3 f3) (h4 : EV F R mu news e4 f4) (h : ∀ t1 t2 t3 t4, K [f1 t1, f2 t2, f3 t3, f4 t4] mu news) : WA F R mu news pos [e1, e2, e3, e4] K := fun z s Q I S q =>
  sp4 S p1 p2 p3 p4 (h1 z I) (h2 z I) (h3 z I) (h4 z I) fun t1 t2 t3 t4 s' S' => q _ _ _ _ (h t1 t2 t3 t4) S'
end
noncomputable def WW (F : Fm) (R : Tab) (mu news : LedT) (pos : Pos) (fv : Value) (first : List Value) (args : List Expr) (K : Value → LedT → LedT → Prop) : Prop := WT F R mu news (fun z => callWith pos fv first (backTo pos (starEach args z.env)) []) K
section
variable {K : Value → LedT → LedT → Prop} {id : String} {fn : Addr} {first : List Value} {es : List Expr} {func o : Expr} {y name : Str} {np apos : Pos} {pl : Sem Bool}
theorem WW.b (p1 : isPlain e = true) (p2 : es.all isPlain = true) (h : WA F R mu news pos (e :: es) (fun vs mu' news' => WO F R mu' news' (call (.builtin id) (first ++ vs)) K)) : WW F R mu news pos (.builtin id) first (e :: es) K := fun z s Q I S q =>
  callWith_method1 (h z s _ I S fun v mu' news' s' k S' => k z s' Q I S' q) (plain_cons p1) (plain_any p2)
theorem WW.b0 (h : WO F R mu news (call (.builtin id) first) K) : WW F R mu news pos (.builtin id) first [] K := fun z s Q I S q => callWith_method0 (h z s Q I S q)
theorem WW.t (p1 : isPlain e = true) (p2 : es.all isPlain = true) (h : WA F R mu news pos (e :: es) (fun vs mu' news' => WO F R mu' news' (call (.type id) vs) K)) : WW F R mu news pos (.type id) [] (e :: es) K := fun z s Q I S q =>
  PyProof.Rows.callWith_type1 (h z s _ I S fun v mu' news' s' k S' => k z s' Q I S' q) (plain_cons p1) (plain_any p2)
theorem WE.callN (h : WE F R mu news (.Name y np) (fun fv mu' news' => WW F R mu' news' pos fv [] es K)) : WE F R mu news (.Call (.Name y np) es [] pos) K := fun z s Q I S q => Call_Name rfl (h z s _ I S fun v mu' news' s' k S' => k z s' Q I S' q)
theorem WE.callM {pl : Env → Sem Bool} (he : ∀ env, eval (.Call (.Attribute o name apos) es [] pos) env = (do
      let ov ← eval o env
      standAt apos.atName
      let (f, first) ← holding [ov] (getMethod ov name (pl env))
      callWith pos f first (backTo pos (starEach es env)) []))
    (h : ∀ pl, WE F R mu news o (fun ov mu' news' => WO F R mu' news' (getMethod ov name pl) (fun fx mu2 news2 => WW F R mu2 news2 pos fx.1 fx.2 es K))) : WE F R mu news (.Call (.Attribute o name apos) es [] pos) K := fun z s Q I S q =>
  MethodCall_ (h (pl z.env) z s _ I S fun ov mu' news' s' k S' => k z s' _ I S' fun fx mu2 news2 s2 k2 S2 => k2 z s2 Q I S2 q) (he z.env)
end
section
variable {K : Flow → Tab → LedT → LedT → Prop} {g : Gp} {n : Nat} {ns : List (Str × NameKind)} {r fz : Bool}
theorem WP.expr (hc : notComp e = true) (h : WE ⟨g, n, .fn ns, r, fz⟩ R mu news e (fun v mu' news' => v = .none ∧ WP ⟨g, n, .fn ns, r, fz⟩ R mu' news' rest K)) : WP ⟨g, n, .fn ns, r, fz⟩ R mu news (.Expr e pos :: rest) K := fun z s Q I S q => by
  have hz := I.2.1
  have h' : wpAny (GG g).M z.c.A (eval e z.env) (fun v s2 => v = .none ∧ wpAny (GG g).M z.c.A (execs rest z.env) Q (Fm.E ⟨g, n, .fn ns, r, fz⟩ z) s2) (Fm.E ⟨g, n, .fn ns, r, fz⟩ z) s := h z s (fun v s2 => v = .none ∧ wpAny (GG g).M z.c.A (execs rest z.env) Q (Fm.E ⟨g, n, .fn ns, r, fz⟩ z) s2) I S fun v mu' news' s' k S' => ⟨k.1, k.2 z s' Q I S' q⟩
  rw [hz] at h'
  have w := v_expr (pos := pos) I.1 h' (swaps_no hc)
  rw [← hz] at w
  exact w
theorem WP.asgS {o i : Expr} {pos' : Pos} (hc : notComp e = true) (h : WE F R mu news e (fun v mu' news' => WE F R mu' news' o (fun ov mu2 news2 => WE F R mu2 news2 i (fun iv mu3 news3 => WO F R mu3 news3 (setItem ov iv v) (fun _ mu4 news4 => WP F R mu4 news4 rest K))))) :
    WP F R mu news (.Assign [.Subscript o i pos'] e pos :: rest) K := fun z s Q I S q =>
  v_asgS (h z s _ I S fun v mu' news' s' k S' => k z s' _ I S' fun ov mu2 news2 s2 k2 S2 => k2 z s2 _ I S2 fun iv mu3 news3 s3 k3 S3 => k3 z s3 _ I S3 fun _ mu4 news4 s4 k4 S4 => k4 z s4 Q I S4 q) (swaps_no hc)
theorem WP.asgA {o : Expr} {attr : Str} {pos' : Pos} (hc : notComp e = true) (h : WE F R mu news e (fun v mu' news' => WE F R mu' news' o (fun ov mu2 news2 => WO F R mu2 news2 (setAttr ov attr v) (fun _ mu4 news4 => WP F R mu4 news4 rest K)))) :
    WP F R mu news (.Assign [.Attribute o attr pos'] e pos :: rest) K := fun z s Q I S q =>
  v_asgA (h z s _ I S fun v mu' news' s' k S' => k z s' _ I S' fun ov mu2 news2 s2 k2 S2 => k2 z s2 _ I S2 fun _ mu4 news4 s4 k4 S4 => k4 z s4 Q I S4 q) (swaps_no hc)
end
end
section
variable {F : Fm} {R : Tab} {mu news : LedT} {K : Value → LedT → LedT → Prop} {KB : Bool → LedT → LedT → Prop} {KU : Unit → LedT → LedT → Prop} {a b i : Int} {t u : Tok} {l d : Addr} {o : Obj} {vs : List Value} {v : Value} {gg : Obj → LedT} {nn : Nat}
theorem O.add (h : ∀ t, K (.int (a + b) t) mu news) : WO F R mu news (binaryOp .Add (.int a t) (.int b u)) K := fun z s Q I S q => v_add S fun t s' S' => q _ _ _ _ (h t) S'
theorem O.sub (h : ∀ t, K (.int (a - b) t) mu news) : WO F R mu news (binaryOp .Sub (.int a t) (.int b u)) K := fun z s Q I S q => v_sub S fun t s' S' => q _ _ _ _ (h t) S'
theorem O.mul (hm : IntMulOk a b) (h : ∀ t, K (.int (a * b) t) mu news) : WO F R mu news (binaryOp .Mult (.int a t) (.int b u)) K := fun z s Q I S q => v_mul S hm fun t s' S' => q _ _ _ _ (h t) S'
theorem O.fdiv (hb : b ≠ 0) (hp : Builtin.divisionGoesByPylong a b = false) (h : ∀ t, K (.int (a.fdiv b) t) mu news) : WO F R mu news (binaryOp .FloorDiv (.int a t) (.int b u)) K := fun z s Q I S q => v_fdiv S hb hp fun t s' S' => q _ _ _ _ (h t) S'
theorem O.mod (hb : b ≠ 0) (h : ∀ t, K (.int (a.fmod b) t) mu news) : WO F R mu news (binaryOp .Mod (.int a t) (.int b u)) K := fun z s Q I S q => v_mod S hb fun t s' S' => q _ _ _ _ (h t) S'
theorem O.pow (h0 : 0 ≤ b) (h1 : b ≤ 1000000) (ha : a.natAbs < 2 ^ 64) (h : ∀ t, K (.int (a ^ b.toNat) t) mu news) : WO F R mu news (binaryOp .Pow (.int a t) (.int b u)) K := fun z s Q I S q => v_pow S h0 h1 ha fun t s' S' => q _ _ _ _ (h t) S'
theorem O.cmpI {op : CmpOp} {b' : Bool} (hc : cmpInt op a b = some b') (h : K (.bool b') mu news) : WO F R mu news (compareOp op (.int a t) (.int b u)) K := fun z s Q I S q => cmpInt_ok hc (q _ _ _ _ h S)
theorem O.isN {b : Bool} (hb : noneIs v = some b) (h : K (.bool b) mu news) : WO F R mu news (compareOp .Is v .none) K := fun z s Q I S q => noneIs_is hb (q _ _ _ _ h S)
theorem O.tup (hz : Nat.ble vs.length 1000 = true) (h : ∀ D, K (.ref D) mu ((D, tupO vs) :: news)) : WO F R mu news (newTuple vs) K := fun z s Q I S q => v_newTuple S hz fun D s' S' => q _ _ _ _ (h D) S'
theorem O.lst (hz : Nat.ble vs.length 1000 = true) (h : ∀ D, K (.ref D) mu ((D, lstO vs 0) :: news)) : WO F R mu news (newList vs) K := fun z s Q I S q => v_newList S hz fun D s' S' => q _ _ _ _ (h D) S'
theorem O.isi {g : Gp} {n : Nat} {md : Mode} {r fz : Bool} {v tv k : Value} {b : Bool} (T : Ty g tv v news) (e : kitOne (hd.heap_1 g.w.params) tv k = some b) (h : K (.bool b) mu news) : WO ⟨g, n, md, r, fz⟩ R mu news (call (.builtin "isinstance") [v, k]) K := fun z s Q I S q => Mine.isi I.ok S T e fun s' S' => q _ _ _ _ h S'
theorem O.attr {g : Gp} {n : Nat} {md : Mode} {r fz : Bool} {a C : Addr} {fs : List (Str × Value)} {name : Str} {v : Value} {expr : Bool} (J : Inst C a fs news) (f : FieldOk (hd.heap_1 g.w.params) C name) (hl : getF name fs = some v) (hv : handedIn v = true) (h : K v mu news) :
    WO ⟨g, n, md, r, fz⟩ R mu news (getAttr (.ref a) name expr) K := fun z s Q I S q => getF' I.ok S J f hl hv fun s' S' => q _ _ _ _ h S'
theorem O.meth {g : Gp} {n : Nat} {md : Mode} {r fz : Bool} {a C f : Addr} {fs : List (Str × Value)} {name : Str} {pl : Sem Bool} {KM : Value × List Value → LedT → LedT → Prop} (J : Inst C a fs news) (M : MethOk (hd.heap_1 g.w.params) C name f) (hl : getF name fs = none) (h : KM (.ref f, [.ref a]) mu news) :
    WO ⟨g, n, md, r, fz⟩ R mu news (getMethod (.ref a) name pl) KM := fun z s Q I S q => meth' I.ok S J M hl (q _ _ _ _ h S)
theorem O.setA {g : Gp} {n : Nat} {md : Mode} {r fz : Bool} {y dx C : Addr} {fs fs' : List (Str × Value)} {name : Str} (h1 : (y, instObj C dx) ∈ news) (U : UpM dx o mu gg) (hdd : DictS fs o) (f : SetOk (hd.heap_1 g.w.params) C name) (hz : Nat.ble (fs.length + 1) 1000 = true) (hf : putF name v fs = fs')
    (h : ∀ o', DictS fs' o' → KU () (gg o') news) : WO ⟨g, n, md, r, fz⟩ R mu news (setAttr (.ref y) name v) KU := fun z s Q I S q => setF' I.ok S h1 U hdd f hz hf fun o' s' D S' => q _ _ _ _ (h o' D) S'
theorem W.ref {g : Gp} {n : Nat} {md : Mode} {r fz : Bool} {pos : Pos} {fn : Addr} {first : List Value} {e : Expr} {es : List Expr} (hk : keepIn (hd.heap_1 g.w.params) (.ref fn) = true) (p1 : isPlain e = true) (p2 : es.all isPlain = true)
    (h : WA ⟨g, n, md, r, fz⟩ R mu news pos (e :: es) (fun vs mu' news' => WO ⟨g, n, md, r, fz⟩ R mu' news' (call (.ref fn) (first ++ vs)) K)) : WW ⟨g, n, md, r, fz⟩ R mu news pos (.ref fn) first (e :: es) K := fun z s Q I S q =>
  v_callK (G := GG g) I.ok hk (h z s _ I S fun v mu' news' s' k S' => ⟨⟨_, _, _, _, S'⟩, k z s' Q I S' q⟩) (plain_cons p1) (plain_any p2)
theorem W.ref0 {g : Gp} {n : Nat} {md : Mode} {r fz : Bool} {pos : Pos} {fn : Addr} {first : List Value} (hk : keepIn (hd.heap_1 g.w.params) (.ref fn) = true) (h : WO ⟨g, n, md, r, fz⟩ R mu news (call (.ref fn) (first ++ [])) K) : WW ⟨g, n, md, r, fz⟩ R mu news pos (.ref fn) first [] K := fun z s Q I S q =>
  callWith_K0 (I.ok.X.keeps S.F.keep) hk (h z s Q I S q)
theorem O.max2 (h : ∀ t, K (.int (max a b) t) mu news) : WO F R mu news (call (.builtin "max") [.int a t, .int b u]) K := fun z s Q I S q => v_max2 rfl S fun t s' S' => q _ _ _ _ (h t) S'
theorem O.trTup (hl : (l, tupO vs) ∈ mu ++ news) (hz : vs.length ≤ 1000000) (h : KB (!vs.isEmpty) mu news) : WO F R mu news (truthy (.ref l)) KB := fun z s Q I S q => v_truthyTup S hl hz fun s' S' => q _ _ _ _ h S'
theorem O.setL (U : UpM l o mu gg) (P : LstP vs o) (h0 : 0 ≤ i) (h1 : i < vs.length) (hz : vs.length ≤ 1000000) (h : ∀ o', LstP (vs.set i.toNat v) o' → KU () (gg o') news) : WO F R mu news (setItem (.ref l) (.int i t) v) KU := fun z s Q I S q => v_setL S U P h0 h1 hz fun o' s' P' S' => q _ _ _ _ (h o' P') S'
theorem O.append (U : UpM l (lstO vs nn) mu gg) (hz : vs.length ≤ 1000000) (h : K .none (gg (lstO (vs ++ [v]) (nn + 1))) news) : WO F R mu news (call (.builtin "list.append") [.ref l, v]) K := fun z s Q I S q => v_append S U hz fun s' S' => q _ _ _ _ h S'
theorem O.mAppend {pl : Sem Bool} {KM : Value × List Value → LedT → LedT → Prop} (hl : (l, lstO vs nn) ∈ mu ++ news) (h : KM (.builtin "list.append", [.ref l]) mu news) : WO F R mu news (getMethod (.ref l) "append" pl) KM := fun z s Q I S q => v_methAppend S hl (q _ _ _ _ h S)
theorem O.mPop {pl : Sem Bool} {KM : Value × List Value → LedT → LedT → Prop} (hl : (l, lstO vs nn) ∈ mu ++ news) (h : KM (.builtin "list.pop", [.ref l]) mu news) : WO F R mu news (getMethod (.ref l) "pop" pl) KM := fun z s Q I S q => v_methPop S hl (q _ _ _ _ h S)
theorem O.mIndex {pl : Sem Bool} {KM : Value × List Value → LedT → LedT → Prop} (hl : (l, lstO vs nn) ∈ mu ++ news) (h : KM (.builtin "list.index", [.ref l]) mu news) : WO F R mu news (getMethod (.ref l) "index" pl) KM := fun z s Q I S q => v_methList S hl PySem.F.slot_list_index PySem.F.type_list_index (q _ _ _ _ h S)
theorem O.pop0 (U : UpM l (lstO (v :: vs) nn) mu gg) (hz : vs.length ≤ 10000) (h : K v (gg (lstO vs (nn + 1))) news) : WO F R mu news (call (.builtin "list.pop") [.ref l, .int 0 u]) K := fun z s Q I S q => v_pop0 S U hz fun s' S' => q _ _ _ _ h S'
theorem O.range1 (h : ∀ l t u v, K (.ref l) mu ((l, rngO 0 i 1 t u v) :: news)) : WO F R mu news (call (.type "range") [.int i t]) K := fun z s Q I S q => v_range1 S fun l t u v s' S' => q _ _ _ _ (h l t u v) S'
theorem O.range2 (h : ∀ l t u v, K (.ref l) mu ((l, rngO a b 1 t u v) :: news)) : WO F R mu news (call (.type "range") [.int a t, .int b u]) K := fun z s Q I S q => v_range2 S fun l t u v s' S' => q _ _ _ _ (h l t u v) S'
theorem O.abs (h : ∀ t, K (.int (if i < 0 then -i else i) t) mu news) : WO F R mu news (call (.builtin "abs") [.int i t]) K := fun z s Q I S q => v_abs S fun t s' S' => q _ _ _ _ (h t) S'
theorem O.inT {ys : List Str} {k : Str} (r : Bool) (hl : (l, tupO vs) ∈ mu ++ news) (hi : StrsAre vs ys) (hr : ys.any (· == k) = r) (h : K (.bool r) mu news) : WO F R mu news (compareOp .In (.str k t) (.ref l)) K := fun z s Q I S q => v_inT r S hl hi hr (q _ _ _ _ h S)
theorem O.ninT {ys : List Str} {k : Str} (r : Bool) (hl : (l, tupO vs) ∈ mu ++ news) (hi : StrsAre vs ys) (hr : (!(ys.any (· == k))) = r) (h : K (.bool r) mu news) : WO F R mu news (compareOp .NotIn (.str k t) (.ref l)) K := fun z s Q I S q => v_ninT r S hl hi hr (q _ _ _ _ h S)
theorem O.item {y : Str} {np : Pos} {slice : Expr} (hi : isIdx slice = true) (hl : (l, o) ∈ mu ++ news) (P : LstP vs o) (h0 : 0 ≤ i) (hz : i < 2 ^ 63) (hx : vs[i.toNat]? = some v) (h : K v mu news) : WO F R mu news (subscriptTail (.Name y np) slice (.ref l) (.int i t)) K := fun z s Q I S q =>
  v_itemL S hl P h0 hz hx (q _ _ _ _ h S) (subs_plain hi) fun _ => rfl
end
section
variable {F : Fm} {R : Tab} {mu news : LedT} {k : Nat} {f : Addr} {vs : List Value} {K : Value → LedT → LedT → Prop}
theorem CtX.wM {P : Value → LedT → Prop} (C : CtX (GG F.g) k f vs mu news (fun r mu' news' => mu' = mu ∧ P r news')) (h : ∀ r news', P r news' → Gr news news' → K r mu news') (hk : Nat.ble k F.n = true := by with_unfolding_all rfl) : WO F R mu news (call (.ref f) vs) K := C.w (hk := hk) (fun K' hK' r mu' news' p g => by obtain ⟨rfl, p⟩ := p; exact hK' _ _ _ (h r news' p g))
theorem CtX.wV {v : Value} (C : CtX (GG F.g) k f vs mu news (fun r mu' news' => mu' = mu ∧ r = v)) (h : ∀ news', Gr news news' → K v mu news') (hk : Nat.ble k F.n = true := by with_unfolding_all rfl) : WO F R mu news (call (.ref f) vs) K := C.wM (hk := hk) (fun r news' p g => by subst p; exact h news' g)
theorem CtX.wI {i : Int} (C : CtX (GG F.g) k f vs mu news (fun r mu' news' => mu' = mu ∧ ∃ t, r = .int i t)) (h : ∀ t news', Gr news news' → K (.int i t) mu news') (hk : Nat.ble k F.n = true := by with_unfolding_all rfl) : WO F R mu news (call (.ref f) vs) K := C.wM (hk := hk) (fun r news' p g => by obtain ⟨t, rfl⟩ := p; exact h t news' g)
theorem CtX.wS {y : Str} (C : CtX (GG F.g) k f vs mu news (fun r mu' news' => mu' = mu ∧ ∃ t, r = .str y t)) (h : ∀ t news', Gr news news' → K (.str y t) mu news') (hk : Nat.ble k F.n = true := by with_unfolding_all rfl) : WO F R mu news (call (.ref f) vs) K := C.wM (hk := hk) (fun r news' p g => by obtain ⟨t, rfl⟩ := p; exact h t news' g)
theorem CtX.wR {P : Addr → LedT → Prop} (C : CtX (GG F.g) k f vs mu news (fun r mu' news' => mu' = mu ∧ ∃ y, r = .ref y ∧ P y news')) (h : ∀ y news', P y news' → Gr news news' → K (.ref y) mu news') (hk : Nat.ble k F.n = true := by with_unfolding_all rfl) : WO F R mu news (call (.ref f) vs) K := C.wM (hk := hk) (fun r news' p g => by obtain ⟨y, rfl, p⟩ := p; exact h y news' p g)
theorem Ct.w {P : Value → LedT → LedT → Prop} (C : Ct (GG F.g) k f vs mu news P) (h : ∀ K', Ck K K' → ∀ r mu' news', P r mu' news' → Gr news news' → K' r mu' news') (hk : Nat.ble k F.n = true := by with_unfolding_all rfl) : WO F R mu news (call (.ref f) vs) K :=
  fun z s Q I S q => C.at I.ok hk S fun r mu' news' s' p g S' => q r mu' news' s' (h K (fun _ _ _ a => a) r mu' news' p g) S'
theorem Ct.wR {P : Addr → LedT → Prop} (C : Ct (GG F.g) k f vs mu news (fun r mu' news' => mu' = mu ∧ ∃ y, r = .ref y ∧ P y news')) (h : ∀ y news', P y news' → Gr news news' → K (.ref y) mu news') (hk : Nat.ble k F.n = true := by with_unfolding_all rfl) : WO F R mu news (call (.ref f) vs) K := C.w (hk := hk) (fun K' hK' r mu' news' p g => by obtain ⟨rfl, y, rfl, p⟩ := p; exact hK' _ _ _ (h y news' p g))
theorem Ct.wV {v : Value} (C : Ct (GG F.g) k f vs mu news (fun r mu' news' => mu' = mu ∧ r = v)) (h : ∀ news', Gr news news' → K v mu news') (hk : Nat.ble k F.n = true := by with_unfolding_all rfl) : WO F R mu news (call (.ref f) vs) K := C.w (hk := hk) (fun K' hK' r mu' news' p g => by obtain ⟨rfl, rfl⟩ := p; exact hK' _ _ _ (h news' g))
end
end

-- X6
section
open PySem PySem.W PyProof.Rows PySem.Spec PySem.Calls PyProof.V
theorem enterWD {g : Gp} {n : Nat} {R : Tab} {mu news : LedT} {name qual : Str} {params : Arguments} {body : List Stmt} {scope : Scope} {dV kV doc pm cdv ct oc : Value} {an od : Option Addr} {osl : Array (Option Value)} {f : Addr} {vs : List Value} (vs' : List Value) {binds : List (Str × Value)} {P : Value → LedT → LedT → Prop}
    (hlk : (hd.heap_1 g.w.params).lookup f = some ⟨oc, od, .func (fnOf name qual params body scope dV kV doc pm an cdv ct), osl⟩) (hcd : codeIn (hd.heap_1 g.w.params) cdv qual = true)
    (hin : InitC (GG g) scope.names vs' binds R) (hbind : ∀ s : Shared, (hd.heap_1 g.w.params).In s.heap → BindsTo s (fnOf name qual params body scope dV kV doc pm an cdv ct) ⟨vs, []⟩ binds) (hnd : (scope.names.map (·.1)).Nodup) (hdbg : (scope.names.any fun y => y.1 == ("__debug__" : Str)) = false)
    (hco : scope.isCoroutine = false) (hgen : scope.isGenerator = false) (hk : scope.kind = .function)
    (h : ∀ K : Flow → Tab → LedT → LedT → Prop, (∀ fl R' mu' news', Gr news news' → P (retOf fl) mu' news' → K fl R' mu' news') → let Rt := R; WP ⟨g, n, .fn scope.names, false, false⟩ Rt mu news body K) : CtX (GG g) (n + 1) f vs mu news P :=
  enterD vs' hlk hcd hin hbind hnd hdbg hco hgen hk fun c m x cells s O T S => h (fun fl _ mu' news' => Gr news news' ∧ P (retOf fl) mu' news') (fun _ _ _ _ a b => ⟨a, b⟩) ⟨c, m, cells, cells ++ x, x, c.env⟩ s _ ⟨O, rfl, T, rfl⟩ S fun fl R' mu' news' m' xc' s' hp _ I' S' => backG S' hp.1 hp.2
section
variable {F : Fm} {R : Tab} {mu news : LedT} {K : Value → LedT → LedT → Prop} {KU : Unit → LedT → LedT → Prop} {KM : Value × List Value → LedT → LedT → Prop} {t u : Tok} {d : Addr} {o : Obj} {gg : Obj → LedT} {knd : PySem.KeyKind (GG F.g).prog (GG F.g).w Str} {kvs : List (Str × Value)} {kk : Str} {key v dflt : Value} {pl : Sem Bool}
theorem O.turn {value slice : Expr} {oo ii : Value} (h : WO F R mu news (subscriptTail (.Name (Str.ofString "_") ⟨0, 0, 0, 0⟩) slice oo ii) K) : WO F R mu news (subscriptTail value slice oo ii) K := fun z s Q I S q => kba_turn (value' := .Name (Str.ofString "_") ⟨0, 0, 0, 0⟩) (fun _ => rfl) (h z s Q I S q)
theorem O.app0 {f : Value} {vs : List Value} (h : WO F R mu news (call f vs) K) : WO F R mu news (call f ([] ++ vs)) K := h
theorem O.app1 {f v : Value} {vs : List Value} (h : WO F R mu news (call f (v :: vs)) K) : WO F R mu news (call f ([v] ++ vs)) K := h
theorem O.mGet (hd : (d, o) ∈ mu ++ news) (P : DctP knd kvs d o) (h : KM (.builtin "dict.get", [.ref d]) mu news) : WO F R mu news (getMethod (.ref d) "get" pl) KM := fun z s Q I S q => v_methGet (G := GG F.g) S hd P (q _ _ _ _ h S)
theorem O.dget1 (hd : (d, o) ∈ mu ++ news) (P : DctP knd kvs d o) (hk : knd.is kk key = true) (h : K ((valueAt kvs kk).getD .none) mu news) : WO F R mu news (call (.builtin "dict.get") [.ref d, key]) K := fun z s Q I S q => v_dget1 (G := GG F.g) S hd P hk fun s' S' => q _ _ _ _ h S'
theorem O.ditem {y : Str} {np : Pos} {slice : Expr} (hi : isIdx slice = true) (hd : (d, o) ∈ mu ++ news) (P : DctP knd kvs d o) (hk : knd.is kk key = true) (hl : valueAt kvs kk = some v) (h : K v mu news) : WO F R mu news (subscriptTail (.Name y np) slice (.ref d) key) K := fun z s Q I S q =>
  v_ditem (G := GG F.g) S hd P hk hl (fun s' S' => q _ _ _ _ h S') (subs_plain hi) fun _ => rfl
theorem O.dset (U : UpM d o mu gg) (P : DctP knd kvs d o) (hk : knd.is kk key = true) (hz : kvs.length ≤ 1000) (h : ∀ o', DctP knd (stored kvs kk v) d o' → KU () (gg o') news) : WO F R mu news (setItem (.ref d) key v) KU := fun z s Q I S q => v_dset (G := GG F.g) S U P hk hz fun o' s' P' S' => q _ _ _ _ (h o' P') S'
end
section
variable {g : Gp} {n : Nat} {md : Mode} {r fz : Bool} {R : Tab} {mu news : LedT} {e e1 e2 : Expr} {pos np : Pos} {y : Str} {v tv k : Value} {b : Bool} {l : Addr} {o : Obj} {vs : List Value} {i j : Int} {k1 k2 : Tok → Tok} {rest : List Stmt}
theorem ET.isi (hf : EV ⟨g, n, md, r, fz⟩ R mu news (.Name y np) (fun _ => .builtin "isinstance")) (p1 : isPlain e1 = true) (p2 : isPlain e2 = true) (h1 : EV ⟨g, n, md, r, fz⟩ R mu news e1 (fun _ => v)) (h2 : EV ⟨g, n, md, r, fz⟩ R mu news e2 (fun _ => k)) (T : Ty g tv v news) (e : kitOne (hd.heap_1 g.w.params) tv k = some b) :
    ET ⟨g, n, md, r, fz⟩ R mu news (.Call (.Name y np) [e1, e2] [] pos) b := fun z I s Q E S q => isTrue_plain (ecb2 S (hf z I) p1 p2 (h1 z I) (h2 z I) fun _ _ s' S' => Mine.isi I.ok S' T e fun s2 S2 => wpAny_truthy_bool (q s2 S2)) rfl
theorem ET.not (h : ET ⟨g, n, md, r, fz⟩ R mu news e b) : ET ⟨g, n, md, r, fz⟩ R mu news (.UnaryOp .Not e pos) (!b) := fun z I s Q E S q => isTrue_not (h z I s _ E S fun s' S' => q s' S')
theorem ET.bool (hp : isTest e = false) (h : EV ⟨g, n, md, r, fz⟩ R mu news e (fun _ => .bool b)) : ET ⟨g, n, md, r, fz⟩ R mu news e b := fun z I s Q E S q => isTrue_of hp (h z I s _ E S fun _ s' S' => wpAny_truthy_bool (q s' S'))
theorem ET.lst (hp : isTest e = false) (h : EV ⟨g, n, md, r, fz⟩ R mu news e (fun _ => .ref l)) (hl : (l, o) ∈ mu ++ news) (P : LstP vs o) (hz : vs.length ≤ 1000000) : ET ⟨g, n, md, r, fz⟩ R mu news e (!vs.isEmpty) := fun z I s Q E S q => isTrue_of hp (h z I s _ E S fun _ s' S' => v_truthyL S' hl P hz q)
theorem ET.lstT (hp : isTest e = false) (h : EV ⟨g, n, md, r, fz⟩ R mu news e (fun _ => .ref l)) (hl : (l, o) ∈ mu ++ news) (P : LstP vs o) (hv : vs ≠ []) (hz : vs.length ≤ 1000000) : ET ⟨g, n, md, r, fz⟩ R mu news e true := fun z I s Q E S q => isTrue_of hp (h z I s _ E S fun _ s' S' => v_truthyT S' hl P hv hz q)
theorem EV.len (hf : EV ⟨g, n, md, r, fz⟩ R mu news (.Name y np) (fun _ => .builtin "len")) (p1 : isPlain e1 = true) (h1 : EV ⟨g, n, md, r, fz⟩ R mu news e1 (fun _ => .ref l)) (hl : (l, o) ∈ mu ++ news) (P : LstP vs o) (hz : vs.length ≤ 1000000) :
    EV ⟨g, n, md, r, fz⟩ R mu news (.Call (.Name y np) [e1] [] pos) (fun t => .int (vs.length : Int) t) := fun z I s Q E S q => ecb1 S (hf z I) p1 (h1 z I) fun _ s' S' => v_len S' hl P hz q
theorem EV.lenB {bb : Array UInt8} {tb : Tok} (hf : EV ⟨g, n, md, r, fz⟩ R mu news (.Name y np) (fun _ => .builtin "len")) (p1 : isPlain e1 = true) (h1 : EV ⟨g, n, md, r, fz⟩ R mu news e1 (fun _ => .bytes bb tb)) (hz : bb.size ≤ 1099511627776) :
    EV ⟨g, n, md, r, fz⟩ R mu news (.Call (.Name y np) [e1] [] pos) (fun t => .int (bb.size : Int) t) := fun z I s Q E S q => ecb1 S (hf z I) p1 (h1 z I) fun _ s' S' => v_lenB S' hz q
theorem EV.rshift (h1 : EV ⟨g, n, md, r, fz⟩ R mu news e1 (fun t => .int i (k1 t))) (h2 : EV ⟨g, n, md, r, fz⟩ R mu news e2 (fun t => .int j (k2 t))) (h0 : 0 ≤ j) : EV ⟨g, n, md, r, fz⟩ R mu news (.BinOp e1 .RShift e2 pos) (fun t => .int (i.fdiv (2 ^ j.toNat)) t) := fun z I => Ev.bin (h1 z I) (h2 z I) fun _ _ _ _ _ S k => v_rshift S h0 k
theorem EV.and (h1 : EV ⟨g, n, md, r, fz⟩ R mu news e1 (fun t => .int i (k1 t))) (h2 : EV ⟨g, n, md, r, fz⟩ R mu news e2 (fun t => .int j (k2 t))) : EV ⟨g, n, md, r, fz⟩ R mu news (.BinOp e1 .BitAnd e2 pos) (fun t => .int (Builtin.bitAnd i j) t) := fun z I => Ev.bin (h1 z I) (h2 z I) fun _ _ _ _ _ S k => v_and S k
theorem WP.asgAE {K : Flow → Tab → LedT → LedT → Prop} {eo : Expr} {attr : Str} {pos' : Pos} {yy dx C : Addr} {od : Obj} {fs fs' : List (Str × Value)} {gg : Obj → LedT} (hc : notComp e = true) (he : EV ⟨g, n, md, r, fz⟩ R mu news e (fun _ => v)) (ho : EV ⟨g, n, md, r, fz⟩ R mu news eo (fun _ => .ref yy))
    (h1 : (yy, instObj C dx) ∈ news) (U : UpM dx od mu gg) (hdd : DictS fs od) (f : SetOk (hd.heap_1 g.w.params) C attr) (hz : Nat.ble (fs.length + 1) 1000 = true) (hf : putF attr v fs = fs') (h : ∀ o', DictS fs' o' → WP ⟨g, n, md, r, fz⟩ R (gg o') news rest K) :
    WP ⟨g, n, md, r, fz⟩ R mu news (.Assign [.Attribute eo attr pos'] e pos :: rest) K := WP.asgA hc (WE.toldV he (WE.toldV ho (O.setA h1 U hdd f hz hf h)))
variable {F : Fm} {K : Value → LedT → LedT → Prop} {x1 x2 : Str} {t1 t2 : Tok}
theorem O.eqS (h : K (.bool (x1 == x2)) mu news) : WO F R mu news (compareOp .Eq (.str x1 t1) (.str x2 t2)) K := fun z s Q I S q => PyProof.Rows.eq_str (q _ _ _ _ h S)
theorem O.neS (h : K (.bool (x1 != x2)) mu news) : WO F R mu news (compareOp .NotEq (.str x1 t1) (.str x2 t2)) K := fun z s Q I S q => PyProof.Rows.ne_str (q _ _ _ _ h S)
end
end

-- X7
section
open PySem PySem.W PyProof.Rows PySem.Spec PySem.Calls PyProof.V
theorem WP.lt {F : Fm} {R : Tab} {mu news : LedT} {ss : List Stmt} {K : Flow → Tab → LedT → LedT → Prop} (h : let Rt := R; WP F Rt mu news ss K) : WP F R mu news ss K := h
theorem WT.perm {α : Type} {F : Fm} {R : Tab} {mu news mu' news' : LedT} {t : Zx → Sem α} {K : α → LedT → LedT → Prop} (p : ∀ c m x s, ES c m x mu news s → ES c m x mu' news' s) (h : WT F R mu' news' t K) : WT F R mu news t K := fun z s Q I S q => h z s Q I (p _ _ _ _ S) q
theorem WP.perm {F : Fm} {R : Tab} {mu news mu' news' : LedT} {ss : List Stmt} {K : Flow → Tab → LedT → LedT → Prop} (p : ∀ c m x s, ES c m x mu news s → ES c m x mu' news' s) (h : WP F R mu' news' ss K) : WP F R mu news ss K := fun z s Q I S q => h z s Q I (p _ _ _ _ S) q
theorem WP.freeze {F : Fm} {R : Tab} {mu news : LedT} {p : Addr × Obj} {ss : List Stmt} {K : Flow → Tab → LedT → LedT → Prop} (h : WP F R mu (p :: news) ss K) : WP F R (p :: mu) news ss K := h.perm fun _ _ _ _ S => S.freeze
theorem WT.freeze {α : Type} {F : Fm} {R : Tab} {mu news : LedT} {p : Addr × Obj} {t : Zx → Sem α} {K : α → LedT → LedT → Prop} (h : WT F R mu (p :: news) t K) : WT F R (p :: mu) news t K := h.perm fun _ _ _ _ S => S.freeze
theorem WB.freeze {F : Fm} {R : Tab} {mu news : LedT} {p : Addr × Obj} {e : Expr} {K : Bool → LedT → LedT → Prop} (h : WB F R mu (p :: news) e K) : WB F R (p :: mu) news e K := WT.freeze h
theorem WT.thaw {α : Type} {F : Fm} {R : Tab} {mu news : LedT} {p : Addr × Obj} {t : Zx → Sem α} {K : α → LedT → LedT → Prop} (h : WT F R (p :: mu) news t K) : WT F R mu (p :: news) t K := h.perm fun _ _ _ _ S => S.thaw
theorem WO.thaw {α : Type} {F : Fm} {R : Tab} {mu news : LedT} {p : Addr × Obj} {t : Sem α} {K : α → LedT → LedT → Prop} (h : WO F R (p :: mu) news t K) : WO F R mu (p :: news) t K := WT.thaw h
theorem WE.freeze {F : Fm} {R : Tab} {mu news : LedT} {p : Addr × Obj} {e : Expr} {K : Value → LedT → LedT → Prop} (h : WE F R mu (p :: news) e K) : WE F R (p :: mu) news e K := WT.freeze h
theorem WA.freeze {F : Fm} {R : Tab} {mu news : LedT} {p : Addr × Obj} {pos : Pos} {es : List Expr} {K : List Value → LedT → LedT → Prop} (h : WA F R mu (p :: news) pos es K) : WA F R (p :: mu) news pos es K := WT.freeze h
theorem WP.thaw {F : Fm} {R : Tab} {mu news : LedT} {p : Addr × Obj} {ss : List Stmt} {K : Flow → Tab → LedT → LedT → Prop} (h : WP F R (p :: mu) news ss K) : WP F R mu (p :: news) ss K := h.perm fun _ _ _ _ S => S.thaw
theorem WFor.perm {F : Fm} {R : Tab} {mu news mu' news' : LedT} {target : Expr} {body rest : List Stmt} {v : Value} {K : Flow → Tab → LedT → LedT → Prop} (p : ∀ c m x s, ES c m x mu news s → ES c m x mu' news' s) (h : WFor F R mu' news' target body rest v K) : WFor F R mu news target body rest v K := fun z s Q I S q => h z s Q I (p _ _ _ _ S) q
theorem WFor.thaw {F : Fm} {R : Tab} {mu news : LedT} {p : Addr × Obj} {target : Expr} {body rest : List Stmt} {v : Value} {K : Flow → Tab → LedT → LedT → Prop} (h : WFor F R (p :: mu) news target body rest v K) : WFor F R mu (p :: news) target body rest v K := h.perm fun _ _ _ _ S => S.thaw
theorem WP.rot {F : Fm} {R : Tab} {news r : LedT} {a b d : Addr × Obj} {ss : List Stmt} {K : Flow → Tab → LedT → LedT → Prop} (h : WP F R (b :: d :: a :: r) news ss K) : WP F R (a :: b :: d :: r) news ss K := h.perm fun _ _ _ _ S =>
  S.perm (List.Perm.append_right _ ((List.Perm.cons _ (List.Perm.swap _ _ _)).trans (List.Perm.swap _ _ _)))
theorem WO.rot {α : Type} {F : Fm} {R : Tab} {news r : LedT} {a b d : Addr × Obj} {t : Sem α} {K : α → LedT → LedT → Prop} (h : WO F R (b :: d :: a :: r) news t K) : WO F R (a :: b :: d :: r) news t K := h.perm fun _ _ _ _ S =>
  S.perm (List.Perm.append_right _ ((List.Perm.cons _ (List.Perm.swap _ _ _)).trans (List.Perm.swap _ _ _)))
theorem WO.unrot {α : Type} {F : Fm} {R : Tab} {news r : LedT} {a b d : Addr × Obj} {t : Sem α} {K : α → LedT → LedT → Prop} (h : WO F R (a :: b :: d :: r) news t K) : WO F R (b :: d :: a :: r) news t K := h.perm fun _ _ _ _ S =>
  S.perm (List.Perm.append_right _ ((List.Perm.swap _ _ _).trans (List.Perm.cons _ (List.Perm.swap _ _ _))))
theorem WP.unrot {F : Fm} {R : Tab} {news r : LedT} {a b d : Addr × Obj} {ss : List Stmt} {K : Flow → Tab → LedT → LedT → Prop} (h : WP F R (a :: b :: d :: r) news ss K) : WP F R (b :: d :: a :: r) news ss K := h.perm fun _ _ _ _ S =>
  S.perm (List.Perm.append_right _ ((List.Perm.swap _ _ _).trans (List.Perm.cons _ (List.Perm.swap _ _ _))))
noncomputable def WEo (F : Fm) (R : Tab) (mu news : LedT) (e : Option Expr) (K : Value → LedT → LedT → Prop) : Prop := WT F R mu news (fun z => evalPart e z.env) K
noncomputable def WSl (F : Fm) (R : Tab) (mu news : LedT) (slice : Expr) (ov l u : Value) (K : Value → LedT → LedT → Prop) : Prop :=
  ∀ (z : Zx) (s : Shared) (Q : Value → Shared → Prop), F.In z R → ES z.c z.m z.x mu news s → (∀ v mu' news' s', K v mu' news' → ES z.c z.m z.x mu' news' s' → Q v s') →
    wpAny (GG F.g).M z.c.A (subscriptTail (.Name (Str.ofString "_") ⟨0, 0, 0, 0⟩) slice ov (.ref s.heap.objs.size)) Q (F.E z) { s with heap := s.heap.push { cls := .type "slice", data := .fields #[l, u, .none] } }
section
variable {F : Fm} {R : Tab} {mu news : LedT} {value e : Expr} {lower upper : Option Expr} {p pos : Pos} {K : Value → LedT → LedT → Prop} {vl vu : Value} {lo hi : Option Int}
theorem WEo.none (h : K .none mu news) : WEo F R mu news none K := fun z s Q I S q => wpAny_pure (q _ _ _ _ h S)
theorem WEo.some (h : WE F R mu news e K) : WEo F R mu news (some e) K := h
theorem WE.slc (h : WE F R mu news value (fun ov mu' news' => WEo F R mu' news' lower (fun l mu2 news2 => WEo F R mu2 news2 upper (fun u mu3 news3 => WSl F R mu3 news3 (.Slice lower upper none p) ov l u K)))) : WE F R mu news (.Subscript value (.Slice lower upper none p) pos) K := fun z s Q I S q =>
  Subscript_ (h z s _ I S fun v mu' news' s' k S' => wpAny_Slice (k z s' _ I S' fun l mu2 news2 s2 k2 S2 => k2 z s2 _ I S2 fun u mu3 news3 s3 k3 S3 => wpAny_pure (kba_turn (value' := .Name (Str.ofString "_") ⟨0, 0, 0, 0⟩) (fun _ => rfl) (k3 z s3 Q I S3 q))))
theorem WSl.L {a : Addr} {oa : Obj} {vs : List Value} (p1 : IsPart vl lo) (p2 : IsPart vu hi) (ha : (a, oa) ∈ mu ++ news) (Pa : LstP vs oa) (hz : vs.length ≤ 100000) (h : ∀ D, K (.ref D) mu ((D, lstO (kms_pick vs lo hi) 0) :: news)) : WSl F R mu news (.Slice lower upper none p) (.ref a) vl vu K :=
  fun z s Q I S q => v_lSlice S ha Pa p1 p2 (by rw [kms_pick_eq]) hz (fun D s' S' => q _ _ _ _ (h D) S') rfl fun _ => rfl
theorem WSl.B {b : Array UInt8} {t : Tok} (p1 : IsPart vl lo) (p2 : IsPart vu hi) (hz : b.size ≤ 100000) (h : ∀ b' t', KBw.bInts b' = ((KBw.bInts b).drop (lo.elim 0 (clipAt b.size))).take (hi.elim b.size (clipAt b.size) - lo.elim 0 (clipAt b.size)) → K (.bytes b' t') mu news) : WSl F R mu news (.Slice lower upper none p) (.bytes b t) vl vu K :=
  fun z s Q I S q => v_bSlice S p1 p2 hz (fun b' t' s' e S' => q _ _ _ _ (h b' t' e) S') rfl fun _ => rfl
theorem WSl.S {y : Str} {t uj : Tok} {j : Int} (hz : y.length ≤ 100000) (h : ∀ t', K (.str (Txt.slice y none (some j)) t') mu news) : WSl F R mu news (.Slice lower upper none p) (.str y t) .none (.int j uj) K :=
  fun z s Q I S q => v_sSliceNs S hz (fun t' s' S' => q _ _ _ _ (h t') S') rfl fun _ => rfl
end
section
variable {F : Fm} {R : Tab} {mu news : LedT} {K : Value → LedT → LedT → Prop} {KU : Unit → LedT → LedT → Prop} {KB : Bool → LedT → LedT → Prop} {KM : Value × List Value → LedT → LedT → Prop} {a b d l D : Addr} {oa ob o : Obj} {vs ws : List Value} {v : Value} {ns : List Int} {ys : List Str} {t u : Tok} {i k : Int} {y z0 : Str} {pl : Sem Bool}
theorem O.lAdd (ha : (a, oa) ∈ mu ++ news) (Pa : LstP vs oa) (hb : (b, ob) ∈ mu ++ news) (Pb : LstP ws ob) (hz : vs.length + ws.length ≤ 100000) (h : ∀ D, K (.ref D) mu ((D, lstO (vs ++ ws) 0) :: news)) : WO F R mu news (binaryOp .Add (.ref a) (.ref b)) K := fun z s Q I S q => v_lAdd S ha Pa hb Pb hz fun D s' S' => q _ _ _ _ (h D) S'
theorem O.lMul1 (ha : (a, oa) ∈ mu ++ news) (Pa : LstP [v] oa) (h0 : 0 ≤ k) (h1 : k ≤ 256) (h : ∀ D, K (.ref D) mu ((D, lstO (List.replicate k.toNat v) 0) :: news)) : WO F R mu news (binaryOp .Mult (.ref a) (.int k u)) K := fun z s Q I S q =>
  v_lMul S ha Pa h0 h1 (by simp; omega) fun D s' S' => by
    rw [List.flatten_replicate_singleton] at S'
    exact q _ _ _ _ (h D) S'
theorem O.lCopyL (hl : (l, o) ∈ mu ++ news) (P : LstP vs o) (hz : vs.length ≤ 100000) (h : ∀ D k, K (.ref D) mu ((D, lstO vs k) :: news)) : WO F R mu news (call (.type "list") [.ref l]) K := fun z s Q I S q =>
  list_copyK S.F S.N (S.lst hl P) (fun D k h' F' N' hd => q _ _ _ _ (h D k) (S.grew F' N' hd)) (by rw [List.size_toArray]; exact szl hz)
theorem O.bMake (hd : (D, o) ∈ mu ++ news) (P : LstP vs o) (hi : IntsAre vs ns) (hr : ∀ k ∈ ns, 0 ≤ k ∧ k < 256) (hz : ns.length ≤ 100000) (h : ∀ b t', KBw.bInts b = ns → b.size = ns.length → K (.bytes b t') mu news) : WO F R mu news (call (.type "bytes") [.ref D]) K := fun z s Q I S q => v_bMake rfl S hd P hi hr hz fun b t' s' e1 e2 S' => q _ _ _ _ (h b t' e1 e2) S'
theorem O.min (hl : (l, o) ∈ mu ++ news) (P : LstP vs o) (hi : IntsAre vs ns) (hne : 0 < ns.length) (h : ∀ M t, M ∈ ns → (∀ a ∈ ns, M ≤ a) → K (.int M t) mu news) : WO F R mu news (call (.builtin "min") [.ref l]) K := fun z s Q I S q => v_min rfl S hl P hi hne fun M t s' e1 e2 S' => q _ _ _ _ (h M t e1 e2) S'
theorem O.max (hl : (l, o) ∈ mu ++ news) (P : LstP vs o) (hi : IntsAre vs ns) (hne : 0 < ns.length) (h : ∀ M t, M ∈ ns → (∀ a ∈ ns, a ≤ M) → K (.int M t) mu news) : WO F R mu news (call (.builtin "max") [.ref l]) K := fun z s Q I S q => v_max rfl S hl P hi hne fun M t s' e1 e2 S' => q _ _ _ _ (h M t e1 e2) S'
theorem O.sum (hl : (l, o) ∈ mu ++ news) (P : LstP vs o) (hi : IntsAre vs ns) (h : ∀ t, K (.int ns.sum t) mu news) : WO F R mu news (call (.builtin "sum") [.ref l]) K := fun z s Q I S q => v_sum S hl P hi fun t s' S' => q _ _ _ _ (h t) S'
theorem O.listB {bb : Array UInt8} (hz : bb.size ≤ 100000) (h : ∀ D vs k, IntsAre vs (KBw.bInts bb) → K (.ref D) mu ((D, lstO vs k) :: news)) : WO F R mu news (call (.type "list") [.bytes bb t]) K := fun z s Q I S q => v_listB rfl S hz fun D vs k s' e S' => q _ _ _ _ (h D vs k e) S'
theorem O.inL (hl : (l, o) ∈ mu ++ news) (P : LstP vs o) (hi : StrsAre vs ys) (h : K (.bool (ys.any (· == y))) mu news) : WO F R mu news (compareOp .In (.str y t) (.ref l)) K := fun z s Q I S q => v_inL S hl P hi (q _ _ _ _ h S)
theorem O.inS (h : K (.bool !(Builtin.Str.occurrences z0 y 0 z0.length 1).isEmpty) mu news) : WO F R mu news (compareOp .In (.str y t) (.str z0 u)) K := fun z s Q I S q => PyProof.Rows.in_str (q _ _ _ _ h S)
theorem O.intI (h : K (.int i t) mu news) : WO F R mu news (call (.type "int") [.int i t]) K := fun z s Q I S q => call_int_int (q _ _ _ _ h S)
theorem O.split1 (hy : (z0.length == 0) = false) (hz : y.length ≤ 100000) (h : ∀ D vs, StrsAre vs (Txt.split y z0) → K (.ref D) mu ((D, lstO vs 0) :: news)) : WO F R mu news (call (.builtin "str.split") [.str y t, .str z0 u]) K := fun z s Q I S q => v_split1 S hy hz fun D vs s' e S' => q _ _ _ _ (h D vs e) S'
theorem O.chr (h0 : 0 ≤ i) (h1 : i ≤ 1114111) (h : ∀ t, K (.str ⟨#[i.toNat]⟩ t) mu news) : WO F R mu news (call (.builtin "chr") [.int i t]) K := fun z s Q I S q => v_chr S h0 h1 fun t s' S' => q _ _ _ _ (h t) S'
theorem O.lower (hz : y.length ≤ 5592405) (h : ∀ t, K (.str (Txt.lower y) t) mu news) : WO F R mu news (call (.builtin "str.lower") [.str y t]) K := fun z s Q I S q => v_lower S hz fun t s' S' => q _ _ _ _ (h t) S'
theorem O.intS (hn : PySem.intText? y = some i) (hl : y.length ≤ 640) (h : ∀ t, K (.int i t) mu news) : WO F R mu news (call (.type "int") [.str y t]) K := fun z s Q I S q => v_intS S hn hl fun t s' S' => q _ _ _ _ (h t) S'
theorem O.join (hl : (D, o) ∈ mu ++ news) (P : LstP vs o) (hi : StrsAre vs ys) (hok : (ys.map (·.length)).sum + ys.length * y.length ≤ 16777216) (h : ∀ t, K (.str (Txt.join y ys) t) mu news) : WO F R mu news (call (.builtin "str.join") [.str y t, .ref D]) K := fun z s Q I S q => v_join S hl P hi hok fun t s' S' => q _ _ _ _ (h t) S'
theorem O.sItem {yv : Str} {np : Pos} {slice : Expr} (hs : isIdx slice = true) (h0 : 0 ≤ i) (h1 : i < y.length) (hz : y.length ≤ 1000000) (h : ∀ t, K (.str (Txt.item y i) t) mu news) : WO F R mu news (subscriptTail (.Name yv np) slice (.str y t) (.int i u)) K := fun z s Q I S q => v_sItem S h0 h1 hz (fun t s' S' => q _ _ _ _ (h t) S') (subs_plain hs) fun _ => rfl
theorem O.itemLS {yv : Str} {np : Pos} {slice : Expr} (hs : isIdx slice = true) (hl : (l, o) ∈ mu ++ news) (P : LstP vs o) (hi : StrsAre vs ys) (h0 : 0 ≤ i) (hx : ys[i.toNat]? = some y) (hz : ys.length ≤ 1000000) (h : ∀ t, K (.str y t) mu news) : WO F R mu news (subscriptTail (.Name yv np) slice (.ref l) (.int i u)) K := by
  obtain ⟨t, hv⟩ := strs_get' hi hx
  have := (List.getElem?_eq_some_iff.mp hx).1
  exact O.item hs hl P h0 (by omega) hv (h t)
theorem O.index (hl : (l, o) ∈ mu ++ news) (P : LstP vs o) (hi : StrsAre vs ys) (hk : y ∈ ys) (hz : ys.length ≤ 1000000) (h : ∀ t, K (.int (ys.idxOf y : Nat) t) mu news) : WO F R mu news (call (.builtin "list.index") [.ref l, .str y t]) K := fun z s Q I S q => v_index S hl P hi hk hz fun t s' S' => q _ _ _ _ (h t) S'
theorem O.mSplit (h : KM (.builtin "str.split", [.str y t]) mu news) : WO F R mu news (getMethod (.str y t) "split" pl) KM := fun z s Q I S q => by with_reducible refine' GM.split ?_; exact q _ _ _ _ h S
theorem O.mJoin (h : KM (.builtin "str.join", [.str y t]) mu news) : WO F R mu news (getMethod (.str y t) "join" pl) KM := fun z s Q I S q => by with_reducible refine' GM.join ?_; exact q _ _ _ _ h S
theorem O.mLower (h : KM (.builtin "str.lower", [.str y t]) mu news) : WO F R mu news (getMethod (.str y t) "lower" pl) KM := fun z s Q I S q => by with_reducible refine' GM.lower ?_; exact q _ _ _ _ h S
theorem O.neTup {w : Value} {p : Int × Int} (hv : PairAt v p news) (hw : PairAt w p news) (h : K (.bool false) mu news) : WO F R mu news (compareOp .NotEq v w) K := fun z s Q I S q => v_neTup I.ok S hv hw (q _ _ _ _ h S)
theorem O.nePairs {us : List Value} {cs : List (Int × Int)} (ha : (a, oa) ∈ mu ++ news) (hb : (b, ob) ∈ mu ++ news) (Pa : LstP vs oa) (Pb : LstP us ob) (hv : Paired (fun v p => PairAt v p (mu ++ news)) vs cs) (hu : Paired (fun v p => PairAt v p (mu ++ news)) us cs) (h : K (.bool false) mu news) : WO F R mu news (compareOp .NotEq (.ref a) (.ref b)) K := fun z s Q I S q =>
  v_nePairs I.ok S ha hb Pa Pb hv hu (q _ _ _ _ h S)
theorem O.chIn {Dd : List (PyData × PyData)} (T : Chs (GG F.g).prog (GG F.g).w d Dd news) (p : Int × Int) (ha : (a, tupO [.int p.1 t, .int p.2 u]) ∈ mu ++ news) (h : K (.bool (Spec.lookup (encI p) Dd).isSome) mu news) : WO F R mu news (compareOp .In (.ref a) (.ref d)) K := fun z s Q I S q => v_chIn I.ok rfl S T p ha fun s' S' => q _ _ _ _ h S'
theorem O.chItem {Dd : List (PyData × PyData)} {yv : Str} {np : Pos} {slice : Expr} (hs : isIdx slice = true) (T : Chs (GG F.g).prog (GG F.g).w d Dd news) (p : Int × Int) (ha : (a, tupO [.int p.1 t, .int p.2 u]) ∈ mu ++ news) (hl : Spec.lookup (encI p) Dd = some (.str y)) (h : ∀ t, K (.str y t) mu news) : WO F R mu news (subscriptTail (.Name yv np) slice (.ref d) (.ref a)) K := fun z s Q I S q =>
  v_chItem I.ok rfl S T p ha hl (fun t s' S' => q _ _ _ _ (h t) S') (subs_plain hs) fun _ => rfl
theorem O.chGetM {Dd : List (PyData × PyData)} (T : Chs (GG F.g).prog (GG F.g).w d Dd news) (h : KM (.builtin "dict.get", [.ref d]) mu news) : WO F R mu news (getMethod (.ref d) "get" pl) KM := fun z s Q I S q => v_chGetM (G := GG F.g) S T (q _ _ _ _ h S)
theorem O.chGet2 {Dd : List (PyData × PyData)} {dy : Str} {dt : Tok} (T : Chs (GG F.g).prog (GG F.g).w d Dd news) (hD : StrVals Dd) (p : Int × Int) (ha : (a, tupO [.int p.1 t, .int p.2 u]) ∈ mu ++ news) (h : ∀ t, K (.str ((chAt Dd p).getD dy) t) mu news) : WO F R mu news (call (.builtin "dict.get") [.ref d, .ref a, .str dy dt]) K := fun z s Q I S q =>
  v_chGet2 I.ok rfl S T hD p ha fun t s' S' => q _ _ _ _ (h t) S'
theorem O.chTruthy {Dd : List (PyData × PyData)} (T : Chs (GG F.g).prog (GG F.g).w d Dd news) (hz : Dd.length ≤ 1000) (h : KB (!Dd.isEmpty) mu news) : WO F R mu news (truthy (.ref d)) KB := fun z s Q I S q => v_chTruthy (G := GG F.g) S T hz fun s' S' => q _ _ _ _ h S'
theorem O.chSet {gg : Obj → LedT} {dv : PyData} {Dd : List (PyData × PyData)} (U : UpM d o mu gg) (T : Chs (GG F.g).prog (GG F.g).w d Dd ((d, o) :: news)) (p : Int × Int) (ha : (a, tupO [.int p.1 t, .int p.2 u]) ∈ news) (hv : Flat v dv) (hz : Dd.length ≤ 1000)
    (h : ∀ o', Chs (GG F.g).prog (GG F.g).w d (putD (encI p) dv Dd) ((d, o') :: news) → KU () (gg o') news) : WO F R mu news (setItem (.ref d) (.ref a) v) KU := fun z s Q I S q => v_chSet I.ok rfl S U T p ha hv hz fun o' s' T' S' => q _ _ _ _ (h o' T') S'
end
section
variable {F : Fm} {R : Tab} {mu news : LedT} {pos : Pos} {ks : List (Option Expr)} {es : List Expr} {k e : Expr}
noncomputable def WPr (F : Fm) (R : Tab) (mu news : LedT) (ks : List (Option Expr)) (es : List Expr) (pos : Pos) (K : List (Value × Value) → LedT → LedT → Prop) : Prop := WT F R mu news (fun z => evalPairs (pairTrees ks es z.env pos)) K
theorem WPr.nil {K : List (Value × Value) → LedT → LedT → Prop} (h : K [] mu news) : WPr F R mu news [] [] pos K := fun z s Q I S q => pairTrees_nil_walk (q _ _ _ _ h S)
theorem WPr.cons {K : List (Value × Value) → LedT → LedT → Prop} (h : WE F R mu news k (fun kv mu' news' => WE F R mu' news' e (fun vv mu2 news2 => WPr F R mu2 news2 ks es pos (fun r => K ((kv, vv) :: r))))) : WPr F R mu news (some k :: ks) (e :: es) pos K := fun z s Q I S q =>
  pairTrees_cons_walk (h z s _ I S fun kv mu' news' s' k1 S' => k1 z s' _ I S' fun vv mu2 news2 s2 k2 S2 => k2 z s2 _ I S2 fun r mu3 news3 s3 k3 S3 => q _ _ _ _ k3 S3)
noncomputable def DK (g : Gp) (d : Addr) (K : Value → LedT → LedT → Prop) (vs : List (Value × Value)) (mu news : LedT) : Prop := ∃ mu0, mu = (d, emD) :: mu0 ∧ allStrKeys vs = true ∧ ((strPairs vs).map (·.1)).Nodup ∧ ∀ o, DctP (PySem.strKind (GG g).prog (GG g).w) (strPairs vs) d o → K (.ref d) ((d, o) :: mu0) news
theorem WE.dict {K : Value → LedT → LedT → Prop} (hall : ks.all (·.isSome) = true) (hl : ks.length = es.length) (h0 : ks ≠ []) (hlen : ks.length ≤ 15) (h : ∀ d, (d == sysModules) = false → WPr F R ((d, emD) :: mu) news ks es pos (DK F.g d K)) : WE F R mu news (.Dict ks es pos) K := fun z s Q I S q =>
  v_dict (G := GG F.g) I.ok S hall hl h0 hlen fun d s' hd S' => h d hd z s' _ I S' fun vs mu' news' s2 k S2 => by
    obtain ⟨mu0, rfl, hk, hn, h⟩ := k
    exact dictK S2 hd hk hn fun o s3 P S3 => q _ _ _ _ (h o P) S3
theorem DK.done {g : Gp} {d : Addr} {K : Value → LedT → LedT → Prop} {vs : List (Value × Value)} (hk : allStrKeys vs = true) (hn : ((strPairs vs).map (·.1)).Nodup) (h : ∀ o, DctP (PySem.strKind (GG g).prog (GG g).w) (strPairs vs) d o → K (.ref d) ((d, o) :: mu) news) : DK g d K vs ((d, emD) :: mu) news := ⟨mu, rfl, hk, hn, h⟩
theorem WE.dict0 {K : Value → LedT → LedT → Prop} (h : ∀ d, (d == sysModules) = false → K (.ref d) ((d, emD) :: mu) news) : WE F R mu news (.Dict [] [] pos) K := fun z s Q I S q => v_dict0 (G := GG F.g) I.ok S fun d s' hd S' => q _ _ _ _ (h d hd) S'
theorem WE.dict0F {K : Value → LedT → LedT → Prop} (h : ∀ d, (d == sysModules) = false → K (.ref d) mu ((d, emD) :: news)) : WE F R mu news (.Dict [] [] pos) K := fun z s Q I S q => v_dict0F (G := GG F.g) I.ok S fun d s' hd S' => q _ _ _ _ (h d hd) S'
end
theorem EV.bItem {F : Fm} {R : Tab} {mu news : LedT} {y : Str} {np pos : Pos} {e2 : Expr} {b : Array UInt8} {t : Tok} {i k : Int} {k1 : Tok → Tok} (h1 : EV F R mu news (.Name y np) (fun _ => .bytes b t)) (h2 : EV F R mu news e2 (fun t => .int i (k1 t))) (hi : isIdx e2 = true) (h0 : 0 ≤ i) (hx : (KBw.bInts b)[i.toNat]? = some k) (hz : b.size ≤ 100000) :
    EV F R mu news (.Subscript (.Name y np) e2 pos) (fun t => .int k t) := fun z I s Q E S q => Subscript_ (h1 z I s _ E S fun _ s1 S1 => h2 z I s1 _ E S1 fun _ s2 S2 => v_bItem S2 h0 hx hz (fun t' s3 S3 => q t' s3 S3) (subs_plain hi) fun _ => rfl)
theorem EV.neg {F : Fm} {R : Tab} {mu news : LedT} {e : Expr} {pos : Pos} {i : Int} {k1 : Tok → Tok} (h : EV F R mu news e (fun t => .int i (k1 t))) : EV F R mu news (.UnaryOp .USub e pos) (fun t => .int (-i) t) := fun z I s Q E S q =>
  wpAny_UnaryOp (h z I s _ E S fun t s' S' => v_neg S' fun t s2 S2 => q t s2 S2)
theorem EV.itemE {F : Fm} {R : Tab} {mu news : LedT} {e1 e2 : Expr} {pos : Pos} {i : Int} {k1 : Tok → Tok} {l : Addr} {v : Value} (h1 : EV F R mu news e1 (fun _ => .ref l)) (h2 : EV F R mu news e2 (fun t => .int i (k1 t))) (hi : isIdx e2 = true)
    (h : ∀ (z : Zx) u s (Q E : Value → Shared → Prop), ES z.c z.m z.x mu news s → Q v s → wpAny (GG F.g).M z.c.A (subscriptTail (.Name (Str.ofString "_") ⟨0, 0, 0, 0⟩) e2 (.ref l) (.int i u)) Q E s) : EV F R mu news (.Subscript e1 e2 pos) (fun _ => v) := fun z I s Q E S k =>
  Subscript_ (h1 z I s _ E S fun _ s1 S1 => h2 z I s1 _ E S1 fun _ s2 S2 => kba_turn (value' := .Name (Str.ofString "_") ⟨0, 0, 0, 0⟩) (fun _ => rfl) (h z _ s2 _ _ S2 (k 0 s2 S2)))
theorem EV.itemLe {F : Fm} {R : Tab} {mu news : LedT} {e1 e2 : Expr} {pos : Pos} {i : Int} {k1 : Tok → Tok} {l : Addr} {o : Obj} {vs : List Value} {v : Value} (h1 : EV F R mu news e1 (fun _ => .ref l)) (h2 : EV F R mu news e2 (fun t => .int i (k1 t))) (hi : isIdx e2 = true) (hm : (l, o) ∈ mu ++ news) (P : LstP vs o) (hb : okIdx i = true) (hx : vs[i.toNat]? = some v) :
    EV F R mu news (.Subscript e1 e2 pos) (fun _ => v) := EV.itemE h1 h2 hi fun _ _ _ _ _ S q => v_itemL S hm P (okIdx_of hb).1 (okIdx_of hb).2 hx q (subs_plain hi) fun _ => rfl
theorem EV.itemTe {F : Fm} {R : Tab} {mu news : LedT} {e1 e2 : Expr} {pos : Pos} {i : Int} {k1 : Tok → Tok} {l : Addr} {vs : List Value} {v : Value} (h1 : EV F R mu news e1 (fun _ => .ref l)) (h2 : EV F R mu news e2 (fun t => .int i (k1 t))) (hi : isIdx e2 = true) (hm : (l, tupO vs) ∈ mu ++ news) (hb : okIdx i = true) (hx : vs[i.toNat]? = some v) :
    EV F R mu news (.Subscript e1 e2 pos) (fun _ => v) := EV.itemE h1 h2 hi fun _ _ _ _ _ S q => by
  have b := okIdx_of hb
  have hl : i.toNat < vs.length := (List.getElem?_eq_some_iff.mp hx).1
  refine v_itemT S hm (by omega) b.2 (j := i.toNat) ?_ hx q (subs_plain hi) fun _ => rfl
  unfold seqIndex?
  simp only [show ¬ i < 0 by omega, if_false]
  rw [if_pos (by simp; omega)]
noncomputable def isAttB (e : Expr) : Bool := Nat.beq e.ctorIdx 23 || Nat.beq e.ctorIdx 20 || Nat.beq e.ctorIdx 21
theorem isAttB_is {value : Expr} (h : isAttB value = true) : (∃ y p, value = .Name y p) ∨ (∃ o y p, value = .Attribute o y p) ∨ (∃ o e p, value = .Subscript o e p) := by
  revert h; cases value <;> first | exact fun _ => .inl ⟨_, _, rfl⟩ | exact fun _ => .inr (.inl ⟨_, _, _, rfl⟩) | exact fun _ => .inr (.inr ⟨_, _, _, rfl⟩) | exact fun h => (Bool.false_ne_true h).elim
theorem att_eq {value : Expr} {attr : Str} {pos : Pos} (h : isAttB value = true) (env : Env) : eval (.Attribute value attr pos) env = (do
      let o ← eval value env
      standAt pos.atName
      let r ← holding [o] (getAttr o attr true)
      letTemporaryGo value o r
      pure r) := by
  rcases isAttB_is h with ⟨_, _, rfl⟩ | ⟨_, _, _, rfl⟩ | ⟨_, _, _, rfl⟩ <;> with_unfolding_all rfl
theorem EV.attrE {g : Gp} {n : Nat} {md : Mode} {r fz : Bool} {R : Tab} {mu news : LedT} {e : Expr} {pos : Pos} {a C : Addr} {fs : List (Str × Value)} {name : Str} {v : Value} (hb : isAttB e = true) (h1 : EV ⟨g, n, md, r, fz⟩ R mu news e (fun _ => .ref a)) (J : Inst C a fs news) (f : FieldOk (hd.heap_1 g.w.params) C name) (hl : getF name fs = some v) (hv : handedIn v = true) :
    EV ⟨g, n, md, r, fz⟩ R mu news (.Attribute e name pos) (fun _ => v) := fun z I s Q E S k => Attribute_any_ (h1 z I s _ E S fun _ s1 S1 => getF' I.ok S1 J f hl hv fun s2 S2 => k 0 s2 S2) (att_eq hb z.env)
theorem WE.attr {F : Fm} {R : Tab} {mu news : LedT} {e : Expr} {pos : Pos} {name : Str} {K : Value → LedT → LedT → Prop} (hb : isAttB e = true) (h : WE F R mu news e (fun o mu' news' => WO F R mu' news' (getAttr o name true) K)) : WE F R mu news (.Attribute e name pos) K := fun z s Q I S q =>
  Attribute_any_ (h z s _ I S fun o mu' news' s1 k S1 => k z s1 Q I S1 q) (att_eq hb z.env)
theorem WE.join {F : Fm} {R : Tab} {mu news : LedT} {e : Expr} {K : Value → LedT → LedT → Prop} {Z : Type} (Vo : Z → Value) (Mo : Z → LedT) (J : Z → LedT → Prop) (h1 : ∀ K', (∀ z news', J z news' → Gr news news' → K' (Vo z) (Mo z) news') → WE F R mu news e K') (h2 : ∀ z news', J z news' → Gr news news' → K (Vo z) (Mo z) news') : WE F R mu news e K :=
  (h1 (fun v mu' news' => ∃ z, v = Vo z ∧ mu' = Mo z ∧ J z news' ∧ Gr news news') fun z news' a b => ⟨z, rfl, rfl, a, b⟩).mono fun v mu' news' ⟨z, e1, e2, a, b⟩ => by subst e1 e2; exact h2 z news' a b
section
variable {g : Gp} {n : Nat} {md : Mode} {r fz : Bool} {R : Tab} {mu news : LedT} {o e1 e2 : Expr} {name : Str} {apos pos : Pos} {pl : Env → Sem Bool} {a C fn : Addr} {fs : List (Str × Value)} {f1 f2 : Tok → Value} {K : Value → LedT → LedT → Prop}
theorem WE.meth0 (ho : EV ⟨g, n, md, r, fz⟩ R mu news o (fun _ => .ref a)) (J : Inst C a fs news) (M : MethOk (hd.heap_1 g.w.params) C name fn) (hl : getF name fs = none)
    (he : ∀ env, eval (.Call (.Attribute o name apos) [] [] pos) env = (do
      let ov ← eval o env
      standAt apos.atName
      let (f, first) ← holding [ov] (getMethod ov name (pl env))
      callWith pos f first (backTo pos (starEach [] env)) [])) (hk : keepIn (hd.heap_1 g.w.params) (.ref fn) = true) (h : WO ⟨g, n, md, r, fz⟩ R mu news (call (.ref fn) [.ref a]) K) : WE ⟨g, n, md, r, fz⟩ R mu news (.Call (.Attribute o name apos) [] [] pos) K :=
  WE.callM he fun _ => WE.toldV ho (O.meth J M hl (W.ref0 hk h))
theorem WE.meth1 (ho : EV ⟨g, n, md, r, fz⟩ R mu news o (fun _ => .ref a)) (J : Inst C a fs news) (M : MethOk (hd.heap_1 g.w.params) C name fn) (hl : getF name fs = none)
    (he : ∀ env, eval (.Call (.Attribute o name apos) [e1] [] pos) env = (do
      let ov ← eval o env
      standAt apos.atName
      let (f, first) ← holding [ov] (getMethod ov name (pl env))
      callWith pos f first (backTo pos (starEach [e1] env)) [])) (hk : keepIn (hd.heap_1 g.w.params) (.ref fn) = true) (p1 : isPlain e1 = true) (h1 : EV ⟨g, n, md, r, fz⟩ R mu news e1 f1)
    (h : ∀ t1, WO ⟨g, n, md, r, fz⟩ R mu news (call (.ref fn) [.ref a, f1 t1]) K) : WE ⟨g, n, md, r, fz⟩ R mu news (.Call (.Attribute o name apos) [e1] [] pos) K :=
  WE.callM he fun _ => WE.toldV ho (O.meth J M hl (W.ref hk p1 rfl (WA.t1 p1 h1 h)))
theorem WE.meth2 (ho : EV ⟨g, n, md, r, fz⟩ R mu news o (fun _ => .ref a)) (J : Inst C a fs news) (M : MethOk (hd.heap_1 g.w.params) C name fn) (hl : getF name fs = none)
    (he : ∀ env, eval (.Call (.Attribute o name apos) [e1, e2] [] pos) env = (do
      let ov ← eval o env
      standAt apos.atName
      let (f, first) ← holding [ov] (getMethod ov name (pl env))
      callWith pos f first (backTo pos (starEach [e1, e2] env)) [])) (hk : keepIn (hd.heap_1 g.w.params) (.ref fn) = true) (p1 : isPlain e1 = true) (p2 : isPlain e2 = true) (h1 : EV ⟨g, n, md, r, fz⟩ R mu news e1 f1) (h2 : EV ⟨g, n, md, r, fz⟩ R mu news e2 f2)
    (h : ∀ t1 t2, WO ⟨g, n, md, r, fz⟩ R mu news (call (.ref fn) [.ref a, f1 t1, f2 t2]) K) : WE ⟨g, n, md, r, fz⟩ R mu news (.Call (.Attribute o name apos) [e1, e2] [] pos) K :=
  WE.callM he fun _ => WE.toldV ho (O.meth J M hl (W.ref hk p1 (by rw [List.all_cons, p2]; rfl) (WA.t2 p1 p2 h1 h2 h)))
end
end

open PySem PySem.W PyProof.Rows PySem.Spec PySem.Calls PyProof.V

local macro_rules
  | `(tactic| fail "vn") => `(tactic| ((with_reducible show Value.none = Value.none ∧ _); refine ⟨rfl, ?_⟩))
  | `(tactic| fail "turn") => `(tactic| ((fail_if_success (with_reducible show WO _ _ _ _ (subscriptTail (PySem.Expr.Name _ _) _ _ _) _)); with_reducible refine O.turn ?_))
  | `(tactic| fail "ck") => `(tactic| with_reducible refine ‹Ck _ _› _ _ _ ?_)
  | `(tactic| fail "isf") => `(tactic| (fail))
  | `(tactic| fail "enterW") => `(tactic| (fail "enterW c8 c8 init kr c7 c7 c1 c1 c1 i0"))
  | `(tactic| fail "enterWE") => `(tactic| (fail "enterWE c8 c8 init kr c7 c7 c1 c1 c1 i0"))

-- G1
section
noncomputable def norm (t : Int) : Nat → Int × Nat
  | 0 => (t, 0)
  | p + 1 => if t.fmod 10 = 0 then norm (t.fdiv 10) p else (t, p + 1)
theorem norm_stop {t : Int} {p : Nat} (h : t.fmod 10 ≠ 0) : norm t p = (t, p) := by
  cases p with
  | zero => rfl
  | succ p => unfold norm; rw [if_neg h]
theorem norm_step {t : Int} {p : Nat} (h : t.fmod 10 = 0) : norm t (p + 1) = norm (t.fdiv 10) p := by
  conv => lhs; unfold norm
  rw [if_pos h]
section
variable {g : Gp}
theorem dec_init {y dx : Addr} {top : Int} {p : Nat} {t u : Tok} {mu news : LedT} : CtX (GG g) 1 75 [.ref y, .int top t, .int (p : Int) u] ((dx, dictOf [] 0) :: mu) ((y, instObj 155 dx) :: news)
    (fun r mu' _ => r = .none ∧ ∃ od, (∃ t1 t2, DictS [("top", .int (norm top p).1 t1), ("places", .int ((norm top p).2 : Int) t2)] od) ∧ mu' = (dx, od) :: mu) := by
  fail "enterW"
  intro K hK Rt
  dsimp only
  refine WP.while (fun z : Int × Tok × Tok × Int => ([("self", some (.ref y)), ("top", some (.int z.1 z.2.1)), ("places", some (.int z.2.2.2 z.2.2.1))] : Tab)) (fun _ => (dx, dictOf [] 0) :: mu) (fun k z news' => z.2.2.2 = (k : Int) ∧ norm z.1 k = norm top p ∧ news' = (y, instObj 155 dx) :: news) p (top, t, u, p) rfl rfl ⟨rfl, rfl, rfl⟩ ?_
  rintro k z news' K' hT ⟨hk, hn, rfl⟩ grL
  rw [hk]
  repeat' fail "w"
  refine' ite_dec ?_ ?_ <;> intro h
  · obtain ⟨j, rfl⟩ : ∃ j, k = j + 1 := ⟨k - 1, by omega⟩
    repeat' fail "w"
    refine' ite_beqI ?_ ?_ <;> intro hz
    · repeat' fail "w"
      refine hT.next (_, _, _, _) _ _ _ (by fail "tab") rfl (by fail "gr") ⟨j, Nat.lt_succ_self j, by show ((j + 1 : Nat) : Int) - 1 = j; omega, (norm_step hz).symm.trans hn, rfl⟩
    · rw [norm_stop hz] at hn
      repeat' fail "w"
      exact hK _ _ _ _ (Gr.refl _) ⟨rfl, _, ⟨_, _, by rw [← hn]; assumption⟩, rfl⟩
  · obtain rfl : k = 0 := by omega
    rw [show norm z.1 0 = (z.1, 0) from rfl] at hn
    repeat' fail "w"
    exact hK _ _ _ _ (Gr.refl _) ⟨rfl, _, ⟨_, _, by rw [← hn]; assumption⟩, rfl⟩
theorem dec_ct {top : Int} {p : Nat} {t u : Tok} {mu news : LedT} : Ct (GG g) 1 155 [.int top t, .int (p : Int) u] mu news (fun r mu' news' => mu' = mu ∧ ∃ y, r = .ref y ∧ DecAt y (norm top p).1 (norm top p).2 news') :=
  (make' (mk_155 _) fun _ _ => dec_init).mono fun r mu' news' _ hh => by obtain ⟨a, y, dx, od, b, h1, h2, t1, t2, h3⟩ := hh; exact ⟨a, y, b, t1, t2, dx, od, h1, h2, h3⟩
theorem told_ct {a : Addr} {top : Int} {p : Nat} {mu news : LedT} (D : DecAt a top p news) : CtX (GG g) 1 138 [.ref a] mu news (fun r mu' news' => mu' = mu ∧ ∃ y t1 t2, r = .ref y ∧ (y, tupO [.int top t1, .int (p : Int) t2]) ∈ news') := by
  fail "enterW"
  intro K hK Rt
  dsimp only
  obtain ⟨t1, t2, D⟩ := D
  repeat' fail "w"
  exact hK _ _ _ _ (by fail "gr") ⟨rfl, _, _, _, rfl, by fail "mem"⟩
theorem decof_dec {a : Addr} {top : Int} {p : Nat} {mu news : LedT} (D : DecAt a top p news) : CtX (GG g) 1 173 [.ref a] mu news (fun r mu' news' => mu' = mu ∧ r = .ref a) := by
  fail "enterW"
  intro K hK Rt
  dsimp only
  obtain ⟨t1, t2, D⟩ := D
  repeat' fail "w"
  exact hK _ _ _ _ (by fail "gr") ⟨rfl, rfl⟩
theorem decof_int {i : Int} {t : Tok} {mu news : LedT} : CtX (GG g) 2 173 [.int i t] mu news (fun r mu' news' => mu' = mu ∧ ∃ y, r = .ref y ∧ DecAt y i 0 news') := by
  fail "enterW"
  intro K hK Rt
  dsimp only
  repeat' fail "w"
  refine' (dec_ct (p := 0)).w ?_
  rintro _ _ r mu' news' ⟨rfl, y, rfl, hd⟩ gr
  repeat' fail "w"
  exact hK _ _ _ _ (by fail "gr") ⟨rfl, _, rfl, hd⟩
end
end

-- G2
section
section
variable {g : Gp}
theorem scale_ct {a b : Addr} {t1 t2 : Int} {p q : Nat} {mu news : LedT} (D1 : DecAt a t1 p news) (D2 : DecAt b t2 q news) (hp : p ≤ 12) (hq : q ≤ 12) :
    CtX (GG g) 2 180 [.ref a, .ref b] mu news (fun r mu' news' => mu' = mu ∧ ∃ y u1 u2 u3, r = .ref y ∧ (y, tupO [.int (t1 * 10 ^ (max p q - p)) u1, .int (t2 * 10 ^ (max p q - q)) u2, .int ((max p q : Nat) : Int) u3]) ∈ news') := by
  fail "enterW"
  intro K hK Rt
  dsimp only
  repeat' fail "w"
  refine' (decof_dec D1).wV ?_
  intro news1 gr1
  repeat' fail "w"
  refine' (decof_dec (D2.gr gr1)).w ?_
  rintro _ _ r mu'' news2 ⟨rfl, rfl⟩ gr2
  have D1' := (D1.gr gr1).gr gr2
  have D2' := (D2.gr gr1).gr gr2
  obtain ⟨u1, u2, D1'⟩ := D1'
  obtain ⟨u3, u4, D2'⟩ := D2'
  repeat' fail "w"
  exact hK _ _ _ _ (by fail "gr") ⟨rfl, _, _, _, _, rfl, by rw [max_sub_l p q, max_sub_r p q, max_cast]; fail "mem"⟩
theorem plus_ct {a b : Addr} {t1 t2 : Int} {p q : Nat} {mu news : LedT} (D1 : DecAt a t1 p news) (D2 : DecAt b t2 q news) (hp : p ≤ 12) (hq : q ≤ 12) :
    CtX (GG g) 3 82 [.ref a, .ref b] mu news (fun r mu' news' => mu' = mu ∧ ∃ y, r = .ref y ∧ DecAt y (norm (t1 * 10 ^ (max p q - p) + t2 * 10 ^ (max p q - q)) (max p q)).1 (norm (t1 * 10 ^ (max p q - p) + t2 * 10 ^ (max p q - q)) (max p q)).2 news') := by
  fail "enterW"
  intro K hK Rt
  dsimp only
  repeat' fail "w"
  refine' (scale_ct D1 D2 hp hq).w ?_
  rintro _ _ r mu' news1 ⟨rfl, y, u1, u2, u3, rfl, hy⟩ gr1
  repeat' fail "w"
  refine' dec_ct.w ?_
  rintro _ _ r mu' news2 ⟨rfl, y, rfl, hd⟩ gr2
  repeat' fail "w"
  exact hK _ _ _ _ (by fail "gr") ⟨rfl, _, rfl, hd⟩
theorem times_ct {a b : Addr} {t1 t2 : Int} {p q : Nat} {mu news : LedT} (D1 : DecAt a t1 p news) (D2 : DecAt b t2 q news) (hm : IntMulOk t1 t2) :
    CtX (GG g) 2 96 [.ref a, .ref b] mu news (fun r mu' news' => mu' = mu ∧ ∃ y, r = .ref y ∧ DecAt y (norm (t1 * t2) (p + q)).1 (norm (t1 * t2) (p + q)).2 news') := by
  fail "enterW"
  intro K hK Rt
  dsimp only
  repeat' fail "w"
  refine' (decof_dec D2).wV ?_
  intro news1 gr1
  have D1' := D1.gr gr1
  have D2' := D2.gr gr1
  obtain ⟨u1, u2, D1'⟩ := D1'
  obtain ⟨u3, u4, D2'⟩ := D2'
  repeat' fail "w"
  rw [← Int.natCast_add]
  refine' dec_ct.w ?_
  rintro _ _ r mu' news2 ⟨rfl, y, rfl, hd⟩ gr2
  repeat' fail "w"
  exact hK _ _ _ _ (by fail "gr") ⟨rfl, _, rfl, hd⟩
theorem frac_int {i : Int} {t : Tok} {mu news : LedT} : CtX (GG g) 1 652 [.int i t] mu news (fun r mu' news' => mu' = mu ∧ ∃ y u1 u2, r = .ref y ∧ (y, tupO [.int i u1, .int ((0 : Nat) : Int) u2]) ∈ news') := by
  fail "enterW"
  intro K hK Rt
  dsimp only
  repeat' fail "w"
  exact hK _ _ _ _ (by fail "gr") ⟨rfl, _, _, _, rfl, by fail "mem"⟩
theorem frac_dec {a : Addr} {top : Int} {p : Nat} {mu news : LedT} (D : DecAt a top p news) : CtX (GG g) 1 652 [.ref a] mu news (fun r mu' news' => mu' = mu ∧ ∃ y u1 u2, r = .ref y ∧ (y, tupO [.int top u1, .int (p : Int) u2]) ∈ news') := by
  obtain ⟨u1, u2, D⟩ := D
  fail "enterW"
  intro K hK Rt
  dsimp only
  repeat' fail "w"
  exact hK _ _ _ _ (by fail "gr") ⟨rfl, _, _, _, rfl, by fail "mem"⟩
theorem product_ct {a b : Addr} {t1 t2 : Int} {p q : Nat} {u1 u2 u3 u4 : Tok} {mu news : LedT} (D1 : (a, tupO [.int t1 u1, .int (p : Int) u2]) ∈ news) (D2 : (b, tupO [.int t2 u3, .int (q : Int) u4]) ∈ news) (hm : IntMulOk t1 t2) :
    CtX (GG g) 1 659 [.ref a, .ref b] mu news (fun r mu' news' => mu' = mu ∧ ∃ y u1 u2, r = .ref y ∧ (y, tupO [.int (norm (t1 * t2) (p + q)).1 u1, .int ((norm (t1 * t2) (p + q)).2 : Int) u2]) ∈ news') := by
  fail "enterW"
  intro K hK Rt
  dsimp only
  repeat' fail "w"
  refine WP.while (fun z : Int × Tok × Tok × Int => ([("one", some (.ref a)), ("other", some (.ref b)), ("top", some (.int z.1 z.2.1)), ("places", some (.int z.2.2.2 z.2.2.1))] : Tab)) (fun _ => mu) (fun k z news' => z.2.2.2 = (k : Int) ∧ norm z.1 k = norm (t1 * t2) (p + q) ∧ news' = news) (p + q) (t1 * t2, _, _, ((p : Int) + q)) rfl rfl ⟨rfl, rfl, rfl⟩ ?_
  rintro k z news' K' hT ⟨hk, hn, rfl⟩ grL
  rw [hk]
  repeat' fail "w"
  refine' ite_dec ?_ ?_ <;> intro h
  · obtain ⟨j, rfl⟩ : ∃ j, k = j + 1 := ⟨k - 1, by omega⟩
    repeat' fail "w"
    refine' ite_beqI ?_ ?_ <;> intro hz
    · repeat' fail "w"
      refine hT.next (_, _, _, _) _ _ _ (by fail "tab") rfl (by fail "gr") ⟨j, Nat.lt_succ_self j, by show ((j + 1 : Nat) : Int) - 1 = j; omega, (norm_step hz).symm.trans hn, rfl⟩
    · rw [norm_stop hz] at hn
      repeat' fail "w"
      exact hK _ _ _ _ (by fail "gr") ⟨rfl, _, _, _, rfl, by rw [← hn]; fail "mem"⟩
  · obtain rfl : k = 0 := by omega
    rw [show norm z.1 0 = (z.1, 0) from rfl] at hn
    repeat' fail "w"
    exact hK _ _ _ _ (by fail "gr") ⟨rfl, _, _, _, rfl, by rw [← hn]; fail "mem"⟩
end
end

-- G3
section
section
variable {g : Gp}
theorem kind_int {i : Int} {t : Tok} {mu news : LedT} : CtX (GG g) 1 279 [.int i t] mu news (fun r mu' news' => mu' = mu ∧ ∃ t, r = .str "int" t) := by
  fail "enterW"
  intro K hK Rt
  dsimp only
  repeat' fail "w"
  exact hK _ _ _ _ (by fail "gr") ⟨rfl, _, rfl⟩
theorem kind_none {mu news : LedT} : CtX (GG g) 1 279 [.none] mu news (fun r mu' news' => mu' = mu ∧ ∃ t, r = .str "null" t) := by
  fail "enterW"
  intro K hK Rt
  dsimp only
  repeat' fail "w"
  exact hK _ _ _ _ (by fail "gr") ⟨rfl, _, rfl⟩
theorem kind_dec {a : Addr} {fs : List (Str × Value)} {mu news : LedT} (I : Inst 155 a fs news) : CtX (GG g) 1 279 [.ref a] mu news (fun r mu' news' => mu' = mu ∧ ∃ t, r = .str "real" t) := by
  fail "enterW"
  intro K hK Rt
  dsimp only
  repeat' fail "w"
  exact hK _ _ _ _ (by fail "gr") ⟨rfl, _, rfl⟩
theorem kind_name {a : Addr} {fs : List (Str × Value)} {mu news : LedT} (I : Inst 197 a fs news) : CtX (GG g) 1 279 [.ref a] mu news (fun r mu' news' => mu' = mu ∧ ∃ t, r = .str "name" t) := by
  fail "enterW"
  intro K hK Rt
  dsimp only
  repeat' fail "w"
  exact hK _ _ _ _ (by fail "gr") ⟨rfl, _, rfl⟩
theorem lookup_init {y dx d1 d2 : Addr} {mu news : LedT} : CtX (GG g) 1 301 [.ref y, .ref d1, .ref d2] ((dx, dictOf [] 0) :: mu) ((y, instObj 318 dx) :: news)
    (fun r mu' _ => r = .none ∧ ∃ od, DictS [("table", .ref d1), ("trailer", .ref d2)] od ∧ mu' = (dx, od) :: mu) := by
  refine' enterWD ([.ref y, .ref d1, .ref d2]) ?lk ?cd ?ini ?bd ?nd ?db ?a ?b ?c ?_; (case lk => k_is); (case cd => k_is); (case ini => fail "init"); (case bd => exact fun _ X => binds_K X rfl (by k_is) rfl rfl rfl); (case nd => decide +kernel); (case db => decide +kernel); (case a => rfl); (case b => rfl); (case c => rfl)
  intro K hK Rt
  dsimp only
  repeat' fail "w"
  exact hK _ _ _ _ (Gr.refl _) ⟨rfl, _, by assumption, rfl⟩
theorem lookup_ct {d1 d2 : Addr} {mu news : LedT} : Ct (GG g) 1 318 [.ref d1, .ref d2] mu news (fun r mu' news' => mu' = mu ∧ ∃ y, r = .ref y ∧ Inst 318 y [("table", .ref d1), ("trailer", .ref d2)] news') :=
  (make' (mk_318 _) fun _ _ => lookup_init).mono fun r mu' news' _ hh => by obtain ⟨a, y, dx, od, b, h1, h2, h3⟩ := hh; exact ⟨a, y, b, dx, od, h1, h2, h3⟩
theorem fetch_ct {a : Addr} {v tv : Value} {mu news : LedT} (Tv : Ty g tv v news) (ne : kitOne (hd.heap_1 g.w.params) tv (.ref 268) = some false) : CtX (GG g) 1 308 [.ref a, v] mu news (fun r mu' news' => mu' = mu ∧ r = v) := by
  fail "enterW"
  intro K hK Rt
  dsimp only
  repeat' fail "w"
  refine WFor.Rz (num := 30) (fun _ : Unit => ([("self", some (.ref a)), ("value", some (v)), ("here", some (v)), ("hop", none), ("generation", none), ("found", none), ("range", some (.type "range")), ("MOST_HOPS", some (.int 30 399)), ("isinstance", some (.builtin "isinstance")), ("Reference", some (.ref 268))] : Tab)) (fun _ => mu) (fun i _ _ => i = 0) () (by fail "memh") (by decide +kernel) (by decide +kernel) rfl rfl rfl ?_ ?_
  · rintro i t z news' K' hT hi rfl gr
    repeat' fail "w"
    exact hT.ret _ _ _ _ (hK _ _ _ _ (by fail "gr") ⟨rfl, rfl⟩)
  · intro z news' h
    cases h
noncomputable def LkAt (a : Addr) (news : LedT) : Prop := ∃ d1 d2, Inst 318 a [("table", .ref d1), ("trailer", .ref d2)] news
theorem LkAt.gr {a : Addr} {l l' : LedT} (gr : Gr l l') (h : LkAt a l) : LkAt a l' := by obtain ⟨d1, d2, I⟩ := h; exact ⟨d1, d2, I.gr gr⟩
theorem get_ct {a d : Addr} {o : Obj} {kvs : List (Str × Value)} {k : Str} {t : Tok} {v tv : Value} {mu news : LedT} (I : LkAt a news) (hdd : (d, o) ∈ news) (P : DctP (PySem.strKind PySem.Challenge.pw_og0191_01 g.w) kvs d o) (hv : (valueAt kvs k).getD .none = v)
    (Tv : Ty g tv v news) (ne : kitOne (hd.heap_1 g.w.params) tv (.ref 268) = some false) : CtX (GG g) 2 315 [.ref a, .ref d, .str k t] mu news (fun r mu' news' => mu' = mu ∧ r = v) := by
  obtain ⟨d1, d2, I⟩ := I
  fail "enterW"
  intro K hK Rt
  dsimp only
  repeat' fail "w"
  rw [hv]
  repeat' fail "w"
  refine' (fetch_ct Tv ne).wV ?_
  intro news1 gr1
  repeat' fail "w"
  exact hK _ _ _ _ (by fail "gr") ⟨rfl, rfl⟩
theorem name_init {y dx : Addr} {v : Value} {mu news : LedT} : CtX (GG g) 1 194 [.ref y, v] ((dx, dictOf [] 0) :: mu) ((y, instObj 197 dx) :: news)
    (fun r mu' _ => r = .none ∧ ∃ od, DictS [("text", v)] od ∧ mu' = (dx, od) :: mu) := by
  fail "enterW"
  intro K hK Rt
  dsimp only
  repeat' fail "w"
  exact hK _ _ _ _ (Gr.refl _) ⟨rfl, _, by assumption, rfl⟩
theorem name_ct {v : Value} {mu news : LedT} : Ct (GG g) 1 197 [v] mu news (fun r mu' news' => mu' = mu ∧ ∃ y, r = .ref y ∧ Inst 197 y [("text", v)] news') :=
  (make' (mk_197 _) fun _ _ => name_init).mono fun r mu' news' _ hh => by obtain ⟨a, y, dx, od, b, h1, h2, h3⟩ := hh; exact ⟨a, y, b, dx, od, h1, h2, h3⟩
theorem cmap_init {y dx : Addr} {v1 v2 : Value} {mu news : LedT} : CtX (GG g) 1 336 [.ref y, v1, v2] ((dx, dictOf [] 0) :: mu) ((y, instObj 344 dx) :: news)
    (fun r mu' _ => r = .none ∧ ∃ od, DictS [("spaces", v1), ("chars", v2)] od ∧ mu' = (dx, od) :: mu) := by
  fail "enterW"
  intro K hK Rt
  dsimp only
  repeat' fail "w"
  exact hK _ _ _ _ (Gr.refl _) ⟨rfl, _, by assumption, rfl⟩
theorem cmap_ct {v1 v2 : Value} {mu news : LedT} : Ct (GG g) 1 344 [v1, v2] mu news (fun r mu' news' => mu' = mu ∧ ∃ y, r = .ref y ∧ Inst 344 y [("spaces", v1), ("chars", v2)] news') :=
  (make' (mk_344 _) fun _ _ => cmap_init).mono fun r mu' news' _ hh => by obtain ⟨a, y, dx, od, b, h1, h2, h3⟩ := hh; exact ⟨a, y, b, dx, od, h1, h2, h3⟩
theorem font_init {y dx : Addr} {v1 v2 v3 v4 v5 v6 v7 : Value} {mu news : LedT} : CtX (GG g) 1 565 [.ref y, v1, v2, v3, v4, v5, v6, v7] ((dx, dictOf [] 0) :: mu) ((y, instObj 587 dx) :: news)
    (fun r mu' _ => r = .none ∧ ∃ od, DictS [("names", v1), ("cutting", v2), ("unicode", v3), ("rows", v4), ("default", v5), ("unit", v6), ("standard", v7)] od ∧ mu' = (dx, od) :: mu) := by
  fail "enterW"
  intro K hK Rt
  dsimp only
  repeat' fail "w"
  exact hK _ _ _ _ (Gr.refl _) ⟨rfl, _, by assumption, rfl⟩
theorem font_ct {v1 v2 v3 v4 v5 v6 v7 : Value} {mu news : LedT} : Ct (GG g) 1 587 [v1, v2, v3, v4, v5, v6, v7] mu news (fun r mu' news' => mu' = mu ∧ ∃ y, r = .ref y ∧ Inst 587 y [("names", v1), ("cutting", v2), ("unicode", v3), ("rows", v4), ("default", v5), ("unit", v6), ("standard", v7)] news') :=
  (make' (mk_587 _) fun _ _ => font_init).mono fun r mu' news' _ hh => by obtain ⟨a, y, dx, od, b, h1, h2, h3⟩ := hh; exact ⟨a, y, b, dx, od, h1, h2, h3⟩
end
end

-- G4
section
section
variable {g : Gp}
theorem codes_simple {a : Addr} {v1 v3 v4 v5 v6 v7 : Value} {b : Array UInt8} {tb : Tok} {mu news : LedT} (I : Inst 587 a [("names", v1), ("cutting", .none), ("unicode", v3), ("rows", v4), ("default", v5), ("unit", v6), ("standard", v7)] news) (hz : b.size ≤ 1000) :
    CtX (GG g) 1 570 [.ref a, .bytes b tb] mu news (fun r mu' news' => mu' = mu ∧ ∃ l ys nn, r = .ref l ∧ (l, lstO ys nn) ∈ news' ∧ Paired (fun y p => PairAt y p news') ys ((KBw.bInts b).map fun o => (1, o))) := by
  fail "enterW"
  intro K hK Rt
  dsimp only
  repeat' fail "w"
  refine WCo.Bz (fun _ : Unit => mu) (fun i _ ys news' => Paired (fun y p => PairAt y p news') ys (((KBw.bInts b).take i).map fun o => (1, o))) () (by decide) rfl (by omega) rfl .nil ?_ ?_
  · intro i v t z ys news' KY KS hE hv hP gr
    repeat' fail "w"
    refine hE.it () _ _ _ rfl (by fail "gr") ?_
    rw [take_snoc hv, List.map_append]
    exact (hP.mono fun _ _ h => h.gr (Gr.refl _).cons).snoc ⟨_, _, _, rfl, List.mem_cons_self⟩
  · intro D z ys news' hP hl gr
    rw [List.take_of_length_le (by rw [KBw.ints_length]; exact Nat.le_refl _)] at hP
    exact hK _ _ _ _ (by fail "gr") ⟨rfl, _, _, _, rfl, List.mem_cons_self, hP.mono fun _ _ h => h.gr (Gr.refl _).cons⟩
end
end

-- G5
section
noncomputable def IntsL (vs : List Value) : Prop := ∀ v ∈ vs, ∃ i t, v = .int i t
noncomputable def Pot (C : Addr) (N : Nat) (oP oC : Obj) : Prop := ∃ st k t1 t2 vs, LstP [.ref C, .int st t1, .int k t2] oP ∧ LstP vs oC ∧ IntsL vs ∧ vs.length ≤ 40 ∧ 0 ≤ k ∧ k ≤ (N : Int)
theorem fmod_ge {a b : Int} (h : 0 < b) : 0 ≤ a.fmod b := Int.fmod_nonneg_of_pos a h
theorem fmod_lt {a b : Int} (h : 0 < b) : a.fmod b < b := Int.fmod_lt_of_pos a h
theorem ints_set {vs : List Value} {j : Nat} {i : Int} {t : Tok} (h : IntsL vs) : IntsL (vs.set j (.int i t)) := fun v hv => by
  rcases List.mem_or_eq_of_mem_set hv with h' | h'
  · exact h v h'
  · exact ⟨i, t, h'⟩
section
variable {g : Gp}
theorem draw_ct {P C : Addr} {oP oC : Obj} {lim : Int} {t : Tok} {N : Nat} {rest news : LedT} (hp : Pot C N oP oC) (hl : 0 < lim) (hl2 : lim ≤ 1000000) (hN : N ≤ 1000000) :
    CtX (GG g) 1 638 [.ref P, .int lim t] ((P, oP) :: (C, oC) :: rest) news (fun r mu' news' => ∃ oP' oC' x t', mu' = (P, oP') :: (C, oC') :: rest ∧ Pot C (N + 1) oP' oC' ∧ r = .int x t' ∧ 0 ≤ x ∧ x < lim) := by
  obtain ⟨st, k, t1, t2, vs, hP, hC, hi, hlen, hk0, hk1⟩ := hp
  have leaf : ∀ (a : Int), 0 ≤ a.fmod lim ∧ a.fmod lim < lim := fun a => ⟨fmod_ge hl, fmod_lt hl⟩
  by_cases hv : vs = []
  · subst hv
    fail "enterW"
    intro K hK Rt
    dsimp only
    repeat' fail "w"
    exact hK _ _ _ _ (by fail "gr") ⟨_, _, _, _, rfl, ⟨_, _, _, _, _, by assumption, hC, hi, hlen, by omega, by omega⟩, rfl, leaf _⟩
  · have hvl : (vs.length : Int) ≠ 0 := by
      have : vs.length ≠ 0 := fun h => hv (List.eq_nil_of_length_eq_zero h)
      omega
    have h1 : 0 ≤ k.fmod (vs.length : Int) := fmod_ge (by omega)
    have h2 : k.fmod (vs.length : Int) < (vs.length : Int) := fmod_lt (by omega)
    obtain ⟨y, hy⟩ : ∃ y, vs[(k.fmod (vs.length : Int)).toNat]? = some y := ⟨_, List.getElem?_eq_getElem (by omega)⟩
    obtain ⟨i, ti, rfl⟩ := hi _ (List.mem_of_getElem? hy)
    fail "enterW"
    intro K hK Rt
    dsimp only
    repeat' fail "w"
    refine O.item rfl (by fail "mem") (by assumption) h1 (by omega) hy ?_
    repeat' fail "w"
    refine' ite_dec ?_ ?_ <;> intro hpos
    · repeat' fail "w"
      exact hK _ _ _ _ (by fail "gr") ⟨_, _, _, _, rfl, ⟨_, _, _, _, _, by assumption, by assumption, ints_set hi, by rw [List.length_set]; exact hlen, by omega, by omega⟩, rfl, leaf _⟩
    · repeat' fail "w"
      exact hK _ _ _ _ (by fail "gr") ⟨_, _, _, _, rfl, ⟨_, _, _, _, _, by assumption, hC, hi, hlen, by omega, by omega⟩, rfl, leaf _⟩
theorem draw_w {F : Fm} {R : Tab} {K : Value → LedT → LedT → Prop} {P C : Addr} {oP oC : Obj} {lim : Int} {t : Tok} {N : Nat} {rest news : LedT} (hp : Pot C N oP oC) (hl : 0 < lim) (hl2 : lim ≤ 1000000) (hN : N ≤ 1000000)
    (h : ∀ oP' oC' x t' news', Pot C (N + 1) oP' oC' → 0 ≤ x → x < lim → Gr news news' → K (.int x t') ((P, oP') :: (C, oC') :: rest) news') (hk : Nat.ble 1 F.n = true := by with_unfolding_all rfl) :
    WO F R ((P, oP) :: (C, oC) :: rest) news (call (.ref 638) [.ref P, .int lim t]) K :=
  (draw_ct hp hl hl2 hN).w (hk := hk) fun _ hK _ _ _ ⟨_, _, _, _, e, a, e2, b, c⟩ gr => by subst e; subst e2; exact hK _ _ _ (h _ _ _ _ _ a b c gr)
end
end

-- G6
section
noncomputable def NumAt (v : Value) (top : Int) (p : Nat) (news : LedT) : Prop := (∃ t, v = .int top t ∧ p = 0) ∨ (∃ a, v = .ref a ∧ DecAt a top p news)
theorem NumAt.gr {v : Value} {top : Int} {p : Nat} {l l' : LedT} (gr : Gr l l') (h : NumAt v top p l) : NumAt v top p l' := h.imp id fun hh => by obtain ⟨a, e, h⟩ := hh; exact ⟨a, e, h.gr gr⟩
theorem norm_bound : ∀ (p : Nat) (t : Int), (norm t p).2 ≤ p ∧ (norm t p).1.natAbs ≤ t.natAbs
  | 0, t => ⟨Nat.le_refl _, Nat.le_refl _⟩
  | p + 1, t => by
    unfold norm
    split
    · rename_i h
      obtain ⟨a, b⟩ := norm_bound p (t.fdiv 10)
      refine ⟨Nat.le_succ_of_le a, Nat.le_trans b ?_⟩
      exact Int.natAbs_fdiv_le_natAbs _ _
    · exact ⟨Nat.le_refl _, Nat.le_refl _⟩
section
variable {g : Gp}
theorem number_ct {P C : Addr} {oP oC : Obj} {N : Nat} {rest news : LedT} (hp : Pot C N oP oC) (hN : N ≤ 100000) :
    CtX (GG g) 2 645 [.ref P] ((P, oP) :: (C, oC) :: rest) news (fun r mu' news' => ∃ oP' oC' top p, mu' = (P, oP') :: (C, oC') :: rest ∧ Pot C (N + 2) oP' oC' ∧ NumAt r top p news' ∧ top.natAbs ≤ 1300 ∧ p ≤ 1) := by
  fail "enterW"
  intro K hK Rt
  dsimp only
  repeat' fail "w"
  refine' draw_w hp (by decide) (by decide) (by omega) ?_
  intro oP1 oC1 x1 t1 news1 hp1 h01 h11 gr1
  repeat' fail "w"
  refine' draw_w hp1 (by decide) (by decide) (by omega) ?_
  intro oP2 oC2 x2 t2 news2 hp2 h02 h12 gr2
  repeat' fail "w"
  refine' ite_beqI ?_ ?_ <;> intro hz
  · repeat' fail "w"
    refine' (dec_ct (p := 1)).w ?_
    rintro _ _ r mu' news3 ⟨rfl, y, rfl, hd⟩ gr3
    repeat' fail "w"
    obtain ⟨ha, hb⟩ := norm_bound 1 (x1 - 300)
    exact hK _ _ _ _ (by fail "gr") ⟨_, _, _, _, rfl, hp2, .inr ⟨_, rfl, hd⟩, by omega, ha⟩
  · repeat' fail "w"
    exact hK _ _ _ _ (by fail "gr") ⟨_, _, _, _, rfl, hp2, .inl ⟨_, rfl, rfl⟩, by omega, by omega⟩
theorem frac_ct {v : Value} {top : Int} {p : Nat} {mu news : LedT} (h : NumAt v top p news) : CtX (GG g) 1 652 [v] mu news (fun r mu' news' => mu' = mu ∧ PairAt r (top, p) news') := by
  rcases h with ⟨t, rfl, rfl⟩ | ⟨a, rfl, hd⟩
  · exact frac_int.mono fun r mu' ext hh => by obtain ⟨a, y, u1, u2, b, h⟩ := hh; exact ⟨a, y, u1, u2, b, h⟩
  · exact (frac_dec hd).mono fun r mu' ext hh => by obtain ⟨a, y, u1, u2, b, h⟩ := hh; exact ⟨a, y, u1, u2, b, h⟩
theorem product_pair {v w : Value} {t1 t2 : Int} {p q : Nat} {mu news : LedT} (h1 : PairAt v (t1, p) news) (h2 : PairAt w (t2, q) news) (hm : IntMulOk t1 t2) : CtX (GG g) 1 659 [v, w] mu news (fun r mu' news' => mu' = mu ∧ PairAt r ((norm (t1 * t2) (p + q)).1, (norm (t1 * t2) (p + q)).2) news') := by
  obtain ⟨a, _, _, rfl, h1⟩ := h1
  obtain ⟨b, _, _, rfl, h2⟩ := h2
  exact (product_ct h1 h2 hm).mono fun r mu' ext hh => by obtain ⟨a, y, u1, u2, b, h⟩ := hh; exact ⟨a, y, u1, u2, b, h⟩
theorem isnum_ct {v : Value} {top : Int} {p : Nat} {mu news : LedT} (h : NumAt v top p news) : CtX (GG g) 2 286 [v] mu news (fun r mu' news' => mu' = mu ∧ r = .bool true) := by
  fail "enterW"
  intro K hK Rt
  dsimp only
  repeat' fail "w"
  rcases h with ⟨t, rfl, rfl⟩ | ⟨a, rfl, u1, u2, hd⟩
  · refine' kind_int.w ?_
    rintro _ _ r mu' news1 ⟨rfl, t, rfl⟩ gr1
    repeat' fail "w"
    exact hK _ _ _ _ (by fail "gr") ⟨rfl, rfl⟩
  · refine' (kind_dec hd).w ?_
    rintro _ _ r mu' news1 ⟨rfl, t, rfl⟩ gr1
    repeat' fail "w"
    exact hK _ _ _ _ (by fail "gr") ⟨rfl, rfl⟩
theorem numof_ct {v : Value} {top : Int} {p : Nat} {mu news : LedT} (h : NumAt v top p news) : CtX (GG g) 3 464 [v] mu news (fun r mu' news' => mu' = mu ∧ r = v) := by
  fail "enterW"
  intro K hK Rt
  dsimp only
  repeat' fail "w"
  refine' (isnum_ct h).wV ?_
  intro news1 gr1
  repeat' fail "w"
  exact hK _ _ _ _ (by fail "gr") ⟨rfl, rfl⟩
theorem whole_ct {i : Int} {t : Tok} {mu news : LedT} (h : 0 ≤ i) : CtX (GG g) 2 471 [.int i t] mu news (fun r mu' news' => mu' = mu ∧ r = .int i t) := by
  fail "enterW"
  intro K hK Rt
  dsimp only
  repeat' fail "w"
  refine' kind_int.w ?_
  rintro _ _ r mu' news1 ⟨rfl, t, rfl⟩ gr1
  repeat' fail "w"
  refine' ite_dec ?_ ?_ <;> intro hz
  · omega
  repeat' fail "w"
  exact hK _ _ _ _ (by fail "gr") ⟨rfl, rfl⟩
theorem decof_num {v : Value} {top : Int} {p : Nat} {mu news : LedT} (h : NumAt v top p news) : CtX (GG g) 2 173 [v] mu news (fun r mu' news' => mu' = mu ∧ ∃ y, r = .ref y ∧ DecAt y top p news') := by
  rcases h with ⟨t, rfl, rfl⟩ | ⟨a, rfl, hd⟩
  · exact decof_int
  · have := (decof_dec (g := g) (mu := mu) hd).up (k' := 2) (by omega)
    intro c m x s A R O S ra hq
    exact this c m x s A R O S ra fun r mu' ext s' S' ⟨e1, e2⟩ => hq r mu' ext s' S' ⟨e1, a, e2, hd.gr ⟨ext, rfl⟩⟩
end
end

-- G7
section
noncomputable abbrev sk (g : Gp) := PySem.strKind PySem.Challenge.pw_og0191_01 g.w
section
variable {g : Gp}
theorem ne_none : kitOne (hd.heap_1 g.w.params) (.type "NoneType") (.ref 268) = some false := by fail "is"
theorem ne_name : kitOne (hd.heap_1 g.w.params) (.ref 197) (.ref 268) = some false := by fail "is"
theorem ne_int : kitOne (hd.heap_1 g.w.params) (.type "int") (.ref 268) = some false := by fail "is"
theorem ne_dec : kitOne (hd.heap_1 g.w.params) (.ref 155) (.ref 268) = some false := by fail "is"
theorem ne_list : kitOne (hd.heap_1 g.w.params) (.type "list") (.ref 268) = some false := by fail "is"
theorem ne_dict : kitOne (hd.heap_1 g.w.params) (.type "dict") (.ref 268) = some false := by fail "is"
theorem nameat_name {a d b : Addr} {o : Obj} {kvs : List (Str × Value)} {k nm : Str} {t u : Tok} {mu news : LedT} (I : LkAt a news) (hdd : (d, o) ∈ news) (P : DctP (sk g) kvs d o) (hv : (valueAt kvs k).getD .none = .ref b) (hn : Inst 197 b [("text", .str nm u)] news) :
    CtX (GG g) 3 509 [.ref a, .ref d, .str k t] mu news (fun r mu' news' => mu' = mu ∧ r = .str nm u) := by
  obtain ⟨_, _, Ii⟩ := id I
  fail "enterW"
  intro K hK Rt
  dsimp only
  repeat' fail "w"
  refine' (get_ct I hdd P hv (ty_inst (xo_197 _) hn) ne_name).wV ?_
  intro news1 gr1
  repeat' fail "w"
  exact hK _ _ _ _ (by fail "gr") ⟨rfl, rfl⟩
theorem nameat_none {a d : Addr} {o : Obj} {kvs : List (Str × Value)} {k : Str} {t : Tok} {mu news : LedT} (I : LkAt a news) (hdd : (d, o) ∈ news) (P : DctP (sk g) kvs d o) (hv : (valueAt kvs k).getD .none = .none) :
    CtX (GG g) 3 509 [.ref a, .ref d, .str k t] mu news (fun r mu' news' => mu' = mu ∧ ∃ u, r = .str "" u) := by
  obtain ⟨_, _, Ii⟩ := id I
  fail "enterW"
  intro K hK Rt
  dsimp only
  repeat' fail "w"
  refine' (get_ct I hdd P hv ty_none ne_none).wV ?_
  intro news1 gr1
  repeat' fail "w"
  exact hK _ _ _ _ (by fail "gr") ⟨rfl, _, rfl⟩
theorem arrayat_list {a d l : Addr} {o ol : Obj} {kvs : List (Str × Value)} {k : Str} {t : Tok} {mu news : LedT} (I : LkAt a news) (hdd : (d, o) ∈ news) (P : DctP (sk g) kvs d o) (hv : (valueAt kvs k).getD .none = .ref l) (hl : (l, ol) ∈ news) (hc : ol.cls = .type "list") :
    CtX (GG g) 3 523 [.ref a, .ref d, .str k t] mu news (fun r mu' news' => mu' = mu ∧ r = .ref l) := by
  have Tl : Ty g (.type "list") (.ref l) news := ty_list hl hc
  obtain ⟨_, _, Ii⟩ := id I
  fail "enterW"
  intro K hK Rt
  dsimp only
  repeat' fail "w"
  refine' (get_ct I hdd P hv Tl ne_list).wV ?_
  intro news1 gr1
  repeat' fail "w"
  exact hK _ _ _ _ (by fail "gr") ⟨rfl, rfl⟩
theorem missing_none {a d : Addr} {o : Obj} {kvs : List (Str × Value)} {mu news : LedT} (I : LkAt a news) (hdd : (d, o) ∈ news) (P : DctP (sk g) kvs d o) (hv : (valueAt kvs "FontDescriptor").getD .none = .none) :
    CtX (GG g) 4 530 [.ref a, .ref d] mu news (fun r mu' news' => mu' = mu ∧ ∃ u, r = .int 0 u) := by
  obtain ⟨_, _, Ii⟩ := id I
  fail "enterW"
  intro K hK Rt
  dsimp only
  repeat' fail "w"
  refine' (get_ct I hdd P hv ty_none ne_none).wV ?_
  intro news1 gr1
  repeat' fail "w"
  exact hK _ _ _ _ (by fail "gr") ⟨rfl, _, rfl⟩
theorem NumAt.ty {v : Value} {top : Int} {p : Nat} {news : LedT} (h : NumAt v top p news) : (Ty g (.type "int") v news) ∨ (Ty g (.ref 155) v news) := by
  rcases h with ⟨t, rfl, rfl⟩ | ⟨a, rfl, u1, u2, hd⟩
  · exact .inl ty_int
  · exact .inr (ty_inst (xo_155 _) hd)
theorem get_num {a d : Addr} {o : Obj} {kvs : List (Str × Value)} {k : Str} {t : Tok} {v : Value} {top : Int} {p : Nat} {mu news : LedT} (I : LkAt a news) (hdd : (d, o) ∈ news) (P : DctP (sk g) kvs d o) (hv : (valueAt kvs k).getD .none = v) (hn : NumAt v top p news) :
    CtX (GG g) 2 315 [.ref a, .ref d, .str k t] mu news (fun r mu' news' => mu' = mu ∧ r = v) := by
  rcases hn.ty (g := g) with T | T
  · exact get_ct I hdd P hv T ne_int
  · exact get_ct I hdd P hv T ne_dec
theorem fetch_num {a : Addr} {v : Value} {top : Int} {p : Nat} {mu news : LedT} (hn : NumAt v top p news) : CtX (GG g) 1 308 [.ref a, v] mu news (fun r mu' news' => mu' = mu ∧ r = v) := by
  rcases hn.ty (g := g) with T | T
  · exact fetch_ct T ne_int
  · exact fetch_ct T ne_dec
end
end

-- G8
section
section
variable {g : Gp}
theorem missing_some {a d d2 : Addr} {o o2 : Obj} {kvs kvs2 : List (Str × Value)} {v : Value} {top : Int} {p : Nat} {mu news : LedT} (I : LkAt a news) (hdd : (d, o) ∈ news) (P : DctP (sk g) kvs d o) (hv : (valueAt kvs "FontDescriptor").getD .none = .ref d2)
    (hd2 : (d2, o2) ∈ news) (hc : o2.cls = .type "dict") (P2 : DctP (sk g) kvs2 d2 o2) (hv2 : (valueAt kvs2 "MissingWidth").getD .none = v) (hn : NumAt v top p news) :
    CtX (GG g) 4 530 [.ref a, .ref d] mu news (fun r mu' news' => mu' = mu ∧ r = v) := by
  obtain ⟨_, _, Ii⟩ := id I
  have T2 : Ty g (.type "dict") (.ref d2) news := ty_dict hd2 hc
  fail "enterW"
  intro K hK Rt
  dsimp only
  repeat' fail "w"
  refine' (get_ct I hdd P hv T2 ne_dict).wV ?_
  intro news1 gr1
  repeat' fail "w"
  refine' (get_num (I.gr gr1) (gr1.mem hd2) P2 hv2 (hn.gr gr1)).wV ?_
  intro news2 gr2
  rcases hn with ⟨t, rfl, rfl⟩ | ⟨b, rfl, hd⟩
  · repeat' fail "w"
    refine' (numof_ct (.inl ⟨t, rfl, rfl⟩)).wV ?_
    intro news3 gr3
    repeat' fail "w"
    exact hK _ _ _ _ (by fail "gr") ⟨rfl, rfl⟩
  · repeat' fail "w"
    refine' (numof_ct (.inr ⟨b, rfl, (hd.gr gr1).gr gr2⟩)).wV ?_
    intro news3 gr3
    repeat' fail "w"
    exact hK _ _ _ _ (by fail "gr") ⟨rfl, rfl⟩
theorem unit_plain {a d b : Addr} {o : Obj} {kvs : List (Str × Value)} {u : Tok} {mu news : LedT} (I : LkAt a news) (hdd : (d, o) ∈ news) (P : DctP (sk g) kvs d o) (hv : (valueAt kvs "Subtype").getD .none = .ref b) (hn : Inst 197 b [("text", .str "Type1" u)] news) :
    CtX (GG g) 4 537 [.ref a, .ref d] mu news (fun r mu' news' => mu' = mu ∧ ∃ y, r = .ref y ∧ DecAt y 1 3 news') := by
  fail "enterW"
  intro K hK Rt
  dsimp only
  repeat' fail "w"
  refine' (nameat_name I hdd P hv hn).wV ?_
  intro news1 gr1
  repeat' fail "w"
  refine' (dec_ct (p := 3)).w ?_
  rintro _ _ r mu' news2 ⟨rfl, y, rfl, hd⟩ gr2
  repeat' fail "w"
  exact hK _ _ _ _ (by fail "gr") ⟨rfl, _, rfl, by simpa [norm] using hd⟩
theorem unit_type3 {a d b l : Addr} {o ol : Obj} {kvs : List (Str × Value)} {u : Tok} {f : Value} {fs : List Value} {top : Int} {p : Nat} {mu news : LedT} (I : LkAt a news) (hdd : (d, o) ∈ news) (P : DctP (sk g) kvs d o) (hv : (valueAt kvs "Subtype").getD .none = .ref b) (hn : Inst 197 b [("text", .str "Type3" u)] news)
    (hm : (valueAt kvs "FontMatrix").getD .none = .ref l) (hl : (l, ol) ∈ news) (Pl : LstP (f :: fs) ol) (hlen : fs.length = 5) (hf : NumAt f top p news) :
    CtX (GG g) 4 537 [.ref a, .ref d] mu news (fun r mu' news' => mu' = mu ∧ ∃ y, r = .ref y ∧ DecAt y top p news') := by
  obtain ⟨_, _, Ii⟩ := id I
  have T2 : Ty g (.type "list") (.ref l) news := ty_list hl Pl.cls
  fail "enterW"
  intro K hK Rt
  dsimp only
  repeat' fail "w"
  refine' (nameat_name I hdd P hv hn).wV ?_
  intro news1 gr1
  repeat' fail "w"
  refine' (get_ct (I.gr gr1) (gr1.mem hdd) P hm (T2.gr gr1) ne_list).wV ?_
  intro news2 gr2
  repeat' fail "w"
  refine iteF (by rw [List.length_cons, hlen]; decide +kernel) ?_
  have hf2 := (hf.gr gr1).gr gr2
  repeat' fail "w"
  refine' (fetch_num hf2).wV ?_
  intro news3 gr3
  repeat' fail "w"
  refine' (numof_ct (hf2.gr gr3)).wV ?_
  intro news4 gr4
  repeat' fail "w"
  refine' (decof_num ((hf2.gr gr3).gr gr4)).w ?_
  rintro _ _ r mu' news5 ⟨rfl, y, rfl, hd⟩ gr5
  repeat' fail "w"
  exact hK _ _ _ _ (by fail "gr") ⟨rfl, _, rfl, hd⟩
end
end

-- G9
section
section
variable {g : Gp}
theorem simplerows_ct {a d l : Addr} {o ol : Obj} {kvs : List (Str × Value)} {vs : List Value} {ws : List (Int × Nat)} {first : Int} {t0 : Tok} {mu news : LedT} (I : LkAt a news) (hdd : (d, o) ∈ news) (P : DctP (sk g) kvs d o) (hv : (valueAt kvs "Widths").getD .none = .ref l) (hl : (l, ol) ∈ news) (Pl : LstP vs ol)
    (hne : vs ≠ []) (hlen : vs.length ≤ 100) (hw : Paired (fun v w => NumAt v w.1 w.2 news) vs ws) (hf : (valueAt kvs "FirstChar").getD .none = .int first t0) (h0 : 0 ≤ first) :
    CtX (GG g) 4 481 [.ref a, .ref d] mu news (fun r mu' news' => mu' = mu ∧ ∃ l2 row rows nn nn2 t u, r = .ref rows ∧ (rows, lstO [.ref row] nn) ∈ news' ∧ (row, tupO [.int first t, .int (first + (vs.length : Int) - 1) u, .ref l2]) ∈ news' ∧ (l2, lstO vs nn2) ∈ news') := by
  obtain ⟨_, _, Ii⟩ := id I
  fail "enterW"
  intro K hK Rt
  dsimp only
  repeat' fail "w"
  refine' (arrayat_list I hdd P hv hl Pl.cls).wV ?_
  intro news1 gr1
  repeat' fail "w"
  refine' (get_ct (I.gr gr1) (gr1.mem hdd) P hf ty_int ne_int).wV ?_
  intro news2 gr2
  repeat' fail "w"
  refine' (whole_ct h0).wV ?_
  intro news3 gr3
  repeat' fail "w"
  refine WCo.Lz (fun _ : Unit => _) (fun i _ ys news' => ys = vs.take i) () (by fail "mem") Pl (by decide) rfl (by omega) rfl rfl ?_ ?_
  · rintro i v z ys news' KY KS hE hv rfl gr
    obtain ⟨w, _, hn⟩ := Paired.get hw hv
    have hn' : NumAt v w.1 w.2 news' := (((hn.gr gr1).gr gr2).gr gr3).gr gr
    repeat' fail "w"
    refine' (fetch_num hn').wV ?_
    intro news4 gr4
    repeat' fail "w"
    refine' (numof_ct (hn'.gr gr4)).wV ?_
    intro news5 gr5
    repeat' fail "w"
    exact hE.it () _ _ _ rfl (by fail "gr") (take_snoc hv).symm
  · rintro D z ys news' rfl hl gr
    rw [List.take_length] at *
    repeat' fail "w"
    exact hK _ _ _ _ (by fail "gr") ⟨rfl, _, _, _, _, _, _, _, rfl, by fail "mem", by fail "mem", by fail "mem"⟩
end
end

-- G10
section
noncomputable def RowAt (y : Value) (r : Int × Int × List Value) (news : LedT) : Prop := ∃ a t u l nn, y = .ref a ∧ (a, tupO [.int r.1 t, .int r.2.1 u, .ref l]) ∈ news ∧ (l, lstO r.2.2 nn) ∈ news
theorem RowAt.gr {y : Value} {r : Int × Int × List Value} {l l' : LedT} (g : Gr l l') (h : RowAt y r l) : RowAt y r l' := by obtain ⟨a, t, u, l, nn, e, h1, h2⟩ := h; exact ⟨a, t, u, l, nn, e, g.mem h1, g.mem h2⟩
noncomputable def widthIn : List (Int × Int × List Value) → Int → Value → Value
  | [], _, d => d
  | (f, l, vs) :: r, c, d => if f ≤ c ∧ c ≤ l then (vs[if (vs.length : Int) = l - f + 1 then (c - f).toNat else 0]?).getD d else widthIn r c d
section
variable {g : Gp}
theorem widthin_ct {l : Addr} {nn : Nat} {ys : List Value} {rows : List (Int × Int × List Value)} {code : Int} {d : Value} {t0 : Tok} {mu news : LedT} (hl : (l, lstO ys nn) ∈ news) (hr : Paired (fun y r => RowAt y r news) ys rows) (hz : ys.length ≤ 1000)
    (hok : ∀ r ∈ rows, ((r.2.2.length : Int) = r.2.1 - r.1 + 1 ∨ 0 < r.2.2.length) ∧ r.2.2.length ≤ 1000) :
    CtX (GG g) 1 488 [.ref l, .int code t0, d] mu news (fun r mu' news' => mu' = mu ∧ r = widthIn rows code d) := by
  fail "enterW"
  intro K hK Rt
  dsimp only
  repeat' fail "w"
  refine WFor.Lz (fun z : Option Value × Option Value × Option Value => ([("rows", some (.ref l)), ("code", some (.int code t0)), ("default", some (d)), ("first", z.1), ("last", z.2.1), ("widths", z.2.2), ("len", some (.builtin "len"))] : Tab)) (fun z => mu) (fun i z news' => widthIn (rows.drop i) code d = widthIn rows code d) (_, _, _) (by fail "mem") lstP rfl rfl rfl ?_ ?_
  · rintro i v ⟨o1, o2, o3⟩ news' K' hT hv hw gr
    obtain ⟨⟨f, la, vs⟩, hrow, hR⟩ := Paired.get hr hv
    obtain ⟨a, t, u, lw, nw, rfl, h1, h2⟩ := hR
    obtain ⟨ho, hz2⟩ := hok _ (List.mem_of_getElem? hrow)
    have hd : rows.drop i = (f, la, vs) :: rows.drop (i + 1) := by
      rw [List.getElem?_eq_some_iff] at hrow
      obtain ⟨hlt, e⟩ := hrow
      rw [← e]
      exact List.drop_eq_getElem_cons hlt
    dsimp only at h1 h2 ho hz2
    have h1' := gr.mem h1
    have h2' := gr.mem h2
    have next : ¬ (f ≤ code ∧ code ≤ la) → widthIn (rows.drop (i + 1)) code d = widthIn rows code d := fun hn => by
      rw [← hw, hd]
      show _ = if f ≤ code ∧ code ≤ la then _ else _
      rw [if_neg hn]
    repeat' fail "w"
    refine' ite_dec ?_ ?_ <;> intro hA
    · repeat' fail "w"
      refine' ite_dec ?_ ?_ <;> intro hB
      · have hval : widthIn rows code d = (vs[if (vs.length : Int) = la - f + 1 then (code - f).toNat else 0]?).getD d := by
          rw [← hw, hd]
          show (if f ≤ code ∧ code ≤ la then _ else _) = _
          rw [if_pos ⟨hA, hB⟩]
        repeat' fail "w"
        refine' ite_beqI ?_ ?_ <;> intro hC
        · obtain ⟨y, hy⟩ : ∃ y, vs[(code - f).toNat]? = some y := ⟨_, List.getElem?_eq_getElem (by omega)⟩
          rw [if_pos hC, hy] at hval
          repeat' fail "w"
          refine O.item rfl (by fail "mem") lstP (by omega) (by omega) hy ?_
          repeat' fail "w"
          exact hT.ret _ _ _ _ (hK _ _ _ _ (by fail "gr") ⟨rfl, hval.symm⟩)
        · obtain ⟨y, hy⟩ : ∃ y, vs[0]? = some y := ⟨_, List.getElem?_eq_getElem (by omega)⟩
          rw [if_neg hC, hy] at hval
          repeat' fail "w"
          refine O.item rfl (by fail "mem") lstP (by omega) (by omega) hy ?_
          repeat' fail "w"
          exact hT.ret _ _ _ _ (hK _ _ _ _ (by fail "gr") ⟨rfl, hval.symm⟩)
      · repeat' fail "w"
        exact hT.next (_, _, _) _ _ _ (by fail "tab") rfl (by fail "gr") (next (fun h => hB h.2))
    · repeat' fail "w"
      exact hT.next (_, _, _) _ _ _ (by fail "tab") rfl (by fail "gr") (next (fun h => hA h.1))
  · rintro ⟨o1, o2, o3⟩ news' hw gr
    repeat' fail "w"
    rw [List.drop_of_length_le (by rw [← Paired.length hr]; exact Nat.le_refl _)] at hw
    exact hK _ _ _ _ (by fail "gr") ⟨rfl, hw⟩
end
end

-- G11
section
noncomputable abbrev CidR := Int × Int × Int × Int
noncomputable def CidAt (y : Value) (r : CidR) (news : LedT) : Prop := ∃ a t1 t2 t3 t4, y = .ref a ∧ (a, tupO [.int r.1 t1, .int r.2.1 t2, .int r.2.2.1 t3, .int r.2.2.2 t4]) ∈ news
theorem CidAt.gr {y : Value} {r : CidR} {l l' : LedT} (g : Gr l l') (h : CidAt y r l) : CidAt y r l' := by obtain ⟨a, t1, t2, t3, t4, e, h⟩ := h; exact ⟨a, t1, t2, t3, t4, e, g.mem h⟩
noncomputable def cidStep (p : Int × Int) (acc : Int) (r : CidR) : Int := if r.1 = p.1 ∧ r.2.1 ≤ p.2 ∧ p.2 ≤ r.2.2.1 then r.2.2.2 + p.2 - r.2.1 else acc
noncomputable def cidOf (rows : List CidR) (p : Int × Int) : Int := rows.foldl (cidStep p) 0
section
variable {g : Gp}
theorem cidof_ct {l : Addr} {nn : Nat} {ys : List Value} {rows : List CidR} {v : Value} {p : Int × Int} {mu news : LedT} (hl : (l, lstO ys nn) ∈ news) (hr : Paired (fun y r => CidAt y r news) ys rows) (hp : PairAt v p news) :
    CtX (GG g) 1 544 [.ref l, v] mu news (fun r mu' news' => mu' = mu ∧ ∃ t, r = .int (cidOf rows p) t) := by
  obtain ⟨pa, pt, pu, rfl, hp⟩ := hp
  fail "enterW"
  intro K hK Rt
  dsimp only
  repeat' fail "w"
  refine WFor.Lz (fun z : Option Value × Option Value × Option Value × Option Value × Int × Tok => ([("rows", some (.ref l)), ("pair", some (.ref pa)), ("found", some (.int z.2.2.2.2.1 z.2.2.2.2.2)), ("length", z.1), ("low", z.2.1), ("high", z.2.2.1), ("glyph", z.2.2.2.1)] : Tab)) (fun _ => mu) (fun i z _ => z.2.2.2.2.1 = (rows.take i).foldl (cidStep p) 0) (_, _, _, _, _, _) (by fail "memh") lstP rfl rfl rfl ?_ ?_
  · intro i v z news' K' hT hv hJ gr
    obtain ⟨⟨r1, r2, r3, r4⟩, hrow, hR⟩ := Paired.get hr hv
    obtain ⟨a, t1, t2, t3, t4, rfl, h1⟩ := hR
    dsimp only at h1
    have h1' := gr.mem h1
    have hp' := gr.mem hp
    have st : (rows.take (i + 1)).foldl (cidStep p) 0 = if r1 = p.1 ∧ r2 ≤ p.2 ∧ p.2 ≤ r3 then r4 + p.2 - r2 else z.2.2.2.2.1 := by rw [take_snoc hrow, List.foldl_append, hJ]; rfl
    repeat' fail "w"
    refine' ite_beqI ?_ ?_ <;> intro hA
    · repeat' fail "w"
      refine' ite_dec ?_ ?_ <;> intro hB
      · repeat' fail "w"
        refine' ite_dec ?_ ?_ <;> intro hC
        · repeat' fail "w"
          refine hT.next (_, _, _, _, _, _) _ _ _ (by fail "tab") rfl (by fail "gr") ?_
          exact (st.trans (if_pos ⟨hA, hB, hC⟩)).symm
        · repeat' fail "w"
          refine hT.next (_, _, _, _, _, _) _ _ _ (by fail "tab") rfl (by fail "gr") ?_
          exact (st.trans (if_neg fun h => hC h.2.2)).symm
      · repeat' fail "w"
        refine hT.next (_, _, _, _, _, _) _ _ _ (by fail "tab") rfl (by fail "gr") ?_
        exact (st.trans (if_neg fun h => hB h.2.1)).symm
    · repeat' fail "w"
      refine hT.next (_, _, _, _, _, _) _ _ _ (by fail "tab") rfl (by fail "gr") ?_
      exact (st.trans (if_neg fun h => hA h.1)).symm
  · intro z news' hJ gr
    repeat' fail "w"
    refine hK _ _ _ _ (by fail "gr") ⟨rfl, z.2.2.2.2.2, ?_⟩
    rw [List.take_of_length_le (by rw [← Paired.length hr]; exact Nat.le_refl _)] at hJ
    exact congrArg (fun i => Value.int i _) hJ
end
end

-- G12
section
noncomputable def codeOf (bs : List Int) : Int := bs.foldl (fun a o => 256 * a + o) 0
section
variable {g : Gp}
theorem codeof_ct {b : Array UInt8} {tb : Tok} {mu news : LedT} : CtX (GG g) 1 355 [.bytes b tb] mu news (fun r mu' news' => mu' = mu ∧ ∃ t, r = .int (codeOf (KBw.bInts b)) t) := by
  fail "enterW"
  intro K hK Rt
  dsimp only
  repeat' fail "w"
  refine WFor.Bz (fun z : Option Value × Int × Tok => ([("octets", some (.bytes b tb)), ("code", some (.int z.2.1 z.2.2)), ("octet", z.1)] : Tab)) (fun z => mu) (fun i z news' => z.2.1 = codeOf ((KBw.bInts b).take i)) (_, _, _) rfl rfl rfl ?_ ?_
  · intro i v t z news' K' hT hv hJ gr
    repeat' fail "w"
    refine hT.next (_, _, _) _ _ _ (by fail "tab") rfl (by fail "gr") ?_
    rw [take_snoc hv]; unfold codeOf; rw [List.foldl_append]; exact congrArg (fun q => 256 * q + v) hJ
  · intro z news' hJ gr
    rw [List.take_of_length_le (by rw [KBw.ints_length]; exact Nat.le_refl _)] at hJ
    repeat' fail "w"
    exact hK _ _ _ _ (by fail "gr") ⟨rfl, z.2.2, congrArg (fun i => Value.int i _) hJ⟩
theorem identity_ct {mu news : LedT} : CtX (GG g) 2 386 [] mu news (fun r mu' news' => mu' = mu ∧ ∃ y l ch, r = .ref y ∧ Inst 344 y [("spaces", .ref l), ("chars", .ref ch)] news' ∧ ∃ a nn t1 t2 t3, (l, lstO [.ref a] nn) ∈ news' ∧ (a, tupO [.int 2 t1, .int 0 t2, .int 65535 t3]) ∈ news') := by
  fail "enterW"
  intro K hK Rt
  dsimp only
  repeat' fail "w"
  refine' cmap_ct.w ?_
  rintro _ _ r mu' news1 ⟨rfl, y, rfl, hi⟩ gr1
  repeat' fail "w"
  exact hK _ _ _ _ (by fail "gr") ⟨rfl, _, _, _, rfl, hi, _, _, _, _, _, by fail "mem", by fail "mem"⟩
end
end

-- P1
section
theorem norm_val : ∀ (p : Nat) (t : Int), (norm t p).2 ≤ p ∧ (norm t p).1 * 10 ^ (p - (norm t p).2) = t
  | 0, t => ⟨Nat.le_refl _, by simp [norm]⟩
  | p + 1, t => by
    unfold norm
    split
    · rename_i h
      obtain ⟨a, b⟩ := norm_val p (t.fdiv 10)
      refine ⟨Nat.le_succ_of_le a, ?_⟩
      have e : p + 1 - (norm (t.fdiv 10) p).2 = (p - (norm (t.fdiv 10) p).2) + 1 := Nat.succ_sub a
      rw [e, Int.pow_succ, ← Int.mul_assoc, b]
      rw [Int.fdiv_eq_ediv_of_nonneg _ (by decide)]
      rw [Int.fmod_eq_emod_of_nonneg _ (by decide)] at h
      omega
    · exact ⟨Nat.le_refl _, by simp⟩
theorem norm_mul : ∀ (k : Nat) (t : Int) (p : Nat), norm (t * 10 ^ k) (p + k) = norm t p
  | 0, t, p => by simp
  | k + 1, t, p => by
    rw [show p + (k + 1) = (p + k) + 1 by omega]
    conv => lhs; unfold norm
    have h : t * 10 ^ (k + 1) = (t * 10 ^ k) * 10 := by rw [Int.pow_succ, Int.mul_assoc]
    have h1 : (t * 10 ^ (k + 1)).fmod 10 = 0 := by
      rw [h, Int.fmod_eq_emod_of_nonneg _ (by decide)]; omega
    have h2 : (t * 10 ^ (k + 1)).fdiv 10 = t * 10 ^ k := by
      rw [h, Int.fdiv_eq_ediv_of_nonneg _ (by decide)]; omega
    rw [if_pos h1, h2]
    exact norm_mul k t p
noncomputable def at12 (w : Int × Nat) : Int := w.1 * 10 ^ (12 - w.2)
theorem norm_at12 (t : Int) {p : Nat} (h : p ≤ 12) : norm t p = norm (t * 10 ^ (12 - p)) 12 := by
  have := norm_mul (12 - p) t p
  rw [show p + (12 - p) = 12 by omega] at this
  exact this.symm
noncomputable def addW (a b : Int × Nat) : Int × Nat := norm (a.1 * 10 ^ (max a.2 b.2 - a.2) + b.1 * 10 ^ (max a.2 b.2 - b.2)) (max a.2 b.2)
noncomputable def sumW (ws : List (Int × Nat)) : Int × Nat := ws.foldl addW (0, 0)
theorem addW_eq (S : Int) (b : Int × Nat) (hb : b.2 ≤ 12) : addW (norm S 12) b = norm (S + at12 b) 12 := by
  obtain ⟨h1, h2⟩ := norm_val 12 S
  generalize norm S 12 = a at h1 h2
  obtain ⟨ta, p⟩ := a
  obtain ⟨tb, q⟩ := b
  dsimp only at h1 h2 hb
  unfold addW at12
  dsimp only
  have hm : max p q ≤ 12 := max_le h1 hb
  rw [norm_at12 _ hm]
  congr 1
  rw [Int.add_mul, Int.mul_assoc, Int.mul_assoc, ← Int.pow_add, ← Int.pow_add, sub_add_sub (Nat.le_max_left p q) hm, sub_add_sub (Nat.le_max_right p q) hm, h2]
theorem sumW_from (ws : List (Int × Nat)) (h : ∀ w ∈ ws, w.2 ≤ 12) : ∀ S, ws.foldl addW (norm S 12) = norm (S + (ws.map at12).sum) 12 := by
  induction ws with
  | nil => intro S; simp
  | cons w r ih =>
    intro S
    rw [List.foldl_cons, addW_eq _ _ (h w List.mem_cons_self), ih (fun x hx => h x (List.mem_cons_of_mem _ hx)), List.map_cons, List.sum_cons, Int.add_assoc]
theorem sumW_eq (ws : List (Int × Nat)) (h : ∀ w ∈ ws, w.2 ≤ 12) : sumW ws = norm (ws.map at12).sum 12 := by
  have e : norm 0 12 = (0, 0) := by decide
  have := sumW_from ws h 0
  rw [e, Int.zero_add] at this
  exact this
end

-- G13
section
section
variable {g : Gp}
theorem O.last {F : Fm} {R : Tab} {mu news : LedT} {K : Value → LedT → LedT → Prop} {yv : Str} {np : Pos} {slice : Expr} {t : Addr} {o : Obj} {vs : List Value} {u : Tok} {y : Value} (hs : isIdx slice = true) (ht : (t, o) ∈ mu ++ news) (P : LstP (vs ++ [y]) o) (hz : vs.length ≤ 1000000) (h : K y mu news) :
    WO F R mu news (subscriptTail (.Name yv np) slice (.ref t) (.int (-1) u)) K := fun z s Q I S q =>
  subscriptTail_builtin (S.lst ht P).typeIs slot_list_getitem.lookup (wpAny_getItem_list_neg (S.lst ht P) (by decide) (by simp; omega) (by decide) (by
    have : ((-1 : Int) + ((vs ++ [y]).toArray.size : Int)).toNat = vs.length := by simp; omega
    rw [this]; simp) (q _ _ _ _ h S)) (subs_plain hs) fun _ => rfl
theorem lawglyph_ct {l : Addr} {nn : Nat} {ys : List Value} {rows : List CidR} {v : Value} {p : Int × Int} {mu news : LedT} (hl : (l, lstO ys nn) ∈ news) (hr : Paired (fun y r => CidAt y r news) ys rows) (hp : PairAt v p news) (hz : ys.length ≤ 1000) :
    CtX (GG g) 1 688 [.ref l, v] mu news (fun r mu' news' => mu' = mu ∧ ∃ t, r = .int (cidOf rows p) t) := by
  obtain ⟨pa, pt, pu, rfl, hp⟩ := hp
  fail "enterW"
  intro K hK Rt
  dsimp only
  repeat' fail "w"
  refine WCs.Lz (by fail "nm") (fun _ : Unit => mu) (fun i _ hs news' => ((hs = [] ∧ (rows.take i).foldl (cidStep p) 0 = 0) ∨ ∃ pre t, hs = pre ++ [.int ((rows.take i).foldl (cidStep p) 0) t])) () (by fail "mem") lstP (by decide) rfl (by omega) rfl (.inl ⟨rfl, rfl⟩) ?_ ?_
  · rintro i v z hs news' KY KS hE hv hJ gr
    obtain ⟨⟨r1, r2, r3, r4⟩, hrow, hR⟩ := Paired.get hr hv
    obtain ⟨a, t1, t2, t3, t4, rfl, h1⟩ := hR
    dsimp only at h1
    have h1' := gr.mem h1
    have hp' := gr.mem hp
    have no : ¬ (r1 = p.1 ∧ r2 ≤ p.2 ∧ p.2 ≤ r3) → (rows.take (i + 1)).foldl (cidStep p) 0 = (rows.take i).foldl (cidStep p) 0 := fun hn => by
      rw [take_snoc hrow, List.foldl_append]
      exact if_neg hn
    repeat' fail "w"
    refine' ite_beqI ?_ ?_ <;> intro hA
    · repeat' fail "w"
      refine' ite_dec ?_ ?_ <;> intro hB
      · repeat' fail "w"
        refine' ite_dec ?_ ?_ <;> intro hC'
        · have yes : (rows.take (i + 1)).foldl (cidStep p) 0 = r4 + p.2 - r2 := by
            rw [take_snoc hrow, List.foldl_append]
            exact if_pos ⟨hA, hB, hC'⟩
          repeat' fail "w"
          exact hE.it () _ _ _ rfl (by fail "gr") (.inr ⟨_, _, by rw [yes]⟩)
        · repeat' fail "w"
          exact hE.no () _ _ rfl (by fail "gr") (by rw [no (fun h => hC' h.2.2)]; exact hJ)
      · repeat' fail "w"
        exact hE.no () _ _ rfl (by fail "gr") (by rw [no (fun h => hB h.2.1)]; exact hJ)
    · repeat' fail "w"
      exact hE.no () _ _ rfl (by fail "gr") (by rw [no (fun h => hA h.1)]; exact hJ)
  · rintro D z hs news' hJ hlen gr
    rw [List.take_of_length_le (by rw [← Paired.length hr]; exact Nat.le_refl _)] at hJ
    have hlen1 : hs.length ≤ 1000 := by omega
    rcases hJ with ⟨rfl, e⟩ | ⟨pre, tt, rfl⟩
    · repeat' fail "w"
      exact hK _ _ _ _ (by fail "gr") ⟨rfl, _, by rw [show cidOf rows p = 0 from e]; rfl⟩
    · have hpl : pre.length ≤ 1000 := by simp only [List.length_append, List.length_singleton] at hlen; omega
      repeat' fail "w"
      refine iteF (by simp) ?_
      repeat' fail "w"
      refine O.last rfl (by fail "mem") lstP (by omega) ?_
      repeat' fail "w"
      exact hK _ _ _ _ (by fail "gr") ⟨rfl, _, rfl⟩
end
end

-- G14
section
theorem ints_snoc {vs : List Value} {ns : List Int} {k : Int} {t : Tok} (h : IntsAre vs ns) : IntsAre (vs ++ [.int k t]) (ns ++ [k]) := IntsAre.append h (IntsAre.cons _ _ IntsAre.nil)
noncomputable def octs (n : Nat) (code : Int) : List Int := (List.range n).map fun i : Nat => Builtin.bitAnd (code.fdiv (2 ^ (8 * ((n : Int) - 1 - (i : Int))).toNat)) 255
theorem octs_get {n i : Nat} {code : Int} (h : i < n) : (octs n code)[i]? = some (Builtin.bitAnd (code.fdiv (2 ^ (8 * ((n : Int) - 1 - i)).toNat)) 255) := by
  unfold octs
  rw [List.getElem?_map, List.getElem?_range h]
  rfl
section
variable {g : Gp}
theorem octets_ct {n : Nat} {code : Int} {t u : Tok} {mu news : LedT} (hn : n = 1 ∨ n = 2) (hr : ∀ k ∈ octs n code, 0 ≤ k ∧ k < 256) :
    CtX (GG g) 1 360 [.int n t, .int code u] mu news (fun r mu' news' => mu' = mu ∧ ∃ b t, r = .bytes b t ∧ KBw.bInts b = octs n code) := by
  have hl : (octs n code).length = n := by unfold octs; simp
  fail "enterW"
  intro K hK Rt
  dsimp only
  repeat' fail "w"
  refine WCo.Rz (num := n) (fun _ : Unit => mu) (fun i _ ys news' => IntsAre ys ((octs n code).take i)) () (by fail "mem") (by rcases hn with rfl | rfl <;> decide +kernel) (by rcases hn with rfl | rfl <;> decide +kernel) (by decide) rfl (by omega) rfl IntsAre.nil ?_ ?_
  · rintro i t z ys news' KY KS hE hi hP gr
    have hg := octs_get (code := code) hi
    repeat' fail "w"
    refine hE.it () _ _ _ rfl (by fail "gr") ?_
    rw [take_snoc hg]
    rw [show (0 : Int) + (i : Int) * 1 = (i : Int) by omega]
    exact ints_snoc hP
  · rintro D z ys news' hP hl' gr
    rw [List.take_of_length_le (by omega)] at hP
    repeat' fail "w"
    refine O.bMake (by fail "mem") lstP hP hr (by omega) ?_
    intro b t' hb hbz
    repeat' fail "w"
    exact hK _ _ _ _ (by fail "gr") ⟨rfl, _, _, rfl, hb⟩
end
end

-- G15
section
theorem drop_get {α : Type} {l : List α} {i : Nat} {v : α} (h : l[i]? = some v) : l.drop i = v :: l.drop (i + 1) := by
  rw [List.getElem?_eq_some_iff] at h
  obtain ⟨hlt, e⟩ := h
  rw [← e]
  exact List.drop_eq_getElem_cons hlt
noncomputable def fitL : List Int → List Int → List Int → Nat
  | l :: ls, h :: hs, o :: os => if l ≤ o ∧ o ≤ h then fitL ls hs os + 1 else 0
  | _, _, _ => 0
theorem fitL_nil1 (b c : List Int) : fitL [] b c = 0 := rfl
theorem fitL_nil3 (a b : List Int) : fitL a b [] = 0 := by cases a <;> cases b <;> rfl
noncomputable def fitOf (n : Nat) (lo hi : Int) (os : List Int) : Nat := fitL (octs n lo) (octs n hi) os
theorem octs_len {n : Nat} {k : Int} : (octs n k).length = n := by unfold octs; simp
noncomputable def SpaceAt (y : Value) (p : Nat × Int × Int) (news : LedT) : Prop := ∃ a t u v, y = .ref a ∧ (a, tupO [.int (p.1 : Int) t, .int p.2.1 u, .int p.2.2 v]) ∈ news
theorem SpaceAt.gr {y : Value} {p : Nat × Int × Int} {l l' : LedT} (g : Gr l l') (h : SpaceAt y p l) : SpaceAt y p l' := by obtain ⟨a, t, u, v, e, h⟩ := h; exact ⟨a, t, u, v, e, g.mem h⟩
structure SpOk (p : Nat × Int × Int) : Prop where
  n : p.1 = 1 ∨ p.1 = 2
  lo : ∀ k ∈ octs p.1 p.2.1, 0 ≤ k ∧ k < 256
  hi : ∀ k ∈ octs p.1 p.2.2, 0 ≤ k ∧ k < 256
section
variable {g : Gp}
theorem fitting_ct {v : Value} {p : Nat × Int × Int} {b : Array UInt8} {tb : Tok} {mu news : LedT} (hs : SpaceAt v p news) (ho : SpOk p) (hz : b.size ≤ 10000) :
    CtX (GG g) 2 367 [v, .bytes b tb] mu news (fun r mu' news' => mu' = mu ∧ ∃ t, r = .int (fitOf p.1 p.2.1 p.2.2 (KBw.bInts b) : Nat) t) := by
  obtain ⟨n, lo, hi⟩ := p
  obtain ⟨a, t1, t2, t3, rfl, hs⟩ := hs
  obtain ⟨hn, hlo, hhi⟩ := ho
  dsimp only at hs hn hlo hhi ⊢
  have hbl : (KBw.bInts b).length = b.size := KBw.ints_length b
  fail "enterW"
  intro K hK Rt
  dsimp only
  repeat' fail "w"
  refine' (octets_ct hn hlo).w ?_
  rintro _ _ r mu' news1 ⟨rfl, bl, tl, rfl, hbl1⟩ gr1
  repeat' fail "w"
  refine' (octets_ct hn hhi).w ?_
  rintro _ _ r mu' news2 ⟨rfl, bh, th, rfl, hbh1⟩ gr2
  have el : bl.size = n := by rw [← KBw.ints_length, hbl1, octs_len]
  have eh : bh.size = n := by rw [← KBw.ints_length, hbh1, octs_len]
  repeat' fail "w"
  refine WP.while (fun z : Nat × Tok => ([("space", some (.ref a)), ("octets", some (.bytes b tb)), ("length", some (.int (n : Int) t1)), ("low", some (.int lo t2)), ("high", some (.int hi t3)), ("lows", some (.bytes bl tl)), ("highs", some (.bytes bh th)), ("place", some (.int (z.1 : Int) z.2)), ("code_octets", some (.ref 360)), ("len", some (.builtin "len"))] : Tab)) (fun _ => _) (fun k z news' => k = n - z.1 ∧ z.1 ≤ n ∧ fitOf n lo hi (KBw.bInts b) = z.1 + fitL ((octs n lo).drop z.1) ((octs n hi).drop z.1) ((KBw.bInts b).drop z.1)) n (0, _) rfl rfl ⟨rfl, by omega, by simp [fitOf]⟩ ?_
  rintro k ⟨j, tj⟩ news' K' hT ⟨rfl, hj, hJ⟩ grL
  dsimp only at hj hJ ⊢
  have stop : fitL ((octs n lo).drop j) ((octs n hi).drop j) ((KBw.bInts b).drop j) = 0 → ∃ t', Value.int (j : Int) tj = Value.int (fitOf n lo hi (KBw.bInts b) : Nat) t' := fun e => ⟨tj, by rw [hJ, e]; rfl⟩
  repeat' fail "w"
  refine' ite_dec ?_ ?_ <;> intro h1
  · repeat' fail "w"
    refine' ite_dec ?_ ?_ <;> intro h2
    · obtain ⟨xl, hxl⟩ : ∃ x, (KBw.bInts bl)[j]? = some x := ⟨_, List.getElem?_eq_getElem (by rw [KBw.ints_length]; omega)⟩
      obtain ⟨xh, hxh⟩ : ∃ x, (KBw.bInts bh)[j]? = some x := ⟨_, List.getElem?_eq_getElem (by rw [KBw.ints_length]; omega)⟩
      obtain ⟨xo, hxo⟩ : ∃ x, (KBw.bInts b)[j]? = some x := ⟨_, List.getElem?_eq_getElem (by rw [KBw.ints_length]; omega)⟩
      have e0 : fitL ((octs n lo).drop j) ((octs n hi).drop j) ((KBw.bInts b).drop j) = if xl ≤ xo ∧ xo ≤ xh then fitL ((octs n lo).drop (j + 1)) ((octs n hi).drop (j + 1)) ((KBw.bInts b).drop (j + 1)) + 1 else 0 := by
        rw [hbl1] at hxl
        rw [hbh1] at hxh
        rw [drop_get hxl, drop_get hxh, drop_get hxo]
        rfl
      repeat' fail "w"
      refine' ite_dec ?_ ?_ <;> intro h3
      · repeat' fail "w"
        refine' ite_dec ?_ ?_ <;> intro h4
        · repeat' fail "w"
          rw [if_pos ⟨h3, h4⟩] at e0
          exact hT.next (j + 1, _) _ _ _ (by fail "tab") rfl (by fail "gr") ⟨n - (j + 1), by omega, rfl, by dsimp only; omega, by dsimp only; rw [hJ, e0]; omega⟩
        · repeat' fail "w"
          rw [if_neg (fun h => h4 h.2)] at e0
          exact hK _ _ _ _ (by fail "gr") ⟨rfl, stop e0⟩
      · repeat' fail "w"
        rw [if_neg (fun h => h3 h.1)] at e0
        exact hK _ _ _ _ (by fail "gr") ⟨rfl, stop e0⟩
    · repeat' fail "w"
      refine hK _ _ _ _ (by fail "gr") ⟨rfl, stop ?_⟩
      rw [List.drop_of_length_le (l := KBw.bInts b) (by omega)]
      exact fitL_nil3 _ _
  · repeat' fail "w"
    refine hK _ _ _ _ (by fail "gr") ⟨rfl, stop ?_⟩
    rw [List.drop_of_length_le (l := octs n lo) (by rw [octs_len]; omega)]
    exact fitL_nil1 _ _
end
end

-- G16
section
noncomputable def fitP (os : List Int) (p : Nat × Int × Int) : Int × Int := ((fitOf p.1 p.2.1 p.2.2 os : Nat), (p.1 : Int))
noncomputable def NextLen (sps : List (Nat × Int × Int)) (os : List Int) (M : Int) : Prop :=
  let F := (sps.map (fitP os)).filter fun q => q.1 == q.2
  if F = [] then ∃ most, most ∈ (sps.map (fitP os)).map (·.1) ∧ (∀ a ∈ (sps.map (fitP os)).map (·.1), a ≤ most) ∧ M ∈ ((sps.map (fitP os)).filter fun q => q.1 == most).map (·.2)
  else M ∈ F.map (·.2) ∧ ∀ a ∈ F.map (·.2), M ≤ a
section
variable {g : Gp}
theorem nextlen_ct {l : Addr} {nn : Nat} {ys : List Value} {sps : List (Nat × Int × Int)} {b : Array UInt8} {tb : Tok} {mu news : LedT} (hl : (l, lstO ys nn) ∈ news) (hs : Paired (fun y p => SpaceAt y p news) ys sps) (ho : ∀ p ∈ sps, SpOk p) (hne : ys ≠ []) (hy : ys.length ≤ 1000) (hz : b.size ≤ 10000) :
    CtX (GG g) 3 372 [.ref l, .bytes b tb] mu news (fun r mu' news' => mu' = mu ∧ ∃ M t, r = .int M t ∧ NextLen sps (KBw.bInts b) M) := by
  fail "enterW"
  intro K hK Rt
  dsimp only
  repeat' fail "w"
  refine WCs.Lz (by fail "nm") (fun _ : Unit => mu) (fun i _ rs news' => Paired (fun y p => PairAt y p news') rs ((sps.map (fitP (KBw.bInts b))).take i)) () (by fail "mem") lstP (by decide) rfl (by omega) rfl .nil ?_ ?_
  · rintro i v z rs news' KY KS hE hv hP gr
    obtain ⟨p, hp, hR⟩ := Paired.get hs hv
    have hR' := hR.gr gr
    have hok := ho p (List.mem_of_getElem? hp)
    obtain ⟨a, t, u, w, rfl, hm⟩ := id hR'
    repeat' fail "w"
    refine' (fitting_ct hR' hok hz).w ?_
    rintro _ _ r mu' news1 ⟨rfl, t1, rfl⟩ gr1
    repeat' fail "w"
    refine hE.it () _ _ _ rfl (by fail "gr") ?_
    have e : (sps.map (fitP (KBw.bInts b)))[i]? = some (fitP (KBw.bInts b) p) := by rw [List.getElem?_map, hp]; rfl
    rw [take_snoc e]
    exact (hP.mono fun _ _ h => (h.gr gr1).gr (Gr.refl _).cons).snoc ⟨_, _, _, rfl, List.mem_cons_self⟩
  · rintro D z rs news' hP hlen gr
    rw [List.take_of_length_le (by rw [List.length_map, ← Paired.length hs]; exact Nat.le_refl _)] at hP
    repeat' fail "w"
    refine WCs.Lz (by fail "nm") (fun _ : Unit => _) (fun i _ rs2 news' => IntsAre rs2 ((((sps.map (fitP (KBw.bInts b))).take i).filter fun q => q.1 == q.2).map (·.2))) () (by fail "mem") lstP (by decide) rfl (by omega) rfl IntsAre.nil ?_ ?_
    · rintro i v z rs2 news' KY KS hE hv hP2 gr
      obtain ⟨q, hq, hR⟩ := Paired.get hP hv
      obtain ⟨q1, q2⟩ := q
      have hR' := hR.gr ((Gr.refl _).cons.trans gr)
      obtain ⟨a, t, u, rfl, hm⟩ := id hR'
      dsimp only at hm
      repeat' fail "w"
      refine' ite_beqI ?_ ?_ <;> intro hA
      · repeat' fail "w"
        refine hE.it () _ _ _ rfl (by fail "gr") ?_
        rw [take_snoc hq, List.filter_append, List.map_append, show [(q1, q2)].filter (fun q : Int × Int => q.1 == q.2) = [(q1, q2)] by simp [hA]]
        exact ints_snoc hP2
      · repeat' fail "w"
        refine hE.no () _ _ rfl (by fail "gr") ?_
        rw [take_snoc hq, List.filter_append, List.map_append, show [(q1, q2)].filter (fun q : Int × Int => q.1 == q.2) = [] by simp [hA]]
        simpa using hP2
    · rintro D2 z rs2 news2 hP2 hlen2 gr2
      rw [List.take_of_length_le (by rw [← Paired.length hP]; exact Nat.le_refl _)] at hP2
      have hl2 := hP2.length
      by_cases hF : ((sps.map (fitP (KBw.bInts b))).filter fun q => q.1 == q.2) = []
      · rw [hF] at hP2
        obtain rfl : rs2 = [] := List.eq_nil_of_length_eq_zero (by simpa using hP2.length)
        repeat' fail "w"
        refine WCo.Lz (fun _ : Unit => _) (fun i _ rs3 news' => IntsAre rs3 (((sps.map (fitP (KBw.bInts b))).take i).map (·.1))) () (by fail "mem") lstP (by decide) rfl (by omega) rfl IntsAre.nil ?_ ?_
        · rintro i v z rs3 news' KY KS hE hv hP3 gr
          obtain ⟨q, hq, hR⟩ := Paired.get hP hv
          obtain ⟨q1, q2⟩ := q
          have hR' := hR.gr (((Gr.refl _).cons.trans gr2).cons.trans gr)
          obtain ⟨a, t, u, rfl, hm⟩ := id hR'
          dsimp only at hm
          repeat' fail "w"
          refine hE.it () _ _ _ rfl (by fail "gr") ?_
          rw [take_snoc hq, List.map_append]
          exact ints_snoc hP3
        · rintro D4 z rs4 news4 hP4 hlen4 gr4
          rw [List.take_of_length_le (by rw [← Paired.length hP]; exact Nat.le_refl _)] at hP4
          repeat' fail "w"
          have hpos : 0 < ((sps.map (fitP (KBw.bInts b))).map (·.1)).length := by
            rw [List.length_map, List.length_map, ← Paired.length hs]
            exact List.length_pos_iff.mpr hne
          refine O.max (by fail "mem") lstP hP4 hpos ?_
          rintro most t5 hM1 hM2
          repeat' fail "w"
          refine WCo.Lz (fun _ : Unit => _) (fun i _ rs6 news' => IntsAre rs6 ((((sps.map (fitP (KBw.bInts b))).take i).filter fun q => q.1 == most).map (·.2))) () (by fail "mem") lstP (by decide) rfl (by omega) rfl IntsAre.nil ?_ ?_
          · rintro i v z rs6 news' KY KS hE hv hP6 gr
            obtain ⟨q, hq, hR⟩ := Paired.get hP hv
            obtain ⟨q1, q2⟩ := q
            have hR' := hR.gr ((((Gr.refl _).cons.trans gr2).cons.trans gr4).cons.trans gr)
            obtain ⟨a, t, u, rfl, hm⟩ := id hR'
            dsimp only at hm
            repeat' fail "w"
            refine' ite_beqI ?_ ?_ <;> intro hA
            · repeat' fail "w"
              refine hE.it () _ _ _ rfl (by fail "gr") ?_
              rw [take_snoc hq, List.filter_append, List.map_append, show [(q1, q2)].filter (fun q : Int × Int => q.1 == most) = [(q1, q2)] by simp [hA]]
              exact ints_snoc hP6
            · repeat' fail "w"
              refine hE.no () _ _ rfl (by fail "gr") ?_
              rw [take_snoc hq, List.filter_append, List.map_append, show [(q1, q2)].filter (fun q : Int × Int => q.1 == most) = [] by simp [hA]]
              simpa using hP6
          · rintro D7 z rs7 news7 hP7 hlen7 gr7
            rw [List.take_of_length_le (by rw [← Paired.length hP]; exact Nat.le_refl _)] at hP7
            repeat' fail "w"
            have hpos7 : 0 < (((sps.map (fitP (KBw.bInts b))).filter fun q => q.1 == most).map (·.2)).length := by
              obtain ⟨q, hq, e⟩ := List.mem_map.mp hM1
              rw [List.length_map]
              exact List.length_pos_iff.mpr (List.ne_nil_of_mem (List.mem_filter.mpr ⟨hq, by simp [e]⟩))
            refine O.min (by fail "mem") lstP hP7 hpos7 ?_
            rintro M t9 hN1 hN2
            repeat' fail "w"
            refine hK _ _ _ _ (by fail "gr") ⟨rfl, _, _, rfl, ?_⟩
            unfold NextLen
            dsimp only
            rw [if_pos hF]
            exact ⟨most, hM1, hM2, hN1⟩
      · have hpos : 0 < rs2.length := by
          rw [hl2, List.length_map]
          exact List.length_pos_iff.mpr hF
        have hne2 : rs2 ≠ [] := List.length_pos_iff.mp hpos
        repeat' fail "w"
        refine O.min (by fail "mem") lstP hP2 (by rw [← hl2]; exact hpos) ?_
        rintro M t5 hM1 hM2
        repeat' fail "w"
        refine hK _ _ _ _ (by fail "gr") ⟨rfl, _, _, rfl, ?_⟩
        unfold NextLen
        dsimp only
        rw [if_neg hF]
        exact ⟨hM1, hM2⟩
end
end

-- G17
section
theorem slice4 {l : List Int} {j n : Nat} (hl : l.length = n) (hj : j ≤ n) : (l.drop (clipAt n (j : Int))).take (clipAt n ((j : Int) + 4) - clipAt n (j : Int)) = (l.drop j).take 4 := by
  rw [show (j : Int) + 4 = ((j + 4 : Nat) : Int) by omega, clipAt_nat, clipAt_nat, Nat.min_eq_left hj]
  by_cases h : j + 4 ≤ n
  · rw [Nat.min_eq_left h]; congr 1; omega
  · rw [Nat.min_eq_right (by omega), List.take_of_length_le (by rw [List.length_drop]; omega), List.take_of_length_le (by rw [List.length_drop]; omega)]
theorem slice0 {l : List Int} {n : Nat} {M : Int} (hl : l.length = n) (h : 0 ≤ M) : l.take (clipAt n M) = l.take M.toNat := by
  obtain ⟨k, rfl⟩ := Int.eq_ofNat_of_zero_le h
  rw [show (k : Int).toNat = k by omega]
  show l.take (clipAt n (k : Int)) = _
  rw [clipAt_nat]
  by_cases h : k ≤ n
  · rw [Nat.min_eq_left h]
  · rw [Nat.min_eq_right (by omega), List.take_of_length_le (by omega), List.take_of_length_le (by omega)]
inductive Split (sps : List (Nat × Int × Int)) : List Int → List (Int × Int) → Prop
  | nil : Split sps [] []
  | cons {os : List Int} {M : Int} {rest : List (Int × Int)} (h : os ≠ []) (hM : NextLen sps (os.take 4) M) (h0 : 0 < M) (r : Split sps (os.drop ((os.take 4).take M.toNat).length) rest) :
      Split sps os (((((os.take 4).take M.toNat).length : Nat), codeOf ((os.take 4).take M.toNat)) :: rest)
theorem NextLen.pos {sps : List (Nat × Int × Int)} {os : List Int} {M : Int} (h : NextLen sps os M) (ho : ∀ p ∈ sps, SpOk p) : 0 < M := by
  have key : ∀ q, q ∈ sps.map (fitP os) → 0 < q.2 := by
    intro q hq
    obtain ⟨p, hp, rfl⟩ := List.mem_map.mp hq
    have := (ho p hp).n
    show 0 < (p.1 : Int)
    omega
  unfold NextLen at h
  dsimp only at h
  split at h
  · obtain ⟨most, _, _, hm⟩ := h
    obtain ⟨q, hq, e⟩ := List.mem_map.mp hm
    have := key q (List.mem_filter.mp hq).1
    rw [e] at this; exact this
  · obtain ⟨q, hq, e⟩ := List.mem_map.mp h.1
    have := key q (List.mem_filter.mp hq).1
    rw [e] at this; exact this
section
variable {g : Gp}
theorem splitcodes_ct {cm l ch : Addr} {nn : Nat} {v2 : Value} {ys : List Value} {sps : List (Nat × Int × Int)} {b : Array UInt8} {tb : Tok} {mu news : LedT} (hI : Inst 344 cm [("spaces", .ref l), ("chars", v2)] news) (hl : (l, lstO ys nn) ∈ news) (hs : Paired (fun y p => SpaceAt y p news) ys sps) (ho : ∀ p ∈ sps, SpOk p) (hne : ys ≠ []) (hy : ys.length ≤ 1000) (hz : b.size ≤ 10000) :
    CtX (GG g) 4 379 [.ref cm, .bytes b tb] mu news (fun r mu' news' => mu' = mu ∧ ∃ D rs k codes, r = .ref D ∧ (D, lstO rs k) ∈ news' ∧ Split sps (KBw.bInts b) codes ∧ Paired (fun y p => PairAt y p news') rs codes) := by
  have hbl : (KBw.bInts b).length = b.size := KBw.ints_length b
  fail "enterW"
  intro K hK Rt
  dsimp only
  repeat' fail "w"
  refine WP.thaw ?_
  refine WP.while (fun z : Nat × Tok × List Value × Nat × List (Int × Int) × Option Value × Option Value => ([("cmap", some (.ref cm)), ("octets", some (.bytes b tb)), ("found", some (.ref _)), ("place", some (.int (z.1 : Int) z.2.1)), ("ahead", z.2.2.2.2.2.1), ("code", z.2.2.2.2.2.2), ("len", some (.builtin "len")), ("MOST_LENGTH", some (.int 4 598)), ("next_length", some (.ref 372)), ("code_of", some (.ref 355))] : Tab)) (fun z => (_, lstO z.2.2.1 z.2.2.2.1) :: mu) (fun k z news' => k = b.size - z.1 ∧ z.1 ≤ b.size ∧ z.2.2.1.length ≤ z.1 ∧ (∀ rest, Split sps ((KBw.bInts b).drop z.1) rest → Split sps (KBw.bInts b) (z.2.2.2.2.1 ++ rest)) ∧ Paired (fun y p => PairAt y p news') z.2.2.1 z.2.2.2.2.1) b.size (0, _, [], _, [], _, _) rfl rfl ⟨rfl, by omega, by simp, fun rest h => h, .nil⟩ ?_
  rintro k z1 news' K' hT ⟨rfl, hj, hrl, hJ, hP⟩ grL
  have gr0 := (Gr.refl _).trans grL
  repeat' fail "w"
  refine' ite_dec ?_ ?_ <;> intro h1
  · repeat' fail "w"
    rintro b4 t4 e4
    simp only [Option.elim] at e4
    rw [slice4 hbl hj] at e4
    have hne4 : (KBw.bInts b).drop z1.1 ≠ [] := by
      intro e
      have := congrArg List.length e
      rw [List.length_drop, List.length_nil] at this
      omega
    have hz4 : b4.size ≤ 4 := by
      rw [← KBw.ints_length, e4, List.length_take]; omega
    repeat' fail "w"
    refine' (nextlen_ct (gr0.mem hl) (hs.mono fun _ _ h => h.gr gr0) ho hne hy (b := b4) (by omega)).w ?_
    rintro _ _ r mu' news5 ⟨rfl, M, t5, rfl, hM⟩ gr5
    rw [e4] at hM
    have hpos := hM.pos ho
    repeat' fail "w"
    rintro b6 t6 e6
    simp only [Option.elim, List.drop_zero, Nat.sub_zero] at e6
    rw [slice0 (by rw [KBw.ints_length]) (by omega), e4] at e6
    have hl6 : (KBw.bInts b6).length = b6.size := KBw.ints_length b6
    have hz6 : b6.size ≤ 4 := by
      rw [← hl6, e6, List.length_take, List.length_take]; omega
    have hp6 : 0 < b6.size := by
      rw [← hl6, e6, List.length_take, List.length_take, List.length_drop, hbl]
      have : 0 < b.size - z1.1 := by omega
      omega
    have hj6 : z1.1 + b6.size ≤ b.size := by
      have : b6.size ≤ b.size - z1.1 := by
        rw [← hl6, e6, List.length_take, List.length_take, List.length_drop, hbl]
        omega
      omega
    repeat' fail "w"
    refine' codeof_ct.w ?_
    rintro _ _ r mu' news7 ⟨rfl, t7, rfl⟩ gr7
    repeat' fail "w"
    refine hT.next (z1.1 + b6.size, _, _, _, z1.2.2.2.2.1 ++ [((b6.size : Int), codeOf (KBw.bInts b6))], _, _) _ _ _ (by fail "tab") rfl (by fail "gr") ⟨b.size - (z1.1 + b6.size), by omega, rfl, hj6, by simp; omega, fun rest hr => ?_, ?_⟩
    · rw [List.append_assoc]
      refine hJ _ ?_
      rw [e6, ← hl6, e6]
      refine Split.cons hne4 hM hpos ?_
      rw [List.drop_drop]
      rw [← e6, hl6]
      exact hr
    · exact (hP.mono fun _ _ h => ((h.gr gr5).gr gr7).gr (Gr.refl _).cons).snoc ⟨_, _, _, rfl, List.mem_cons_self⟩
  · refine WP.freeze ?_
    repeat' fail "w"
    have hd : (KBw.bInts b).drop z1.1 = [] := List.drop_of_length_le (by omega)
    have := hJ [] (by rw [hd]; exact .nil)
    rw [List.append_nil] at this
    exact hK _ _ _ _ (by fail "gr") ⟨rfl, _, _, _, _, rfl, List.mem_cons_self, this, hP.mono fun _ _ h => h.gr (Gr.refl _).cons⟩
end
end

-- G18
section
section
variable {g : Gp}
theorem fetch_lst {a l : Addr} {o : Obj} {mu news : LedT} (hl : (l, o) ∈ news) (hc : o.cls = .type "list") : CtX (GG g) 1 308 [.ref a, .ref l] mu news (fun r mu' news' => mu' = mu ∧ r = .ref l) :=
  fetch_ct (ty_list hl hc) ne_list
theorem fetch_int {a : Addr} {i : Int} {t : Tok} {mu news : LedT} : CtX (GG g) 1 308 [.ref a, .int i t] mu news (fun r mu' news' => mu' = mu ∧ r = .int i t) := fetch_ct ty_int ne_int
theorem widerows_ct {a l lw : Addr} {nn nn2 : Nat} {first later l4 : Int} {t1 t2 t3 : Tok} {vs : List Value} {ws : List (Int × Nat)} {ew : Value} {et : Int} {ep : Nat} {mu news : LedT} (I : LkAt a news) (hl : (l, lstO [.int first t1, .ref lw, .int later t2, .int l4 t3, ew] nn) ∈ news) (hlw : (lw, lstO vs nn2) ∈ news)
    (hw : Paired (fun v w => NumAt v w.1 w.2 news) vs ws) (he : NumAt ew et ep news) (hz : vs.length ≤ 100) (h1 : 0 ≤ first) (h2 : 0 ≤ later) (h3 : 0 ≤ l4) :
    CtX (GG g) 4 476 [.ref a, .ref l] mu news (fun r mu' news' => mu' = mu ∧ ∃ D r1 r2 k, r = .ref D ∧ (D, lstO [r1, r2] k) ∈ news' ∧ RowAt r1 (first, first + (vs.length : Int) - 1, vs) news' ∧ RowAt r2 (later, l4, [ew]) news') := by
  obtain ⟨_, _, Ii⟩ := id I
  fail "enterW"
  intro K hK Rt
  dsimp only
  repeat' fail "w"
  refine WP.thaw ?_
  refine WP.while (fun z : Int × Tok × List Value × Nat × Option Value × Option Value => ([("shelf", some (.ref a)), ("parts", some (.ref l)), ("rows", some (.ref _)), ("place", some (.int z.1 z.2.1)), ("first", z.2.2.2.2.1), ("second", z.2.2.2.2.2), ("len", some (.builtin "len")), ("whole_of", some (.ref 471)), ("isinstance", some (.builtin "isinstance")), ("list", some (.type "list")), ("number_of", some (.ref 464)), ("FontFault", some (.ref 59))] : Tab)) (fun z => (_, lstO z.2.2.1 z.2.2.2.1) :: mu) (fun k z news' =>
      (k = 2 ∧ z.1 = 0 ∧ z.2.2.1 = [])
      ∨ (k = 1 ∧ z.1 = 2 ∧ ∃ r1, z.2.2.1 = [r1] ∧ RowAt r1 (first, first + (vs.length : Int) - 1, vs) news')
      ∨ (k = 0 ∧ z.1 = 5 ∧ ∃ r1 r2, z.2.2.1 = [r1, r2] ∧ RowAt r1 (first, first + (vs.length : Int) - 1, vs) news' ∧ RowAt r2 (later, l4, [ew]) news')) 2 (0, _, [], _, _, _) rfl rfl (.inl ⟨rfl, rfl, rfl⟩) ?_
  intro k z news' K' hT hJ grL
  have gr0 := (Gr.refl _).trans grL
  have hl' := gr0.mem hl
  have hlw' := gr0.mem hlw
  rcases hJ with ⟨rfl, e1, e2⟩ | ⟨rfl, e1, r1, e2, hr1⟩ | ⟨rfl, e1, r1, r2, e2, hr1, hr2⟩
  · rw [e1, e2]
    repeat' fail "w"
    refine iteT (by kernel_rfl) ?_
    repeat' fail "w"
    refine' fetch_int.wV ?_
    intro news1 gr1
    repeat' fail "w"
    refine' (whole_ct h1).wV ?_
    intro news2 gr2
    repeat' fail "w"
    refine iteT (by kernel_rfl) ?_
    repeat' fail "w"
    refine' (fetch_lst ((gr1.trans gr2).mem hlw') rfl).wV ?_
    intro news3 gr3
    repeat' fail "w"
    have gr4 := (grL.trans (gr1.trans (gr2.trans gr3)))
    refine WCo.Lz (fun _ : Unit => _) (fun i _ ys news' => ys = vs.take i) () (gr4.mem hlw) lstP (by decide) rfl (by omega) rfl rfl ?_ ?_
    · rintro i v _ ys news' KY KS hE hv rfl gr
      obtain ⟨w, _, hn⟩ := Paired.get hw hv
      have hn' : NumAt v w.1 w.2 news' := (hn.gr gr4).gr gr
      repeat' fail "w"
      refine' (fetch_num hn').wV ?_
      intro news4 gr4
      repeat' fail "w"
      refine' (numof_ct (hn'.gr gr4)).wV ?_
      intro news5 gr5
      repeat' fail "w"
      exact hE.it () _ _ _ rfl (by fail "gr") (take_snoc hv).symm
    · rintro D _ ys news' rfl hlen gr
      rw [List.take_length] at *
      repeat' fail "w"
      exact hT.next (_, _, _, _, _, _) _ _ _ (by fail "tab") rfl (by fail "gr") ⟨1, by omega, .inr (.inl ⟨rfl, rfl, _, rfl, ⟨_, _, _, _, _, rfl, List.mem_cons_self, by fail "mem"⟩⟩)⟩
  · rw [e1, e2]
    repeat' fail "w"
    refine iteT (by kernel_rfl) ?_
    repeat' fail "w"
    refine' fetch_int.wV ?_
    intro news1 gr1
    repeat' fail "w"
    refine' (whole_ct h2).wV ?_
    intro news2 gr2
    repeat' fail "w"
    refine iteT (by kernel_rfl) ?_
    repeat' fail "w"
    refine' fetch_int.wV ?_
    intro news3 gr3
    repeat' fail "w"
    refine iteT (by kernel_rfl) ?_
    repeat' fail "w"
    refine' (whole_ct h3).wV ?_
    intro news4 gr4
    repeat' fail "w"
    have gr5 := (grL.trans (gr1.trans (gr2.trans (gr3.trans gr4))))
    refine' (fetch_num (he.gr gr5)).wV ?_
    intro news5 gr6
    repeat' fail "w"
    refine' (numof_ct ((he.gr gr5).gr gr6)).wV ?_
    intro news6 gr7
    repeat' fail "w"
    exact hT.next (_, _, _, _, _, _) _ _ _ (by fail "tab") rfl (by fail "gr") ⟨0, by omega, .inr (.inr ⟨rfl, rfl, _, _, rfl, hr1.gr (gr1.trans (gr2.trans (gr3.trans (gr4.trans (gr6.trans gr7))))).cons.cons, ⟨_, _, _, _, _, rfl, List.mem_cons_self, by fail "mem"⟩⟩)⟩
  · rw [e1, e2]
    repeat' fail "w"
    refine iteF (by kernel_rfl) ?_
    refine WP.freeze ?_
    repeat' fail "w"
    exact hK _ _ _ _ (by fail "gr") ⟨rfl, _, _, _, _, rfl, List.mem_cons_self, hr1.gr (Gr.refl _).cons, hr2.gr (Gr.refl _).cons⟩
end
end

-- G19
section
noncomputable def CutAt (v : Value) (sps : List (Nat × Int × Int)) (rows : List CidR) (news : LedT) : Prop :=
  ∃ t cm sp ch nn ys rl k rs, v = .ref t ∧ (t, tupO [.ref cm, .ref rl]) ∈ news ∧ Inst 344 cm [("spaces", .ref sp), ("chars", ch)] news ∧ (sp, lstO ys nn) ∈ news ∧ Paired (fun y p => SpaceAt y p news) ys sps ∧ (rl, lstO rs k) ∈ news ∧ Paired (fun y r => CidAt y r news) rs rows
theorem CutAt.gr {v : Value} {sps : List (Nat × Int × Int)} {rows : List CidR} {l l' : LedT} (g : Gr l l') (h : CutAt v sps rows l) : CutAt v sps rows l' := by
  obtain ⟨t, cm, sp, ch, nn, ys, rl, k, rs, e, h1, h2, h3, h4, h5, h6⟩ := h
  exact ⟨t, cm, sp, ch, nn, ys, rl, k, rs, e, g.mem h1, h2.gr g, g.mem h3, h4.mono fun _ _ h => h.gr g, g.mem h5, h6.mono fun _ _ h => h.gr g⟩
noncomputable def lawCut (mixed : Bool) : List Int → List (Int × Int)
  | [] => []
  | [a] => [(1, a)]
  | a :: b :: r => if mixed = true ∧ a < 128 then (1, a) :: lawCut mixed (b :: r) else (2, 256 * a + b) :: lawCut mixed r
section
variable {g : Gp}
theorem fetch_dict {a l : Addr} {o : Obj} {mu news : LedT} (hl : (l, o) ∈ news) (hc : o.cls = .type "dict") : CtX (GG g) 1 308 [.ref a, .ref l] mu news (fun r mu' news' => mu' = mu ∧ r = .ref l) :=
  fetch_ct (ty_dict hl hc) ne_dict
theorem descendant_ct {a d l d2 : Addr} {o o2 : Obj} {nn : Nat} {kvs : List (Str × Value)} {mu news : LedT} (I : LkAt a news) (hdd : (d, o) ∈ news) (P : DctP (sk g) kvs d o) (hv : (valueAt kvs "DescendantFonts").getD .none = .ref l) (hl : (l, lstO [.ref d2] nn) ∈ news)
    (hd2 : (d2, o2) ∈ news) (hc : o2.cls = .type "dict") : CtX (GG g) 3 516 [.ref a, .ref d] mu news (fun r mu' news' => mu' = mu ∧ r = .ref d2) := by
  obtain ⟨_, _, Ii⟩ := id I
  have T1 : Ty g (.type "list") (.ref l) news := ty_list hl rfl
  have T2 : Ty g (.type "dict") (.ref d2) news := ty_dict hd2 hc
  fail "enterW"
  intro K hK Rt
  dsimp only
  repeat' fail "w"
  refine' (get_ct I hdd P hv T1 ne_list).wV ?_
  intro news1 gr1
  repeat' fail "w"
  refine iteF (by kernel_rfl) ?_
  repeat' fail "w"
  refine' (fetch_dict (gr1.mem hd2) hc).wV ?_
  intro news2 gr2
  repeat' fail "w"
  refine' (fetch_dict ((gr1.trans gr2).mem hd2) hc).wV ?_
  intro news3 gr3
  repeat' fail "w"
  exact hK _ _ _ _ (by fail "gr") ⟨rfl, rfl⟩
theorem idcut_ct {a d b : Addr} {o : Obj} {kvs : List (Str × Value)} {u : Tok} {mu news : LedT} (I : LkAt a news) (hdd : (d, o) ∈ news) (P : DctP (sk g) kvs d o) (hv : (valueAt kvs "Encoding").getD .none = .ref b) (hn : Inst 197 b [("text", .str "Identity-H" u)] news) :
    CtX (GG g) 4 551 [.ref a, .ref d] mu news (fun r mu' news' => mu' = mu ∧ CutAt r [(2, 0, 65535)] [(2, 0, 65535, 0)] news') := by
  fail "enterW"
  intro K hK Rt
  dsimp only
  repeat' fail "w"
  refine' (nameat_name I hdd P hv hn).wV ?_
  intro news1 gr1
  repeat' fail "w"
  refine' identity_ct.w ?_
  rintro _ _ r mu' news2 ⟨rfl, y, l, ch, rfl, hi, ta, nn, t1, t2, t3, h1, h2⟩ gr2
  repeat' fail "w"
  refine hK _ _ _ _ (by fail "gr") ⟨rfl, _, _, _, _, _, _, _, _, _, rfl, List.mem_cons_self, hi.gr ?_, Gr.mem ?_ h1, .cons ⟨_, _, _, _, rfl, Gr.mem ?_ h2⟩ .nil, by fail "mem", .cons ⟨_, _, _, _, _, rfl, by fail "mem"⟩ .nil⟩ <;> fail "gr"
theorem ints_cases {vs : List Value} {os : List Int} (h : IntsAre vs os) : (os = [] ∧ vs = []) ∨ ∃ a t vs' os', os = a :: os' ∧ vs = .int a t :: vs' ∧ IntsAre vs' os' := by
  cases h with
  | nil => exact .inl ⟨rfl, rfl⟩
  | cons a t h => exact .inr ⟨_, _, _, _, rfl, rfl, h⟩
theorem lawcut_ct {b : Array UInt8} {tb : Tok} {mixed : Bool} {mu news : LedT} (hz : b.size ≤ 1000) :
    CtX (GG g) 1 683 [.bytes b tb, .bool mixed] mu news (fun r mu' news' => mu' = mu ∧ ∃ D rs k, r = .ref D ∧ (D, lstO rs k) ∈ news' ∧ Paired (fun y p => PairAt y p news') rs (lawCut mixed (KBw.bInts b))) := by
  fail "enterW"
  intro K hK Rt
  dsimp only
  repeat' fail "w"
  refine O.listB (by omega) ?_
  intro L vs0 k0 hi0
  repeat' fail "w"
  refine WP.thaw (WP.thaw ?_)
  refine WP.while (fun z : List Int × List Value × List Value × List (Int × Int) × Nat × Nat × Option Value => ([("octets", some (.bytes b tb)), ("is_mixed", some (.bool mixed)), ("pairs", some (.ref _)), ("left", some (.ref _)), ("first", z.2.2.2.2.2.2), ("list", some (.type "list"))] : Tab)) (fun z => (_, lstO z.2.2.1 z.2.2.2.2.2.1) :: (_, lstO z.2.1 z.2.2.2.2.1) :: mu)
    (fun k z news' => k = z.1.length ∧ IntsAre z.2.1 z.1 ∧ z.1.length + z.2.2.1.length ≤ 1000 ∧ lawCut mixed (KBw.bInts b) = z.2.2.2.1 ++ lawCut mixed z.1 ∧ Paired (fun y p => PairAt y p news') z.2.2.1 z.2.2.2.1) (KBw.bInts b).length (KBw.bInts b, vs0, [], [], _, _, _) rfl rfl ⟨rfl, hi0, by rw [KBw.ints_length]; simpa using hz, by simp, .nil⟩ ?_
  rintro k z news' K' hT ⟨rfl, hi, hz1, hJ, hP⟩ grL
  have hlen := hi.length
  rcases ints_cases hi with ⟨e1, e2⟩ | ⟨a, ta, vs, os, e1, e2, hi⟩
  · rw [e2]
    refine WB.freeze (WB.freeze ?_)
    repeat' fail "w"
    have e : lawCut mixed (KBw.bInts b) = z.2.2.2.1 := by rw [hJ, e1]; simp [lawCut]
    rw [← e] at hP
    exact hK _ _ _ _ (by fail "gr") ⟨rfl, _, _, _, rfl, by fail "mem", hP.mono fun _ _ h => h.gr (Gr.refl _).cons.cons⟩
  · have hlen2 := hi.length
    rw [e1] at hJ hz1
    simp only [List.length_cons] at hz1
    rw [e2]
    repeat' fail "w"
    refine O.pop0 (by fail "upm") (by omega) ?_
    rcases ints_cases hi with ⟨e3, e4⟩ | ⟨b2, tb2, vs2, os2, e3, e4, hi2⟩
    · subst e3 e4
      simp only [List.length_nil] at hz1
      have last : lawCut mixed (KBw.bInts b) = (z.2.2.2.1 ++ [(1, a)]) ++ lawCut mixed [] := by rw [hJ]; simp [lawCut]
      cases mixed
      · repeat' fail "w"
        exact hT.next ([], [], _, _ ++ [(1, a)], _, _, _) _ _ _ (by fail "tab") rfl (by fail "gr") ⟨0, by rw [e1]; exact Nat.succ_pos _, rfl, IntsAre.nil, by simp only [List.length_cons, List.length_nil, List.length_append] at hz1 ⊢; omega, last, (hP.mono fun _ _ h => h.gr (Gr.refl _).cons).snoc ⟨_, _, _, rfl, List.mem_cons_self⟩⟩
      · repeat' fail "w"
        refine' ite_dec ?_ ?_ <;> intro h128
        · repeat' fail "w"
          exact hT.next ([], [], _, _ ++ [(1, a)], _, _, _) _ _ _ (by fail "tab") rfl (by fail "gr") ⟨0, by rw [e1]; exact Nat.succ_pos _, rfl, IntsAre.nil, by simp only [List.length_cons, List.length_nil, List.length_append] at hz1 ⊢; omega, last, (hP.mono fun _ _ h => h.gr (Gr.refl _).cons).snoc ⟨_, _, _, rfl, List.mem_cons_self⟩⟩
        · repeat' fail "w"
          exact hT.next ([], [], _, _ ++ [(1, a)], _, _, _) _ _ _ (by fail "tab") rfl (by fail "gr") ⟨0, by rw [e1]; exact Nat.succ_pos _, rfl, IntsAre.nil, by simp only [List.length_cons, List.length_nil, List.length_append] at hz1 ⊢; omega, last, (hP.mono fun _ _ h => h.gr (Gr.refl _).cons).snoc ⟨_, _, _, rfl, List.mem_cons_self⟩⟩
    · subst e3 e4
      have hlen3 := hi2.length
      simp only [List.length_cons] at hz1 hlen2
      cases mixed
      · have last : lawCut false (KBw.bInts b) = (z.2.2.2.1 ++ [(2, 256 * a + b2)]) ++ lawCut false os2 := by rw [hJ]; simp [lawCut]
        repeat' fail "w"
        refine O.pop0 (by fail "upm") (by omega) ?_
        repeat' fail "w"
        exact hT.next (os2, vs2, _, _ ++ [(2, 256 * a + b2)], _, _, _) _ _ _ (by fail "tab") rfl (by fail "gr") ⟨os2.length, by rw [e1]; simp only [List.length_cons]; omega, rfl, hi2, by simp only [List.length_cons, List.length_nil, List.length_append] at hz1 ⊢; omega, last, (hP.mono fun _ _ h => h.gr (Gr.refl _).cons).snoc ⟨_, _, _, rfl, List.mem_cons_self⟩⟩
      · repeat' fail "w"
        refine' ite_dec ?_ ?_ <;> intro h128
        · have last : lawCut true (KBw.bInts b) = (z.2.2.2.1 ++ [(1, a)]) ++ lawCut true (b2 :: os2) := by rw [hJ]; simp [lawCut, h128]
          repeat' fail "w"
          exact hT.next (b2 :: os2, _, _, _ ++ [(1, a)], _, _, _) _ _ _ (by fail "tab") rfl (by fail "gr") ⟨(b2 :: os2).length, by rw [e1]; exact Nat.lt_succ_self _, rfl, IntsAre.cons _ _ hi2, by simp only [List.length_cons, List.length_nil, List.length_append] at hz1 ⊢; omega, last, (hP.mono fun _ _ h => h.gr (Gr.refl _).cons).snoc ⟨_, _, _, rfl, List.mem_cons_self⟩⟩
        · have last : lawCut true (KBw.bInts b) = (z.2.2.2.1 ++ [(2, 256 * a + b2)]) ++ lawCut true os2 := by rw [hJ]; simp [lawCut, h128]
          repeat' fail "w"
          refine O.pop0 (by fail "upm") (by omega) ?_
          repeat' fail "w"
          exact hT.next (os2, vs2, _, _ ++ [(2, 256 * a + b2)], _, _, _) _ _ _ (by fail "tab") rfl (by fail "gr") ⟨os2.length, by rw [e1]; simp only [List.length_cons]; omega, rfl, hi2, by simp only [List.length_cons, List.length_nil, List.length_append] at hz1 ⊢; omega, last, (hP.mono fun _ _ h => h.gr (Gr.refl _).cons).snoc ⟨_, _, _, rfl, List.mem_cons_self⟩⟩
end
end

-- P2
section
open PySem PySem.W PyProof.Rows PySem.Spec PySem.Calls PyProof.V
open Builtin Builtin.Str StrLaws
noncomputable def swL : List Nat → Nat → Option Nat → List (Nat × Nat)
  | [], i, some b => [(b, i)]
  | [], _, none => []
  | c :: r, i, some b => if Unicode.isSpace c = true then (b, i) :: swL r (i + 1) none else swL r (i + 1) (some b)
  | c :: r, i, none => if Unicode.isSpace c = true then swL r (i + 1) none else swL r (i + 1) (some i)
theorem swL_eq (s : Str) (limit : Nat) (hl : s.length < limit) : ∀ (m cur : Nat) (words : Array (Nat × Nat)) (start : Option Nat), cur + m = s.length → words.size ≤ cur →
    swEnd s (forIn (List.range' cur m) ((none, words, start) : SwSt) (swBody s limit)).run = words.toList ++ swL (s.cps.toList.drop cur) cur start
  | 0, cur, words, start, hm, hw => by
    have hd : s.cps.toList.drop cur = [] := List.drop_of_length_le (by simp only [Array.length_toList]; show s.length ≤ cur; omega)
    rw [hd]
    show swEnd s (none, words, start) = _
    unfold swEnd
    have e : cur = s.length := by omega
    cases start with
    | none => simp [swL]
    | some b => simp [swL, e]
  | m + 1, cur, words, start, hm, hw => by
    rw [List.range'_succ, List.forIn_cons]
    have hlt : cur < s.cps.toList.length := by simp only [Array.length_toList]; show cur < s.length; omega
    have hd : s.cps.toList.drop cur = s.cps.getD cur 0 :: s.cps.toList.drop (cur + 1) := by
      rw [List.drop_eq_getElem_cons hlt]
      congr 1
      simp [Array.getD_eq_getD_getElem?]
      rw [Array.getElem?_eq_getElem (by simpa using hlt)]
      rfl
    rw [hd]
    have hsz : ¬ ((words.size == limit) = true) := by rw [beq_iff_eq]; omega
    cases start with
    | none =>
      cases hsp : Unicode.isSpace (s.cps.getD cur 0)
      · have e : swBody s limit cur (none, words, none) = pure (ForInStep.yield (none, words, some cur)) := by unfold swBody; simp only [hsz, hsp]; rfl
        have e2 : swL (s.cps.getD cur 0 :: s.cps.toList.drop (cur + 1)) cur none = swL (s.cps.toList.drop (cur + 1)) (cur + 1) (some cur) := if_neg (by rw [hsp]; exact Bool.false_ne_true)
        rw [e, e2]
        exact swL_eq s limit hl m (cur + 1) words (some cur) (by omega) (by omega)
      · have e : swBody s limit cur (none, words, none) = pure (ForInStep.yield (none, words, none)) := by unfold swBody; simp only [hsz, hsp]; rfl
        have e2 : swL (s.cps.getD cur 0 :: s.cps.toList.drop (cur + 1)) cur none = swL (s.cps.toList.drop (cur + 1)) (cur + 1) none := if_pos hsp
        rw [e, e2]
        exact swL_eq s limit hl m (cur + 1) words none (by omega) (by omega)
    | some b =>
      cases hsp : Unicode.isSpace (s.cps.getD cur 0)
      · have e : swBody s limit cur (none, words, some b) = pure (ForInStep.yield (none, words, some b)) := by unfold swBody; simp only [hsz, hsp]; rfl
        have e2 : swL (s.cps.getD cur 0 :: s.cps.toList.drop (cur + 1)) cur (some b) = swL (s.cps.toList.drop (cur + 1)) (cur + 1) (some b) := if_neg (by rw [hsp]; exact Bool.false_ne_true)
        rw [e, e2]
        exact swL_eq s limit hl m (cur + 1) words (some b) (by omega) (by omega)
      · have e : swBody s limit cur (none, words, some b) = pure (ForInStep.yield (none, words.push (b, cur), none)) := by unfold swBody; simp only [hsz, hsp]; rfl
        have e2 : swL (s.cps.getD cur 0 :: s.cps.toList.drop (cur + 1)) cur (some b) = (b, cur) :: swL (s.cps.toList.drop (cur + 1)) (cur + 1) none := if_pos hsp
        rw [e, e2]
        have := swL_eq s limit hl m (cur + 1) (words.push (b, cur)) none (by omega) (by simp; omega)
        rw [Array.toList_push, List.append_assoc] at this
        exact this
noncomputable def textOf (l : List Nat) : Str := ⟨l.toArray⟩
noncomputable def fw : List Nat → List Nat → List Str
  | [], [] => []
  | [], c :: a => [textOf (c :: a).reverse]
  | c :: r, [] => if Nat.beq c 32 = true then fw r [] else fw r [c]
  | c :: r, d :: a => if Nat.beq c 32 = true then textOf (d :: a).reverse :: fw r [] else fw r (c :: d :: a)
noncomputable def plainT (l : List Nat) : Bool := l.all fun c => Nat.beq c 32 || (Nat.ble 33 c && Nat.blt c 127)
theorem space_32 : Unicode.isSpace 32 = true := by decide +kernel
theorem space_of {c : Nat} (h : (Nat.beq c 32 || (Nat.ble 33 c && Nat.blt c 127)) = true) : Unicode.isSpace c = Nat.beq c 32 := by
  cases e : Nat.beq c 32 with
  | true => rw [Nat.eq_of_beq_eq_true e]; exact space_32
  | false =>
    rw [e, Bool.false_or, Bool.and_eq_true] at h
    have h2 : Nat.ble (c + 1) 127 = true := h.2
    exact KXs.no_space c (Nat.le_of_ble_eq_true h2) (Nat.le_of_ble_eq_true h.1)
theorem fw_eq (x : Str) : ∀ (r pre acc : List Nat) (st : Option Nat), x.cps.toList = pre ++ r → plainT r = true → (match st with | none => acc = [] | some b => b < pre.length ∧ acc.reverse = pre.drop b) →
    (swL r pre.length st).map (fun p : Nat × Nat => strSub x p.1 p.2) = fw r acc
  | [], pre, acc, none, hx, hp, h => by subst h; rfl
  | [], pre, acc, some b, hx, hp, h => by
    obtain ⟨h1, h2⟩ := h
    have hne : acc ≠ [] := by rintro rfl; have := congrArg List.length h2; simp at this; omega
    cases acc with
    | nil => exact absurd rfl hne
    | cons c a =>
      show [strSub x b pre.length] = [textOf (c :: a).reverse]
      rw [h2]
      rw [List.append_nil] at hx
      unfold strSub textOf
      congr 2
      apply Array.toList_inj.mp
      rw [Array.toList_extract, hx]
      simp only [List.extract_eq_take_drop]
      rw [List.take_of_length_le (by simp)]
  | c :: r, pre, acc, st, hx, hp, h => by
    have hc : (Nat.beq c 32 || (Nat.ble 33 c && Nat.blt c 127)) = true := by unfold plainT at hp; rw [List.all_cons, Bool.and_eq_true] at hp; exact hp.1
    have hp' : plainT r = true := by unfold plainT at hp ⊢; rw [List.all_cons, Bool.and_eq_true] at hp; exact hp.2
    have hs := space_of hc
    have hx' : x.cps.toList = (pre ++ [c]) ++ r := by rw [hx]; simp
    have hl : (pre ++ [c]).length = pre.length + 1 := by simp
    cases st with
    | none =>
      subst h
      unfold swL fw
      cases e : Nat.beq c 32 with
      | true =>
        rw [if_pos (by rw [hs, e]), if_pos rfl, ← hl]
        exact fw_eq x r (pre ++ [c]) [] none hx' hp' rfl
      | false =>
        rw [if_neg (by rw [hs, e]; exact Bool.false_ne_true), if_neg Bool.false_ne_true, ← hl]
        exact fw_eq x r (pre ++ [c]) [c] (some pre.length) hx' hp' ⟨by simp, by simp⟩
    | some b =>
      obtain ⟨h1, h2⟩ := h
      have hne : acc ≠ [] := by rintro rfl; have := congrArg List.length h2; simp at this; omega
      cases acc with
      | nil => exact absurd rfl hne
      | cons d a =>
        unfold swL fw
        cases e : Nat.beq c 32 with
        | true =>
          rw [if_pos (by rw [hs, e]), if_pos rfl, ← hl, List.map_cons]
          rw [fw_eq x r (pre ++ [c]) [] none hx' hp' rfl]
          congr 1
          rw [h2]
          unfold strSub textOf
          congr 1
          apply Array.toList_inj.mp
          rw [Array.toList_extract, hx]
          simp only [List.extract_eq_take_drop]
          rw [List.drop_append_of_le_length (by omega), List.take_append_of_le_length (by simp)]
          rw [List.take_of_length_le (by simp)]
        | false =>
          rw [if_neg (by rw [hs, e]; exact Bool.false_ne_true), if_neg Bool.false_ne_true, ← hl]
          refine fw_eq x r (pre ++ [c]) (c :: d :: a) (some b) hx' hp' ⟨by simp; omega, ?_⟩
          rw [List.drop_append_of_le_length (by omega), ← h2]
          simp
noncomputable def wordsF (x : Str) : List Str := fw x.cps.toList []
theorem words_fast {x : Str} (h : plainT x.cps.toList = true) : Txt.words x = wordsF x := by
  have e : PySem.wordsOf x = wordsF x := by
    unfold PySem.wordsOf wordsF
    rw [← fw_eq x x.cps.toList [] [] none (by simp) h rfl, sw_eq, swL_eq x (x.length + 1) (Nat.lt_succ_self _) x.length 0 #[] none (by omega) (by simp)]
    simp
  unfold Txt.words
  split
  · rename_i hq
    have hq' := eq_of_beq hq
    rw [← e]
    unfold PySem.wordsOf
    rw [hq']
    show [x] = [strSub x 0 x.length]
    unfold strSub
    congr 1
    obtain ⟨c⟩ := x
    congr 1
    simp [Str.length]
  · exact e
theorem v_splitF {G : Gl} {c : Cx} {m : Str → Option Value} {x mu news : LedT} {s : Shared} {A : Around} {E Q : Value → Shared → Prop} {y : Str} {t : Tok} (S : ES c m x mu news s) (hp : plainT y.cps.toList = true) (hz : Nat.ble y.length 100000 = true) (hb : Nat.ble (wordsF y).length 300 = true)
    (h : ∀ D vs s', StrsAre vs (wordsF y) → vs.length ≤ 300 → ES c m x mu ((D, lstO vs 0) :: news) s' → Q (.ref D) s') : wpAny G.M A (call (.builtin "str.split") [.str y t]) Q E s :=
  v_split0 S (Nat.le_of_ble_eq_true hz) fun D vs s' hs S' => by
    rw [words_fast hp] at hs
    exact h D vs s' hs (by rw [hs.length]; exact Nat.le_of_ble_eq_true hb) S'
theorem O.splitF {F : Fm} {R : Tab} {mu news : LedT} {K : Value → LedT → LedT → Prop} {y : Str} {t : Tok} (hp : plainT y.cps.toList = true) (hz : Nat.ble y.length 100000 = true) (hb : Nat.ble (wordsF y).length 300 = true) (h : ∀ D vs, StrsAre vs (wordsF y) → vs.length ≤ 300 → K (.ref D) mu ((D, lstO vs 0) :: news)) : WO F R mu news (call (.builtin "str.split") [.str y t]) K := fun z s Q I S q => v_splitF S hp hz hb fun D vs s' e l S' => q _ _ _ _ (h D vs e l) S'
end

-- G20
section
noncomputable def lowN : Str := "space exclam quotedbl numbersign dollar percent ampersand quotesingle parenleft parenright asterisk plus comma hyphen period slash zero one two three four five six seven eight nine colon semicolon less equal greater question at"
noncomputable def midN : Str := "bracketleft backslash bracketright asciicircum underscore grave"
noncomputable def highN : Str := "braceleft bar braceright asciitilde"
noncomputable def chrs (a n : Nat) : List Str := (List.range n).map fun i => ⟨#[a + i]⟩
noncomputable def asciiL : List Str := wordsF lowN ++ chrs 65 26 ++ wordsF midN ++ chrs 97 26 ++ wordsF highN
theorem ascii_len0 : (asciiL.length == 95) = true := by unfold asciiL; k_qdec
theorem ascii_len : asciiL.length = 95 := eq_of_beq ascii_len0
noncomputable def LWordsAt (D : Addr) (ys : List Str) (news : LedT) : Prop := ∃ vs k, (D, lstO vs k) ∈ news ∧ StrsAre vs ys
theorem chrs_snoc {vs : List Value} {a i : Nat} {k : Int} {t : Tok} (h : StrsAre vs (chrs a i)) (e : k = ((a + i : Nat) : Int)) : StrsAre (vs ++ [.str ⟨#[k.toNat]⟩ t]) (chrs a (i + 1)) := by
  subst e
  have e2 : chrs a (i + 1) = chrs a i ++ [⟨#[a + i]⟩] := by unfold chrs; rw [List.range_succ, List.map_append]; rfl
  rw [e2]
  exact strs_snoc h
section
variable {g : Gp}
theorem ascii_ct {mu news : LedT} : CtX (GG g) 1 395 [] mu news (fun r mu' news' => mu' = mu ∧ ∃ D, r = .ref D ∧ LWordsAt D asciiL news') := by
  fail "enterW"
  intro K hK Rt
  dsimp only
  repeat' fail "w"
  refine WCs.Rz (num := 26) (by fail "nm") (fun _ : Unit => mu) (fun i _ ys news' => StrsAre ys (chrs 65 i)) () (by fail "mem") (by decide +kernel) (by decide +kernel) (by decide) rfl (by decide) rfl .nil ?_ ?_
  · rintro i t _ ys news' KY KS hE hi hP gr
    repeat' fail "w"
    exact hE.it () _ _ _ rfl (by fail "gr") (chrs_snoc hP (by omega))
  · rintro D _ ys news' hP1 hl gr
    repeat' fail "w"
    refine WCs.Rz (num := 26) (by fail "nm") (fun _ : Unit => _) (fun i _ ys news' => StrsAre ys (chrs 97 i)) () (by fail "mem") (by decide +kernel) (by decide +kernel) (by decide) rfl (by decide) rfl .nil ?_ ?_
    · rintro i t _ ys news' KY KS hE hi hP gr
      repeat' fail "w"
      exact hE.it () _ _ _ rfl (by fail "gr") (chrs_snoc hP (by omega))
    · rintro D2 _ ys2 news' hP2 hl2 gr2
      repeat' fail "w"
      refine hK _ _ _ _ (by fail "gr") ⟨rfl, _, rfl, _, _, List.mem_cons_self, ?_⟩
      exact strs_app (strs_app (strs_app (strs_app (by assumption) hP1) (by assumption)) hP2) (by assumption)
end
end

-- G21
section
noncomputable def latN : Str := "exclamdown cent sterling currency yen brokenbar section dieresis copyright ordfeminine guillemotleft logicalnot hyphen registered macron degree plusminus twosuperior threesuperior acute mu paragraph periodcentered cedilla onesuperior ordmasculine guillemotright onequarter onehalf threequarters questiondown Agrave Aacute Acircumflex Atilde Adieresis Aring AE Ccedilla Egrave Eacute Ecircumflex Edieresis Igrave Iacute Icircumflex Idieresis Eth Ntilde Ograve Oacute Ocircumflex Otilde Odieresis multiply Oslash Ugrave Uacute Ucircumflex Udieresis Yacute Thorn germandbls"
noncomputable def lo1F (c : Nat) : Nat := match Nat.ble 65 c && Nat.ble c 90 with | true => c + 32 | false => c
noncomputable def lowF (y : Str) : Str := textOf (y.cps.toList.map lo1F)
theorem low_eq {y : Str} (h : (y.cps.toList.all fun c => Nat.blt c 128) = true) : Txt.lower y = lowF y := by
  rw [lower_ascii (fun c hc => Nat.le_of_ble_eq_true (List.all_eq_true.mp h c hc))]
  unfold lowF textOf
  congr 1
  apply Array.toList_inj.mp
  rw [Array.toList_map]
  refine List.map_congr_left fun c hc => ?_
  unfold lo1 lo1F
  split
  · rename_i q; rw [Nat.ble_eq_true_of_le q.1, Nat.ble_eq_true_of_le q.2]; rfl
  · rename_i q
    cases e : (Nat.ble 65 c && Nat.ble c 90) with
    | false => rfl
    | true => rw [Bool.and_eq_true] at e; exact absurd ⟨Nat.le_of_ble_eq_true e.1, Nat.le_of_ble_eq_true e.2⟩ q
noncomputable def mapLow : List Str → List Str
  | [] => []
  | y :: r => lowF y :: mapLow r
theorem mapLow_eq : ∀ l, mapLow l = l.map lowF
  | [] => rfl
  | y :: r => by show lowF y :: mapLow r = _; rw [mapLow_eq r]; rfl
noncomputable def latLow : List Str := mapLow (((wordsF latN).drop 31).take 31)
theorem lat_ascii : ((wordsF latN).all fun y => y.cps.toList.all fun c => Nat.blt c 128) = true := by k_qdec
noncomputable def latinL : List Str := wordsF latN ++ latLow.set 23 ("divide" : Str) ++ [("ydieresis" : Str)]
theorem lat_len0 : ((wordsF latN).length == 63) = true := by k_qdec
theorem lat_len : (wordsF latN).length = 63 := eq_of_beq lat_len0
theorem lat_short : ((wordsF latN).all fun y => Nat.ble y.length 100) = true := by k_qdec
theorem lat_len2 : (((wordsF latN).drop 31).take 31).length = 31 := by rw [List.length_take, List.length_drop, lat_len]; rfl
theorem pick_31_62 {vs : List Value} (h : vs.length = 63) : kms_pick vs (some 31) (some 62) = (vs.drop 31).take 31 := pick_nat (a := 31) (b := 62) (by omega) (by omega)
section
variable {g : Gp}
theorem latin_ct {mu news : LedT} : CtX (GG g) 1 400 [] mu news (fun r mu' news' => mu' = mu ∧ ∃ D, r = .ref D ∧ LWordsAt D latinL news') := by
  fail "enterW"
  intro K hK Rt
  dsimp only
  repeat' fail "w"
  have hN := (by assumption : StrsAre _ (wordsF latN))
  have hlen := hN.length.trans lat_len
  rw [pick_31_62 hlen]
  have hP0 := strs_take (strs_drop hN 31) 31
  have hl0 := hP0.length.trans lat_len2
  repeat' fail "w"
  refine WCs.Lz (by fail "nm") (fun _ : Unit => mu) (fun i _ ys news' => StrsAre ys (latLow.take i)) () (by fail "mem") lstP (by decide) rfl (by omega) rfl .nil ?_ ?_
  · rintro i v _ ys news' KY KS hE hv hP gr
    obtain ⟨y, t, hy, rfl⟩ := strs_get hP0 hv
    have hz : y.length ≤ 100 := Nat.le_of_ble_eq_true (List.all_eq_true.mp lat_short y (List.mem_of_mem_drop (List.mem_of_mem_take (List.mem_of_getElem? hy))))
    repeat' fail "w"
    refine hE.it () _ _ _ rfl (by fail "gr") ?_
    have hy' : latLow[i]? = some (Txt.lower y) := by rw [low_eq (List.all_eq_true.mp lat_ascii y (List.mem_of_mem_drop (List.mem_of_mem_take (List.mem_of_getElem? hy))))]; unfold latLow; rw [mapLow_eq, List.getElem?_map, hy]; rfl
    rw [take_snoc hy']
    exact strs_snoc hP
  · rintro D _ ys news' hP1 hl gr
    rw [List.take_of_length_le (by unfold latLow; rw [mapLow_eq, List.length_map, hl0]; exact Nat.le_of_eq lat_len2)] at hP1
    refine WP.thaw ?_
    have hl1 : ys.length = 31 := by rw [hP1.length]; unfold latLow; rw [mapLow_eq, List.length_map]; exact lat_len2
    repeat' ((fail_if_success (with_reducible show WP _ _ _ _ (PySem.Stmt.Return _ _ :: _) _)); fail "w")
    refine WP.freeze ?_
    repeat' fail "w"
    refine hK _ _ _ _ (by fail "gr") ⟨rfl, _, rfl, _, _, by fail "mem", ?_⟩
    exact strs_app (strs_app hN (strs_set hP1 _ _ _)) (.cons _ _ .nil)
end
end

-- G22
section
noncomputable def figN : Str := "0123456789"
noncomputable def figB (w : Str) : Bool := !(Builtin.Str.occurrences figN (Txt.item w 0) 0 figN.length 1).isEmpty
noncomputable def runW : List Str → List Str → Int → Option (List Str)
  | [], laid, _ => some laid
  | w :: r, laid, code =>
    match Nat.ble 1 w.length && Nat.ble w.length 640 with
    | false => none
    | true => match figB w with
      | true => (match PySem.intText? w with | some k => runW r laid k | none => none)
      | false => (match decide (0 ≤ code) && decide (code < (laid.length : Int)) with | true => runW r (laid.set code.toNat w) (code + 1) | false => none)
theorem runW_cons {w : Str} {r laid : List Str} {code : Int} {res : List Str} (h : runW (w :: r) laid code = some res) :
    1 ≤ w.length ∧ w.length ≤ 640 ∧ ((figB w = true ∧ ∃ k, PySem.intText? w = some k ∧ runW r laid k = some res) ∨ (figB w = false ∧ 0 ≤ code ∧ code < (laid.length : Int) ∧ runW r (laid.set code.toNat w) (code + 1) = some res)) := by
  unfold runW at h
  split at h
  · cases h
  · rename_i h1
    rw [Bool.and_eq_true] at h1
    refine ⟨Nat.le_of_ble_eq_true h1.1, Nat.le_of_ble_eq_true h1.2, ?_⟩
    split at h
    · rename_i h2
      split at h
      · rename_i k h3
        exact .inl ⟨h2, k, h3, h⟩
      · cases h
    · rename_i h2
      split at h
      · rename_i h3
        rw [Bool.and_eq_true] at h3
        exact .inr ⟨h2, of_decide_eq_true h3.1, of_decide_eq_true h3.2, h⟩
      · cases h
section
variable {g : Gp}
theorem withwords_ct {D0 : Addr} {ys res : List Str} {y : Str} {ty : Tok} {mu news : LedT} (h0 : WordsAt D0 ys news) (hz : ys.length ≤ 1000) (hp : plainT y.cps.toList = true) (hz2 : Nat.ble y.length 100000 = true) (hb : Nat.ble (wordsF y).length 300 = true) (hrun : runW (wordsF y) ys 0 = some res) :
    CtX (GG g) 1 407 [.ref D0, .str y ty] mu news (fun r mu' news' => mu' = mu ∧ ∃ D, r = .ref D ∧ WordsAt D res news') := by
  obtain ⟨vs0, o0, hD0, hP0, hs0⟩ := h0
  have hl0 := hs0.length
  fail "enterW"
  intro K hK Rt
  dsimp only
  repeat' fail "w"
  refine WO.thaw ?_
  refine O.splitF hp hz2 hb ?_
  intro Dw vw hw hwl
  repeat' fail "w"
  refine WFor.Lz (fun z : List Str × List Value × Obj × Int × Tok × Option Value => ([("names", some (.ref D0)), ("words", some (.str y ty)), ("laid", some (.ref _)), ("code", some (.int z.2.2.2.1 z.2.2.2.2.1)), ("word", z.2.2.2.2.2), ("list", some (.type "list")), ("FIGURES", some (.str "0123456789" 694)), ("int", some (.type "int"))] : Tab)) (fun z => (_, z.2.2.1) :: mu) (fun i z news' => LstP z.2.1 z.2.2.1 ∧ StrsAre z.2.1 z.1 ∧ z.1.length ≤ 1000 ∧ runW ((wordsF y).drop i) z.1 z.2.2.2.1 = some res) (ys, vs0, _, 0, _, _) (by fail "mem") lstP rfl rfl ⟨lstP, hs0, hz, hrun⟩ ?_ ?_
  · rintro i v z1 news' K' hT hv ⟨hP, hS, hz3, hJ⟩ gr
    obtain ⟨wd, tw, hwd, rfl⟩ := strs_get hw hv
    rw [drop_get hwd] at hJ
    obtain ⟨a1, a2, hJ⟩ := runW_cons hJ
    have hlv := hS.length
    repeat' fail "w"
    rcases hJ with ⟨hf, kk, hk, hr⟩ | ⟨hf, c0, c1, hr⟩
    · refine iteF (by simpa [figB, figN] using hf) ?_
      repeat' fail "w"
      refine O.intS hk a2 ?_
      intro t5
      repeat' fail "w"
      exact hT.next (z1.1, z1.2.1, _, kk, _, _) _ _ _ (by fail "tab") rfl (by fail "gr") ⟨hP, hS, hz3, hr⟩
    · refine iteT (by simpa [figB, figN] using hf) ?_
      repeat' fail "w"
      exact hT.next (_, _, _, z1.2.2.2.1 + 1, _, _) _ _ _ (by fail "tab") rfl (by fail "gr") ⟨by assumption, strs_set hS _ _ _, by rw [List.length_set]; exact hz3, hr⟩
  · rintro z2 news' ⟨hP, hS, hz3, hJ⟩ gr
    rw [List.drop_of_length_le (by rw [hw.length]; exact Nat.le_refl _)] at hJ
    have e : z2.1 = res := Option.some.inj hJ
    rw [e] at hS
    refine WP.freeze ?_
    repeat' fail "w"
    exact hK _ _ _ _ (by fail "gr") ⟨rfl, _, rfl, _, _, List.mem_cons_self, hP, hS⟩
end
end

-- G23
section
noncomputable def stdN : Str := "39 quoteright 96 quoteleft 161 exclamdown cent sterling fraction yen florin section currency quotesingle quotedblleft guillemotleft guilsinglleft guilsinglright fi fl 177 endash dagger daggerdbl periodcentered 182 paragraph bullet quotesinglbase quotedblbase quotedblright guillemotright ellipsis perthousand 191 questiondown 193 grave acute circumflex tilde macron breve dotaccent dieresis 202 ring cedilla 205 hungarumlaut ogonek caron emdash 225 AE 227 ordfeminine 232 Lslash Oslash OE ordmasculine 241 ae 245 dotlessi 248 lslash oslash oe germandbls"
noncomputable def baseL : List Str := List.replicate 32 ("" : Str) ++ asciiL ++ List.replicate 129 ("" : Str)
noncomputable def stdL : List Str := (runW (wordsF stdN) baseL 0).getD []
theorem std_some : (runW (wordsF stdN) baseL 0).isSome = true := by unfold baseL asciiL; k_qdec
theorem std_run : runW (wordsF stdN) baseL 0 = some stdL := by
  unfold stdL
  cases h : runW (wordsF stdN) baseL 0 with
  | none => have := std_some; rw [h] at this; cases this
  | some r => rfl
theorem base_len : baseL.length = 256 := by unfold baseL; simp only [List.length_append, List.length_replicate, ascii_len]
theorem runW_len : ∀ {ws laid res : List Str} {code : Int}, runW ws laid code = some res → res.length = laid.length
  | [], laid, res, code, h => by cases h; rfl
  | w :: r, laid, res, code, h => by
    obtain ⟨_, _, ⟨_, k, _, h⟩ | ⟨_, _, _, h⟩⟩ := runW_cons h
    · exact runW_len h
    · rw [runW_len h, List.length_set]
theorem std_len : stdL.length = 256 := (runW_len std_run).trans base_len
section
variable {g : Gp}
theorem base_ct {t : Tok} {mu news : LedT} : CtX (GG g) 2 412 [.str "StandardEncoding" t] mu news (fun r mu' news' => mu' = mu ∧ ∃ D, r = .ref D ∧ WordsAt D stdL news') := by
  fail "enterW"
  intro K hK Rt
  dsimp only
  repeat' fail "w"
  refine' ascii_ct.wR ?_
  rintro D1 news1 ⟨vs1, k1, h1, h3⟩ gr1
  have hl1 : vs1.length = 95 := h3.length.trans ascii_len
  repeat' fail "w"
  refine' (withwords_ct (res := stdL) (ys := baseL) ⟨_, _, by fail "mem", lstP, strs_app (strs_app (strs_rep _) h3) (strs_rep _)⟩ (by rw [base_len]; decide) (by k_qdec) (by k_qdec) (by k_qdec) std_run).wR ?_
  rintro D2 news2 hW gr2
  repeat' fail "w"
  exact hK _ _ _ _ (by fail "gr") ⟨rfl, _, rfl, hW⟩
end
end

-- G24
section
section
variable {g : Gp}
theorem differences_ct {D0 l a : Addr} {o : Obj} {ys : List Str} {spot : Int} {ts u : Tok} {nm : Str} {mu news : LedT} (h0 : WordsAt D0 ys news) (hy : ys.length = 256) (hl : (l, o) ∈ news) (P : LstP [.int spot ts, .ref a] o) (hI : Inst 197 a [("text", .str nm u)] news) (h1 : 0 ≤ spot) (h2 : spot ≤ 255) (hn : (nm == (".notdef" : Str)) = false) :
    CtX (GG g) 2 419 [.ref D0, .ref l] mu news (fun r mu' news' => mu' = mu ∧ ∃ D, r = .ref D ∧ WordsAt D (ys.set spot.toNat nm) news') := by
  obtain ⟨vs0, o0, hD0, hP0, hs0⟩ := h0
  have hl0 := hs0.length
  fail "enterW"
  intro K hK Rt
  dsimp only
  repeat' fail "w"
  refine WFor.thaw ?_
  refine WFor.Lz (fun z : Int × Tok × Option Value × Obj => ([("names", some (.ref D0)), ("parts", some (.ref l)), ("laid", some (.ref _)), ("code", some (.int z.1 z.2.1)), ("part", z.2.2.1), ("list", some (.type "list")), ("kind_of", some (.ref 279)), ("FontFault", some (.ref 59)), ("NO_GLYPH", some (.str ".notdef" 696))] : Tab)) (fun z => (_, z.2.2.2) :: mu) (fun i z _ => (i = 0 ∧ LstP vs0 z.2.2.2) ∨ (i = 1 ∧ z.1 = spot ∧ LstP vs0 z.2.2.2) ∨ (i = 2 ∧ ∃ vs : List Value, LstP vs z.2.2.2 ∧ StrsAre vs (ys.set spot.toNat nm))) (-1, _, _, _) hl P rfl rfl (.inl ⟨rfl, lstP⟩) ?_ ?_
  · intro i v z news' K' hT hv hJ gr
    have hI' := hI.gr gr
    rcases hJ with ⟨rfl, hP⟩ | ⟨rfl, e1, hP⟩ | ⟨rfl, _⟩
    · obtain rfl : v = .int spot ts := (Option.some.inj hv).symm
      repeat' fail "w"
      refine' kind_int.wS ?_
      intro t1 news1 gr1
      repeat' fail "w"
      refine ite_decK ?_ ?_ <;> intro h3
      · repeat' fail "w"
        refine ite_decK ?_ ?_ <;> intro h4
        · repeat' fail "w"
          refine hT.next (_, _, _, _) _ _ _ (by fail "tab") (by rfl) (by fail "gr") ?_
          exact (.inr (.inl ⟨rfl, rfl, hP⟩))
        · omega
      · omega
    · obtain rfl : v = .ref a := (Option.some.inj hv).symm
      rw [e1]
      repeat' fail "w"
      refine' (kind_name hI').wS ?_
      intro t1 news1 gr1
      repeat' fail "w"
      refine' (kind_name (hI'.gr gr1)).wS ?_
      intro t2 news2 gr2
      have hI2 := (hI'.gr gr1).gr gr2
      repeat' fail "w"
      refine ite_decK ?_ ?_ <;> intro h3
      · repeat' fail "w"
        refine ite_decK ?_ ?_ <;> intro h4
        · repeat' fail "w"
          refine iteF hn ?_
          repeat' fail "w"
          refine hT.next (_, _, _, _) _ _ _ (by fail "tab") (by rfl) (by fail "gr") ?_
          exact (.inr (.inr ⟨rfl, _, by assumption, strs_set hs0 _ _ _⟩))
        · omega
      · omega
    · cases hv
  · intro z news' hJ gr
    rcases hJ with ⟨h, _⟩ | ⟨h, _⟩ | ⟨_, vs, hP2, hS2⟩
    · cases h
    · cases h
    · refine WP.freeze ?_
      repeat' fail "w"
      exact hK _ _ _ _ (by fail "gr") ⟨rfl, _, rfl, _, _, List.mem_cons_self, hP2, hS2⟩
end
end

-- G25
section
section
variable {g : Gp}
theorem enc_none {a d : Addr} {o : Obj} {kvs : List (Str × Value)} {mu news : LedT} (I : LkAt a news) (hdd : (d, o) ∈ news) (P : DctP (sk g) kvs d o) (hv : (valueAt kvs "Encoding").getD .none = .none) :
    CtX (GG g) 3 424 [.ref a, .ref d] mu news (fun r mu' news' => mu' = mu ∧ ∃ D, r = .ref D ∧ WordsAt D stdL news') := by
  obtain ⟨_, _, Ii⟩ := id I
  fail "enterW"
  intro K hK Rt
  dsimp only
  repeat' fail "w"
  refine' (get_ct I hdd P hv ty_none ne_none).wV ?_
  rintro news1 gr1
  repeat' fail "w"
  refine' base_ct.wR ?_
  rintro D2 news2 hW gr2
  repeat' fail "w"
  exact hK _ _ _ _ (by fail "gr") ⟨rfl, _, rfl, hW⟩
theorem fetch_name {a b : Addr} {fs : List (Str × Value)} {mu news : LedT} (hn : Inst 197 b fs news) : CtX (GG g) 1 308 [.ref a, .ref b] mu news (fun r mu' news' => mu' = mu ∧ r = .ref b) :=
  fetch_ct (ty_inst (xo_197 _) hn) ne_name
theorem enc_dict {a d d2 l b : Addr} {o o2 ol : Obj} {kvs kvs2 : List (Str × Value)} {spot : Int} {ts u : Tok} {nm : Str} {mu news : LedT} (I : LkAt a news) (hdd : (d, o) ∈ news) (P : DctP (sk g) kvs d o) (hv : (valueAt kvs "Encoding").getD .none = .ref d2)
    (hd2 : (d2, o2) ∈ news) (hc : o2.cls = .type "dict") (P2 : DctP (sk g) kvs2 d2 o2) (hb : (valueAt kvs2 "BaseEncoding").getD .none = .none) (hv2 : (valueAt kvs2 "Differences").getD .none = .ref l) (hl : (l, ol) ∈ news) (Pl : LstP [.int spot ts, .ref b] ol) (hI : Inst 197 b [("text", .str nm u)] news) (h1 : 0 ≤ spot) (h2 : spot ≤ 255) (hn : (nm == (".notdef" : Str)) = false) :
    CtX (GG g) 3 424 [.ref a, .ref d] mu news (fun r mu' news' => mu' = mu ∧ ∃ D, r = .ref D ∧ WordsAt D (stdL.set spot.toNat nm) news') := by
  obtain ⟨_, _, Ii⟩ := id I
  have T2 : Ty g (.type "dict") (.ref d2) news := ty_dict hd2 hc
  have T3 : Ty g (.type "list") (.ref l) news := ty_list hl Pl.cls
  fail "enterW"
  intro K hK Rt
  dsimp only
  repeat' fail "w"
  refine' (get_ct I hdd P hv T2 ne_dict).wV ?_
  rintro news1 gr1
  repeat' fail "w"
  refine' (get_ct (I.gr gr1) (gr1.mem hd2) P2 hb ty_none ne_none).wV ?_
  rintro news2 gr2
  repeat' fail "w"
  refine' (get_ct ((I.gr gr1).gr gr2) (gr2.mem (gr1.mem hd2)) P2 hv2 ((T3.gr gr1).gr gr2) ne_list).wV ?_
  rintro news3 gr3
  have gr4 := gr1.trans (gr2.trans gr3)
  have T4 := T3.gr gr4
  repeat' fail "w"
  refine' base_ct.wR ?_
  rintro D2 news4 hW gr5
  repeat' fail "w"
  refine WCo.Lz (fun _ : Unit => mu) (fun i _ ys news' => ys = [Value.int spot ts, .ref b].take i) () (gr5.mem (gr4.mem hl)) Pl (by decide) rfl (Nat.le_of_ble_eq_true rfl) rfl rfl ?_ ?_
  · rintro i v _ ys news' KY KS hE hv rfl gr
    have hI' := ((hI.gr gr4).gr gr5).gr gr
    repeat' fail "w"
    have Ii' := ((Ii.gr gr4).gr gr5).gr gr
    match i, hv with
    | 0, hv =>
      obtain rfl : v = .int spot ts := (Option.some.inj hv).symm
      repeat' fail "w"
      refine' fetch_int.wV ?_
      rintro news6 gr6
      repeat' fail "w"
      refine hE.it () _ _ _ rfl (by fail "gr") ?_
      exact rfl
    | 1, hv =>
      obtain rfl : v = .ref b := (Option.some.inj hv).symm
      repeat' fail "w"
      refine' (fetch_name hI').wV ?_
      rintro news6 gr6
      repeat' fail "w"
      refine hE.it () _ _ _ rfl (by fail "gr") ?_
      exact rfl
    | (i + 2), hv => cases hv
  · rintro D _ ys news' rfl hlen gr
    repeat' fail "w"
    refine' (differences_ct ((hW.gr gr).gr (Gr.refl _).cons) std_len List.mem_cons_self lstP (((((hI.gr gr4).gr gr5).gr gr)).gr (Gr.refl _).cons) h1 h2 hn).wR ?_
    rintro D3 news7 hW2 gr7
    repeat' fail "w"
    exact hK _ _ _ _ (by fail "gr") ⟨rfl, _, rfl, hW2⟩
end
end

-- G26
section
noncomputable abbrev oc (k : String) (i : Int) : Str × PyData := (Str.ofString k, PyData.int i)
noncomputable def otherL : List (Str × PyData) := [oc "Euro" 8364, oc "quotesinglbase" 8218, oc "florin" 402, oc "quotedblbase" 8222, oc "ellipsis" 8230, oc "dagger" 8224, oc "daggerdbl" 8225, oc "circumflex" 710, oc "perthousand" 8240, oc "Scaron" 352, oc "guilsinglleft" 8249, oc "OE" 338, oc "Zcaron" 381, oc "quoteleft" 8216, oc "quoteright" 8217, oc "quotedblleft" 8220, oc "quotedblright" 8221, oc "bullet" 8226, oc "endash" 8211, oc "emdash" 8212, oc "tilde" 732, oc "trademark" 8482, oc "scaron" 353, oc "guilsinglright" 8250, oc "oe" 339, oc "zcaron" 382, oc "Ydieresis" 376, oc "fraction" 8260, oc "fi" 64257, oc "fl" 64258, oc "breve" 728, oc "dotaccent" 729, oc "ring" 730, oc "hungarumlaut" 733, oc "ogonek" 731, oc "caron" 711, oc "Lslash" 321, oc "lslash" 322, oc "dotlessi" 305]
noncomputable abbrev otherD : List (PyData × PyData) := otherL.map fun p => (PyData.str p.1, p.2)
theorem tabObj {prog : Program} {w : World} {h : Heap} {a : Addr} {o : Obj} {D : List (Str × PyData)} (ho : h.get? a = some o) (hl : KTD.tabLook KTD.flatLooks (fun _ => some o) a D = true) (hn : (D.map (·.1)).Nodup) (hh : KTD.hashesOf (fun _ => some o) a = D.map fun p => (PySem.strKind prog w).hash p.1) :
    StrTab prog w h a (D.map fun p => (PyData.str p.1, p.2)) := by
  refine KTD.strTab_of_look prog w (get := fun b => if b = a then some o else none) (fun b o' e => ?_) (by unfold KTD.tabLook at hl ⊢; simpa using hl) hn (by unfold KTD.hashesOf at hh ⊢; simpa using hh)
  split at e
  · rename_i q; subst q; rw [← Option.some.inj e]; exact ho
  · cases e
theorem other_nd : (otherL.map (·.1)).Nodup := by
  have h : decide ((otherL.map (·.1)).Nodup) = true := by k_qdec
  exact of_decide_eq_true h
section
variable {g : Gp}
theorem other_tab {h : Heap} (X : (hd.heap_1 g.w.params).In h) : StrTab PySem.Challenge.pw_og0191_01 g.w h 387 otherD := by
  have e := (by k_is : (hd.heap_1 g.w.params).lookup 387 = some _)
  exact tabObj (X _ _ e) (by kernel_rfl) other_nd (by kernel_rfl)
theorem O.inO {n : Nat} {md : Mode} {r fz : Bool} {R : Tab} {mu news : LedT} {K : Value → LedT → LedT → Prop} {nm : Str} {t : Tok} (h : K (.bool (lookup (.str nm) otherD).isSome) mu news) : WO ⟨g, n, md, r, fz⟩ R mu news (compareOp .In (.str nm t) (.ref 387)) K := fun z s Q I S q =>
  in_strTab (other_tab (I.ok.X.keeps S.F.keep)) (q _ _ _ _ h (S.tok _))
theorem O.itemO {n : Nat} {md : Mode} {r fz : Bool} {R : Tab} {mu news : LedT} {K : Value → LedT → LedT → Prop} {yv : Str} {np : Pos} {slice : Expr} {nm : Str} {t : Tok} {i : Int} (hs : isIdx slice = true) (hl : lookup (.str nm) otherD = some (.int i)) (h : ∀ t, K (.int i t) mu news) : WO ⟨g, n, md, r, fz⟩ R mu news (subscriptTail (.Name yv np) slice (.ref 387) (.str nm t)) K := fun z s Q I S q =>
  item_strTab (other_tab (I.ok.X.keeps S.F.keep)) hl (fun v hf => by obtain ⟨t, rfl⟩ := PyProof.V.Flat.int_inv hf; exact q _ _ _ _ (h t) (S.tok _)) (subs_plain hs) fun _ => rfl
noncomputable def knownC (nm : Str) : Int := if asciiL.any (· == nm) = true then 32 + (asciiL.idxOf nm : Nat) else if latinL.any (· == nm) = true then 161 + (latinL.idxOf nm : Nat) else -1
theorem any_mem {l : List Str} {k : Str} (h : l.any (· == k) = true) : k ∈ l := by
  obtain ⟨a, ha, e⟩ := List.any_eq_true.mp h
  rwa [eq_of_beq e] at ha
theorem latin_len : latinL.length = 95 := by unfold latinL latLow; rw [mapLow_eq]; simp only [List.length_append, List.length_set, List.length_map, lat_len, lat_len2]; rfl
theorem known_in {nm : Str} {t : Tok} {i : Int} {mu news : LedT} (hl : lookup (.str nm) otherD = some (.int i)) : CtX (GG g) 2 445 [.str nm t] mu news (fun r mu' news' => mu' = mu ∧ ∃ t, r = .int i t) := by
  fail "enterW"
  intro K hK Rt
  dsimp only
  repeat' fail "w"
  refine O.inO ?_
  rw [hl, Option.isSome_some]
  repeat' fail "w"
  refine O.itemO rfl hl ?_
  intro t2
  repeat' fail "w"
  exact hK _ _ _ _ (by fail "gr") ⟨rfl, _, rfl⟩
theorem known_out {nm : Str} {t : Tok} {mu news : LedT} (hl : lookup (.str nm) otherD = none) : CtX (GG g) 2 445 [.str nm t] mu news (fun r mu' news' => mu' = mu ∧ ∃ t, r = .int (knownC nm) t) := by
  fail "enterW"
  intro K hK Rt
  dsimp only
  repeat' fail "w"
  refine O.inO ?_
  rw [hl, Option.isSome_none]
  repeat' fail "w"
  refine' ascii_ct.wR ?_
  rintro D1 news1 ⟨vs1, k1, h1, h3⟩ gr1
  repeat' fail "w"
  refine O.inL (by fail "mem") lstP h3 ?_
  cases ha : asciiL.any (· == nm) with
  | true =>
    have e : knownC nm = 32 + (asciiL.idxOf nm : Nat) := if_pos ha
    repeat' fail "w"
    refine O.index (by fail "mem") lstP h3 (any_mem ha) (by rw [ascii_len]; decide) ?_
    intro t4
    repeat' fail "w"
    exact hK _ _ _ _ (by fail "gr") ⟨rfl, _, by rw [e]; rfl⟩
  | false =>
    repeat' fail "w"
    refine' latin_ct.wR ?_
    rintro D2 news2 ⟨vs2, k2, h4, h5⟩ gr2
    repeat' fail "w"
    refine O.inL (by fail "mem") lstP h5 ?_
    cases hb : latinL.any (· == nm) with
    | true =>
      have e : knownC nm = 161 + (latinL.idxOf nm : Nat) := (if_neg (by rw [ha]; exact Bool.false_ne_true)).trans (if_pos hb)
      repeat' fail "w"
      refine O.index (by fail "mem") lstP h5 (any_mem hb) (by rw [latin_len]; decide) ?_
      intro t4
      repeat' fail "w"
      exact hK _ _ _ _ (by fail "gr") ⟨rfl, _, by rw [e]; rfl⟩
    | false =>
      have e : knownC nm = -1 := (if_neg (by rw [ha]; exact Bool.false_ne_true)).trans (if_neg (by rw [hb]; exact Bool.false_ne_true))
      repeat' fail "w"
      exact hK _ _ _ _ (by fail "gr") ⟨rfl, _, by rw [e]; rfl⟩
end
end

-- G27
section
noncomputable def KnownIs (g : Gp) (nm : Str) (k : Int) : Prop := ∀ (t : Tok) (mu news : LedT), CtX (GG g) 2 445 [.str nm t] mu news (fun r mu' news' => mu' = mu ∧ ∃ t, r = .int k t)
noncomputable def PartIs (g : Gp) (nm y : Str) : Prop := ∀ (t : Tok) (mu news : LedT), CtX (GG g) 3 450 [.str nm t] mu news (fun r mu' news' => mu' = mu ∧ ∃ t, r = .str y t)
noncomputable def GlyphIs (g : Gp) (nm y : Str) : Prop := ∀ (t : Tok) (mu news : LedT), CtX (GG g) 4 455 [.str nm t] mu news (fun r mu' news' => mu' = mu ∧ ∃ t, r = .str y t)
section
variable {g : Gp}
theorem part_known {nm : Str} {k : Int} (hk : KnownIs g nm k) (h0 : 0 ≤ k) (h1 : k ≤ 1114111) : PartIs g nm ⟨#[k.toNat]⟩ := by
  intro t mu news
  fail "enterW"
  intro K hK Rt
  dsimp only
  repeat' fail "w"
  refine' (hk _ _ _).wI ?_
  intro t1 news1 gr1
  repeat' fail "w"
  refine ite_decK ?_ ?_ <;> intro h3
  · repeat' fail "w"
    exact hK _ _ _ _ (by fail "gr") ⟨rfl, _, rfl⟩
  · omega
theorem part_g7 (hk : KnownIs g "g7" (-1)) : PartIs g "g7" "" := by
  intro t mu news
  fail "enterW"
  intro K hK Rt
  dsimp only
  repeat' fail "w"
  refine' (hk _ _ _).wI ?_
  intro t1 news1 gr1
  repeat' fail "w"
  refine WSl.S (by decide +kernel) ?_
  intro t2
  rw [show Txt.slice "g7" none (some 3) = "g7" by decide +kernel]
  repeat' fail "w"
  refine WSl.S (by decide +kernel) ?_
  intro t3
  rw [show Txt.slice "g7" none (some 1) = "g" by decide +kernel]
  repeat' fail "w"
  exact hK _ _ _ _ (by fail "gr") ⟨rfl, _, rfl⟩
theorem glyph_ct {nm p0 : Str} {tl ps rs : List Str} (h1 : Txt.split nm "." = p0 :: tl) (h2 : Txt.split p0 "_" = ps) (hp : Paired (fun p r => PartIs g p r) ps rs) (z1 : nm.length ≤ 100) (z2 : p0.length ≤ 100) (z3 : tl.length ≤ 100) (z4 : ps.length ≤ 100) (z5 : (rs.map (·.length)).sum ≤ 1000) : GlyphIs g nm (Txt.join "" rs) := by
  intro t mu news
  fail "enterW"
  intro K hK Rt
  dsimp only
  repeat' fail "w"
  refine O.split1 (by decide +kernel) (by omega) ?_
  intro D1 vs1 hs1
  rw [h1] at hs1
  have hl1 := hs1.length
  cases hs1 with | @cons _ t1 vs1 _ hs1 =>
  repeat' fail "w"
  refine O.split1 (by decide +kernel) (by omega) ?_
  intro D2 vs2 hs2
  rw [h2] at hs2
  have hl2 := hs2.length
  repeat' fail "w"
  refine WCo.Lz (fun _ : Unit => mu) (fun i _ ys news' => StrsAre ys (rs.take i)) () List.mem_cons_self lstP (by decide) rfl (by omega) rfl .nil ?_ ?_
  · rintro i v _ ys news' KY KS hE hv hP gr
    obtain ⟨y, ty, hy, rfl⟩ := strs_get hs2 hv
    obtain ⟨r, hr, hpr⟩ := Paired.get hp hy
    repeat' fail "w"
    refine' (hpr _ _ _).wS ?_
    intro t3 news3 gr3
    repeat' fail "w"
    refine hE.it () _ _ _ rfl (by fail "gr") ?_
    rw [take_snoc hr]
    exact strs_snoc hP
  · rintro D _ ys news' hP hlen gr
    rw [List.take_of_length_le (by rw [hl2, Paired.length hp]; exact Nat.le_refl _)] at hP
    repeat' fail "w"
    refine O.join (by fail "mem") lstP hP (by rw [show (Str.ofString "").length = 0 by decide +kernel]; omega) ?_
    intro t4
    repeat' fail "w"
    exact hK _ _ _ _ (by fail "gr") ⟨rfl, _, rfl⟩
end
end

-- G28
section
noncomputable def one (c : Nat) : Str := ⟨#[c]⟩
noncomputable def okG (nm : Str) (c : Nat) : Bool := (lookup (PyData.str nm) otherD).isNone && decide (knownC nm = (c : Int)) && Nat.ble c 1114111 && (Txt.split nm "." == [nm]) && (Txt.split nm "_" == [nm]) && Nat.ble nm.length 100 && (Txt.join "" [one c] == one c)
theorem std_ok : ((List.range 14).all fun i => okG (stdL.getD (64 + i) "") (64 + i)) = true := by unfold okG knownC stdL baseL latinL asciiL latLow; k_qdec
theorem lat_ok : okG "eacute" 233 = true := by unfold okG knownC latinL asciiL latLow; k_qdec
theorem A_ok : okG "A" 65 = true := by unfold okG knownC latinL asciiL latLow; k_qdec
theorem B_ok : okG "B" 66 = true := by unfold okG knownC latinL asciiL latLow; k_qdec
theorem fi_in : lookup (PyData.str "fi") otherD = some (.int 64257) := by kernel_rfl
theorem g7_ok : ((lookup (PyData.str "g7") otherD).isNone && decide (knownC "g7" = -1)) = true := by unfold knownC latinL asciiL latLow; k_qdec
section
variable {g : Gp}
theorem part_ok {nm : Str} {c : Nat} (h : okG nm c = true) : PartIs g nm (one c) ∧ Txt.split nm "." = [nm] ∧ Txt.split nm "_" = [nm] ∧ nm.length ≤ 100 ∧ Txt.join "" [one c] = one c := by
  unfold okG at h
  simp only [Bool.and_eq_true] at h
  obtain ⟨⟨⟨⟨⟨⟨h1, h2⟩, h3⟩, h4⟩, h5⟩, h6⟩, h7⟩ := h
  refine ⟨?_, eq_of_beq h4, eq_of_beq h5, Nat.le_of_ble_eq_true h6, eq_of_beq h7⟩
  have hk : KnownIs g nm (c : Int) := fun t mu news => by
    have := known_out (g := g) (t := t) (mu := mu) (news := news) (Option.isNone_iff_eq_none.mp h1)
    rwa [of_decide_eq_true h2] at this
  exact part_known hk (by omega) (by have := Nat.le_of_ble_eq_true h3; omega)
theorem glyph_ok {nm : Str} {c : Nat} (h : okG nm c = true) : GlyphIs g nm (one c) := by
  obtain ⟨h1, h2, h3, h4, h5⟩ := part_ok (g := g) h
  rw [← h5]
  exact glyph_ct h2 h3 (.cons h1 .nil) h4 h4 (by simp) (by simp) (Nat.le_of_ble_eq_true rfl)
theorem glyph_std {c : Nat} (h1 : 64 ≤ c) (h2 : c ≤ 77) : GlyphIs g (stdL.getD c "") (one c) := by
  have := List.all_eq_true.mp std_ok (c - 64) (List.mem_range.mpr (by omega))
  rw [show 64 + (c - 64) = c by omega] at this
  exact glyph_ok this
theorem glyph_eacute : GlyphIs g "eacute" (one 233) := glyph_ok lat_ok
theorem glyph_fi : GlyphIs g "fi" (one 64257) := by
  have hp : PartIs g "fi" (one 64257) := part_known (k := 64257) (fun t mu news => known_in fi_in) (by decide) (by decide)
  have := glyph_ct (g := g) (nm := "fi") (p0 := "fi") (tl := []) (ps := ["fi"]) (by decide +kernel) (by decide +kernel) (.cons hp .nil) (by decide +kernel) (by decide +kernel) (by decide) (by decide) (by decide)
  rwa [show Txt.join "" [one 64257] = one 64257 by decide +kernel] at this
theorem glyph_g7 : GlyphIs g "g7" "" := by
  have h := g7_ok
  rw [Bool.and_eq_true] at h
  have hk : KnownIs g "g7" (-1) := fun t mu news => by
    have := known_out (g := g) (t := t) (mu := mu) (news := news) (Option.isNone_iff_eq_none.mp h.1)
    rwa [of_decide_eq_true h.2] at this
  have := glyph_ct (g := g) (nm := "g7") (p0 := "g7") (tl := []) (ps := ["g7"]) (by decide +kernel) (by decide +kernel) (.cons (part_g7 hk) .nil) (by decide +kernel) (by decide +kernel) (by decide) (by decide) (by decide +kernel)
  rwa [show Txt.join "" [("" : Str)] = "" by decide +kernel] at this
theorem glyph_AB : GlyphIs g "A_B.alt" "AB" := by
  have := glyph_ct (g := g) (nm := "A_B.alt") (p0 := "A_B") (tl := ["alt"]) (ps := ["A", "B"]) (by decide +kernel) (by decide +kernel) (.cons (part_ok A_ok).1 (.cons (part_ok B_ok).1 .nil)) (by decide +kernel) (by decide +kernel) (by decide) (by decide) (by decide)
  rwa [show Txt.join "" [one 65, one 66] = "AB" by decide +kernel] at this
end
end

-- G29
section
noncomputable abbrev FontF (v1 v2 v3 v4 v5 v6 v7 : Value) : List (Str × Value) := [("names", v1), ("cutting", v2), ("unicode", v3), ("rows", v4), ("default", v5), ("unit", v6), ("standard", v7)]
structure FontW (g : Gp) (a : Addr) (v1 v2 v3 : Value) (rows : List (Int × Int × List Value)) (d : Value) (ut : Int) (up : Nat) (news : LedT) : Prop where
  ex : ∃ l nn ys u st, Inst 587 a (FontF v1 v2 v3 (.ref l) d (.ref u) (.ref st)) news ∧ (l, lstO ys nn) ∈ news ∧ Paired (fun y r => RowAt y r news) ys rows ∧ (st, tupO []) ∈ news ∧ DecAt u ut up news
section
variable {g : Gp}
theorem FontW.gr {a : Addr} {v1 v2 v3 : Value} {rows : List (Int × Int × List Value)} {d : Value} {ut : Int} {up : Nat} {l l' : LedT} (gr : Gr l l') (h : FontW g a v1 v2 v3 rows d ut up l) : FontW g a v1 v2 v3 rows d ut up l' := by
  obtain ⟨l0, nn, ys, u, st, h1, h2, h3, h4, h5⟩ := h.ex
  exact ⟨l0, nn, ys, u, st, h1.gr gr, gr.mem h2, h3.mono fun _ _ h => h.gr gr, gr.mem h4, h5.gr gr⟩
theorem width_ct {a : Addr} {v1 cutv v3 d pv : Value} {rows : List (Int × Int × List Value)} {ut top : Int} {up tp : Nat} {p : Int × Int} {code : Int} {sps : List (Nat × Int × Int)} {cids : List CidR} {mu news : LedT}
    (W : FontW g a v1 cutv v3 rows d ut up news) (hp : PairAt pv p news) (hcut : (cutv = .none ∧ code = p.2) ∨ (CutAt cutv sps cids news ∧ code = cidOf cids p))
    (hz : rows.length ≤ 1000) (hok : ∀ r ∈ rows, ((r.2.2.length : Int) = r.2.1 - r.1 + 1 ∨ 0 < r.2.2.length) ∧ r.2.2.length ≤ 1000) (hn : NumAt (widthIn rows code d) top tp news) (hm : IntMulOk top ut) (hd : handedIn d = true) :
    CtX (GG g) 3 577 [.ref a, pv] mu news (fun r mu' news' => mu' = mu ∧ ∃ y, r = .ref y ∧ DecAt y (norm (top * ut) (tp + up)).1 (norm (top * ut) (tp + up)).2 news') := by
  obtain ⟨l, nn, ys, u, st, I, hl, hr, hst, hu⟩ := W.ex
  obtain ⟨pa, t1, t2, rfl, hp0⟩ := id hp
  have hlen := Paired.length hr
  fail "enterW"
  intro K hK Rt
  dsimp only
  repeat' fail "w"
  rcases hcut with ⟨rfl, rfl⟩ | ⟨hc, rfl⟩
  · repeat' fail "w"
    refine' (widthin_ct hl hr (by omega) hok).wV ?_
    intro news1 gr1
    repeat' fail "w"
    refine' (decof_num (hn.gr gr1)).wR ?_
    intro y news2 hy gr2
    obtain ⟨_, _, Iy⟩ := id hy
    repeat' fail "w"
    refine' (times_ct hy ((hu.gr gr1).gr gr2) hm).wR ?_
    intro y2 news3 hy2 gr3
    repeat' fail "w"
    exact hK _ _ _ _ (by fail "gr") ⟨rfl, _, rfl, hy2⟩
  · obtain ⟨ct, cm, sp, ch, n2, ys2, rl, k2, rs, rfl, c1, c2, c3, c4, c5, c6⟩ := id hc
    repeat' fail "w"
    refine' (cidof_ct c5 c6 hp).wI ?_
    intro t4 news0 gr0
    repeat' fail "w"
    refine' (widthin_ct (gr0.mem hl) (hr.mono fun _ _ h => h.gr gr0) (by omega) hok).wV ?_
    intro news1 gr1
    repeat' fail "w"
    refine' (decof_num ((hn.gr gr0).gr gr1)).wR ?_
    intro y news2 hy gr2
    obtain ⟨_, _, Iy⟩ := id hy
    repeat' fail "w"
    refine' (times_ct hy (((hu.gr gr0).gr gr1).gr gr2) hm).wR ?_
    intro y2 news3 hy2 gr3
    repeat' fail "w"
    exact hK _ _ _ _ (by fail "gr") ⟨rfl, _, rfl, hy2⟩
end
end

-- G30
section
noncomputable def UniAt (g : Gp) (v : Value) (D : List (PyData × PyData)) (news : LedT) : Prop :=
  (v = .none ∧ D = []) ∨ ∃ cm sp ch, v = .ref cm ∧ Inst 344 cm [("spaces", sp), ("chars", .ref ch)] news ∧ Chs PySem.Challenge.pw_og0191_01 g.w ch D news
section
variable {g : Gp}
theorem UniAt.gr {v : Value} {D : List (PyData × PyData)} {l l' : LedT} (gr : Gr l l') (h : UniAt g v D l) : UniAt g v D l' := by
  rcases h with h | ⟨cm, sp, ch, e, h1, h2⟩
  · exact .inl h
  · exact .inr ⟨cm, sp, ch, e, h1.gr gr, h2.gr gr⟩
theorem text_simple {a dn : Addr} {v3 v4 v5 v6 v7 pv : Value} {D : List (PyData × PyData)} {ns : List Str} {p : Int × Int} {nm y : Str} {mu news : LedT}
    (I : Inst 587 a (FontF (.ref dn) .none v3 v4 v5 v6 v7) news) (U : UniAt g v3 D news) (hD : StrVals D) (W : WordsAt dn ns news) (hp : PairAt pv p news) (h0 : 0 ≤ p.2) (hz : ns.length ≤ 1000) (hnm : ns[p.2.toNat]? = some nm) (hg : GlyphIs g nm y) :
    CtX (GG g) 5 584 [.ref a, pv] mu news (fun r mu' news' => mu' = mu ∧ ∃ t, r = .str ((chAt D p).getD y) t) := by
  obtain ⟨pa, t1, t2, rfl, hp0⟩ := id hp
  obtain ⟨vn, on, w1, w2, w3⟩ := W
  obtain ⟨tn, hvn⟩ := strs_get' w3 hnm
  have hl := w3.length
  have hlt : p.2.toNat < ns.length := (List.getElem?_eq_some_iff.mp hnm).1
  fail "enterW"
  intro K hK Rt
  dsimp only
  rcases U with ⟨rfl, rfl⟩ | ⟨cm, sp, ch, rfl, u1, u2⟩
  · repeat' fail "w"
    refine O.item rfl (by fail "mem") w2 h0 (by omega) hvn ?_
    repeat' fail "w"
    refine' (hg _ _ _).wS ?_
    intro t4 news1 gr1
    repeat' fail "w"
    exact hK _ _ _ _ (by fail "gr") ⟨rfl, _, rfl⟩
  · repeat' fail "w"
    cases hin : (Spec.lookup (encI p) D).isSome with
    | true =>
      obtain ⟨y', h1, h2, h3⟩ := chAt_some hD hin
      repeat' fail "w"
      refine O.chItem rfl u2 p (by fail "mem") h1 ?_
      intro t5
      repeat' fail "w"
      exact hK _ _ _ _ (by fail "gr") ⟨rfl, _, by rw [h2]; rfl⟩
    | false =>
      have h1 := chAt_none hin
      repeat' fail "w"
      refine O.item rfl (by fail "mem") w2 h0 (by omega) hvn ?_
      repeat' fail "w"
      refine' (hg _ _ _).wS ?_
      intro t4 news1 gr1
      repeat' fail "w"
      exact hK _ _ _ _ (by fail "gr") ⟨rfl, _, by rw [h1]; rfl⟩
theorem text_wide {a cut : Addr} {v1 v3 v4 v5 v6 v7 pv : Value} {D : List (PyData × PyData)} {p : Int × Int} {mu news : LedT}
    (I : Inst 587 a (FontF v1 (.ref cut) v3 v4 v5 v6 v7) news) (U : UniAt g v3 D news) (hD : StrVals D) (hp : PairAt pv p news) :
    CtX (GG g) 5 584 [.ref a, pv] mu news (fun r mu' news' => mu' = mu ∧ ∃ t, r = .str ((chAt D p).getD "") t) := by
  obtain ⟨pa, t1, t2, rfl, hp0⟩ := id hp
  fail "enterW"
  intro K hK Rt
  dsimp only
  rcases U with ⟨rfl, rfl⟩ | ⟨cm, sp, ch, rfl, u1, u2⟩
  · repeat' fail "w"
    exact hK _ _ _ _ (by fail "gr") ⟨rfl, _, rfl⟩
  · repeat' fail "w"
    cases hin : (Spec.lookup (encI p) D).isSome with
    | true =>
      obtain ⟨y', h1, h2, h3⟩ := chAt_some hD hin
      repeat' fail "w"
      refine O.chItem rfl u2 p (by fail "mem") h1 ?_
      intro t5
      repeat' fail "w"
      exact hK _ _ _ _ (by fail "gr") ⟨rfl, _, by rw [h2]; rfl⟩
    | false =>
      have h1 := chAt_none hin
      repeat' fail "w"
      exact hK _ _ _ _ (by fail "gr") ⟨rfl, _, by rw [h1]; rfl⟩
end
end

-- G31
section
structure FontOk (g : Gp) (a : Addr) (b : Array UInt8) (cs : List (Int × Int)) (wd : Int × Int → Int × Nat) (tx : Int × Int → Str) (l : LedT) : Prop where
  inst : ∃ v1 v2 v3 v4 v5 v6 v7, Inst 587 a (FontF v1 v2 v3 v4 v5 v6 v7) l
  codes : ∀ (news mu : LedT) (tb : Tok), Gr l news → CtX (GG g) 5 570 [.ref a, .bytes b tb] mu news (fun r mu' news' => mu' = mu ∧ ∃ D, r = .ref D ∧ ∃ rs k, (D, lstO rs k) ∈ news' ∧ Paired (fun y p => PairAt y p news') rs cs)
  width : ∀ (news mu : LedT) (pv : Value) (p : Int × Int), Gr l news → p ∈ cs → PairAt pv p news → CtX (GG g) 3 577 [.ref a, pv] mu news (fun r mu' news' => mu' = mu ∧ ∃ y, r = .ref y ∧ DecAt y (wd p).1 (wd p).2 news')
  text : ∀ (news mu : LedT) (pv : Value) (p : Int × Int), Gr l news → p ∈ cs → PairAt pv p news → CtX (GG g) 5 584 [.ref a, pv] mu news (fun r mu' news' => mu' = mu ∧ ∃ t, r = .str (tx p) t)
  small : ∀ p ∈ cs, (wd p).2 ≤ 12
  short : ∀ p ∈ cs, (tx p).length ≤ 100
  len : cs.length ≤ 100
theorem FontOk.gr {g : Gp} {a : Addr} {b : Array UInt8} {cs : List (Int × Int)} {wd : Int × Int → Int × Nat} {tx : Int × Int → Str} {l l' : LedT} (gr : Gr l l') (F : FontOk g a b cs wd tx l) : FontOk g a b cs wd tx l' :=
  ⟨let ⟨v1, v2, v3, v4, v5, v6, v7, h⟩ := F.inst; ⟨v1, v2, v3, v4, v5, v6, v7, h.gr gr⟩, fun n m t h => F.codes n m t (gr.trans h), fun n m v p h => F.width n m v p (gr.trans h), fun n m v p h => F.text n m v p (gr.trans h), F.small, F.short, F.len⟩
theorem sumW_le {ws : List (Int × Nat)} (h : ∀ w ∈ ws, w.2 ≤ 12) : (sumW ws).2 ≤ 12 := by rw [sumW_eq ws h]; exact (norm_bound 12 _).1
theorem sumW_snoc (ws : List (Int × Nat)) (w : Int × Nat) : sumW (ws ++ [w]) = addW (sumW ws) w := by unfold sumW; rw [List.foldl_append]; rfl
theorem len_sum {l : List Str} {k : Nat} (h : ∀ y ∈ l, y.length ≤ k) : (l.map (·.length)).sum ≤ l.length * k := by
  induction l with
  | nil => simp
  | cons a r ih =>
    have h1 := h a List.mem_cons_self
    have h2 := ih fun y hy => h y (List.mem_cons_of_mem _ hy)
    simp only [List.map_cons, List.sum_cons, List.length_cons, Nat.succ_mul]
    omega
section
variable {g : Gp}
theorem swidth_ct {a : Addr} {b : Array UInt8} {tb : Tok} {cs : List (Int × Int)} {wd : Int × Int → Int × Nat} {tx : Int × Int → Str} {mu news : LedT} (F : FontOk g a b cs wd tx news) :
    CtX (GG g) 6 598 [.ref a, .bytes b tb] mu news (fun r mu' news' => mu' = mu ∧ ∃ y, r = .ref y ∧ DecAt y (sumW (cs.map wd)).1 (sumW (cs.map wd)).2 news') := by
  obtain ⟨v1, v2, v3, v4, v5, v6, v7, I⟩ := F.inst
  fail "enterW"
  intro K hK Rt
  dsimp only
  repeat' fail "w"
  refine' (dec_ct (p := 0)).wR ?_
  intro y0 news1 hy0 gr1
  repeat' fail "w"
  refine' (F.codes _ _ _ gr1).wR ?_
  rintro D news2 ⟨rs, k, hD, hP⟩ gr2
  repeat' fail "w"
  refine WFor.Lz (fun z : Addr × Option Value => ([("font", some (.ref a)), ("octets", some (.bytes b tb)), ("total", some (.ref z.1)), ("pair", z.2), ("Decimal", some (.ref 155))] : Tab)) (fun z => mu) (fun i z news' => DecAt z.1 (sumW ((cs.map wd).take i)).1 (sumW ((cs.map wd).take i)).2 news') (y0, _) hD lstP rfl rfl (hy0.gr gr2) ?_ ?_
  · rintro i v z1 news' K' hT hv hy gr
    obtain ⟨p, hp, hPv⟩ := Paired.get hP hv
    have hmem : p ∈ cs := List.mem_of_getElem? hp
    have gr3 := (gr1.trans gr2).trans gr
    have hPv' := hPv.gr gr
    have I' := I.gr gr3
    obtain ⟨_, _, Iy⟩ := id hy
    have hw : (cs.map wd)[i]? = some (wd p) := by rw [List.getElem?_map, hp]; rfl
    have h12 : ∀ w ∈ (cs.map wd).take i, w.2 ≤ 12 := by
      intro w hw
      obtain ⟨q, hq, rfl⟩ := List.mem_map.mp (List.mem_of_mem_take hw)
      exact F.small q hq
    repeat' fail "w"
    refine' (F.width _ _ _ _ gr3 hmem hPv').wR ?_
    intro y2 news4 hy2 gr4
    repeat' fail "w"
    refine' (plus_ct (hy.gr gr4) hy2 (sumW_le h12) (F.small p hmem)).wR ?_
    intro y3 news5 hy3 gr5
    repeat' fail "w"
    refine hT.next (y3, _) _ _ _ (by fail "tab") (by rfl) (by fail "gr") ?_
    rw [take_snoc hw, sumW_snoc]
    exact hy3
  · rintro z2 news' hy gr
    rw [List.take_of_length_le (by rw [List.length_map, Paired.length hP]; exact Nat.le_refl _)] at hy
    repeat' fail "w"
    exact hK _ _ _ _ (by fail "gr") ⟨rfl, _, rfl, hy⟩
theorem stext_ct {a : Addr} {b : Array UInt8} {tb : Tok} {cs : List (Int × Int)} {wd : Int × Int → Int × Nat} {tx : Int × Int → Str} {mu news : LedT} (F : FontOk g a b cs wd tx news) :
    CtX (GG g) 6 603 [.ref a, .bytes b tb] mu news (fun r mu' news' => mu' = mu ∧ ∃ t, r = .str (Txt.join "" (cs.map tx)) t) := by
  obtain ⟨v1, v2, v3, v4, v5, v6, v7, I⟩ := F.inst
  fail "enterW"
  intro K hK Rt
  dsimp only
  repeat' fail "w"
  refine' (F.codes _ _ _ (Gr.refl _)).wR ?_
  rintro D news2 ⟨rs, k, hD, hP⟩ gr2
  have hlen := Paired.length hP
  have hlen2 := F.len
  repeat' fail "w"
  refine WCo.Lz (fun _ : Unit => mu) (fun i _ ys news' => StrsAre ys ((cs.map tx).take i)) () hD lstP (by decide) rfl (by omega) rfl .nil ?_ ?_
  · rintro i v _ ys news' KY KS hE hv hS gr
    obtain ⟨p, hp, hPv⟩ := Paired.get hP hv
    have hmem : p ∈ cs := List.mem_of_getElem? hp
    have hPv' := hPv.gr gr
    have gr3 := gr2.trans gr
    have I' := I.gr gr3
    have hw : (cs.map tx)[i]? = some (tx p) := by rw [List.getElem?_map, hp]; rfl
    repeat' fail "w"
    refine' (F.text _ _ _ _ gr3 hmem hPv').wS ?_
    intro t4 news4 gr4
    repeat' fail "w"
    refine hE.it () _ _ _ rfl (by fail "gr") ?_
    rw [take_snoc hw]
    exact strs_snoc hS
  · rintro D _ ys news' hS hl gr
    rw [List.take_of_length_le (by rw [List.length_map, hlen]; exact Nat.le_refl _)] at hS
    repeat' fail "w"
    have hsum := len_sum (l := cs.map tx) (k := 100) (fun y hy => by obtain ⟨q, hq, rfl⟩ := List.mem_map.mp hy; exact F.short q hq)
    refine O.join (by fail "mem") lstP hS (by rw [show (Str.ofString "").length = 0 by decide +kernel]; rw [List.length_map] at hsum; omega) ?_
    intro t5
    repeat' fail "w"
    exact hK _ _ _ _ (by fail "gr") ⟨rfl, _, rfl⟩
end
end

-- P3
section
open PySem PySem.W
noncomputable def isOct (o : Int) : Prop := 0 ≤ o ∧ o ≤ 255
theorem o20 : octs 2 0 = [0, 0] := by decide +kernel
theorem o2f : octs 2 65535 = [255, 255] := by decide +kernel
theorem o10 : octs 1 0 = [0] := by decide +kernel
theorem o1f : octs 1 127 = [127] := by decide +kernel
theorem o28 : octs 2 32768 = [128, 0] := by decide +kernel
noncomputable abbrev spI : List (Nat × Int × Int) := [(2, 0, 65535)]
noncomputable abbrev spM : List (Nat × Int × Int) := [(1, 0, 127), (2, 32768, 65535)]
theorem spI_ok : ∀ p ∈ spI, SpOk p := by
  intro p hp
  rcases List.mem_cons.mp hp with rfl | hp
  · exact ⟨.inr rfl, by rw [o20]; decide, by rw [o2f]; decide⟩
  · cases hp
theorem spM_ok : ∀ p ∈ spM, SpOk p := by
  intro p hp
  rcases List.mem_cons.mp hp with rfl | hp
  · exact ⟨.inl rfl, by rw [o10]; decide, by rw [o1f]; decide⟩
  rcases List.mem_cons.mp hp with rfl | hp
  · exact ⟨.inr rfl, by rw [o28]; decide, by rw [o2f]; decide⟩
  · cases hp
theorem nextI {a : Int} {r : List Int} {M : Int} (ha : isOct a) (hr : ∀ o ∈ r, isOct o) (h : NextLen spI (a :: r) M) : M = 2 := by
  unfold NextLen at h
  dsimp only at h
  split at h
  · obtain ⟨most, _, _, h⟩ := h
    obtain ⟨q, hq, rfl⟩ := List.mem_map.mp h
    obtain ⟨p, hp, rfl⟩ := List.mem_map.mp (List.mem_filter.mp hq).1
    rcases List.mem_cons.mp hp with rfl | hp
    · rfl
    · cases hp
  · obtain ⟨q, hq, rfl⟩ := List.mem_map.mp h.1
    obtain ⟨p, hp, rfl⟩ := List.mem_map.mp (List.mem_filter.mp hq).1
    rcases List.mem_cons.mp hp with rfl | hp
    · rfl
    · cases hp
theorem fitM1 {a : Int} {r : List Int} (ha : isOct a) : fitOf 1 0 127 (a :: r) = if a < 128 then 1 else 0 := by
  unfold fitOf
  rw [o10, o1f]
  obtain ⟨h0, h1⟩ := ha
  show (if 0 ≤ a ∧ a ≤ 127 then fitL [] [] r + 1 else 0) = _
  rw [fitL_nil1]
  split <;> split <;> omega
theorem fitM2 {a : Int} {r : List Int} (ha : isOct a) (hr : ∀ o ∈ r, isOct o) : fitOf 2 32768 65535 (a :: r) = if a < 128 then 0 else if r = [] then 1 else 2 := by
  unfold fitOf
  rw [o28, o2f]
  obtain ⟨h0, h1⟩ := ha
  show (if 128 ≤ a ∧ a ≤ 255 then fitL [0] [255] r + 1 else 0) = _
  by_cases q : a < 128
  · rw [if_neg (by omega), if_pos q]
  · rw [if_pos (by omega), if_neg q]
    cases r with
    | nil => rfl
    | cons b r =>
      obtain ⟨b0, b1⟩ := hr b List.mem_cons_self
      show (if 0 ≤ b ∧ b ≤ 255 then fitL [] [] r + 1 else 0) + 1 = _
      rw [if_pos ⟨b0, b1⟩, fitL_nil1, if_neg (List.cons_ne_nil _ _)]
theorem nextM {a : Int} {r : List Int} {M : Int} (ha : isOct a) (hr : ∀ o ∈ r, isOct o) (h : NextLen spM (a :: r) M) : M = if a < 128 then 1 else 2 := by
  unfold NextLen at h
  have e : spM.map (fitP (a :: r)) = [(((fitOf 1 0 127 (a :: r) : Nat) : Int), 1), (((fitOf 2 32768 65535 (a :: r) : Nat) : Int), 2)] := rfl
  rw [e, fitM1 ha, fitM2 ha hr] at h
  by_cases q : a < 128
  · rw [if_pos q] at h ⊢
    rw [if_pos q] at h
    simp at h
    exact h.1
  · rw [if_neg q] at h ⊢
    rw [if_neg q] at h
    by_cases hn : r = []
    · rw [if_pos hn] at h
      dsimp only at h
      have e2 : (List.filter (fun q : Int × Int => q.1 == q.2) [(((0 : Nat) : Int), 1), (((1 : Nat) : Int), 2)]) = [] := by decide
      rw [e2, if_pos rfl] at h
      obtain ⟨most, h1, h2, h3⟩ := h
      have hm : most = 1 := by
        have := h2 1 (by simp)
        simp at h1
        omega
      subst hm
      simpa using h3
    · rw [if_neg hn] at h
      simp at h
      exact h.1
theorem split_I {os : List Int} {cs : List (Int × Int)} (h : Split spI os cs) : (∀ o ∈ os, isOct o) → cs = lawCut false os := by
  induction h with
  | nil => intro _; rfl
  | @cons os M rest hne hM h0 r ih =>
    intro ho
    cases os with
    | nil => exact absurd rfl hne
    | cons a os =>
      have hM2 : M = 2 := by
        refine nextI (ho a List.mem_cons_self) (r := os.take 3) (fun o h => ho o (List.mem_cons_of_mem _ (List.mem_of_mem_take h))) ?_
        simpa using hM
      subst hM2
      cases os with
      | nil =>
        have := ih (fun o h => ho o (List.mem_of_mem_drop h))
        simp at this ⊢
        rw [this]
        simp [lawCut, codeOf]
      | cons b os =>
        have := ih (fun o h => ho o (List.mem_of_mem_drop h))
        simp at this ⊢
        rw [this]
        simp [lawCut, codeOf]
theorem split_M {os : List Int} {cs : List (Int × Int)} (h : Split spM os cs) : (∀ o ∈ os, isOct o) → cs = lawCut true os := by
  induction h with
  | nil => intro _; rfl
  | @cons os M rest hne hM h0 r ih =>
    intro ho
    cases os with
    | nil => exact absurd rfl hne
    | cons a os =>
      have hM2 : M = if a < 128 then 1 else 2 := by
        refine nextM (ho a List.mem_cons_self) (r := os.take 3) (fun o h => ho o (List.mem_cons_of_mem _ (List.mem_of_mem_take h))) ?_
        simpa using hM
      have := ih (fun o h => ho o (List.mem_of_mem_drop h))
      by_cases q : a < 128
      · rw [if_pos q] at hM2
        subst hM2
        cases os with
        | nil =>
          simp at this ⊢
          rw [this]
          simp [lawCut, codeOf]
        | cons b os =>
          simp at this ⊢
          rw [this]
          simp [lawCut, codeOf, q]
      · rw [if_neg q] at hM2
        subst hM2
        cases os with
        | nil =>
          simp at this ⊢
          rw [this]
          simp [lawCut, codeOf]
        | cons b os =>
          simp at this ⊢
          rw [this]
          simp [lawCut, codeOf, q]
end

-- G32
section
section
variable {g : Gp}
theorem codes_wide {a : Addr} {v1 cutv v3 v4 v5 v6 v7 : Value} {sps : List (Nat × Int × Int)} {cids : List CidR} {b : Array UInt8} {tb : Tok} {cs : List (Int × Int)} {mu news : LedT}
    (I : Inst 587 a (FontF v1 cutv v3 v4 v5 v6 v7) news) (hc : CutAt cutv sps cids news) (ho : ∀ p ∈ sps, SpOk p) (hne : sps ≠ []) (hy : sps.length ≤ 1000) (hz : b.size ≤ 10000) (hcs : ∀ cs', Split sps (KBw.bInts b) cs' → cs' = cs) :
    CtX (GG g) 5 570 [.ref a, .bytes b tb] mu news (fun r mu' news' => mu' = mu ∧ ∃ D, r = .ref D ∧ ∃ rs k, (D, lstO rs k) ∈ news' ∧ Paired (fun y p => PairAt y p news') rs cs) := by
  obtain ⟨ct, cm, sp, ch, n2, ys2, rl, k2, rs2, rfl, c1, c2, c3, c4, c5, c6⟩ := hc
  have hl := Paired.length c4
  fail "enterW"
  intro K hK Rt
  dsimp only
  repeat' fail "w"
  refine' (splitcodes_ct (ch := 0) c2 c3 c4 ho (by rintro rfl; cases c4; exact hne rfl) (by omega) hz).w ?_
  rintro _ _ r mu' news1 ⟨rfl, D, rs, k, codes, rfl, h1, h2, h3⟩ gr1
  obtain rfl := hcs _ h2
  repeat' fail "w"
  exact hK _ _ _ _ (by fail "gr") ⟨rfl, _, rfl, _, _, h1, h3⟩
theorem codes_simp {a : Addr} {v1 v3 v4 v5 v6 v7 : Value} {b : Array UInt8} {tb : Tok} {mu news : LedT} (I : Inst 587 a (FontF v1 .none v3 v4 v5 v6 v7) news) (hz : b.size ≤ 1000) :
    CtX (GG g) 5 570 [.ref a, .bytes b tb] mu news (fun r mu' news' => mu' = mu ∧ ∃ D, r = .ref D ∧ ∃ rs k, (D, lstO rs k) ∈ news' ∧ Paired (fun y p => PairAt y p news') rs ((KBw.bInts b).map fun o => (1, o))) :=
  ((codes_simple I hz).up (by decide)).mono fun r mu' ext hh => by obtain ⟨h1, l, ys, nn, h2, h3, h4⟩ := hh; exact ⟨h1, l, h2, ys, nn, h3, h4⟩
theorem simple_ct {a d dn d2 l lD b2 : Addr} {o ol o2 olD : Obj} {kvs kvs2 : List (Str × Value)} {vs : List Value} {ws : List (Int × Nat)} {first spot mt ut : Int} {t0 ts u : Tok} {nm : Str} {uni : Value} {mp up : Nat} {mu news : LedT}
    (I : LkAt a news) (hdd : (d, o) ∈ news) (P : DctP (sk g) kvs d o)
    (hv : (valueAt kvs "Widths").getD .none = .ref l) (hl : (l, ol) ∈ news) (Pl : LstP vs ol) (hne : vs ≠ []) (hlen : vs.length ≤ 100) (hw : Paired (fun v w => NumAt v w.1 w.2 news) vs ws) (hf : (valueAt kvs "FirstChar").getD .none = .int first t0) (h0 : 0 ≤ first)
    (he : (valueAt kvs "Encoding").getD .none = .ref d2) (hd2 : (d2, o2) ∈ news) (hc : o2.cls = .type "dict") (P2 : DctP (sk g) kvs2 d2 o2) (hb : (valueAt kvs2 "BaseEncoding").getD .none = .none) (hv2 : (valueAt kvs2 "Differences").getD .none = .ref lD) (hlD : (lD, olD) ∈ news) (PlD : LstP [.int spot ts, .ref b2] olD) (hI : Inst 197 b2 [("text", .str nm u)] news) (h1 : 0 ≤ spot) (h2 : spot ≤ 255) (hn : (nm == (".notdef" : Str)) = false)
    (hm : ∀ mu' news', Gr news news' → CtX (GG g) 4 530 [.ref a, .ref d] mu' news' (fun r mu2 news2 => mu2 = mu' ∧ NumAt r mt mp news2))
    (hu : ∀ mu' news', Gr news news' → CtX (GG g) 4 537 [.ref a, .ref d] mu' news' (fun r mu2 news2 => mu2 = mu' ∧ ∃ y, r = .ref y ∧ DecAt y ut up news2)) :
    CtX (GG g) 5 611 [.ref a, .ref d, uni] mu news (fun r mu' news' => mu' = mu ∧ ∃ f, r = .ref f ∧ ∃ dn vm, NumAt vm mt mp news' ∧ FontW g f (.ref dn) .none uni [(first, first + (vs.length : Int) - 1, vs)] vm ut up news' ∧ WordsAt dn (stdL.set spot.toNat nm) news') := by
  refine' enterWD ([.ref a, .ref d, uni]) ?lk ?cd ?ini ?bd ?nd ?db ?a ?b ?c ?_; (case lk => k_is); (case cd => k_is); (case ini => fail "init"); (case bd => exact fun _ X => binds_K X rfl (by k_is) rfl rfl rfl); (case nd => decide +kernel); (case db => decide +kernel); (case a => rfl); (case b => rfl); (case c => rfl)
  intro K hK Rt
  dsimp only
  repeat' fail "w"
  refine' (simplerows_ct I hdd P hv hl Pl hne hlen hw hf h0).w ?_
  rintro _ _ r mu' news1 ⟨rfl, l2, row, rows, nn, nn2, t, u, rfl, r1, r2, r3⟩ gr1
  repeat' fail "w"
  refine' (enc_dict (I.gr (by fail "gr")) (Gr.mem (by fail "gr") hdd) P he (Gr.mem (by fail "gr") hd2) hc P2 hb hv2 (Gr.mem (by fail "gr") hlD) PlD (hI.gr (by fail "gr")) h1 h2 hn).wR ?_
  intro dn' news2 hW gr2
  have gr3 : Gr news news2 := (gr1.trans (Gr.refl _).cons).trans gr2
  repeat' fail "w"
  refine' (hm _ _ gr3).wM ?_
  intro vm news4 hvm gr4
  repeat' fail "w"
  refine' (hu _ _ (gr3.trans gr4)).wR ?_
  intro y news5 hy gr5
  repeat' fail "w"
  refine' font_ct.w ?_
  rintro _ _ r mu' news6 ⟨rfl, f, rfl, hf6⟩ gr6
  repeat' fail "w"
  have gr7 := gr2.trans (gr4.trans (gr5.trans gr6))
  refine hK _ _ _ _ (by fail "gr") ⟨rfl, f, rfl, _, vm, (hvm.gr gr5).gr gr6, ⟨_, _, _, _, _, hf6, gr7.mem (Gr.mem (Gr.refl _).cons r1), .cons ⟨_, _, _, _, _, rfl, gr7.mem (Gr.mem (Gr.refl _).cons r2), gr7.mem (Gr.mem (Gr.refl _).cons r3)⟩ .nil, gr7.mem List.mem_cons_self, hy.gr gr6⟩, ((hW.gr gr4).gr gr5).gr gr6⟩
end
end

-- G33
section
section
variable {g : Gp}
theorem num_ne_none {v : Value} {t : Int} {p : Nat} {news : LedT} (h : NumAt v t p news) : (v = .none) = False ∧ handedIn v = true := by
  rcases h with ⟨t, rfl, _⟩ | ⟨a, rfl, _⟩ <;> exact ⟨by simp, rfl⟩
theorem wide_ct {a d d2 l lw lws b : Addr} {o o2 ow : Obj} {nn nw nws : Nat} {kvs kvs2 : List (Str × Value)} {vs : List Value} {ws : List (Int × Nat)} {first later l4 dt et : Int} {t1 t2 t3 u : Tok} {ew dv uni cutv : Value} {dp ep : Nat} {sps : List (Nat × Int × Int)} {cids : List CidR} {mu news : LedT}
    (I : LkAt a news) (hdd : (d, o) ∈ news) (P : DctP (sk g) kvs d o) (hv : (valueAt kvs "DescendantFonts").getD .none = .ref l) (hl : (l, lstO [.ref d2] nn) ∈ news) (hd2 : (d2, o2) ∈ news) (hc : o2.cls = .type "dict") (P2 : DctP (sk g) kvs2 d2 o2)
    (he : (valueAt kvs "Encoding").getD .none = .ref b) (hI : Inst 197 b [("text", .str "Identity-H" u)] news)
    (hdv : (valueAt kvs2 "DW").getD .none = dv) (hdn : (dv = .none ∧ dt = 1000 ∧ dp = 0) ∨ NumAt dv dt dp news)
    (hw : (valueAt kvs2 "W").getD .none = .ref lw) (hlw : (lw, lstO [.int first t1, .ref lws, .int later t2, .int l4 t3, ew] nw) ∈ news) (hlws : (lws, lstO vs nws) ∈ news)
    (hws : Paired (fun v w => NumAt v w.1 w.2 news) vs ws) (hew : NumAt ew et ep news) (hz : vs.length ≤ 100) (h1 : 0 ≤ first) (h2 : 0 ≤ later) (h3 : 0 ≤ l4)
    (hcut : (cutv = .none ∧ sps = [(2, 0, 65535)] ∧ cids = [(2, 0, 65535, 0)]) ∨ CutAt cutv sps cids news) :
    CtX (GG g) 5 619 [.ref a, .ref d, uni, cutv] mu news (fun r mu' news' => mu' = mu ∧ ∃ f, r = .ref f ∧ ∃ v1 c1 vm, NumAt vm dt dp news' ∧ CutAt c1 sps cids news' ∧ FontW g f v1 c1 uni [(first, first + (vs.length : Int) - 1, vs), (later, l4, [ew])] vm 1 3 news') := by
  obtain ⟨_, _, Ii⟩ := id I
  have T2 : Ty g (.type "list") (.ref lw) news := ty_list hlw rfl
  refine' enterWD ([.ref a, .ref d, uni, cutv]) ?lk ?cd ?ini ?bd ?nd ?db ?a ?b ?c ?_; (case lk => k_is); (case cd => k_is); (case ini => fail "init"); (case bd => exact fun _ X => binds_K X rfl (by k_is) rfl rfl rfl); (case nd => decide +kernel); (case db => decide +kernel); (case a => rfl); (case b => rfl); (case c => rfl)
  intro K hK Rt
  dsimp only
  repeat' ((fail_if_success (first | (with_reducible show WP _ _ _ _ [PySem.Stmt.Assign _ _ _, _, _] _))); fail "w")
  refine' (descendant_ct I hdd P hv hl hd2 hc).wV ?_
  intro news1 gr1
  repeat' ((fail_if_success (first | (with_reducible show WP _ _ _ _ [PySem.Stmt.Assign _ _ _, _, _] _))); fail "w")
  have hget : ∀ (t : Tok) (mu2 news2 : LedT), Gr news news2 → CtX (GG g) 2 315 [.ref a, .ref d2, .str "DW" t] mu2 news2 (fun r mu' news' => mu' = mu2 ∧ r = dv) := fun t mu2 news2 gr => by
    rcases hdn with ⟨rfl, _, _⟩ | h
    · exact get_ct (I.gr gr) (gr.mem hd2) P2 hdv ty_none ne_none
    · exact get_num (I.gr gr) (gr.mem hd2) P2 hdv (h.gr gr)
  refine' (hget _ _ _ gr1).wV ?_
  intro news2 gr2
  have gr3 := gr1.trans gr2
  repeat' ((fail_if_success (first | (with_reducible show WP _ _ _ _ [PySem.Stmt.Assign _ _ _, _, _] _))); fail "w")
  refine WP.join (fun z : Value => ([("shelf", some (.ref a)), ("head", some (.ref d)), ("unicode", some (uni)), ("cutting", some (cutv)), ("below", some (.ref d2)), ("default", some (z)), ("found", none), ("descendant_of", some (.ref 516)), ("number_of", some (.ref 464)), ("identity_cutting", some (.ref 551)), ("Font", some (.ref 587)), ("wide_rows", some (.ref 476)), ("array_at", some (.ref 523)), ("Decimal", some (.ref 155))] : Tab)) (fun z => mu) (fun z news' => NumAt z dt dp news') ?_ ?_
  · intro K' hT
    rcases hdn with ⟨rfl, rfl, rfl⟩ | hdn
    · repeat' ((fail_if_success (first | (with_reducible show WP _ _ _ _ [PySem.Stmt.Assign _ _ _, _, _] _))); fail "w")
      refine hT.next (_) _ _ _ (by fail "tab") (by rfl) (by fail "gr") ?_
      exact .inl ⟨_, rfl, rfl⟩
    · have hd3 := hdn.gr gr3
      rcases id hd3 with ⟨tt, rfl, rfl⟩ | ⟨ad, rfl, hda⟩
      · repeat' ((fail_if_success (first | (with_reducible show WP _ _ _ _ [PySem.Stmt.Assign _ _ _, _, _] _))); fail "w")
        refine' (numof_ct hd3).wV ?_
        intro news4 gr4
        repeat' ((fail_if_success (first | (with_reducible show WP _ _ _ _ [PySem.Stmt.Assign _ _ _, _, _] _))); fail "w")
        refine hT.next (_) _ _ _ (by fail "tab") (by rfl) gr4 ?_
        exact hd3.gr gr4
      · repeat' ((fail_if_success (first | (with_reducible show WP _ _ _ _ [PySem.Stmt.Assign _ _ _, _, _] _))); fail "w")
        refine' (numof_ct hd3).wV ?_
        intro news4 gr4
        repeat' ((fail_if_success (first | (with_reducible show WP _ _ _ _ [PySem.Stmt.Assign _ _ _, _, _] _))); fail "w")
        refine hT.next (_) _ _ _ (by fail "tab") (by rfl) gr4 ?_
        exact hd3.gr gr4
  rintro z1 news4 hvm gr4
  have gr5 := gr3.trans gr4
  refine WP.join (fun z : Value => ([("shelf", some (.ref a)), ("head", some (.ref d)), ("unicode", some (uni)), ("cutting", some (cutv)), ("below", some (.ref d2)), ("default", some (z1)), ("found", some (z)), ("descendant_of", some (.ref 516)), ("number_of", some (.ref 464)), ("identity_cutting", some (.ref 551)), ("Font", some (.ref 587)), ("wide_rows", some (.ref 476)), ("array_at", some (.ref 523)), ("Decimal", some (.ref 155))] : Tab)) (fun z => mu) (fun z news' => CutAt z sps cids news' ∧ handedIn z = true) ?_ ?_
  · intro K' hT
    rcases hcut with ⟨rfl, rfl, rfl⟩ | hcut
    · repeat' ((fail_if_success (first | (with_reducible show WP _ _ _ _ [PySem.Stmt.Assign _ _ _, _, _] _))); fail "w")
      refine' (idcut_ct (I.gr gr5) (gr5.mem hdd) P he (hI.gr gr5)).wM ?_
      intro r news6 hc6 gr6
      obtain ⟨ct, _, _, _, _, _, _, _, _, rfl, _⟩ := id hc6
      repeat' ((fail_if_success (first | (with_reducible show WP _ _ _ _ [PySem.Stmt.Assign _ _ _, _, _] _))); fail "w")
      refine hT.next (_) _ _ _ (by fail "tab") (by rfl) gr6 ?_
      exact ⟨hc6, rfl⟩
    · obtain ⟨ct, _, _, _, _, _, _, _, _, rfl, _⟩ := id hcut
      repeat' ((fail_if_success (first | (with_reducible show WP _ _ _ _ [PySem.Stmt.Assign _ _ _, _, _] _))); fail "w")
      refine hT.next (_) _ _ _ (by fail "tab") (by rfl) (Gr.refl _) ?_
      exact ⟨hcut.gr gr5, rfl⟩
  rintro z2 news6 ⟨hc6, hh⟩ gr6
  have gr7 := gr5.trans gr6
  repeat' ((fail_if_success (first | (with_reducible show WP _ _ _ _ [PySem.Stmt.Assign _ _ _, _, _] _))); fail "w")
  refine' (arrayat_list ((I.gr gr7).gr (Gr.refl _).cons) ((gr7.trans (Gr.refl _).cons).mem hd2) P2 hw ((gr7.trans (Gr.refl _).cons).mem hlw) rfl).wV ?_
  intro news7 gr8
  have gr9 := gr7.trans ((Gr.refl _).cons.trans gr8)
  repeat' ((fail_if_success (first | (with_reducible show WP _ _ _ _ [PySem.Stmt.Assign _ _ _, _, _] _))); fail "w")
  refine' (widerows_ct (I.gr gr9) (gr9.mem hlw) (gr9.mem hlws) (hws.mono fun _ _ h => h.gr gr9) (hew.gr gr9) hz h1 h2 h3).w ?_
  rintro _ _ r mu' news8 ⟨rfl, D, r1, r2, k, rfl, w1, w2, w3⟩ gr10
  repeat' ((fail_if_success (first | (with_reducible show WP _ _ _ _ [PySem.Stmt.Assign _ _ _, _, _] _))); fail "w")
  refine' (dec_ct (p := 3)).wR ?_
  intro y news9 hy gr11
  repeat' ((fail_if_success (first | (with_reducible show WP _ _ _ _ [PySem.Stmt.Assign _ _ _, _, _] _))); fail "w")
  refine' font_ct.w ?_
  rintro _ _ r mu' news10 ⟨rfl, f, rfl, hf⟩ gr12
  repeat' ((fail_if_success (first | (with_reducible show WP _ _ _ _ [PySem.Stmt.Assign _ _ _, _, _] _))); fail "w")
  have grA : Gr news4 news10 := gr6.trans ((Gr.refl _).cons.trans (gr8.trans (gr10.trans (gr11.trans ((Gr.refl _).cons.trans gr12)))))
  have grB : Gr news6 news10 := (Gr.refl _).cons.trans (gr8.trans (gr10.trans (gr11.trans ((Gr.refl _).cons.trans gr12))))
  have grC : Gr news8 news10 := gr11.trans ((Gr.refl _).cons.trans gr12)
  exact hK _ _ _ _ (by fail "gr") ⟨rfl, f, rfl, _, z2, z1, hvm.gr grA, hc6.gr grB, ⟨_, _, _, _, _, hf, grC.mem w1, .cons (w2.gr grC) (.cons (w3.gr grC) .nil), gr12.mem List.mem_cons_self, by simpa [norm] using (hy.gr (Gr.refl _).cons).gr gr12⟩⟩
end
end

-- G34
section
noncomputable def glyphsL : List (Str × Str) := [("eacute", "é"), ("fi", "ﬁ"), ("g7", ""), ("A_B.alt", "AB")]
noncomputable def TwoS (v : Value) (p : Str × Str) (news : LedT) : Prop := ∃ a t u, v = .ref a ∧ (a, tupO [.str p.1 t, .str p.2 u]) ∈ news
noncomputable def textsL : List Str := ["x", "", "yz", "€"]
theorem texts_short : ∀ y ∈ textsL, y.length ≤ 2 := by
  have h : (textsL.all fun y => Nat.ble y.length 2) = true := by decide +kernel
  exact fun y hy => Nat.le_of_ble_eq_true (List.all_eq_true.mp h y hy)
theorem Pot.mono {C : Addr} {N M : Nat} {oP oC : Obj} (h : Pot C N oP oC) (hl : N ≤ M) : Pot C M oP oC := by
  obtain ⟨st, k, t1, t2, vs, h1, h2, h3, h4, h5, h6⟩ := h
  exact ⟨st, k, t1, t2, vs, h1, h2, h3, h4, h5, by omega⟩
section
variable {g : Gp}
theorem glyphs_ct {mu news : LedT} : CtX (GG g) 1 626 [] mu news (fun r mu' news' => mu' = mu ∧ ∃ D, r = .ref D ∧ ∃ vs k, (D, lstO vs k) ∈ news' ∧ Paired (fun v p => TwoS v p news') vs glyphsL) := by
  fail "enterW"
  intro K hK Rt
  dsimp only
  repeat' fail "w"
  refine hK _ _ _ _ (by fail "gr") ⟨rfl, _, rfl, _, _, List.mem_cons_self, .cons ⟨_, _, _, rfl, by fail "mem"⟩ (.cons ⟨_, _, _, rfl, by fail "mem"⟩ (.cons ⟨_, _, _, rfl, by fail "mem"⟩ (.cons ⟨_, _, _, rfl, by fail "mem"⟩ .nil)))⟩
set_option hygiene false in
local macro_rules | `(tactic| fail "dict0") => `(tactic| (with_reducible refine WE.dict0 ?_; intro d hd))
theorem lawtexts_ct {P C : Addr} {oP oC : Obj} {N : Nat} {len first : Int} {t u : Tok} {rest news : LedT} (hp : Pot C N oP oC) (hN : N ≤ 100000) :
    CtX (GG g) 2 671 [.ref P, .int len t, .int first u] ((P, oP) :: (C, oC) :: rest) news (fun r mu' news' => ∃ oP' oC' d D, mu' = (P, oP') :: (C, oC') :: rest ∧ Pot C (N + 10) oP' oC' ∧ r = .ref d ∧ Chs PySem.Challenge.pw_og0191_01 g.w d D news' ∧ StrVals D ∧ D.length ≤ 10) := by
  fail "enterW"
  intro K hK Rt
  dsimp only
  repeat' fail "w"
  refine WO.rot ?_
  refine' draw_w hp (by decide) (by decide) (by omega) ?_
  intro oP1 oC1 x1 tx news1 hp1 h01 h11 gr1
  repeat' fail "w"
  refine WFor.Rz (num := x1.toNat) (fun z : Obj × Obj × Obj × List (PyData × PyData) × Option Value => ([("pot", some (.ref P)), ("length", some (.int len t)), ("first", some (.int first u)), ("chars", some (.ref d)), ("turn", z.2.2.2.2), ("range", some (.type "range")), ("_law_draw", some (.ref 638))] : Tab)) (fun z => (P, z.1) :: (C, z.2.1) :: (d, z.2.2.1) :: rest) (fun i z news' => Pot C (N + 1 + 2 * i) z.1 z.2.1 ∧ Chs PySem.Challenge.pw_og0191_01 g.w d z.2.2.2.1 ((d, z.2.2.1) :: news') ∧ StrVals z.2.2.2.1 ∧ z.2.2.2.1.length ≤ i) (oP1, oC1, _, [], _) (by fail "mem") (rng_small h01 (by omega)) (rng_size x1) rfl rfl ⟨hp1, chs_empty hd List.mem_cons_self, (fun _ h => nomatch h), Nat.le_refl _⟩ ?_ ?_
  · rintro i ti z1 news' K' hT hi ⟨hp2, hTc, hV, hDl⟩ gr
    repeat' fail "w"
    refine' draw_w hp2 (by decide) (by decide) (by omega) ?_
    intro oP3 oC3 x3 t3 news3 hp3 h03 h13 gr3
    obtain ⟨y, hy⟩ : ∃ y, textsL[x3.toNat]? = some y := ⟨_, List.getElem?_eq_getElem (show x3.toNat < 4 by omega)⟩
    have hyl := texts_short y (List.mem_of_getElem? hy)
    repeat' fail "w"
    refine O.itemLS rfl (by fail "mem") lstP (by fail "strs") h03 hy (by decide) ?_
    intro ty
    repeat' fail "w"
    refine' draw_w hp3 (by decide) (by decide) (by omega) ?_
    intro oP4 oC4 x4 t4 news4 hp4 h04 h14 gr4
    repeat' fail "w"
    refine O.chSet (.tail (.tail .head)) (hTc.mono ?_) (len, first + x4) (by fail "mem") (PyProof.V.Flat.str y _) (by omega) ?_
    · intro q hq
      rcases List.mem_cons.mp hq with rfl | hq
      · exact List.mem_cons_self
      · exact List.mem_cons_of_mem _ (by fail "mem")
    · intro o' hT'
      have hl := putD_len (encI (len, first + x4)) (.str y) z1.2.2.2.1
      repeat' fail "w"
      refine hT.next (oP4, oC4, o', putD (encI (len, first + x4)) (.str y) z1.2.2.2.1, _) _ _ _ (by fail "tab") (by rfl) (by fail "gr") ?_
      dsimp only
      exact ⟨hp4, hT', strVals_put hV hyl, by omega⟩
  · rintro z2 news' ⟨hp2, hTc, hV, hDl⟩ gr
    refine WP.unrot (WP.freeze ?_)
    repeat' fail "w"
    exact hK _ _ _ _ (by fail "gr") ⟨_, _, d, z2.2.2.2.1, rfl, hp2.mono (by omega), rfl, hTc, hV, by omega⟩
end
end

-- P4
section
open PySem PySem.W PyProof.Rows PySem.Spec PySem.Calls PyProof.V
noncomputable def numS (first : Int) (ws : List (Int × Nat)) (mt : Int) (mp : Nat) (code : Int) : Int × Nat := if 0 ≤ code - first ∧ code - first < ws.length then (ws[(code - first).toNat]?).getD (mt, mp) else (mt, mp)
noncomputable def wdS (first : Int) (ws : List (Int × Nat)) (mt : Int) (mp : Nat) (ut : Int) (up : Nat) (p : Int × Int) : Int × Nat := norm ((numS first ws mt mp p.2).1 * ut) ((numS first ws mt mp p.2).2 + up)
noncomputable def txS (D : List (PyData × PyData)) (spot : Int) (txt : Str) (p : Int × Int) : Str := (chAt D p).getD (if p.2 = spot then txt else one p.2.toNat)
noncomputable def RowOk (v : Value) (p : Int × Int) (w : Int × Nat) (y : Str) (news : LedT) : Prop := ∃ a pa wa t, v = .ref a ∧ (a, tupO [.ref pa, .ref wa, .str y t]) ∈ news ∧ PairAt (.ref pa) p news ∧ PairAt (.ref wa) (w.1, (w.2 : Int)) news
theorem RowOk.gr {v : Value} {p : Int × Int} {w : Int × Nat} {y : Str} {l l' : LedT} (g : Gr l l') (h : RowOk v p w y l) : RowOk v p w y l' := by obtain ⟨a, pa, wa, t, e, h1, h2, h3⟩ := h; exact ⟨a, pa, wa, t, e, g.mem h1, h2.gr g, h3.gr g⟩
noncomputable def LawRes (g : Gp) (r : Value) (news : LedT) : Prop := ∃ tp f b tb rl rs k cs wd tx, r = .ref tp ∧ (tp, tupO [.ref f, .bytes b tb, .ref rl]) ∈ news ∧ (rl, lstO rs k) ∈ news ∧ FontOk g f b cs wd tx news ∧ Paired (fun v p => RowOk v p (wd p) (tx p) news) rs cs
theorem numS_small {first mt : Int} {ws : List (Int × Nat)} {mp : Nat} (h : ∀ w ∈ ws, w.1.natAbs ≤ 1300 ∧ w.2 ≤ 1) (h1 : mt.natAbs ≤ 1300) (h2 : mp ≤ 1) (code : Int) : (numS first ws mt mp code).1.natAbs ≤ 1300 ∧ (numS first ws mt mp code).2 ≤ 1 := by
  unfold numS
  split
  · cases hq : ws[(code - first).toNat]? with
    | none => exact ⟨h1, h2⟩
    | some w => exact h w (List.mem_of_getElem? hq)
  · exact ⟨h1, h2⟩
theorem mulOk_small {a b : Int} (ha : a.natAbs ≤ 1300) (hb : b.natAbs ≤ 1300) : IntMulOk a b := IntMulOk.of_right (intBits_le_64 (by omega) (by omega))
theorem num_in {first mt code : Int} {vs : List Value} {ws : List (Int × Nat)} {vm : Value} {mp : Nat} {news : LedT} (hw : Paired (fun v w => NumAt v w.1 w.2 news) vs ws) (hm : NumAt vm mt mp news) :
    NumAt (widthIn [(first, first + (vs.length : Int) - 1, vs)] code vm) (numS first ws mt mp code).1 (numS first ws mt mp code).2 news := by
  have hl := Paired.length hw
  unfold numS widthIn
  by_cases h : 0 ≤ code - first ∧ code - first < (ws.length : Int)
  · rw [if_pos (by omega), if_pos (by omega), if_pos h]
    obtain ⟨y, hy⟩ : ∃ y, vs[(code - first).toNat]? = some y := ⟨_, List.getElem?_eq_getElem (by omega)⟩
    obtain ⟨w, hw', hn⟩ := Paired.get hw hy
    rw [hy, hw']
    exact hn
  · rw [if_neg (by omega), if_neg h]
    exact hm
theorem chAt_short {D : List (PyData × PyData)} {p : Int × Int} {y : Str} {k : Nat} (hD : StrVals D) (hy : y.length ≤ k) (hk : 2 ≤ k) : ((chAt D p).getD y).length ≤ k := by
  cases h : chAt D p with
  | none => exact hy
  | some z => exact Nat.le_trans (chAt_len hD h) hk
theorem glyphs_ok {g : Gp} : ∀ p ∈ glyphsL, GlyphIs g p.1 p.2 ∧ p.2.length ≤ 2 ∧ (p.1 == (".notdef" : Str)) = false := by
  intro p hp
  unfold glyphsL at hp
  simp only [List.mem_cons, List.not_mem_nil, or_false] at hp
  rcases hp with rfl | rfl | rfl | rfl
  · exact ⟨glyph_eacute, by decide +kernel, by decide +kernel⟩
  · exact ⟨glyph_fi, by decide +kernel, by decide +kernel⟩
  · exact ⟨glyph_g7, by decide +kernel, by decide +kernel⟩
  · exact ⟨glyph_AB, by decide +kernel, by decide +kernel⟩
theorem fontok_simple {g : Gp} {f dn : Addr} {b : Array UInt8} {uni vm : Value} {first spot mt ut : Int} {mp up : Nat} {vs : List Value} {ws : List (Int × Nat)} {D : List (PyData × PyData)} {ns : List Int} {nm y : Str} {l : LedT}
    (W : FontW g f (.ref dn) .none uni [(first, first + (vs.length : Int) - 1, vs)] vm ut up l) (WA : WordsAt dn (stdL.set spot.toNat nm) l) (U : UniAt g uni D l) (hD : StrVals D) (hw : Paired (fun v w => NumAt v w.1 w.2 l) vs ws) (hvl : vs.length ≤ 100) (hm : NumAt vm mt mp l)
    (hb : ∀ w ∈ ws, w.1.natAbs ≤ 1300 ∧ w.2 ≤ 1) (h1 : mt.natAbs ≤ 1300) (h2 : mp ≤ 1) (hut : ut.natAbs ≤ 40) (hup : up ≤ 3) (hn : KBw.bInts b = ns) (hz : b.size ≤ 100) (hr : ∀ k ∈ ns, 64 ≤ k ∧ k ≤ 77) (hs : 0 ≤ spot) (hs2 : spot ≤ 255) (hg : GlyphIs g nm y) (hy : y.length ≤ 2) :
    FontOk g f b (ns.map fun o => (1, o)) (wdS first ws mt mp ut up) (txS D spot y) l := by
  subst hn
  have hvm := num_ne_none hm
  have hcs : ∀ p ∈ (KBw.bInts b).map fun o => ((1 : Int), o), 64 ≤ p.2 ∧ p.2 ≤ 77 := fun p hp => by
    obtain ⟨o, ho, rfl⟩ := List.mem_map.mp hp
    exact hr o ho
  obtain ⟨l0, nn, ys, u, st, i1, i2, i3, i4, i5⟩ := W.ex
  refine ⟨⟨_, _, _, _, _, _, _, i1⟩, fun news mu tb gr => codes_simp (i1.gr gr) (by omega), fun news mu pv p gr hp hpv => ?_, fun news mu pv p gr hp hpv => ?_, fun p hp => ?_, fun p hp => ?_, by rw [List.length_map, KBw.ints_length]; exact hz⟩
  · exact width_ct (sps := []) (cids := []) (W.gr gr) hpv (.inl ⟨rfl, rfl⟩) (by simp) (fun r hr => by rw [List.mem_singleton.mp hr]; exact ⟨.inl (by dsimp only; omega), by dsimp only; omega⟩)
      (num_in (hw.mono fun _ _ h => h.gr gr) (hm.gr gr)) (mulOk_small (numS_small hb h1 h2 _).1 (by omega)) hvm.2
  · have hc := hcs p hp
    have hlen : (stdL.set spot.toNat nm).length = 256 := by rw [List.length_set]; exact std_len
    by_cases e : p.2 = spot
    · have := text_simple (mu := mu) (i1.gr gr) (U.gr gr) hD (WA.gr gr) hpv (by omega) (by omega) (nm := nm) (by rw [e, List.getElem?_set_self (by rw [std_len]; omega)]) hg
      unfold txS
      rw [if_pos e]
      exact this
    · have e1 : (stdL.set spot.toNat nm)[p.2.toNat]? = some (stdL.getD p.2.toNat "") := by
        obtain ⟨z, hz⟩ : ∃ z, stdL[p.2.toNat]? = some z := ⟨_, List.getElem?_eq_getElem (by rw [std_len]; omega)⟩
        rw [List.getElem?_set_ne (by omega), List.getD_eq_getElem?_getD, hz, Option.getD_some]
      have := text_simple (mu := mu) (i1.gr gr) (U.gr gr) hD (WA.gr gr) hpv (by omega) (by omega) e1 (glyph_std (by omega) (by omega))
      unfold txS
      rw [if_neg e]
      exact this
  · have h := (norm_bound ((numS first ws mt mp p.2).2 + up) ((numS first ws mt mp p.2).1 * ut)).1
    have := (numS_small (first := first) hb h1 h2 p.2).2
    unfold wdS
    omega
  · unfold txS
    refine chAt_short hD ?_ (by omega)
    split
    · omega
    · exact show (1 : Nat) ≤ 100 by decide
end

-- P5
section
open PySem PySem.W PyProof.Rows PySem.Spec PySem.Calls PyProof.V
noncomputable def numW (first : Int) (ws : List (Int × Nat)) (later : Int) (e d : Int × Nat) (k : Int) : Int × Nat := if first ≤ k ∧ k < first + (ws.length : Int) then (ws[(k - first).toNat]?).getD d else if later ≤ k ∧ k ≤ later + 4 then e else d
noncomputable def wdW (first : Int) (ws : List (Int × Nat)) (later : Int) (e d : Int × Nat) (cids : List CidR) (p : Int × Int) : Int × Nat := norm ((numW first ws later e d (cidOf cids p)).1 * 1) ((numW first ws later e d (cidOf cids p)).2 + 3)
noncomputable def txW (D : List (PyData × PyData)) (p : Int × Int) : Str := (chAt D p).getD ""
theorem numW_small {first later : Int} {ws : List (Int × Nat)} {e d : Int × Nat} (h : ∀ w ∈ ws, w.1.natAbs ≤ 1300 ∧ w.2 ≤ 1) (h1 : e.1.natAbs ≤ 1300 ∧ e.2 ≤ 1) (h2 : d.1.natAbs ≤ 1300 ∧ d.2 ≤ 1) (k : Int) : (numW first ws later e d k).1.natAbs ≤ 1300 ∧ (numW first ws later e d k).2 ≤ 1 := by
  unfold numW
  split
  · cases hq : ws[(k - first).toNat]? with
    | none => exact h2
    | some w => exact h w (List.mem_of_getElem? hq)
  · split
    · exact h1
    · exact h2
theorem num_inW {first later code : Int} {vs : List Value} {ws : List (Int × Nat)} {ew vm : Value} {e d : Int × Nat} {news : LedT} (hw : Paired (fun v w => NumAt v w.1 w.2 news) vs ws) (he : NumAt ew e.1 e.2 news) (hm : NumAt vm d.1 d.2 news) :
    NumAt (widthIn [(first, first + (vs.length : Int) - 1, vs), (later, later + 4, [ew])] code vm) (numW first ws later e d code).1 (numW first ws later e d code).2 news := by
  have hl := Paired.length hw
  unfold numW widthIn
  by_cases h : first ≤ code ∧ code < first + (ws.length : Int)
  · rw [if_pos (by omega), if_pos (by omega), if_pos h]
    obtain ⟨y, hy⟩ : ∃ y, vs[(code - first).toNat]? = some y := ⟨_, List.getElem?_eq_getElem (by omega)⟩
    obtain ⟨w, hw', hn⟩ := Paired.get hw hy
    rw [hy, hw']
    exact hn
  · rw [if_neg (by omega), if_neg h]
    unfold widthIn
    by_cases h2 : later ≤ code ∧ code ≤ later + 4
    · rw [if_pos h2, if_pos h2, if_neg (by simp only [List.length_cons, List.length_nil]; omega)]
      exact he
    · rw [if_neg h2, if_neg h2]
      exact hm
theorem lawCut_len (mixed : Bool) : ∀ (os : List Int), (lawCut mixed os).length ≤ os.length
  | [] => Nat.le_refl _
  | [a] => Nat.le_refl _
  | a :: b :: r => by
    unfold lawCut
    split
    · simp only [List.length_cons]
      have := lawCut_len mixed (b :: r)
      simp only [List.length_cons] at this
      omega
    · simp only [List.length_cons]
      have := lawCut_len mixed r
      omega
noncomputable def spW (mixed : Bool) : List (Nat × Int × Int) := if mixed then spM else spI
theorem fontok_wide {g : Gp} {f : Addr} {b : Array UInt8} {v1 c1 uni vm ew : Value} {mixed : Bool} {first later : Int} {e d : Int × Nat} {vs : List Value} {ws : List (Int × Nat)} {D : List (PyData × PyData)} {cids : List CidR} {l : LedT}
    (W : FontW g f v1 c1 uni [(first, first + (vs.length : Int) - 1, vs), (later, later + 4, [ew])] vm 1 3 l) (hc : CutAt c1 (spW mixed) cids l) (U : UniAt g uni D l) (hD : StrVals D) (hw : Paired (fun v w => NumAt v w.1 w.2 l) vs ws) (hvl : vs.length ≤ 100) (he : NumAt ew e.1 e.2 l) (hm : NumAt vm d.1 d.2 l)
    (hb : ∀ w ∈ ws, w.1.natAbs ≤ 1300 ∧ w.2 ≤ 1) (h1 : e.1.natAbs ≤ 1300 ∧ e.2 ≤ 1) (h2 : d.1.natAbs ≤ 1300 ∧ d.2 ≤ 1) (hz : b.size ≤ 100) :
    FontOk g f b (lawCut mixed (KBw.bInts b)) (wdW first ws later e d cids) (txW D) l := by
  obtain ⟨l0, nn, ys, u, st, i1, i2, i3, i4, i5⟩ := W.ex
  have hvm := num_ne_none hm
  have oct : ∀ o ∈ KBw.bInts b, isOct o := fun o ho => by have := KBw.ints_in ho; exact ⟨this.1, by omega⟩
  have cut : ∀ cs', Split (spW mixed) (KBw.bInts b) cs' → cs' = lawCut mixed (KBw.bInts b) := fun cs' h => by
    cases mixed with
    | true => exact split_M h oct
    | false => exact split_I h oct
  have spok : ∀ p ∈ spW mixed, SpOk p := by
    cases mixed with
    | true => exact spM_ok
    | false => exact spI_ok
  refine ⟨⟨_, _, _, _, _, _, _, i1⟩, fun news mu tb gr => ?_, fun news mu pv p gr hp hpv => ?_, fun news mu pv p gr hp hpv => ?_, fun p hp => ?_, fun p hp => ?_, ?_⟩
  · exact codes_wide (i1.gr gr) (hc.gr gr) spok (by cases mixed <;> exact List.cons_ne_nil _ _) (by cases mixed <;> decide) (by omega) cut
  · exact width_ct (W.gr gr) hpv (.inr ⟨hc.gr gr, rfl⟩) (by simp) (fun r hr => by
      rcases List.mem_cons.mp hr with rfl | hr
      · exact ⟨.inl (by dsimp only; omega), by dsimp only; omega⟩
      · rw [List.mem_singleton.mp hr]; exact ⟨.inr (Nat.succ_pos _), by simp⟩)
      (num_inW (hw.mono fun _ _ h => h.gr gr) (he.gr gr) (hm.gr gr)) (mulOk_small (numW_small hb h1 h2 _).1 (by decide)) hvm.2
  · obtain ⟨t, cm, sp, ch, nn, ys, rl, k, rs, rfl, _⟩ := hc
    exact text_wide (i1.gr gr) (U.gr gr) hD hpv
  · have h := (norm_bound ((numW first ws later e d (cidOf cids p)).2 + 3) ((numW first ws later e d (cidOf cids p)).1 * 1)).1
    have := (numW_small (first := first) (later := later) hb h1 h2 (cidOf cids p)).2
    unfold wdW
    omega
  · unfold txW
    exact chAt_short hD (by decide) (by omega)
  · have := lawCut_len mixed (KBw.bInts b)
    rw [KBw.ints_length] at this
    omega
end

-- V12
section
open PySem PySem.W PyProof.Rows PySem.Spec PySem.Calls PyProof.V
open PySem.SeqAt
noncomputable def Bare (c : Cx) (x : LedT) (s : Shared) : Prop := (c.base.StaysIn s.heap ∧ ∀ p ∈ x, (∀ vs, p.2.data ≠ .fields vs) → s.heap.get? p.1 = some p.2) ∧ ∃ h tk, s = { c.s₀ with heap := h, toks := tk }
noncomputable def OkB (G : Gl) (c : Cx) : Prop := G.K.In c.base ∧ TopRead G.p G.loose G.mg G.mb c.base
noncomputable def CtB (G : Gl) (k : Nat) (f : Addr) (vs : List Value) (mu news : LedT) : Prop :=
  ∀ (c : Cx) (m : Str → Option Value) (x : LedT) (s : Shared) (A : Around) (R : Result → Shared → Prop), Ok G c k → OkB G c → ES c m x mu news s → RA c A →
    (∀ s', Bare c x s' → R (.ok (.ret (.bool true))) s') → codeAny G.M A (.call (.ref f) ⟨vs, []⟩) R s
theorem CtB.at {G : Gl} {k n : Nat} {f : Addr} {vs : List Value} {mu news x : LedT} {c : Cx} {m : Str → Option Value} {s : Shared} {Q E : Value → Shared → Prop} (C : CtB G k f vs mu news) (O : Ok G c n) (OB : OkB G c) (hk : Nat.ble k n = true) (S : ES c m x mu news s) (h : ∀ s', Bare c x s' → Q (.bool true) s') :
    wpAny G.M c.A (call (.ref f) vs) Q E s := wpAny_call (C c m x s c.A _ (O.le hk) OB S (RA.own c) fun s' b => h s' b)
noncomputable def LawEnd (c : Cx) (x : LedT) (f : Flow) (s : Shared) : Prop := f = .ret (.bool true) ∧ Bare c x s
structure LawF (g : Gp) (f rl : Addr) (b : Array UInt8) (rs : List Value) (k : Nat) (cs : List (Int × Int)) (wd : Int × Int → Int × Nat) (tx : Int × Int → Str) (news : LedT) : Prop where
  rl : (rl, lstO rs k) ∈ news
  font : FontOk g f b cs wd tx news
  rows : Paired (fun v p => RowOk v p (wd p) (tx p) news) rs cs
theorem LawF.gr {g : Gp} {f rl : Addr} {b : Array UInt8} {rs : List Value} {k : Nat} {cs : List (Int × Int)} {wd : Int × Int → Int × Nat} {tx : Int × Int → Str} {l l' : LedT} (gr : Gr l l') (h : LawF g f rl b rs k cs wd tx l) : LawF g f rl b rs k cs wd tx l' := ⟨gr.mem h.rl, h.font.gr gr, h.rows.mono fun _ _ q => q.gr gr⟩
theorem v_neStr {M : Program} {w : World} {A : Around} {E : Value → Shared → Prop} {s : Shared} {y : Str} {t u : Tok} {Q : Value → Shared → Prop} (h : Q (.bool false) s) : wpAny (model M w) A (compareOp .NotEq (.str y t) (.str y u)) Q E s := by
  refine RcNeAt.str_str y t y u _ _ E Q ?_
  rw [beq_self_eq_true]
  exact h
theorem PairAt.up {y : Value} {p : Int × Int} {mu news : LedT} (h : PairAt y p news) : PairAt y p (mu ++ news) := by obtain ⟨a, t, u, e, h⟩ := h; exact ⟨a, t, u, e, List.mem_append_right _ h⟩
end

-- V17
section
open PySem PySem.W PyProof.Rows PySem.Spec PySem.Calls PyProof.V
section
variable {G : Gl} {n : Nat} {name qual : Str} {params : Arguments} {body : List Stmt} {scope : Scope} {dV kV doc pm cdv ct oc : Value} {an od : Option Addr} {osl : Array (Option Value)} {f : Addr} {vs vs' : List Value} {binds : List (Str × Value)} {R : Tab} {mu news : LedT} {P : Value → LedT → LedT → Prop}
theorem enterB 
    (hlk : G.K.lookup f = some ⟨oc, od, .func (fnOf name qual params body scope dV kV doc pm an cdv ct), osl⟩) (hcd : codeIn G.K cdv qual = true)
    (hbind : ∀ s, G.K.In s.heap → BindsTo s (fnOf name qual params body scope dV kV doc pm an cdv ct) ⟨vs, []⟩ binds) (hin : InitC G scope.names vs' binds R) (hnd : (scope.names.map (·.1)).Nodup) (hdbg : (scope.names.any fun y => y.1 == ("__debug__" : Str)) = false)
    (hco : scope.isCoroutine = false) (hgen : scope.isGenerator = false) (hk : scope.kind = .function)
    (h : ∀ c m x cells s, Ok G c n → OkB G c → FT G c scope.names m cells R → ES c m (cells ++ x) mu news s → wpAny G.M c.A (execs body c.env) (LawEnd c x) noE s) : CtB G (n + 1) f vs mu news :=
  fun c m x s A Rr O OB S ra hq => enterCore hlk hcd hbind hin hnd hdbg hco hgen hk O S ra fun c' m' cells s' hb ho hs O' T' S' _ =>
    wpAny_mono (h c' m' x cells s' O' (by unfold OkB; rw [hb]; exact OB) T' S') (fun fl s2 ⟨e1, e2, e3⟩ => by
      subst e1
      refine hq s2 ⟨⟨hb ▸ e2.1, fun p hp => e2.2 p hp⟩, ?_⟩
      obtain ⟨h2, tk2, e2⟩ := e3
      obtain ⟨h3, tk3, e3⟩ := S.hs
      exact ⟨h2, tk2, by rw [e2, hs, e3]⟩) fun _ _ h => h.elim
theorem v_try {c : Cx} {x : LedT} {s : Shared} {body0 suite rest : List Stmt} {b₀ : Stmt} {y : Str} {np hp pos : Pos} (O : Ok G c n) (OB : OkB G c) (hy : c.env.kindOf y = some .globalImplicit) (hg : nsIn G.K mainGlobals y = some (some (.ref 59))) (hff : FF c.base) (hd : (y == ("__debug__" : Str)) = false)
    (hret : ∀ (A : Around) (Q : Flow → Shared → Prop) (E : Value → Shared → Prop) s', Q (.ret (.bool true)) s' → wpAny G.M A (execs (b₀ :: suite) c.env) Q E s')
    (h : wpAny G.M c.A (execs body0 c.env) (fun _ _ => False) (RaiE c x) s) : wpAny G.M c.A (execs (.Try body0 [.ExceptHandler (some (.Name y np)) none (b₀ :: suite) hp] [] [] pos :: rest) c.env) (LawEnd c x) noE s := by
  refine v_cons (wpAny_Try_except (wpAny_mono h (fun _ _ f => f.elim) fun v s1 hr => ?_))
  refine hr.note O (cxA c) fun e s2 hv h2 => ?_
  subst hv
  refine h2.flight fun s3 h3 => ?_
  obtain ⟨_, b, _, _, u, k1, _, _, oe, _, _, _, _, he, hc, _⟩ := id h3
  have kb : ∀ z oz, c.base.get? z = some oz → s3.heap.get? z = some oz := fun z oz hz => k1 _ _ (u.1 _ _ hz)
  refine wpAny_handleBy_cons (codeAny_handlers_test ?_) (by intro q; cases q)
  refine Name_function_global O.hk hy (loadGlobal_global (env := c.env) (OB.2.g.keeps kb) (mg_of OB.1 OB.2.g hg) ?_) hd
  refine ff_matches (hff.keeps kb) he hc.1 ?_
  refine codeAny_handlers_suite (h3.flight fun s4 h4 => hret _ _ _ _ ?_)
  obtain ⟨hs4, b4, _, _, u4, q4, _⟩ := h4
  exact ⟨rfl, ⟨fun z oz hz => q4 _ _ (u4.1 _ _ hz), fun p hp hn => q4 _ _ (u4.2 p hp hn)⟩, hs4⟩
end
end

-- X8
section
open PySem PySem.W PyProof.Rows PySem.Spec PySem.Calls PyProof.V
noncomputable def WPb (F : Fm) (av hid : LedT) (R : Tab) (mu news : LedT) (ss : List Stmt) : Prop :=
  ∀ (z : Zx) (s : Shared), F.In z R → OkB (GG F.g) z.c → (∀ p ∈ av, p ∈ z.y) → ES z.c z.m z.x mu news s → wpAny (GG F.g).M z.c.A (execs ss z.env) (LawEnd z.c hid) noE s
noncomputable def WEb (F : Fm) (hid : LedT) (R : Tab) (mu news : LedT) (e : Expr) : Prop :=
  ∀ (z : Zx) (s : Shared), F.In z R → OkB (GG F.g) z.c → (∀ p ∈ hid, p ∈ z.y) → ES z.c z.m z.x mu news s → wpAny (GG F.g).M z.c.A (eval e z.env) (fun v s' => v = .bool true ∧ Bare z.c hid s') noE s
section
variable {g : Gp} {n : Nat} {ns : List (Str × NameKind)} {av hid : LedT} {R : Tab} {mu news mu' news' : LedT} {st : Stmt} {ss rest : List Stmt}
theorem WPb.step (h : WP ⟨g, n, .fn ns, false, true⟩ R mu news [st] (fun fl R' mu' news' => fl = .next ∧ WPb ⟨g, n, .fn ns, false, true⟩ av hid R' mu' news' rest)) : WPb ⟨g, n, .fn ns, false, true⟩ av hid R mu news (st :: rest) := fun z s I OB hh S =>
  v_joinS (fun s => wpAny (GG g).M z.c.A (execs rest z.env) (LawEnd z.c hid) noE s) (h z s _ I S fun fl R' mu' news' m' xc' s' k e I' S' => by
    obtain ⟨rfl, k⟩ := k
    exact k (z.to m' xc') s' I' OB hh S') fun s h => h
theorem WPb.lt {F : Fm} (h : let Rt := R; WPb F av hid Rt mu news ss) : WPb F av hid R mu news ss := h
theorem WPb.perm {F : Fm} (p : ∀ c m x s, ES c m x mu news s → ES c m x mu' news' s) (h : WPb F av hid R mu' news' ss) : WPb F av hid R mu news ss := fun z s I OB hh S => h z s I OB hh (p _ _ _ _ S)
theorem WPb.hide {p : Addr × Obj} (hm : p ∈ news) (h : ∀ n2, WPb ⟨g, n, .fn ns, false, true⟩ [p] hid R mu n2 ss) : WPb ⟨g, n, .fn ns, false, true⟩ [] hid R mu news ss := fun z s I OB hh S => by
  obtain ⟨pre, post, e⟩ := List.append_of_mem hm
  have S3 := S.perm (mu' := mu) (news' := p :: (pre ++ post)) (by rw [e]; exact List.Perm.append_left _ List.perm_middle.symm)
  have hx := I.2.2.2
  rw [hx] at S3
  exact h _ ⟨z.c, z.m, z.xc, z.xc ++ p :: z.y, p :: z.y, z.env⟩ s ⟨I.1, I.2.1, I.2.2.1, rfl⟩ OB (fun q hq => by rw [List.mem_singleton.mp hq]; exact .head _) (S3.hide.permX List.perm_middle)
theorem Bare.mono {c : Cx} {x x' : LedT} {s : Shared} (h : Bare c x s) (hs : ∀ p ∈ x', p ∈ x) : Bare c x' s := ⟨⟨h.1.1, fun p hp hn => h.1.2 p (hs p hp) hn⟩, h.2⟩
theorem O.neStr {F : Fm} {K : Value → LedT → LedT → Prop} {y : Str} {t u : Tok} (h : K (.bool false) mu news) : WO F R mu news (compareOp .NotEq (.str y t) (.str y u)) K := fun z s Q I S q => v_neStr (q _ _ _ _ h S)
theorem WPb.last {e1 e2 : Expr} {p2 p3 : Pos} (h : WE ⟨g, n, .fn ns, false, true⟩ R mu news e1 (fun v mu' news' => v = .bool true ∧ WEb ⟨g, n, .fn ns, false, true⟩ hid R mu' news' e2)) : WPb ⟨g, n, .fn ns, false, true⟩ hid hid R mu news [.Return (some (.BoolOp .And [e1, e2] p2)) p3] := fun z s I OB hh S =>
  v_ret (BoolOp_and (h z s _ I S fun v mu' news' s' k S' => by
    obtain ⟨rfl, k⟩ := k
    refine wpAny_truthy_bool ?_
    show wpAny _ _ (eval (.BoolOp .And [e2] p2) z.env) _ _ s'
    exact BoolOp_one (wpAny_mono (k z s' I OB hh S') (fun v s2 h => ⟨by rw [h.1], h.2⟩) fun _ _ h => h)))
theorem WEb.call {y : Str} {np pos : Pos} {e : Expr} {fn : Addr} {v : Value} {k : Nat} (hf : EV ⟨g, n, .fn ns, false, true⟩ R mu news (.Name y np) (fun _ => .ref fn)) (hk : keepIn (hd.heap_1 g.w.params) (.ref fn) = true) (p1 : isPlain e = true) (h1 : EV ⟨g, n, .fn ns, false, true⟩ R mu news e (fun _ => v)) (hn : Nat.ble k n = true) (C : CtB (GG g) k fn [v] mu news) :
    WEb ⟨g, n, .fn ns, false, true⟩ hid R mu news (.Call (.Name y np) [e] [] pos) := fun z s I OB hh S => ec1 I.ok S (hf z I) hk p1 (h1 z I) fun t1 s' S' => C.at I.ok OB hn S' fun s2 b => ⟨rfl, b.mono fun p hp => by rw [I.2.2.2]; exact List.mem_append_right _ (hh p hp)⟩
end
end

-- G35
section
noncomputable def UnitF (kvs : List (Str × Value)) (ut : Int) (up : Nat) (news : LedT) : Prop :=
  (∃ b u, valueAt kvs "Subtype" = some (.ref b) ∧ Inst 197 b [("text", .str "Type1" u)] news ∧ ut = 1 ∧ up = 3) ∨
  (∃ b u l f fs k, valueAt kvs "Subtype" = some (.ref b) ∧ Inst 197 b [("text", .str "Type3" u)] news ∧ valueAt kvs "FontMatrix" = some (.ref l) ∧ (l, lstO (f :: fs) k) ∈ news ∧ fs.length = 5 ∧ NumAt f ut up news)
theorem UnitF.gr {kvs : List (Str × Value)} {ut : Int} {up : Nat} {l l' : LedT} (g : Gr l l') (h : UnitF kvs ut up l) : UnitF kvs ut up l' := by
  rcases h with ⟨b, u, h1, h2, h3⟩ | ⟨b, u, a, f, fs, k, h1, h2, h3, h4, h5, h6⟩
  · exact .inl ⟨b, u, h1, h2.gr g, h3⟩
  · exact .inr ⟨b, u, a, f, fs, k, h1, h2.gr g, h3, g.mem h4, h5, h6.gr g⟩
noncomputable def MissF (g : Gp) (kvs : List (Str × Value)) (mt : Int) (mp : Nat) (news : LedT) : Prop :=
  (valueAt kvs "FontDescriptor" = none ∧ mt = 0 ∧ mp = 0) ∨
  (∃ d2 o2 kvs2 v, valueAt kvs "FontDescriptor" = some (.ref d2) ∧ (d2, o2) ∈ news ∧ o2.cls = .type "dict" ∧ DctP (sk g) kvs2 d2 o2 ∧ valueAt kvs2 "MissingWidth" = some v ∧ NumAt v mt mp news)
theorem MissF.gr {g : Gp} {kvs : List (Str × Value)} {mt : Int} {mp : Nat} {l l' : LedT} (gr : Gr l l') (h : MissF g kvs mt mp l) : MissF g kvs mt mp l' := by
  rcases h with h | ⟨d2, o2, kvs2, v, h1, h2, h3, h4, h5, h6⟩
  · exact .inl h
  · exact .inr ⟨d2, o2, kvs2, v, h1, gr.mem h2, h3, h4, h5, h6.gr gr⟩
noncomputable def EncF (g : Gp) (kvs : List (Str × Value)) (spot : Int) (nm : Str) (news : LedT) : Prop :=
  ∃ d2 o2 kvs2 l k b ts u, valueAt kvs "Encoding" = some (.ref d2) ∧ (d2, o2) ∈ news ∧ o2.cls = .type "dict" ∧ DctP (sk g) kvs2 d2 o2 ∧ valueAt kvs2 "BaseEncoding" = none ∧ valueAt kvs2 "Differences" = some (.ref l) ∧ (l, lstO [.int spot ts, .ref b] k) ∈ news ∧ Inst 197 b [("text", .str nm u)] news
theorem EncF.gr {g : Gp} {kvs : List (Str × Value)} {spot : Int} {nm : Str} {l l' : LedT} (gr : Gr l l') (h : EncF g kvs spot nm l) : EncF g kvs spot nm l' := by
  obtain ⟨d2, o2, kvs2, a, k, b, ts, u, h1, h2, h3, h4, h5, h6, h7, h8⟩ := h
  exact ⟨d2, o2, kvs2, a, k, b, ts, u, h1, gr.mem h2, h3, h4, h5, h6, gr.mem h7, h8.gr gr⟩
theorem DctP.cls {g : Gp} {kvs : List (Str × Value)} {d : Addr} {o : Obj} (h : DctP (sk g) kvs d o) : o.cls = .type "dict" := by
  obtain ⟨_, es, ep, hc, _⟩ := h
  exact hc.1
theorem UnitF.put {kvs : List (Str × Value)} {ut : Int} {up : Nat} {l : LedT} {k : Str} (v : Value) (h : UnitF kvs ut up l) (h1 : ("Subtype" : Str) ≠ k) (h2 : ("FontMatrix" : Str) ≠ k) : UnitF (stored kvs k v) ut up l := by
  rcases h with ⟨b, u, q1, q2⟩ | ⟨b, u, a, f, fs, j, q1, q2, q3, q4⟩
  · exact .inl ⟨b, u, by rw [val_ne _ h1]; exact q1, q2⟩
  · exact .inr ⟨b, u, a, f, fs, j, by rw [val_ne _ h1]; exact q1, q2, by rw [val_ne _ h2]; exact q3, q4⟩
theorem MissF.put {g : Gp} {kvs : List (Str × Value)} {mt : Int} {mp : Nat} {l : LedT} {k : Str} (v : Value) (h : MissF g kvs mt mp l) (h1 : ("FontDescriptor" : Str) ≠ k) : MissF g (stored kvs k v) mt mp l := by
  rcases h with h | ⟨d2, o2, kvs2, v, q1, q2⟩
  · exact .inl ⟨by rw [val_ne _ h1]; exact h.1, h.2⟩
  · exact .inr ⟨d2, o2, kvs2, v, by rw [val_ne _ h1]; exact q1, q2⟩
section
variable {g : Gp}
theorem UnitF.ct {kvs : List (Str × Value)} {ut : Int} {up : Nat} {a d : Addr} {o : Obj} {mu news : LedT} (h : UnitF kvs ut up news) (I : LkAt a news) (hdd : (d, o) ∈ news) (P : DctP (sk g) kvs d o) :
    CtX (GG g) 4 537 [.ref a, .ref d] mu news (fun r mu' news' => mu' = mu ∧ ∃ y, r = .ref y ∧ DecAt y ut up news') := by
  rcases h with ⟨b, u, h1, h2, rfl, rfl⟩ | ⟨b, u, l, f, fs, k, h1, h2, h3, h4, h5, h6⟩
  · exact unit_plain I hdd P (by rw [h1]; rfl) h2
  · exact unit_type3 I hdd P (by rw [h1]; rfl) h2 (by rw [h3]; rfl) h4 lstP h5 h6
theorem MissF.ct {kvs : List (Str × Value)} {mt : Int} {mp : Nat} {a d : Addr} {o : Obj} {mu news : LedT} (h : MissF g kvs mt mp news) (I : LkAt a news) (hdd : (d, o) ∈ news) (P : DctP (sk g) kvs d o) :
    CtX (GG g) 4 530 [.ref a, .ref d] mu news (fun r mu' news' => mu' = mu ∧ NumAt r mt mp news') := by
  rcases h with ⟨h, rfl, rfl⟩ | ⟨d2, o2, kvs2, v, h1, h2, h3, h4, h5, h6⟩
  · exact (missing_none I hdd P (by rw [h]; rfl)).mono fun r mu' ext hh => by obtain ⟨e, u, e2⟩ := hh; exact ⟨e, .inl ⟨u, e2, rfl⟩⟩
  · exact (missing_some I hdd P (by rw [h1]; rfl) h2 h3 h4 (by rw [h5]; rfl) h6).mono fun r mu' ext hh => by obtain ⟨e, e2⟩ := hh; exact ⟨e, by rw [e2]; exact h6.gr ⟨ext, rfl⟩⟩
structure SHead (g : Gp) (kvs : List (Str × Value)) (dh : Addr) (oh : Obj) (first : Int) (D : Addr) (vs : List Value) (ws : List (Int × Nat)) (mt : Int) (mp : Nat) (ut : Int) (up : Nat) (spot : Int) (nm : Str) (news : LedT) : Prop where
  hd : (dh, oh) ∈ news
  dct : DctP (sk g) kvs dh oh
  fc : ∃ t0, valueAt kvs "FirstChar" = some (.int first t0)
  wd : valueAt kvs "Widths" = some (.ref D)
  lw : ∃ k, (D, lstO vs k) ∈ news
  num : Paired (fun v w => NumAt v w.1 w.2 news) vs ws
  un : UnitF kvs ut up news
  mi : MissF g kvs mt mp news
  en : EncF g kvs spot nm news
theorem SHead.gr {kvs : List (Str × Value)} {dh : Addr} {oh : Obj} {first : Int} {D : Addr} {vs : List Value} {ws : List (Int × Nat)} {mt : Int} {mp : Nat} {ut : Int} {up : Nat} {spot : Int} {nm : Str} {l l' : LedT} (gr : Gr l l') (h : SHead g kvs dh oh first D vs ws mt mp ut up spot nm l) : SHead g kvs dh oh first D vs ws mt mp ut up spot nm l' :=
  ⟨gr.mem h.hd, h.dct, h.fc, h.wd, h.lw.imp fun _ q => gr.mem q, h.num.mono fun _ _ q => q.gr gr, h.un.gr gr, h.mi.gr gr, h.en.gr gr⟩
structure SNum (first : Int) (vs : List Value) (ws : List (Int × Nat)) (mt : Int) (mp : Nat) (ut : Int) (up : Nat) (spot : Int) (nm y : Str) : Prop where
  f0 : 0 ≤ first
  ne : vs ≠ []
  len : vs.length ≤ 100
  ws : ∀ w ∈ ws, w.1.natAbs ≤ 1300 ∧ w.2 ≤ 1
  mt : mt.natAbs ≤ 1300
  mp : mp ≤ 1
  ut : ut.natAbs ≤ 40
  up : up ≤ 3
  s0 : 0 ≤ spot
  s1 : spot ≤ 255
  gl : (nm, y) ∈ glyphsL
end
end

-- G36
section
section
variable {g : Gp}
theorem ls_end {rest news0 news : LedT} {K : Flow → Tab → LedT → LedT → Prop} {P C D Dr dc dh : Addr} {oP oC oh : Obj} {N kk : Nat} {o1 o2 o3 o4 o5 o6 o7 o8 o9 o10 : Option Value} {ob : Array UInt8} {tb : Tok} {rs vs : List Value}
    {kvs : List (Str × Value)} {first mt ut spot : Int} {ws : List (Int × Nat)} {mp up : Nat} {nm y : Str} {D0 : List (PyData × PyData)} {ns : List Int}

 (gr : Gr news0 news) (H : SHead g kvs dh oh first D vs ws mt mp ut up spot nm news) (B : SNum first vs ws mt mp ut up spot nm y)
    (hCh : Chs PySem.Challenge.pw_og0191_01 g.w dc D0 news) (hSV : StrVals D0) (hDl : D0.length ≤ 10) (hob : KBw.bInts ob = ns) (hz : ob.size ≤ 100) (hr : ∀ k ∈ ns, 64 ≤ k ∧ k ≤ 77)
    (hRs : Paired (fun v p => RowOk v p (wdS first ws mt mp ut up p) (txS D0 spot y p) news) rs (ns.map fun o => (1, o))) (hp : Pot C N oP oC)
    (hK : ∀ fl R' mu' news', Gr news0 news' → (∃ oP' oC', mu' = (P, oP') :: (C, oC') :: rest ∧ Pot C N oP' oC' ∧ LawRes g (retOf fl) news') → K fl R' mu' news') :
    WP ⟨g, 6, .fn ([("pot", NameKind.cell), ("head", NameKind.local), ("unit", NameKind.local), ("factor", NameKind.local), ("widths", NameKind.local), ("missing", NameKind.local), ("spot", NameKind.local), ("glyph", NameKind.local), ("chars", NameKind.local), ("octets", NameKind.local), ("rows", NameKind.local), ("code", NameKind.local), ("place", NameKind.local), ("width", NameKind.local), ("text", NameKind.local), ("font", NameKind.local), ("Name", NameKind.globalImplicit), ("_law_draw", NameKind.globalImplicit), ("Decimal", NameKind.globalImplicit), ("_law_fraction", NameKind.globalImplicit), ("range", NameKind.globalImplicit), ("_law_number", NameKind.globalImplicit), ("_law_glyphs", NameKind.globalImplicit), ("_law_texts", NameKind.globalImplicit), ("bytes", NameKind.globalImplicit), ("len", NameKind.globalImplicit), ("chr", NameKind.globalImplicit), ("_law_product", NameKind.globalImplicit), ("simple_font", NameKind.globalImplicit), ("Lookup", NameKind.globalImplicit), ("CMap", NameKind.globalImplicit)] : List (Str × NameKind)), false, false⟩ ([("pot", some (.ref P)), ("head", some (.ref dh)), ("unit", o1), ("factor", o2), ("widths", o3), ("missing", o4), ("spot", o5), ("glyph", o6), ("chars", some (.ref dc)), ("octets", some (.bytes ob tb)), ("rows", some (.ref Dr)), ("code", o7), ("place", o8), ("width", o9), ("text", o10), ("font", none), ("Name", some (.ref 197)), ("_law_draw", some (.ref 638)), ("Decimal", some (.ref 155)), ("_law_fraction", some (.ref 652)), ("range", some (.type "range")), ("_law_number", some (.ref 645)), ("_law_glyphs", some (.ref 626)), ("_law_texts", some (.ref 671)), ("bytes", some (.type "bytes")), ("len", some (.builtin "len")), ("chr", some (.builtin "chr")), ("_law_product", some (.ref 659)), ("simple_font", some (.ref 611)), ("Lookup", some (.ref 318)), ("CMap", some (.ref 344))] : Tab) ((Dr, lstO rs kk) :: (P, oP) :: (C, oC) :: rest) news (dropS (fnBody 84) 14) K := by
  conv => arg 5; whnf
  refine WP.lt ?_
  intro Rt
  repeat' ((fail_if_success (first | (with_reducible show WE _ _ _ _ (PySem.Expr.IfExp _ _ _ _) _))); fail "w")
  refine' lookup_ct.wR ?_
  intro lk news31 hlk gr32
  refine WA.freeze ?_
  have gr33 : Gr news ((Dr, lstO rs kk) :: news31) := (Gr.refl _).cons.cons.trans (gr32.trans (Gr.refl _).cons)
  have hCh3 := hCh.gr gr33
  repeat' ((fail_if_success (first | (with_reducible show WE _ _ _ _ (PySem.Expr.IfExp _ _ _ _) _))); fail "w")
  refine WE.join (fun z : Value => z) (fun _ => (P, oP) :: (C, oC) :: rest) (fun v news32 => UniAt g v D0 news32) ?_ ?_
  · intro K' hJ
    refine WE.ifExp ?_
    repeat' fail "w"
    refine iteB ?_ ?_ <;> intro hD0
    · repeat' fail "w"
      exact hJ _ _ (.inl ⟨rfl, List.isEmpty_iff.mp hD0⟩) (Gr.refl _)
    · repeat' fail "w"
      refine' cmap_ct.wR ?_
      intro cm news36 hcm gr36
      repeat' fail "w"
      exact hJ _ _ (.inr ⟨cm, _, dc, rfl, hcm, Chs.gr (Gr.trans (by fail "gr") gr36) hCh3⟩) (Gr.trans (by fail "gr") gr36)
  rintro v news33 hU gr34
  have gr35 := gr33.trans gr34
  repeat' ((fail_if_success (first | (with_reducible show WE _ _ _ _ (PySem.Expr.IfExp _ _ _ _) _))); fail "w")
  have H2 := H.gr gr35
  obtain ⟨t0, hF⟩ := H2.fc
  obtain ⟨kl, hl⟩ := H2.lw
  obtain ⟨dE, oE, kvE, lE, kE, bE, ts, uE, e1, e2, e3, e4, e5, e6, e7, e8⟩ := H2.en
  obtain ⟨hg, hy, hnd⟩ := glyphs_ok (g := g) _ B.gl
  have I : LkAt lk news33 := ⟨_, _, (hlk.gr (Gr.refl _).cons).gr gr34⟩
  refine (simple_ct (dn := dh) I H2.hd H2.dct (by rw [H2.wd]; rfl) hl lstP B.ne B.len H2.num (by rw [hF]; rfl) B.f0 (by rw [e1]; rfl) e2 e3 e4 (by rw [e5]; rfl) (by rw [e6]; rfl) e7 lstP e8 B.s0 B.s1 hnd
    (fun mu' news' q => H2.mi.gr q |>.ct (I.gr q) (q.mem H2.hd) H2.dct) (fun mu' news' q => H2.un.gr q |>.ct (I.gr q) (q.mem H2.hd) H2.dct)).w ?_
  rintro _ _ r mu' news37 ⟨rfl, f, rfl, dn, vm, hvm, hFW, hWA⟩ gr37
  repeat' ((fail_if_success (first | (with_reducible show WE _ _ _ _ (PySem.Expr.IfExp _ _ _ _) _))); fail "w")
  have gr38 : Gr news news37 := gr35.trans gr37
  have F := fontok_simple hFW hWA (hU.gr gr37) hSV (H2.num.mono fun _ _ q => q.gr gr37) B.len hvm B.ws B.mt B.mp B.ut B.up hob hz hr B.s0 B.s1 hg hy
  refine hK _ _ _ _ (gr.trans (gr38.trans (Gr.refl _).cons)) ⟨_, _, rfl, hp, _, f, _, _, _, rs, kk, _, _, _, rfl, List.mem_cons_self, List.mem_cons_of_mem _ ((gr34.trans gr37).mem List.mem_cons_self), F.gr (Gr.refl _).cons, hRs.mono fun _ _ q => (q.gr gr38).gr (Gr.refl _).cons⟩
end
end

-- G37
section
section
variable {g : Gp}
theorem ls_rows {rest news0 news : LedT} {K : Flow → Tab → LedT → LedT → Prop} {P C D Dr dc dh ua ga : Addr} {oP oC oh : Obj} {N kk : Nat} {o1 o2 o3 o4 o5 : Option Value} {ob : Array UInt8} {tb gt gu tsp : Tok} {vm : Value} {vs : List Value}
    {kvs : List (Str × Value)} {first mt ut spot : Int} {ws : List (Int × Nat)} {mp up : Nat} {nm y : Str} {D0 : List (PyData × PyData)} {ns : List Int}

 (gr : Gr news0 news) (H : SHead g kvs dh oh first D vs ws mt mp ut up spot nm news) (B : SNum first vs ws mt mp ut up spot nm y)
    (hua : PairAt (.ref ua) (ut, (up : Int)) news) (hvm : NumAt vm mt mp news) (hga : (ga, tupO [.str nm gt, .str y gu]) ∈ news)
    (hCh : Chs PySem.Challenge.pw_og0191_01 g.w dc D0 news) (hSV : StrVals D0) (hDl : D0.length ≤ 10) (hob : KBw.bInts ob = ns) (hz : ob.size ≤ 100) (hr : ∀ k ∈ ns, 64 ≤ k ∧ k ≤ 77) (hp : Pot C N oP oC)
    (hK : ∀ fl R' mu' news', Gr news0 news' → (∃ oP' oC', mu' = (P, oP') :: (C, oC') :: rest ∧ Pot C N oP' oC' ∧ LawRes g (retOf fl) news') → K fl R' mu' news') :
    WP ⟨g, 6, .fn ([("pot", NameKind.cell), ("head", NameKind.local), ("unit", NameKind.local), ("factor", NameKind.local), ("widths", NameKind.local), ("missing", NameKind.local), ("spot", NameKind.local), ("glyph", NameKind.local), ("chars", NameKind.local), ("octets", NameKind.local), ("rows", NameKind.local), ("code", NameKind.local), ("place", NameKind.local), ("width", NameKind.local), ("text", NameKind.local), ("font", NameKind.local), ("Name", NameKind.globalImplicit), ("_law_draw", NameKind.globalImplicit), ("Decimal", NameKind.globalImplicit), ("_law_fraction", NameKind.globalImplicit), ("range", NameKind.globalImplicit), ("_law_number", NameKind.globalImplicit), ("_law_glyphs", NameKind.globalImplicit), ("_law_texts", NameKind.globalImplicit), ("bytes", NameKind.globalImplicit), ("len", NameKind.globalImplicit), ("chr", NameKind.globalImplicit), ("_law_product", NameKind.globalImplicit), ("simple_font", NameKind.globalImplicit), ("Lookup", NameKind.globalImplicit), ("CMap", NameKind.globalImplicit)] : List (Str × NameKind)), false, false⟩ ([("pot", some (.ref P)), ("head", some (.ref dh)), ("unit", some (.ref ua)), ("factor", o1), ("widths", some (.ref D)), ("missing", some (vm)), ("spot", some (.int spot tsp)), ("glyph", some (.ref ga)), ("chars", some (.ref dc)), ("octets", some (.bytes ob tb)), ("rows", some (.ref Dr)), ("code", o2), ("place", o3), ("width", o4), ("text", o5), ("font", none), ("Name", some (.ref 197)), ("_law_draw", some (.ref 638)), ("Decimal", some (.ref 155)), ("_law_fraction", some (.ref 652)), ("range", some (.type "range")), ("_law_number", some (.ref 645)), ("_law_glyphs", some (.ref 626)), ("_law_texts", some (.ref 671)), ("bytes", some (.type "bytes")), ("len", some (.builtin "len")), ("chr", some (.builtin "chr")), ("_law_product", some (.ref 659)), ("simple_font", some (.ref 611)), ("Lookup", some (.ref 318)), ("CMap", some (.ref 344))] : Tab) ((Dr, lstO [] kk) :: (P, oP) :: (C, oC) :: rest) news (dropS (fnBody 84) 13) K := by
  conv => arg 5; whnf
  refine WP.lt ?_
  intro Rt
  have hnl : ns.length = ob.size := by rw [← hob]; exact KBw.ints_length ob
  repeat' ((fail_if_success (first | (with_reducible show WP _ _ _ _ (PySem.Stmt.If _ _ _ _ :: _ :: _) _))); fail "w")
  refine WFor.Bz (fun z : List Value × Nat × Option Value × Option Value × Option Value × Option Value => ([("pot", some (.ref P)), ("head", some (.ref dh)), ("unit", some (.ref ua)), ("factor", o1), ("widths", some (.ref D)), ("missing", some (vm)), ("spot", some (.int spot tsp)), ("glyph", some (.ref ga)), ("chars", some (.ref dc)), ("octets", some (.bytes ob tb)), ("rows", some (.ref Dr)), ("code", z.2.2.1), ("place", z.2.2.2.1), ("width", z.2.2.2.2.1), ("text", z.2.2.2.2.2), ("font", none), ("Name", some (.ref 197)), ("_law_draw", some (.ref 638)), ("Decimal", some (.ref 155)), ("_law_fraction", some (.ref 652)), ("range", some (.type "range")), ("_law_number", some (.ref 645)), ("_law_glyphs", some (.ref 626)), ("_law_texts", some (.ref 671)), ("bytes", some (.type "bytes")), ("len", some (.builtin "len")), ("chr", some (.builtin "chr")), ("_law_product", some (.ref 659)), ("simple_font", some (.ref 611)), ("Lookup", some (.ref 318)), ("CMap", some (.ref 344))] : Tab)) (fun z => (Dr, lstO z.1 z.2.1) :: (P, oP) :: (C, oC) :: rest) (fun i z news' => Paired (fun v p => RowOk v p (wdS first ws mt mp ut up p) (txS D0 spot y p) news') z.1 ((ns.take i).map fun o => (1, o))) ([], _, _, _, _, _)  rfl rfl .nil ?_ ?_
  · rintro i v t z1 news' K' hT hv hRs gr'
    rw [hob] at hv
    have hcode := hr v (List.mem_of_getElem? hv)
    have hvl := B.len
    have H' := H.gr gr'
    obtain ⟨t0, hF⟩ := H'.fc
    obtain ⟨kl, hl⟩ := H'.lw
    repeat' ((fail_if_success (first | (with_reducible show WP _ _ _ _ (PySem.Stmt.If _ _ _ _ :: _ :: _) _))); fail "w")
    refine O.ditem rfl (List.mem_append_right _ H'.hd) H'.dct (strKind_is _ _ _ _) hF ?_
    refine O.sub ?_
    intro tpl
    refine WP.join (fun z : Value => ([("pot", some (.ref P)), ("head", some (.ref dh)), ("unit", some (.ref ua)), ("factor", o1), ("widths", some (.ref D)), ("missing", some (vm)), ("spot", some (.int spot tsp)), ("glyph", some (.ref ga)), ("chars", some (.ref dc)), ("octets", some (.bytes ob tb)), ("rows", some (.ref Dr)), ("code", some (.int v t)), ("place", some (.int (v - first) tpl)), ("width", some (z)), ("text", z1.2.2.2.2.2), ("font", none), ("Name", some (.ref 197)), ("_law_draw", some (.ref 638)), ("Decimal", some (.ref 155)), ("_law_fraction", some (.ref 652)), ("range", some (.type "range")), ("_law_number", some (.ref 645)), ("_law_glyphs", some (.ref 626)), ("_law_texts", some (.ref 671)), ("bytes", some (.type "bytes")), ("len", some (.builtin "len")), ("chr", some (.builtin "chr")), ("_law_product", some (.ref 659)), ("simple_font", some (.ref 611)), ("Lookup", some (.ref 318)), ("CMap", some (.ref 344))] : Tab)) (fun z => (Dr, lstO z1.1 z1.2.1) :: (P, oP) :: (C, oC) :: rest) (fun z news' => NumAt z (numS first ws mt mp v).1 (numS first ws mt mp v).2 news' ∧ handedIn z = true) ?_ ?_
    · intro K' hT
      have hwl := Paired.length H'.num
      have miss : ¬ (0 ≤ v - first ∧ v - first < (ws.length : Int)) → numS first ws mt mp v = (mt, mp) := fun h => if_neg h
      have hvm2 := hvm.gr gr'
      have hmh : handedIn vm = true := (num_ne_none hvm).2
      repeat' ((fail_if_success (first | (with_reducible show WP _ _ _ _ (PySem.Stmt.If _ _ _ _ :: _ :: _) _))); fail "w")
      refine ite_decK ?_ ?_ <;> intro hz1
      · repeat' ((fail_if_success (first | (with_reducible show WP _ _ _ _ (PySem.Stmt.If _ _ _ _ :: _ :: _) _))); fail "w")
        refine ite_decK ?_ ?_ <;> intro hz2
        · obtain ⟨y, hy⟩ : ∃ y, vs[(v - first).toNat]? = some y := ⟨_, List.getElem?_eq_getElem (by omega)⟩
          obtain ⟨w, hw, hnw⟩ := Paired.get H'.num hy
          have hnum : numS first ws mt mp v = w := by
            unfold numS
            rw [if_pos ⟨hz1, by omega⟩, hw]; rfl
          repeat' ((fail_if_success (first | (with_reducible show WP _ _ _ _ (PySem.Stmt.If _ _ _ _ :: _ :: _) _))); fail "w")
          refine O.item rfl (List.mem_append_right _ hl) lstP hz1 (by omega) hy ?_
          repeat' ((fail_if_success (first | (with_reducible show WP _ _ _ _ (PySem.Stmt.If _ _ _ _ :: _ :: _) _))); fail "w")
          refine hT.next (y) _ _ _ (by fail "tab") (by rfl) (Gr.refl _) ?_
          exact ⟨by rw [hnum]; exact hnw, (num_ne_none hnw).2⟩
        · repeat' ((fail_if_success (first | (with_reducible show WP _ _ _ _ (PySem.Stmt.If _ _ _ _ :: _ :: _) _))); fail "w")
          refine hT.next (vm) _ _ _ (by fail "tab") (by rfl) (Gr.refl _) ?_
          exact ⟨by rw [miss (by omega)]; exact hvm2, hmh⟩
      · repeat' ((fail_if_success (first | (with_reducible show WP _ _ _ _ (PySem.Stmt.If _ _ _ _ :: _ :: _) _))); fail "w")
        refine hT.next (vm) _ _ _ (by fail "tab") (by rfl) (Gr.refl _) ?_
        exact ⟨by rw [miss (by omega)]; exact hvm2, hmh⟩
    rintro z2 news26 ⟨hvw, hvh⟩ gr26
    have gr27 := gr'.trans gr26
    refine WP.join (fun z : Tok => ([("pot", some (.ref P)), ("head", some (.ref dh)), ("unit", some (.ref ua)), ("factor", o1), ("widths", some (.ref D)), ("missing", some (vm)), ("spot", some (.int spot tsp)), ("glyph", some (.ref ga)), ("chars", some (.ref dc)), ("octets", some (.bytes ob tb)), ("rows", some (.ref Dr)), ("code", some (.int v t)), ("place", some (.int (v - first) tpl)), ("width", some (z2)), ("text", some (.str (txS D0 spot y (1, v)) z)), ("font", none), ("Name", some (.ref 197)), ("_law_draw", some (.ref 638)), ("Decimal", some (.ref 155)), ("_law_fraction", some (.ref 652)), ("range", some (.type "range")), ("_law_number", some (.ref 645)), ("_law_glyphs", some (.ref 626)), ("_law_texts", some (.ref 671)), ("bytes", some (.type "bytes")), ("len", some (.builtin "len")), ("chr", some (.builtin "chr")), ("_law_product", some (.ref 659)), ("simple_font", some (.ref 611)), ("Lookup", some (.ref 318)), ("CMap", some (.ref 344))] : Tab)) (fun z => (Dr, lstO z1.1 z1.2.1) :: (P, oP) :: (C, oC) :: rest) (fun z news' => True) ?_ ?_
    · intro K' hT
      have hCh2 := hCh.gr gr27
      have hga27 := gr27.mem hga
      repeat' ((fail_if_success (first | (with_reducible show WP _ _ _ _ (PySem.Stmt.If _ _ _ _ :: _ :: _) _))); fail "w")
      refine' ite_beqI ?_ ?_ <;> intro hsp
      · have e : (chAt D0 (1, v)).getD y = txS D0 spot y (1, v) := by unfold txS; rw [if_pos hsp]
        repeat' ((fail_if_success (first | (with_reducible show WP _ _ _ _ (PySem.Stmt.If _ _ _ _ :: _ :: _) _))); fail "w")
        refine O.chGet2 (hCh2.gr (Gr.refl _).cons) hSV (1, v) (by fail "mem") ?_
        intro tt
        rw [e]
        repeat' ((fail_if_success (first | (with_reducible show WP _ _ _ _ (PySem.Stmt.If _ _ _ _ :: _ :: _) _))); fail "w")
        refine hT.next (_) _ _ _ (by fail "tab") (by rfl) (Gr.refl _).cons ?_
        trivial
      · have e : (chAt D0 (1, v)).getD (one v.toNat) = txS D0 spot y (1, v) := by unfold txS; rw [if_neg hsp]
        repeat' ((fail_if_success (first | (with_reducible show WP _ _ _ _ (PySem.Stmt.If _ _ _ _ :: _ :: _) _))); fail "w")
        refine O.chGet2 (hCh2.gr (Gr.refl _).cons) hSV (1, v) (by fail "mem") ?_
        intro tt
        rw [show (⟨#[v.toNat]⟩ : Str) = one v.toNat from rfl, e]
        repeat' ((fail_if_success (first | (with_reducible show WP _ _ _ _ (PySem.Stmt.If _ _ _ _ :: _ :: _) _))); fail "w")
        refine hT.next (_) _ _ _ (by fail "tab") (by rfl) (Gr.refl _).cons ?_
        trivial
    rintro z3 news27 _ gr28
    have gr29 := gr27.trans gr28
    have hrl : z1.1.length ≤ 1000 := by
      have := Paired.length hRs
      simp only [List.length_map, List.length_take] at this
      omega
    have hmul := mulOk_small (numS_small (first := first) B.ws B.mt B.mp v).1 (by have := B.ut; omega : ut.natAbs ≤ 1300)
    repeat' ((fail_if_success (first | (with_reducible show WP _ _ _ _ (PySem.Stmt.If _ _ _ _ :: _ :: _) _))); fail "w")
    refine' (frac_ct ((hvw.gr gr28).gr (Gr.refl _).cons)).wM ?_
    intro fr news30 hfr gr30
    repeat' ((fail_if_success (first | (with_reducible show WP _ _ _ _ (PySem.Stmt.If _ _ _ _ :: _ :: _) _))); fail "w")
    refine' (product_pair hfr (((hua.gr gr29).gr (Gr.refl _).cons).gr gr30) hmul).wM ?_
    rintro pr news31 ⟨pa, pu1, pu2, rfl, hpr⟩ gr31
    repeat' ((fail_if_success (first | (with_reducible show WP _ _ _ _ (PySem.Stmt.If _ _ _ _ :: _ :: _) _))); fail "w")
    have gr32 : Gr news27 news31 := (Gr.refl _).cons.trans (gr30.trans gr31)
    refine hT.next (z1.1 ++ [_], _, _, _, _, _) _ _ _ (by fail "tab") (by rfl) (gr'.trans (gr26.trans (gr28.trans (gr32.trans (Gr.refl _).cons)))) ?_
    rw [take_snoc hv, List.map_append]
    exact (hRs.mono fun _ _ h => (h.gr (gr26.trans (gr28.trans gr32))).gr (Gr.refl _).cons).snoc ⟨_, _, _, _, rfl, List.mem_cons_self, ⟨_, _, _, rfl, List.mem_cons_of_mem _ ((gr30.trans gr31).mem List.mem_cons_self)⟩, ⟨_, _, _, rfl, List.mem_cons_of_mem _ hpr⟩⟩
  rintro z4 news30 hRs gr30
  rw [← hnl, List.take_length] at hRs
  exact ls_end (gr.trans gr30) (H.gr gr30) B (hCh.gr gr30) hSV hDl hob hz hr hRs hp hK
end
end

-- G38
section
section
variable {g : Gp}
theorem ls_mid {rest news0 news7 : LedT} {K : Flow → Tab → LedT → LedT → Prop} {P C D dh ua : Addr} {oP7 oC7 oh7 : Obj} {N kl : Nat} {o1 : Option Value} {vm : Value} {vs : List Value}
    {kvs7 : List (Str × Value)} {mt ut x1 : Int} {ws : List (Int × Nat)} {mp up : Nat} {t0 : Tok}

 (gr0 : Gr news0 news7) (hN : N ≤ 10000) (hp7 : Pot C (N + 40) oP7 oC7) (hP7 : DctP (sk g) kvs7 dh oh7) (hkl7 : kvs7.length ≤ 6)
    (h01 : 0 ≤ x1) (h11 : x1 < 8) (hF7 : valueAt kvs7 "FirstChar" = some (.int (62 + x1) t0)) (hW7 : valueAt kvs7 "Widths" = some (.ref D)) (hU7 : UnitF kvs7 ut up news7) (hM7 : MissF g kvs7 mt mp news7) (hvm : NumAt vm mt mp news7)
    (hl : (D, lstO vs kl) ∈ news7) (hne : vs ≠ []) (hlen : vs.length ≤ 100) (hPw : Paired (fun v w => NumAt v w.1 w.2 news7) vs ws) (hb0 : ∀ w ∈ ws, w.1.natAbs ≤ 1300 ∧ w.2 ≤ 1) (hmb1 : mt.natAbs ≤ 1300) (hmb2 : mp ≤ 1) (hua : PairAt (.ref ua) (ut, (up : Int)) news7) (hut : ut.natAbs ≤ 40) (hup : up ≤ 3)
    (hK : ∀ fl R' mu' news', Gr news0 news' → (∃ oP' oC', mu' = (P, oP') :: (C, oC') :: rest ∧ Pot C (N + 100) oP' oC' ∧ LawRes g (retOf fl) news') → K fl R' mu' news') :
    WP ⟨g, 6, .fn ([("pot", NameKind.cell), ("head", NameKind.local), ("unit", NameKind.local), ("factor", NameKind.local), ("widths", NameKind.local), ("missing", NameKind.local), ("spot", NameKind.local), ("glyph", NameKind.local), ("chars", NameKind.local), ("octets", NameKind.local), ("rows", NameKind.local), ("code", NameKind.local), ("place", NameKind.local), ("width", NameKind.local), ("text", NameKind.local), ("font", NameKind.local), ("Name", NameKind.globalImplicit), ("_law_draw", NameKind.globalImplicit), ("Decimal", NameKind.globalImplicit), ("_law_fraction", NameKind.globalImplicit), ("range", NameKind.globalImplicit), ("_law_number", NameKind.globalImplicit), ("_law_glyphs", NameKind.globalImplicit), ("_law_texts", NameKind.globalImplicit), ("bytes", NameKind.globalImplicit), ("len", NameKind.globalImplicit), ("chr", NameKind.globalImplicit), ("_law_product", NameKind.globalImplicit), ("simple_font", NameKind.globalImplicit), ("Lookup", NameKind.globalImplicit), ("CMap", NameKind.globalImplicit)] : List (Str × NameKind)), false, false⟩ ([("pot", some (.ref P)), ("head", some (.ref dh)), ("unit", some (.ref ua)), ("factor", o1), ("widths", some (.ref D)), ("missing", some (vm)), ("spot", none), ("glyph", none), ("chars", none), ("octets", none), ("rows", none), ("code", none), ("place", none), ("width", none), ("text", none), ("font", none), ("Name", some (.ref 197)), ("_law_draw", some (.ref 638)), ("Decimal", some (.ref 155)), ("_law_fraction", some (.ref 652)), ("range", some (.type "range")), ("_law_number", some (.ref 645)), ("_law_glyphs", some (.ref 626)), ("_law_texts", some (.ref 671)), ("bytes", some (.type "bytes")), ("len", some (.builtin "len")), ("chr", some (.builtin "chr")), ("_law_product", some (.ref 659)), ("simple_font", some (.ref 611)), ("Lookup", some (.ref 318)), ("CMap", some (.ref 344))] : Tab) ((P, oP7) :: (C, oC7) :: (dh, oh7) :: rest) news7 (dropS (fnBody 84) 7) K := by
  conv => arg 5; whnf
  refine WP.lt ?_
  intro Rt
  repeat' ((fail_if_success (first | (with_reducible show WP _ _ _ _ (PySem.Stmt.For _ _ _ _ _ :: _) _))); fail "w")
  refine' draw_w hp7 (by decide) (by decide) (by omega) ?_
  intro oP8 oC8 x8 t8 news8 hp8 h08 h18 gr9
  refine O.add ?_
  intro tsp
  repeat' ((fail_if_success (first | (with_reducible show WP _ _ _ _ (PySem.Stmt.For _ _ _ _ _ :: _) _))); fail "w")
  refine' glyphs_ct.wR ?_
  rintro Dg news9 ⟨vg, kg, hDg, hPg⟩ gr10
  repeat' ((fail_if_success (first | (with_reducible show WP _ _ _ _ (PySem.Stmt.For _ _ _ _ _ :: _) _))); fail "w")
  refine' draw_w hp8 (by decide) (by decide) (by omega) ?_
  intro oP10 oC10 x10 t10 news10 hp10 h010 h110 gr11
  repeat' ((fail_if_success (first | (with_reducible show WP _ _ _ _ (PySem.Stmt.For _ _ _ _ _ :: _) _))); fail "w")
  obtain ⟨gl, hgl⟩ : ∃ y, glyphsL[x10.toNat]? = some y := ⟨_, List.getElem?_eq_getElem (show x10.toNat < 4 by omega)⟩
  obtain ⟨gv, hgv, gp⟩ := Paired.get' hPg hgl
  obtain ⟨ga, gt, gu, rfl, hga⟩ := gp
  have hvg := Paired.length hPg
  refine O.item rfl (List.mem_append_right _ (gr11.mem hDg)) lstP h010 (by omega) hgv ?_
  have hga2 := gr11.mem hga
  repeat' ((fail_if_success (first | (with_reducible show WP _ _ _ _ (PySem.Stmt.For _ _ _ _ _ :: _) _))); fail "w")
  refine' WE.dict ?w1 ?w2 ?w3 ?w4 ?_; (case w1 => rfl); (case w2 => rfl); (case w3 => decide); (case w4 => decide)
  intro dE hdE
  repeat' ((fail_if_success (first | (with_reducible show WP _ _ _ _ (PySem.Stmt.For _ _ _ _ _ :: _) _))); fail "w")
  refine' name_ct.wR ?_
  intro nb news12 hnb gr12
  repeat' ((fail_if_success (first | (with_reducible show WP _ _ _ _ (PySem.Stmt.For _ _ _ _ _ :: _) _))); fail "w")
  refine DK.done rfl (show (["Differences"] : List Str).Nodup by decide +kernel) ?_
  intro oE hPE
  first | refine WP.freeze ?_ | refine WE.freeze ?_ | refine WA.freeze ?_ | refine WO.freeze ?_ | refine WB.freeze ?_ | refine WFor.freeze ?_
  repeat' ((fail_if_success (first | (with_reducible show WP _ _ _ _ (PySem.Stmt.For _ _ _ _ _ :: _) _))); fail "w")
  refine O.dset (.tail (.tail .head)) hP7 (strKind_is _ _ _ _) (by omega) ?_
  intro oh15 hP15
  first | refine WP.unrot ?_ | refine WE.unrot ?_ | refine WA.unrot ?_ | refine WO.unrot ?_ | refine WB.unrot ?_ | refine WFor.unrot ?_
  first | refine WP.freeze ?_ | refine WE.freeze ?_ | refine WA.freeze ?_ | refine WO.freeze ?_ | refine WB.freeze ?_ | refine WFor.freeze ?_
  repeat' ((fail_if_success (first | (with_reducible show WP _ _ _ _ (PySem.Stmt.For _ _ _ _ _ :: _) _))); fail "w")
  refine' (lawtexts_ct hp10 (by omega)).w ?_
  rintro _ _ r mu' news16 ⟨oP16, oC16, dc, D0, rfl, hp16, rfl, hCh, hSV, hDl⟩ gr16
  have hdh : (dh, oh15) ∈ news16 := gr16.mem List.mem_cons_self
  have gr17 : Gr news7 news16 := Gr.trans (by fail "gr") gr16
  have hF15 : valueAt (stored kvs7 "Encoding" (.ref dE)) "FirstChar" = some (.int (62 + x1) t0) := by rw [val_ne _ (by decide +kernel)]; exact hF7
  have hW15 : valueAt (stored kvs7 "Encoding" (.ref dE)) "Widths" = some (.ref D) := by rw [val_ne _ (by decide +kernel)]; exact hW7
  have hU15 : UnitF (stored kvs7 "Encoding" (.ref dE)) ut up news16 := (hU7.gr gr17).put _ (by decide +kernel) (by decide +kernel)
  have hM15 : MissF g (stored kvs7 "Encoding" (.ref dE)) mt mp news16 := (hM7.gr gr17).put _ (by decide +kernel)
  have hE15 : EncF g (stored kvs7 "Encoding" (.ref dE)) (65 + x8) gl.1 news16 := by
    refine EncF.gr gr16 ?_
    exact ⟨dE, oE, _, _, _, nb, _, _, val_eq _ _ _, by fail "mem", hPE.cls, hPE, rfl, rfl, by fail "mem", hnb.gr (by fail "gr")⟩
  generalize stored kvs7 "Encoding" (.ref dE) = kvs15 at hP15 hF15 hW15 hU15 hM15 hE15
  have H : SHead g kvs15 dh oh15 (62 + x1) D vs ws mt mp ut up (65 + x8) gl.1 news16 := ⟨hdh, hP15, ⟨_, hF15⟩, hW15, ⟨_, gr17.mem hl⟩, hPw.mono fun _ _ h => h.gr gr17, hU15, hM15, hE15⟩
  have hga16 : (ga, tupO [.str gl.1 gt, .str gl.2 gu]) ∈ news16 := gr16.mem (by fail "mem")
  clear hdh hP15 hF15 hW15 hU15 hM15 hE15 hP7 hkl7 hF7 hW7 hU7 hM7 hPE hDg hPg
  repeat' ((fail_if_success (first | (with_reducible show WP _ _ _ _ (PySem.Stmt.For _ _ _ _ _ :: _) _))); fail "w")
  refine' draw_w hp16 (by decide) (by decide) (by omega) ?_
  intro oP18 oC18 x18 t18 news18 hp18 h018 h118 gr18
  repeat' ((fail_if_success (first | (with_reducible show WP _ _ _ _ (PySem.Stmt.For _ _ _ _ _ :: _) _))); fail "w")
  refine WCo.Rz (num := x18.toNat) (fun z : Obj × Obj × List Int => (P, z.1) :: (C, z.2.1) :: rest) (fun i z ys news' => Pot C (N + 60 + i) z.1 z.2.1 ∧ IntsAre ys z.2.2 ∧ (∀ k ∈ z.2.2, 64 ≤ k ∧ k ≤ 77) ∧ z.2.2.length = i) (oP18, oC18, []) (by fail "mem") (rng_small (by omega) (by omega)) (rng_size _) (by decide) rfl (by omega) rfl ⟨hp18.mono (by omega), .nil, (fun _ h => nomatch h), rfl⟩ ?_ ?_
  · rintro i t z1 ys news' KY KS hE hi ⟨hp5, hIn, hb, hyl⟩ gr
    repeat' ((fail_if_success (first | (with_reducible show WP _ _ _ _ (PySem.Stmt.For _ _ _ _ _ :: _) _))); fail "w")
    repeat' ((fail_if_success (first | (with_reducible show WP _ _ _ _ (PySem.Stmt.For _ _ _ _ _ :: _) _))); fail "w")
    refine' draw_w hp5 (by decide) (by decide) (by omega) ?_
    intro oP6 oC6 x6 t6 news6 hp6 h06 h16 gr6
    repeat' ((fail_if_success (first | (with_reducible show WP _ _ _ _ (PySem.Stmt.For _ _ _ _ _ :: _) _))); fail "w")
    refine hE.it (_, _, z1.2.2 ++ [64 + x6]) _ _ _ rfl (by fail "gr") ?_
    refine ⟨hp6, ints_snoc hIn, ?_, by simp [hyl]⟩
    intro k hk
    rcases List.mem_append.mp hk with hk | hk
    · exact hb k hk
    · rw [List.mem_singleton.mp hk]; omega
  rintro Do z2 yo news19 ⟨hp19, hIn, hb, hnl⟩ hyo gr19
  repeat' ((fail_if_success (first | (with_reducible show WP _ _ _ _ (PySem.Stmt.For _ _ _ _ _ :: _) _))); fail "w")
  refine O.bMake (by fail "mem") lstP hIn (fun k hk => by have := hb k hk; omega) (by omega) ?_
  rintro ob tb hob hobz
  repeat' ((fail_if_success (first | (with_reducible show WP _ _ _ _ (PySem.Stmt.For _ _ _ _ _ :: _) _))); fail "w")
  first | refine WP.thaw ?_ | refine WE.thaw ?_ | refine WA.thaw ?_ | refine WO.thaw ?_ | refine WB.thaw ?_ | refine WFor.thaw ?_
  have gr20 : Gr news16 ((Do, lstO yo yo.length) :: news19) := gr18.trans (Gr.trans (Gr.refl _).cons (gr19.trans (Gr.refl _).cons))
  have gr21 := gr17.trans gr20
  refine ls_rows (gr0.trans gr21) (H.gr gr20) ⟨by omega, hne, hlen, hb0, hmb1, hmb2, hut, hup, by omega, by omega, List.mem_of_getElem? hgl⟩ (hua.gr gr21) (hvm.gr gr21) (gr20.mem hga16) (hCh.gr gr20) hSV hDl hob (by omega) hb (hp19.mono (by omega)) hK
end
end

-- G39
section
section
variable {g : Gp}
theorem head4 {v1 : Value} {i : Int} {t u w : Tok} {d : Addr} {o : Obj} (P : DctP (sk g) (strPairs [(.str "Subtype" t, v1), (.str "FirstChar" u, .int i w)]) d o) :
    ∃ kvs, DctP (sk g) kvs d o ∧ valueAt kvs "Subtype" = some v1 ∧ (∃ t0, valueAt kvs "FirstChar" = some (.int i t0)) ∧ valueAt kvs "FontDescriptor" = none ∧ kvs.length ≤ 2 := ⟨_, P, rfl, ⟨w, rfl⟩, rfl, Nat.le_refl _⟩
theorem lawsimple_ct {P C : Addr} {oP oC : Obj} {N : Nat} {rest news : LedT} (hp : Pot C N oP oC) (hN : N ≤ 10000) :
    CtX (GG g) 7 676 [.ref P] ((P, oP) :: (C, oC) :: rest) news (fun r mu' news' => ∃ oP' oC', mu' = (P, oP') :: (C, oC') :: rest ∧ Pot C (N + 100) oP' oC' ∧ LawRes g r news') := by
  fail "enterW"
  intro K hK Rt
  dsimp only
  repeat' ((fail_if_success (first | (with_reducible show WP _ _ _ _ (PySem.Stmt.If _ _ _ _ :: _ :: _) _))); fail "w")
  refine' WE.dict ?w1 ?w2 ?w3 ?w4 ?_; (case w1 => rfl); (case w2 => rfl); (case w3 => decide); (case w4 => decide)
  intro dh hdh
  repeat' ((fail_if_success (first | (with_reducible show WP _ _ _ _ (PySem.Stmt.If _ _ _ _ :: _ :: _) _))); fail "w")
  refine' name_ct.wR ?_
  intro n1 news1 hn1 gr1
  repeat' ((fail_if_success (first | (with_reducible show WP _ _ _ _ (PySem.Stmt.If _ _ _ _ :: _ :: _) _))); fail "w")
  refine WO.rot ?_
  refine' draw_w hp (by decide) (by decide) (by omega) ?_
  intro oP1 oC1 x1 t1 news2 hp1 h01 h11 gr2
  refine WO.unrot ?_
  repeat' ((fail_if_success (first | (with_reducible show WP _ _ _ _ (PySem.Stmt.If _ _ _ _ :: _ :: _) _))); fail "w")
  refine DK.done rfl (show (["Subtype", "FirstChar"] : List Str).Nodup by decide +kernel) ?_
  intro oh hP4
  obtain ⟨kvs4, hP4, hS4, ⟨t0, hF4⟩, hFD4, hL4⟩ := head4 hP4
  first | refine WP.rot ?_ | refine WE.rot ?_ | refine WA.rot ?_ | refine WO.rot ?_ | refine WB.rot ?_ | refine WFor.rot ?_
  repeat' ((fail_if_success (first | (with_reducible show WP _ _ _ _ (PySem.Stmt.If _ _ _ _ :: _ :: _) _))); fail "w")
  have gr3 : Gr news news2 := gr1.trans gr2
  have hn2 := hn1.gr gr2
  refine WP.join (fun z : Obj × Obj × Obj × List (Str × Value) × Addr × Int × Nat × Option Value × Tok => ([("pot", some (.ref P)), ("head", some (.ref dh)), ("unit", some (.ref z.2.2.2.2.1)), ("factor", z.2.2.2.2.2.2.2.1), ("widths", none), ("missing", none), ("spot", none), ("glyph", none), ("chars", none), ("octets", none), ("rows", none), ("code", none), ("place", none), ("width", none), ("text", none), ("font", none), ("Name", some (.ref 197)), ("_law_draw", some (.ref 638)), ("Decimal", some (.ref 155)), ("_law_fraction", some (.ref 652)), ("range", some (.type "range")), ("_law_number", some (.ref 645)), ("_law_glyphs", some (.ref 626)), ("_law_texts", some (.ref 671)), ("bytes", some (.type "bytes")), ("len", some (.builtin "len")), ("chr", some (.builtin "chr")), ("_law_product", some (.ref 659)), ("simple_font", some (.ref 611)), ("Lookup", some (.ref 318)), ("CMap", some (.ref 344))] : Tab)) (fun z => (P, z.1) :: (C, z.2.1) :: (dh, z.2.2.1) :: rest) (fun z news' => Pot C (N + 3) z.1 z.2.1 ∧ DctP (sk g) z.2.2.2.1 dh z.2.2.1 ∧ z.2.2.2.1.length ≤ 4 ∧ valueAt z.2.2.2.1 "FirstChar" = some (.int (62 + x1) z.2.2.2.2.2.2.2.2) ∧ valueAt z.2.2.2.1 "FontDescriptor" = none ∧ UnitF z.2.2.2.1 z.2.2.2.2.2.1 z.2.2.2.2.2.2.1 news' ∧ PairAt (.ref z.2.2.2.2.1) (z.2.2.2.2.2.1, (z.2.2.2.2.2.2.1 : Int)) news' ∧ z.2.2.2.2.2.1.natAbs ≤ 40 ∧ z.2.2.2.2.2.2.1 ≤ 3) ?_ ?_
  · intro K' hT
    repeat' ((fail_if_success (first | (with_reducible show WP _ _ _ _ (PySem.Stmt.If _ _ _ _ :: _ :: _) _))); fail "w")
    refine' draw_w hp1 (by decide) (by decide) (by omega) ?_
    intro oP2 oC2 x2 t2 news3 hp2 h02 h12 gr4
    repeat' ((fail_if_success (first | (with_reducible show WP _ _ _ _ (PySem.Stmt.If _ _ _ _ :: _ :: _) _))); fail "w")
    refine' ite_beqI ?_ ?_ <;> intro hz
    · repeat' ((fail_if_success (first | (with_reducible show WP _ _ _ _ (PySem.Stmt.If _ _ _ _ :: _ :: _) _))); fail "w")
      refine' draw_w hp2 (by decide) (by decide) (by omega) ?_
      intro oP3 oC3 x3 t3 news4 hp3 h03 h13 gr5
      repeat' ((fail_if_success (first | (with_reducible show WP _ _ _ _ (PySem.Stmt.If _ _ _ _ :: _ :: _) _))); fail "w")
      refine' (dec_ct (p := 3)).wR ?_
      intro yf news5 hyf gr6
      repeat' ((fail_if_success (first | (with_reducible show WP _ _ _ _ (PySem.Stmt.If _ _ _ _ :: _ :: _) _))); fail "w")
      refine' (frac_dec hyf).w ?_
      rintro _ _ r mu' news6 ⟨rfl, ua, u1, u2, rfl, hua⟩ gr7
      repeat' ((fail_if_success (first | (with_reducible show WP _ _ _ _ (PySem.Stmt.If _ _ _ _ :: _ :: _) _))); fail "w")
      refine' name_ct.wR ?_
      intro n2 news7 hn7 gr8
      repeat' ((fail_if_success (first | (with_reducible show WP _ _ _ _ (PySem.Stmt.If _ _ _ _ :: _ :: _) _))); fail "w")
      refine O.dset (.tail (.tail .head)) hP4 (strKind_is _ _ _ _) (by omega) ?_
      intro oh2 hP5
      repeat' ((fail_if_success (first | (with_reducible show WP _ _ _ _ (PySem.Stmt.If _ _ _ _ :: _ :: _) _))); fail "w")
      refine O.dset (.tail (.tail .head)) hP5 (strKind_is _ _ _ _) (Nat.le_trans (stored_length_le _ _ _) (by omega)) ?_
      intro oh3 hP6
      repeat' ((fail_if_success (first | (with_reducible show WP _ _ _ _ (PySem.Stmt.If _ _ _ _ :: _ :: _) _))); fail "w")
      obtain ⟨b1, b2⟩ := norm_bound 3 (1 + x3)
      have grx := gr7.trans gr8
      refine' hT.next (_, _, _, _, ua, (norm (1 + x3) 3).1, (norm (1 + x3) 3).2, _, _) _ _ _ (by fail "tab") (by rfl) (by fail "gr") ?J1
      case' J1 => dsimp only
      refine' ⟨hp3, hP6, Nat.le_trans (stored_length_le _ _ _) (Nat.succ_le_succ (Nat.le_trans (stored_length_le _ _ _) (Nat.succ_le_succ hL4))), by rw [val_ne _ (by decide +kernel), val_ne _ (by decide +kernel)]; exact hF4, by rw [val_ne _ (by decide +kernel), val_ne _ (by decide +kernel)]; exact hFD4, .inr ⟨n2, _, _, .ref yf, _, _, by rw [val_ne _ (by decide +kernel), val_eq], hn7.gr (Gr.refl _).cons, val_eq _ _ _, List.mem_cons_self, rfl, .inr ⟨yf, rfl, (hyf.gr grx).gr (Gr.refl _).cons⟩⟩, ⟨_, u1, u2, rfl, List.mem_cons_of_mem _ (gr8.mem hua)⟩, by omega, b1⟩
    · repeat' ((fail_if_success (first | (with_reducible show WP _ _ _ _ (PySem.Stmt.If _ _ _ _ :: _ :: _) _))); fail "w")
      refine' hT.next (_, _, _, kvs4, _, 1, 3, _, t0) _ _ _ (by fail "tab") (by rfl) (by fail "gr") ?J2
      case' J2 => dsimp only
      exact ⟨hp2.mono (by omega), hP4, by omega, hF4, hFD4, .inl ⟨n1, _, hS4, hn2.gr (by fail "gr"), rfl, rfl⟩, ⟨_, _, _, rfl, by fail "mem"⟩, by decide, by decide⟩
  clear hP4 hS4 hFD4 hF4 hL4 kvs4
  rintro z1 news3 ⟨hp3, hP, hkl, hF, hFD, hU, hua, hub1, hub2⟩ gr4
  replace gr4 := (Gr.refl _).cons.trans gr4
  repeat' ((fail_if_success (first | (with_reducible show WP _ _ _ _ (PySem.Stmt.If _ _ _ _ :: _ :: _) _))); fail "w")
  refine' draw_w hp3 (by decide) (by decide) (by omega) ?_
  intro oP4 oC4 x4 t4 news4 hp4 h04 h14 gr5
  repeat' ((fail_if_success (first | (with_reducible show WP _ _ _ _ (PySem.Stmt.If _ _ _ _ :: _ :: _) _))); fail "w")
  refine WCs.Rz (num := (1 + x4).toNat) (by fail "nm") (fun z : Obj × Obj × List (Int × Nat) => (P, z.1) :: (C, z.2.1) :: (dh, z1.2.2.1) :: rest) (fun i z ys news' => Pot C (N + 4 + 2 * i) z.1 z.2.1 ∧ Paired (fun v w => NumAt v w.1 w.2 news') ys z.2.2 ∧ (∀ w ∈ z.2.2, w.1.natAbs ≤ 1300 ∧ w.2 ≤ 1) ∧ ys.length = i) (oP4, oC4, []) (by fail "mem") (rng_small (by omega) (by omega)) (rng_size _) (by decide) rfl (by omega) rfl ⟨hp4.mono (by omega), .nil, (fun _ h => nomatch h), rfl⟩ ?_ ?_
  · rintro i t z2 ys news' KY KS hE hi ⟨hp5, hPw, hb, hyl⟩ gr
    repeat' ((fail_if_success (first | (with_reducible show WP _ _ _ _ (PySem.Stmt.If _ _ _ _ :: _ :: _) _))); fail "w")
    repeat' ((fail_if_success (first | (with_reducible show WP _ _ _ _ (PySem.Stmt.If _ _ _ _ :: _ :: _) _))); fail "w")
    refine' (number_ct hp5 (by omega)).w ?_
    rintro _ _ r mu' news6 ⟨oP6, oC6, top, pp, rfl, hp6, hn6, hb1, hb2⟩ gr6
    repeat' ((fail_if_success (first | (with_reducible show WP _ _ _ _ (PySem.Stmt.If _ _ _ _ :: _ :: _) _))); fail "w")
    refine hE.it (_, _, z2.2.2 ++ [(top, pp)]) _ _ _ rfl (by fail "gr") ?_
    refine ⟨hp6, (hPw.mono fun _ _ h => h.gr gr6).snoc hn6, ?_, by simp [hyl]⟩
    intro w hw
    rcases List.mem_append.mp hw with hw | hw
    · exact hb w hw
    · rw [List.mem_singleton.mp hw]; exact ⟨hb1, hb2⟩
  rintro D z3 vs news5 ⟨hp5, hPw, hb0, hyl⟩ hvl gr6
  repeat' ((fail_if_success (first | (with_reducible show WP _ _ _ _ (PySem.Stmt.If _ _ _ _ :: _ :: _) _))); fail "w")
  refine O.dset (.tail (.tail .head)) hP (strKind_is _ _ _ _) (by omega) ?_
  intro oh6 hP6
  repeat' ((fail_if_success (first | (with_reducible show WP _ _ _ _ (PySem.Stmt.If _ _ _ _ :: _ :: _) _))); fail "w")
  have gr7 : Gr news2 ((D, lstO vs vs.length) :: news5) := (gr4.trans (gr5.trans ((Gr.refl _).cons.trans gr6))).trans (Gr.refl _).cons
  have hvr : vs ≠ [] := by rintro rfl; simp at hyl; omega
  have hF6 : valueAt (stored z1.2.2.2.1 "Widths" (.ref D)) "FirstChar" = some (.int (62 + x1) z1.2.2.2.2.2.2.2.2) := by rw [val_ne _ (by decide +kernel)]; exact hF
  have hFD6 : valueAt (stored z1.2.2.2.1 "Widths" (.ref D)) "FontDescriptor" = none := by rw [val_ne _ (by decide +kernel)]; exact hFD
  have hW6 : valueAt (stored z1.2.2.2.1 "Widths" (.ref D)) "Widths" = some (.ref D) := val_eq _ _ _
  have hU6 : UnitF (stored z1.2.2.2.1 "Widths" (.ref D)) z1.2.2.2.2.2.1 z1.2.2.2.2.2.2.1 ((D, lstO vs vs.length) :: news5) := (hU.gr (by fail "gr")).put _ (by decide +kernel) (by decide +kernel)
  have hkl6 := Nat.le_trans (stored_length_le z1.2.2.2.1 "Widths" (.ref D)) (Nat.succ_le_succ hkl)
  generalize stored z1.2.2.2.1 "Widths" (.ref D) = kvs6 at hP6 hF6 hFD6 hW6 hU6 hkl6
  repeat' ((fail_if_success (first | (with_reducible show WP _ _ _ _ (PySem.Stmt.If _ _ _ _ :: _ :: _) _))); fail "w")
  refine WP.join (fun z : Obj × Obj × Obj × List (Str × Value) × Value × Int × Nat => ([("pot", some (.ref P)), ("head", some (.ref dh)), ("unit", some (.ref z1.2.2.2.2.1)), ("factor", z1.2.2.2.2.2.2.2.1), ("widths", some (.ref D)), ("missing", some (z.2.2.2.2.1)), ("spot", none), ("glyph", none), ("chars", none), ("octets", none), ("rows", none), ("code", none), ("place", none), ("width", none), ("text", none), ("font", none), ("Name", some (.ref 197)), ("_law_draw", some (.ref 638)), ("Decimal", some (.ref 155)), ("_law_fraction", some (.ref 652)), ("range", some (.type "range")), ("_law_number", some (.ref 645)), ("_law_glyphs", some (.ref 626)), ("_law_texts", some (.ref 671)), ("bytes", some (.type "bytes")), ("len", some (.builtin "len")), ("chr", some (.builtin "chr")), ("_law_product", some (.ref 659)), ("simple_font", some (.ref 611)), ("Lookup", some (.ref 318)), ("CMap", some (.ref 344))] : Tab)) (fun z => (P, z.1) :: (C, z.2.1) :: (dh, z.2.2.1) :: rest) (fun z news' => Pot C (N + 40) z.1 z.2.1 ∧ DctP (sk g) z.2.2.2.1 dh z.2.2.1 ∧ z.2.2.2.1.length ≤ 6 ∧ valueAt z.2.2.2.1 "FirstChar" = some (.int (62 + x1) z1.2.2.2.2.2.2.2.2) ∧ valueAt z.2.2.2.1 "Widths" = some (.ref D) ∧ UnitF z.2.2.2.1 z1.2.2.2.2.2.1 z1.2.2.2.2.2.2.1 news' ∧ MissF g z.2.2.2.1 z.2.2.2.2.2.1 z.2.2.2.2.2.2 news' ∧ NumAt z.2.2.2.2.1 z.2.2.2.2.2.1 z.2.2.2.2.2.2 news' ∧ z.2.2.2.2.2.1.natAbs ≤ 1300 ∧ z.2.2.2.2.2.2 ≤ 1) ?_ ?_
  · intro K' hT
    repeat' ((fail_if_success (first | (with_reducible show WP _ _ _ _ (PySem.Stmt.If _ _ _ _ :: _ :: _) _))); fail "w")
    refine' draw_w hp5 (by decide) (by decide) (by omega) ?_
    intro oP8 oC8 x8 t8 news8 hp8 h08 h18 gr8
    repeat' ((fail_if_success (first | (with_reducible show WP _ _ _ _ (PySem.Stmt.If _ _ _ _ :: _ :: _) _))); fail "w")
    refine' ite_beqI ?_ ?_ <;> intro hz
    · repeat' ((fail_if_success (first | (with_reducible show WP _ _ _ _ (PySem.Stmt.If _ _ _ _ :: _ :: _) _))); fail "w")
      refine' (number_ct hp8 (by omega)).w ?_
      rintro _ _ r mu' news9 ⟨oP9, oC9, mt, mp, rfl, hp9, hn9, hb1, hb2⟩ gr9
      repeat' ((fail_if_success (first | (with_reducible show WP _ _ _ _ (PySem.Stmt.If _ _ _ _ :: _ :: _) _))); fail "w")
      refine' WE.dict ?w1 ?w2 ?w3 ?w4 ?_; (case w1 => rfl); (case w2 => rfl); (case w3 => decide); (case w4 => decide)
      intro d2 hd2
      repeat' ((fail_if_success (first | (with_reducible show WP _ _ _ _ (PySem.Stmt.If _ _ _ _ :: _ :: _) _))); fail "w")
      refine DK.done rfl (show (["MissingWidth"] : List Str).Nodup by decide +kernel) ?_
      intro o2 hP2
      first | refine WP.freeze ?_ | refine WE.freeze ?_ | refine WA.freeze ?_ | refine WO.freeze ?_ | refine WB.freeze ?_ | refine WFor.freeze ?_
      repeat' ((fail_if_success (first | (with_reducible show WP _ _ _ _ (PySem.Stmt.If _ _ _ _ :: _ :: _) _))); fail "w")
      refine O.dset (.tail (.tail .head)) hP6 (strKind_is _ _ _ _) (by omega) ?_
      intro oh9 hP9
      repeat' ((fail_if_success (first | (with_reducible show WP _ _ _ _ (PySem.Stmt.If _ _ _ _ :: _ :: _) _))); fail "w")
      have gr10 : Gr ((D, lstO vs vs.length) :: news5) ((d2, o2) :: news9) := (gr8.trans gr9).trans (Gr.refl _).cons
      refine' hT.next (_, _, _, stored kvs6 "FontDescriptor" (.ref d2), r, mt, mp) _ _ _ (by fail "tab") (by rfl) gr10 ?J3
      case' J3 => dsimp only
      exact ⟨hp9.mono (by omega), hP9, Nat.le_trans (stored_length_le _ _ _) (by omega), by rw [val_ne _ (by decide +kernel)]; exact hF6, by rw [val_ne _ (by decide +kernel)]; exact hW6, (hU6.gr gr10).put _ (by decide +kernel) (by decide +kernel), .inr ⟨d2, o2, _, r, val_eq _ _ _, List.mem_cons_self, hP2.cls, hP2, rfl, hn9.gr (Gr.refl _).cons⟩, hn9.gr (Gr.refl _).cons, hb1, hb2⟩
    · repeat' ((fail_if_success (first | (with_reducible show WP _ _ _ _ (PySem.Stmt.If _ _ _ _ :: _ :: _) _))); fail "w")
      refine' hT.next (_, _, _, kvs6, _, 0, 0) _ _ _ (by fail "tab") (by rfl) gr8 ?J4
      case' J4 => dsimp only
      exact ⟨hp8.mono (by omega), hP6, by omega, hF6, hW6, hU6.gr gr8, .inl ⟨hFD6, rfl, rfl⟩, .inl ⟨_, rfl, rfl⟩, by decide, by decide⟩
  clear hP6 hF6 hFD6 hW6 hU6 hkl6
  rintro z4 news7 ⟨hp7, hP7, hkl7, hF7, hW7, hU7, hM7, hvm, hmb1, hmb2⟩ gr8
  exact ls_mid ((gr3.trans gr7).trans gr8) hN hp7 hP7 hkl7 h01 h11 hF7 hW7 hU7 hM7 hvm (gr8.mem List.mem_cons_self) hvr (by omega) (hPw.mono fun _ _ h => (h.gr (Gr.refl _).cons).gr gr8) hb0 hmb1 hmb2 (hua.gr (by fail "gr")) hub1 hub2 hK
end
end

-- G40
section
structure WHead (g : Gp) (kvs2 : List (Str × Value)) (db : Addr) (o2 : Obj) (lw lws cr : Addr) (first later : Int) (vs : List Value) (ws : List (Int × Nat)) (ew : Value) (e d : Int × Nat) (cids : List CidR) (news : LedT) : Prop where
  hd2 : (db, o2) ∈ news
  dct : DctP (sk g) kvs2 db o2
  w : valueAt kvs2 "W" = some (.ref lw)
  dw : (valueAt kvs2 "DW" = none ∧ d = (1000, 0)) ∨ ∃ v, valueAt kvs2 "DW" = some v ∧ NumAt v d.1 d.2 news
  arr : ∃ t1 t2 t3 nw, (lw, lstO [.int first t1, .ref lws, .int later t2, .int (later + 4) t3, ew] nw) ∈ news
  lst : ∃ k, (lws, lstO vs k) ∈ news
  num : Paired (fun v w => NumAt v w.1 w.2 news) vs ws
  ew : NumAt ew e.1 e.2 news
  cids : ∃ k rs, (cr, lstO rs k) ∈ news ∧ Paired (fun y r => CidAt y r news) rs cids
theorem WHead.gr {g : Gp} {kvs2 : List (Str × Value)} {db : Addr} {o2 : Obj} {lw lws cr : Addr} {first later : Int} {vs : List Value} {ws : List (Int × Nat)} {ew : Value} {e d : Int × Nat} {cids : List CidR} {l l' : LedT} (gr : Gr l l') (h : WHead g kvs2 db o2 lw lws cr first later vs ws ew e d cids l) : WHead g kvs2 db o2 lw lws cr first later vs ws ew e d cids l' :=
  ⟨gr.mem h.hd2, h.dct, h.w, h.dw.imp id fun ⟨v, a, b⟩ => ⟨v, a, b.gr gr⟩, let ⟨t1, t2, t3, n, q⟩ := h.arr; ⟨t1, t2, t3, n, gr.mem q⟩, h.lst.imp fun _ q => gr.mem q, h.num.mono fun _ _ q => q.gr gr, h.ew.gr gr, let ⟨k, rs, a, b⟩ := h.cids; ⟨k, rs, gr.mem a, b.mono fun _ _ q => q.gr gr⟩⟩
structure WNum (mixed : Bool) (first later : Int) (vs : List Value) (ws : List (Int × Nat)) (e d : Int × Nat) (cids : List CidR) : Prop where
  f0 : 0 ≤ first
  l0 : 0 ≤ later
  len : vs.length ≤ 100
  ws : ∀ w ∈ ws, w.1.natAbs ≤ 1300 ∧ w.2 ≤ 1
  e : e.1.natAbs ≤ 1300 ∧ e.2 ≤ 1
  d : d.1.natAbs ≤ 1300 ∧ d.2 ≤ 1
  cz : mixed = false → cids = [(2, 0, 65535, 0)]
  clen : cids.length ≤ 100
section
variable {g : Gp}
theorem lw_end {rest news0 news : LedT} {K : Flow → Tab → LedT → LedT → Prop} {P C db Dr dc cr lw lws : Addr} {oP oC o2 : Obj} {N kk : Nat} {mixed : Bool} {o1 o2' o3 o4 o5 o6 o7 o8 o9 o10 o11 : Option Value} {ob : Array UInt8} {tb : Tok} {rs vs : List Value}
    {kvs2 : List (Str × Value)} {first later : Int} {ws : List (Int × Nat)} {ew : Value} {e d : Int × Nat} {cids : List CidR} {D0 : List (PyData × PyData)}

 (gr : Gr news0 news) (H : WHead g kvs2 db o2 lw lws cr first later vs ws ew e d cids news) (B : WNum mixed first later vs ws e d cids)
    (hCh : Chs PySem.Challenge.pw_og0191_01 g.w dc D0 news) (hSV : StrVals D0) (hz : ob.size ≤ 100)
    (hRs : Paired (fun v p => RowOk v p (wdW first ws later e d cids p) (txW D0 p) news) rs (lawCut mixed (KBw.bInts ob))) (hp : Pot C N oP oC)
    (hK : ∀ fl R' mu' news', Gr news0 news' → (∃ oP' oC', mu' = (P, oP') :: (C, oC') :: rest ∧ Pot C N oP' oC' ∧ LawRes g (retOf fl) news') → K fl R' mu' news') :
    WP ⟨g, 6, .fn (("pot", NameKind.cell) :: ("is_mixed", NameKind.local) :: ("cid_rows", NameKind.local) :: ("turn", NameKind.local) :: ("length", NameKind.local) :: ("low", NameKind.local) :: ("first", NameKind.local) :: ("widths", NameKind.local) :: ("later", NameKind.local) :: ("equal_width", NameKind.local) :: ("below", NameKind.local) :: ("default", NameKind.local) :: ("chars", NameKind.local) :: ("octets", NameKind.local) :: ("rows", NameKind.local) :: ("pair", NameKind.local) :: ("glyph", NameKind.local) :: ("width", NameKind.local) :: ("head", NameKind.local) :: ("cutting", NameKind.local) :: ("_law_draw", NameKind.globalImplicit) :: ("range", NameKind.globalImplicit) :: ("_law_number", NameKind.globalImplicit) :: ("_law_texts", NameKind.globalImplicit) :: ("bytes", NameKind.globalImplicit) :: ("_law_cut", NameKind.globalImplicit) :: ("_law_glyph", NameKind.globalImplicit) :: ("len", NameKind.globalImplicit) :: ("_law_product", NameKind.globalImplicit) :: ("_law_fraction", NameKind.globalImplicit) :: ("Name", NameKind.globalImplicit) :: ("CMap", NameKind.globalImplicit) :: ("wide_font", NameKind.globalImplicit) :: ("Lookup", NameKind.globalImplicit) :: [] : List (Str × NameKind)), false, false⟩ (("pot", some (.ref P)) :: ("is_mixed", some (.bool mixed)) :: ("cid_rows", some (.ref cr)) :: ("turn", o1) :: ("length", o2') :: ("low", o3) :: ("first", o4) :: ("widths", o5) :: ("later", o6) :: ("equal_width", o7) :: ("below", some (.ref db)) :: ("default", o8) :: ("chars", some (.ref dc)) :: ("octets", some (.bytes ob tb)) :: ("rows", some (.ref Dr)) :: ("pair", o9) :: ("glyph", o10) :: ("width", o11) :: ("head", none) :: ("cutting", none) :: ("_law_draw", some (.ref 638)) :: ("range", some (.type "range")) :: ("_law_number", some (.ref 645)) :: ("_law_texts", some (.ref 671)) :: ("bytes", some (.type "bytes")) :: ("_law_cut", some (.ref 683)) :: ("_law_glyph", some (.ref 688)) :: ("len", some (.builtin "len")) :: ("_law_product", some (.ref 659)) :: ("_law_fraction", some (.ref 652)) :: ("Name", some (.ref 197)) :: ("CMap", some (.ref 344)) :: ("wide_font", some (.ref 619)) :: ("Lookup", some (.ref 318)) :: [] : Tab) ((Dr, lstO rs kk) :: (P, oP) :: (C, oC) :: rest) news (dropS (fnBody 87) 14) K := by
  conv => arg 5; whnf
  refine WP.lt ?_
  intro Rt
  first | refine WP.freeze ?_ | refine WE.freeze ?_ | refine WA.freeze ?_ | refine WO.freeze ?_ | refine WB.freeze ?_ | refine WFor.freeze ?_
  have gr1 : Gr news ((Dr, lstO rs kk) :: news) := (Gr.refl _).cons
  have H1 := H.gr gr1
  repeat' ((fail_if_success (first | (with_reducible show WE _ _ _ _ (PySem.Expr.IfExp _ _ _ _) _))); fail "w")
  refine' WE.dict ?w1 ?w2 ?w3 ?w4 ?_; (case w1 => rfl); (case w2 => rfl); (case w3 => decide); (case w4 => decide)
  intro dh hdh
  repeat' ((fail_if_success (first | (with_reducible show WE _ _ _ _ (PySem.Expr.IfExp _ _ _ _) _))); fail "w")
  refine' name_ct.wR ?_
  intro n1 news1 hn1 gr2
  repeat' ((fail_if_success (first | (with_reducible show WE _ _ _ _ (PySem.Expr.IfExp _ _ _ _) _))); fail "w")
  refine' name_ct.wR ?_
  intro n2 news2 hn2 gr3
  repeat' ((fail_if_success (first | (with_reducible show WE _ _ _ _ (PySem.Expr.IfExp _ _ _ _) _))); fail "w")
  refine DK.done rfl (show (["Subtype", "Encoding", "DescendantFonts"] : List Str).Nodup by decide +kernel) ?_
  intro oh hP4
  rename_i lb
  first | refine WP.freeze ?_ | refine WE.freeze ?_ | refine WA.freeze ?_ | refine WO.freeze ?_ | refine WB.freeze ?_ | refine WFor.freeze ?_
  obtain ⟨kvs4, hP, he4, hd4⟩ : ∃ kvs4, DctP (sk g) kvs4 dh oh ∧ valueAt kvs4 "Encoding" = some (.ref n2) ∧ valueAt kvs4 "DescendantFonts" = some (.ref lb) := ⟨_, hP4, rfl, rfl⟩
  have hlb : (lb, lstO [.ref db] 0) ∈ (dh, oh) :: (lb, lstO [.ref db] 0) :: news2 := .tail _ (.head _)
  have hdh4 : (dh, oh) ∈ (dh, oh) :: (lb, lstO [.ref db] 0) :: news2 := .head _
  have gr4 : Gr news2 ((dh, oh) :: (lb, lstO [.ref db] 0) :: news2) := (Gr.refl _).cons.cons
  generalize (dh, oh) :: (lb, lstO [.ref db] 0) :: news2 = news4 at gr4 hlb hdh4 ⊢
  clear hP4
  have gr5 : Gr news news4 := gr1.trans (gr2.trans (gr3.trans gr4))
  have H5 := H.gr gr5
  obtain ⟨kc, rsC, hcr, hcs⟩ := H5.cids
  repeat' ((fail_if_success (first | (with_reducible show WE _ _ _ _ (PySem.Expr.IfExp _ _ _ _) _))); fail "w")
  refine WE.join (fun z : Value => z) (fun _ => (P, oP) :: (C, oC) :: rest) (fun v news5 => ((v = .none ∧ spW mixed = [(2, 0, 65535)] ∧ cids = [(2, 0, 65535, 0)]) ∨ CutAt v (spW mixed) cids news5) ∧ handedIn v = true) ?_ ?_
  · intro K' hJ
    refine WE.ifExp ?_
    repeat' ((fail_if_success (first | (with_reducible show WE _ _ _ _ (PySem.Expr.IfExp _ _ _ _) _))); fail "w")
    refine iteB ?_ ?_ <;> intro hm
    · repeat' ((fail_if_success (first | (with_reducible show WE _ _ _ _ (PySem.Expr.IfExp _ _ _ _) _))); fail "w")
      refine' cmap_ct.wR ?_
      intro cm news6 hcm gr6
      repeat' ((fail_if_success (first | (with_reducible show WE _ _ _ _ (PySem.Expr.IfExp _ _ _ _) _))); fail "w")
      have e : spW mixed = [(1, 0, 127), (2, 32768, 65535)] := by rw [hm]; rfl
      refine hJ _ _ ⟨.inr ?_, rfl⟩ (Gr.trans (by fail "gr") (gr6.trans (Gr.refl _).cons))
      rw [e]
      exact ⟨_, _, _, _, _, _, _, _, _, rfl, .head _, hcm.gr (Gr.refl _).cons, Gr.mem (gr6.trans (Gr.refl _).cons) (by fail "mem"), .cons ⟨_, _, _, _, rfl, Gr.mem (gr6.trans (Gr.refl _).cons) (by fail "mem")⟩ (.cons ⟨_, _, _, _, rfl, Gr.mem (gr6.trans (Gr.refl _).cons) (by fail "mem")⟩ .nil), Gr.mem (Gr.trans (by fail "gr") (gr6.trans (Gr.refl _).cons)) hcr, hcs.mono fun _ _ q => q.gr (Gr.trans (by fail "gr") (gr6.trans (Gr.refl _).cons))⟩
    · repeat' ((fail_if_success (first | (with_reducible show WE _ _ _ _ (PySem.Expr.IfExp _ _ _ _) _))); fail "w")
      exact hJ _ _ ⟨.inl ⟨rfl, by rw [hm]; rfl, B.cz hm⟩, rfl⟩ (Gr.refl _)
  rintro v news6 ⟨hcut, hv⟩ gr6
  repeat' ((fail_if_success (first | (with_reducible show WE _ _ _ _ (PySem.Expr.IfExp _ _ _ _) _))); fail "w")
  refine' lookup_ct.wR ?_
  intro lk news7 hlk gr7
  repeat' ((fail_if_success (first | (with_reducible show WE _ _ _ _ (PySem.Expr.IfExp _ _ _ _) _))); fail "w")
  refine' cmap_ct.wR ?_
  intro cm news8 hcm gr8
  repeat' ((fail_if_success (first | (with_reducible show WE _ _ _ _ (PySem.Expr.IfExp _ _ _ _) _))); fail "w")
  have gr9 : Gr news6 news8 := (Gr.refl _).cons.cons.trans (gr7.trans ((Gr.refl _).cons.trans gr8))
  have gr10 := gr5.trans (gr6.trans gr9)
  have H9 := H.gr gr10
  obtain ⟨kl, hl⟩ := H9.lst
  obtain ⟨t1, t2, t3, nw, ha⟩ := H9.arr
  have hdw : ∃ dv, (valueAt kvs2 "DW").getD .none = dv ∧ ((dv = .none ∧ d.1 = 1000 ∧ d.2 = 0) ∨ NumAt dv d.1 d.2 news8) := by
    rcases H9.dw with ⟨q, rfl⟩ | ⟨v, q, r⟩
    · exact ⟨_, rfl, .inl ⟨by rw [q]; rfl, rfl, rfl⟩⟩
    · exact ⟨_, rfl, .inr (by rw [q]; exact r)⟩
  obtain ⟨dv, hdv, hdn⟩ := hdw
  refine (wide_ct (ow := o2) ⟨_, _, (hlk.gr (Gr.refl _).cons).gr gr8⟩ ((gr6.trans gr9).mem hdh4) hP (by rw [hd4]; rfl) ((gr6.trans gr9).mem hlb) H9.hd2 H9.dct.cls H9.dct (by rw [he4]; rfl) (hn2.gr (gr4.trans (gr6.trans gr9))) hdv hdn (by rw [H9.w]; rfl) ha hl H9.num H9.ew B.len B.f0 B.l0 (by have := B.l0; omega)
    (hcut.imp id fun q => q.gr gr9)).w ?_
  rintro _ _ r mu' news10 ⟨rfl, f, rfl, v1, c1, vm, hvm, hc1, hFW⟩ gr11
  repeat' ((fail_if_success (first | (with_reducible show WE _ _ _ _ (PySem.Expr.IfExp _ _ _ _) _))); fail "w")
  have gr12 := gr10.trans gr11
  have hU : UniAt g (.ref cm) D0 news10 := .inr ⟨cm, _, dc, rfl, hcm.gr gr11, hCh.gr gr12⟩
  have F := fontok_wide hFW hc1 hU hSV (H9.num.mono fun _ _ q => q.gr gr11) B.len (H9.ew.gr gr11) hvm B.ws B.e B.d hz
  refine hK _ _ _ _ (gr.trans (gr12.trans (Gr.refl _).cons)) ⟨_, _, rfl, hp, _, f, _, _, _, rs, kk, _, _, _, rfl, List.mem_cons_self, List.mem_cons_of_mem _ (Gr.mem (gr2.trans (gr3.trans (gr4.trans (gr6.trans (gr9.trans gr11))))) List.mem_cons_self), F.gr (Gr.refl _).cons, hRs.mono fun _ _ q => (q.gr gr12).gr (Gr.refl _).cons⟩
end
end

-- G41
section
section
variable {g : Gp}
theorem lw_rows {rest news0 news : LedT} {K : Flow → Tab → LedT → LedT → Prop} {P C db Dr dc cr lw lws : Addr} {oP oC o2 : Obj} {N kk : Nat} {mixed : Bool} {o1 o2' o3 o9 o10 o11 : Option Value} {t1 t2 : Tok} {ob : Array UInt8} {tb : Tok} {vs : List Value} {vm : Value}
    {kvs2 : List (Str × Value)} {first later : Int} {ws : List (Int × Nat)} {ew : Value} {e d : Int × Nat} {cids : List CidR} {D0 : List (PyData × PyData)}

 (gr : Gr news0 news) (H : WHead g kvs2 db o2 lw lws cr first later vs ws ew e d cids news) (B : WNum mixed first later vs ws e d cids) (hvm : NumAt vm d.1 d.2 news)
    (hCh : Chs PySem.Challenge.pw_og0191_01 g.w dc D0 news) (hSV : StrVals D0) (hz : ob.size ≤ 100) (hp : Pot C N oP oC)
    (hK : ∀ fl R' mu' news', Gr news0 news' → (∃ oP' oC', mu' = (P, oP') :: (C, oC') :: rest ∧ Pot C N oP' oC' ∧ LawRes g (retOf fl) news') → K fl R' mu' news') :
    WP ⟨g, 6, .fn (("pot", NameKind.cell) :: ("is_mixed", NameKind.local) :: ("cid_rows", NameKind.local) :: ("turn", NameKind.local) :: ("length", NameKind.local) :: ("low", NameKind.local) :: ("first", NameKind.local) :: ("widths", NameKind.local) :: ("later", NameKind.local) :: ("equal_width", NameKind.local) :: ("below", NameKind.local) :: ("default", NameKind.local) :: ("chars", NameKind.local) :: ("octets", NameKind.local) :: ("rows", NameKind.local) :: ("pair", NameKind.local) :: ("glyph", NameKind.local) :: ("width", NameKind.local) :: ("head", NameKind.local) :: ("cutting", NameKind.local) :: ("_law_draw", NameKind.globalImplicit) :: ("range", NameKind.globalImplicit) :: ("_law_number", NameKind.globalImplicit) :: ("_law_texts", NameKind.globalImplicit) :: ("bytes", NameKind.globalImplicit) :: ("_law_cut", NameKind.globalImplicit) :: ("_law_glyph", NameKind.globalImplicit) :: ("len", NameKind.globalImplicit) :: ("_law_product", NameKind.globalImplicit) :: ("_law_fraction", NameKind.globalImplicit) :: ("Name", NameKind.globalImplicit) :: ("CMap", NameKind.globalImplicit) :: ("wide_font", NameKind.globalImplicit) :: ("Lookup", NameKind.globalImplicit) :: [] : List (Str × NameKind)), false, false⟩ (("pot", some (.ref P)) :: ("is_mixed", some (.bool mixed)) :: ("cid_rows", some (.ref cr)) :: ("turn", o1) :: ("length", o2') :: ("low", o3) :: ("first", some (.int first t1)) :: ("widths", some (.ref lws)) :: ("later", some (.int later t2)) :: ("equal_width", some (ew)) :: ("below", some (.ref db)) :: ("default", some (vm)) :: ("chars", some (.ref dc)) :: ("octets", some (.bytes ob tb)) :: ("rows", some (.ref Dr)) :: ("pair", o9) :: ("glyph", o10) :: ("width", o11) :: ("head", none) :: ("cutting", none) :: ("_law_draw", some (.ref 638)) :: ("range", some (.type "range")) :: ("_law_number", some (.ref 645)) :: ("_law_texts", some (.ref 671)) :: ("bytes", some (.type "bytes")) :: ("_law_cut", some (.ref 683)) :: ("_law_glyph", some (.ref 688)) :: ("len", some (.builtin "len")) :: ("_law_product", some (.ref 659)) :: ("_law_fraction", some (.ref 652)) :: ("Name", some (.ref 197)) :: ("CMap", some (.ref 344)) :: ("wide_font", some (.ref 619)) :: ("Lookup", some (.ref 318)) :: [] : Tab) ((Dr, lstO [] kk) :: (P, oP) :: (C, oC) :: rest) news (dropS (fnBody 87) 13) K := by
  conv => arg 5; whnf
  refine WP.lt ?_
  intro Rt
  have hcl := lawCut_len mixed (KBw.bInts ob)
  rw [KBw.ints_length] at hcl
  repeat' ((fail_if_success (first | (with_reducible show WP _ _ _ _ (PySem.Stmt.If _ _ _ _ :: _ :: _) _))); fail "w")
  refine' (lawcut_ct (by omega)).w ?_
  rintro _ _ r mu' news1 ⟨rfl, Lc, ps, kp, rfl, hLc, hps⟩ gr1
  have hpl := Paired.length hps
  repeat' ((fail_if_success (first | (with_reducible show WP _ _ _ _ (PySem.Stmt.If _ _ _ _ :: _ :: _) _))); fail "w")
  refine WFor.Lz (fun z : List Value × Nat × Option Value × Option Value × Option Value => (("pot", some (.ref P)) :: ("is_mixed", some (.bool mixed)) :: ("cid_rows", some (.ref cr)) :: ("turn", o1) :: ("length", o2') :: ("low", o3) :: ("first", some (.int first t1)) :: ("widths", some (.ref lws)) :: ("later", some (.int later t2)) :: ("equal_width", some (ew)) :: ("below", some (.ref db)) :: ("default", some (vm)) :: ("chars", some (.ref dc)) :: ("octets", some (.bytes ob tb)) :: ("rows", some (.ref Dr)) :: ("pair", z.2.2.1) :: ("glyph", z.2.2.2.1) :: ("width", z.2.2.2.2) :: ("head", none) :: ("cutting", none) :: ("_law_draw", some (.ref 638)) :: ("range", some (.type "range")) :: ("_law_number", some (.ref 645)) :: ("_law_texts", some (.ref 671)) :: ("bytes", some (.type "bytes")) :: ("_law_cut", some (.ref 683)) :: ("_law_glyph", some (.ref 688)) :: ("len", some (.builtin "len")) :: ("_law_product", some (.ref 659)) :: ("_law_fraction", some (.ref 652)) :: ("Name", some (.ref 197)) :: ("CMap", some (.ref 344)) :: ("wide_font", some (.ref 619)) :: ("Lookup", some (.ref 318)) :: [] : Tab)) (fun z => (Dr, lstO z.1 z.2.1) :: (P, oP) :: (C, oC) :: rest) (fun i z news' => Paired (fun v p => RowOk v p (wdW first ws later e d cids p) (txW D0 p) news') z.1 ((lawCut mixed (KBw.bInts ob)).take i)) ([], _, _, _, _) hLc lstP rfl rfl .nil ?_ ?_
  · rintro i v z1 news' K' hT hv hRs gr'
    have gr2 := gr1.trans gr'
    have H' := H.gr gr2
    obtain ⟨p, hp', hpv⟩ := Paired.get hps hv
    obtain ⟨pa, pt, pu, rfl, hpa⟩ := hpv
    have hpa2 := gr'.mem hpa
    obtain ⟨kl, hl⟩ := H'.lst
    obtain ⟨kc, rsC, hcr, hcs⟩ := H'.cids
    have hvl := B.len
    have hcz := B.clen
    have hcl2 := Paired.length hcs
    have hmh := (num_ne_none hvm).2
    have heh := (num_ne_none H.ew).2
    repeat' ((fail_if_success (first | (with_reducible show WP _ _ _ _ (PySem.Stmt.If _ _ _ _ :: _ :: _) _))); fail "w")
    refine' (lawglyph_ct hcr hcs ⟨_, _, _, rfl, hpa2⟩ (by omega)).wI ?_
    intro tg news2 gr3
    repeat' ((fail_if_success (first | (with_reducible show WP _ _ _ _ (PySem.Stmt.If _ _ _ _ :: _ :: _) _))); fail "w")
    refine WP.join (fun z : Value => (("pot", some (.ref P)) :: ("is_mixed", some (.bool mixed)) :: ("cid_rows", some (.ref cr)) :: ("turn", o1) :: ("length", o2') :: ("low", o3) :: ("first", some (.int first t1)) :: ("widths", some (.ref lws)) :: ("later", some (.int later t2)) :: ("equal_width", some (ew)) :: ("below", some (.ref db)) :: ("default", some (vm)) :: ("chars", some (.ref dc)) :: ("octets", some (.bytes ob tb)) :: ("rows", some (.ref Dr)) :: ("pair", some (.ref pa)) :: ("glyph", some (.int (cidOf cids p) tg)) :: ("width", some (z)) :: ("head", none) :: ("cutting", none) :: ("_law_draw", some (.ref 638)) :: ("range", some (.type "range")) :: ("_law_number", some (.ref 645)) :: ("_law_texts", some (.ref 671)) :: ("bytes", some (.type "bytes")) :: ("_law_cut", some (.ref 683)) :: ("_law_glyph", some (.ref 688)) :: ("len", some (.builtin "len")) :: ("_law_product", some (.ref 659)) :: ("_law_fraction", some (.ref 652)) :: ("Name", some (.ref 197)) :: ("CMap", some (.ref 344)) :: ("wide_font", some (.ref 619)) :: ("Lookup", some (.ref 318)) :: [] : Tab)) (fun z => (Dr, lstO z1.1 z1.2.1) :: (P, oP) :: (C, oC) :: rest) (fun z news' => news' = news2 ∧ NumAt z (numW first ws later e d (cidOf cids p)).1 (numW first ws later e d (cidOf cids p)).2 news2 ∧ handedIn z = true) ?_ ?_
    · intro K' hT
      have H2 := H'.gr gr3
      have hl2 := gr3.mem hl
      have hwl := Paired.length H2.num
      have hvm2 := (hvm.gr gr2).gr gr3
      repeat' ((fail_if_success (first | (with_reducible show WP _ _ _ _ (PySem.Stmt.If _ _ _ _ :: _ :: _) _))); fail "w")
      refine ite_decK ?_ ?_ <;> intro h1
      · repeat' ((fail_if_success (first | (with_reducible show WP _ _ _ _ (PySem.Stmt.If _ _ _ _ :: _ :: _) _))); fail "w")
        refine ite_decK ?_ ?_ <;> intro h2
        · obtain ⟨y, hy⟩ : ∃ y, vs[(cidOf cids p - first).toNat]? = some y := ⟨_, List.getElem?_eq_getElem (by omega)⟩
          obtain ⟨w, hw, hnw⟩ := Paired.get H2.num hy
          have hnum : numW first ws later e d (cidOf cids p) = w := by
            unfold numW
            rw [if_pos (by omega), hw]; rfl
          have hyh := (num_ne_none hnw).2
          repeat' ((fail_if_success (first | (with_reducible show WP _ _ _ _ (PySem.Stmt.If _ _ _ _ :: _ :: _) _))); fail "w")
          refine O.item rfl (List.mem_append_right _ hl2) lstP (by omega) (by omega) hy ?_
          repeat' ((fail_if_success (first | (with_reducible show WP _ _ _ _ (PySem.Stmt.If _ _ _ _ :: _ :: _) _))); fail "w")
          refine hT.next (y) _ _ _ (by fail "tab") (by rfl) (by fail "gr") ?_
          exact ⟨rfl, by rw [hnum]; exact hnw, hyh⟩
        · repeat' ((fail_if_success (first | (with_reducible show WP _ _ _ _ (PySem.Stmt.If _ _ _ _ :: _ :: _) _))); fail "w")
          repeat' ((fail_if_success (first | (with_reducible show WP _ _ _ _ (PySem.Stmt.If _ _ _ _ :: _ :: _) _))); fail "w")
          refine ite_decK ?_ ?_ <;> intro h3
          · repeat' ((fail_if_success (first | (with_reducible show WP _ _ _ _ (PySem.Stmt.If _ _ _ _ :: _ :: _) _))); fail "w")
            refine ite_decK ?_ ?_ <;> intro h4
            · repeat' ((fail_if_success (first | (with_reducible show WP _ _ _ _ (PySem.Stmt.If _ _ _ _ :: _ :: _) _))); fail "w")
              refine hT.next (_) _ _ _ (by fail "tab") (by rfl) (by fail "gr") ?_
              exact ⟨rfl, by rw [show numW first ws later e d (cidOf cids p) = e by unfold numW; rw [if_neg (by omega), if_pos (by omega)]]; exact H2.ew, heh⟩
            · repeat' ((fail_if_success (first | (with_reducible show WP _ _ _ _ (PySem.Stmt.If _ _ _ _ :: _ :: _) _))); fail "w")
              refine hT.next (_) _ _ _ (by fail "tab") (by rfl) (by fail "gr") ?_
              exact ⟨rfl, by rw [show numW first ws later e d (cidOf cids p) = d by unfold numW; rw [if_neg (by omega), if_neg (by omega)]]; exact hvm2, hmh⟩
          · repeat' ((fail_if_success (first | (with_reducible show WP _ _ _ _ (PySem.Stmt.If _ _ _ _ :: _ :: _) _))); fail "w")
            refine hT.next (_) _ _ _ (by fail "tab") (by rfl) (by fail "gr") ?_
            exact ⟨rfl, by rw [show numW first ws later e d (cidOf cids p) = d by unfold numW; rw [if_neg (by omega), if_neg (by omega)]]; exact hvm2, hmh⟩
      · repeat' ((fail_if_success (first | (with_reducible show WP _ _ _ _ (PySem.Stmt.If _ _ _ _ :: _ :: _) _))); fail "w")
        repeat' ((fail_if_success (first | (with_reducible show WP _ _ _ _ (PySem.Stmt.If _ _ _ _ :: _ :: _) _))); fail "w")
        refine ite_decK ?_ ?_ <;> intro h3
        · repeat' ((fail_if_success (first | (with_reducible show WP _ _ _ _ (PySem.Stmt.If _ _ _ _ :: _ :: _) _))); fail "w")
          refine ite_decK ?_ ?_ <;> intro h4
          · repeat' ((fail_if_success (first | (with_reducible show WP _ _ _ _ (PySem.Stmt.If _ _ _ _ :: _ :: _) _))); fail "w")
            refine hT.next (_) _ _ _ (by fail "tab") (by rfl) (by fail "gr") ?_
            exact ⟨rfl, by rw [show numW first ws later e d (cidOf cids p) = e by unfold numW; rw [if_neg (by omega), if_pos (by omega)]]; exact H2.ew, heh⟩
          · repeat' ((fail_if_success (first | (with_reducible show WP _ _ _ _ (PySem.Stmt.If _ _ _ _ :: _ :: _) _))); fail "w")
            refine hT.next (_) _ _ _ (by fail "tab") (by rfl) (by fail "gr") ?_
            exact ⟨rfl, by rw [show numW first ws later e d (cidOf cids p) = d by unfold numW; rw [if_neg (by omega), if_neg (by omega)]]; exact hvm2, hmh⟩
        · repeat' ((fail_if_success (first | (with_reducible show WP _ _ _ _ (PySem.Stmt.If _ _ _ _ :: _ :: _) _))); fail "w")
          refine hT.next (_) _ _ _ (by fail "tab") (by rfl) (by fail "gr") ?_
          exact ⟨rfl, by rw [show numW first ws later e d (cidOf cids p) = d by unfold numW; rw [if_neg (by omega), if_neg (by omega)]]; exact hvm2, hmh⟩
    rintro z2 _ ⟨rfl, hvw, hvh⟩ grX
    clear grX
    have hrl : z1.1.length ≤ 1000 := by
      have := Paired.length hRs
      simp only [List.length_take] at this
      omega
    have hmul := mulOk_small (numW_small (first := first) (later := later) B.ws B.e B.d (cidOf cids p)).1 (by decide : (1 : Int).natAbs ≤ 1300)
    repeat' ((fail_if_success (first | (with_reducible show WP _ _ _ _ (PySem.Stmt.If _ _ _ _ :: _ :: _) _))); fail "w")
    refine' (frac_ct hvw).wM ?_
    intro fr news30 hfr gr30
    repeat' ((fail_if_success (first | (with_reducible show WP _ _ _ _ (PySem.Stmt.If _ _ _ _ :: _ :: _) _))); fail "w")
    refine' (product_pair (q := 3) (hfr.gr (Gr.refl _).cons) ⟨_, _, _, rfl, .head _⟩ hmul).wM ?_
    rintro pr news31 ⟨pra, pu1, pu2, rfl, hpr⟩ gr31
    have hCh4 := hCh.gr (gr2.trans (gr3.trans (gr30.trans ((Gr.refl _).cons.trans gr31))))
    repeat' ((fail_if_success (first | (with_reducible show WP _ _ _ _ (PySem.Stmt.If _ _ _ _ :: _ :: _) _))); fail "w")
    refine O.chGet2 hCh4 hSV p (by fail "mem") ?_
    intro tt
    repeat' ((fail_if_success (first | (with_reducible show WP _ _ _ _ (PySem.Stmt.If _ _ _ _ :: _ :: _) _))); fail "w")
    have gr32 : Gr news' news31 := gr3.trans (gr30.trans ((Gr.refl _).cons.trans gr31))
    refine' hT.next (z1.1 ++ [_], _, _, _, _) _ _ _ (by fail "tab") (by rfl) (gr'.trans (gr32.trans (Gr.refl _).cons)) ?J105
    case' J105 => try dsimp only
    rw [take_snoc hp']
    exact (hRs.mono fun _ _ h => (h.gr gr32).gr (Gr.refl _).cons).snoc ⟨_, _, _, _, rfl, List.mem_cons_self, ⟨_, _, _, rfl, List.mem_cons_of_mem _ (gr32.mem hpa2)⟩, ⟨_, _, _, rfl, List.mem_cons_of_mem _ hpr⟩⟩
  rintro z3 news30 hRs gr30
  rw [hpl, List.take_length] at hRs
  exact lw_end (gr.trans (gr1.trans gr30)) (H.gr (gr1.trans gr30)) B (hCh.gr (gr1.trans gr30)) hSV hz hRs hp hK
end
end

-- G42
section
section
variable {g : Gp}
theorem three_get {a : Int} {t u w : Tok} {k : Int} (h0 : 0 ≤ k) (h3 : k < 3) (ha : 0 ≤ a ∧ a ≤ 255) : ∃ (i : Int) (ti : Tok), ([.int a t, .int 128 u, .int 0 w] : List Value)[k.toNat]? = some (.int i ti) ∧ 0 ≤ i ∧ i ≤ 255 := by
  have : k = 0 ∨ k = 1 ∨ k = 2 := below3 h0 h3
  rcases this with rfl | rfl | rfl
  · exact ⟨_, _, rfl, ha⟩
  · exact ⟨_, _, rfl, by decide, by decide⟩
  · exact ⟨_, _, rfl, by decide, by decide⟩
theorem O.item3 {F : Fm} {R : Tab} {mu news : LedT} {K : Value → LedT → LedT → Prop} {yv : Str} {np : Pos} {slice : Expr} {l : Addr} {a i : Int} {n : Nat} {t u w v : Tok} (hs : isIdx slice = true) (hl : (l, lstO [.int a t, .int 128 u, .int 0 w] n) ∈ mu ++ news) (ha : 0 ≤ a ∧ a ≤ 255) (h0 : 0 ≤ i) (h3 : i < 3) (h : ∀ j tj, 0 ≤ j → j ≤ 255 → K (.int j tj) mu news) :
    WO F R mu news (subscriptTail (.Name yv np) slice (.ref l) (.int i v)) K := by
  obtain ⟨j, tj, hy, h1, h2⟩ := three_get (t := t) (u := u) (w := w) h0 h3 ha
  exact O.item hs hl lstP h0 (by omega) hy (h j tj h1 h2)
theorem lw_mid {rest news0 news : LedT} {K : Flow → Tab → LedT → LedT → Prop} {P C db cr lw lws : Addr} {oP oC o2 : Obj} {N : Nat} {mixed : Bool} {o1 o2' o3 : Option Value} {t1 t2 : Tok} {vs : List Value}
    {kvs2 : List (Str × Value)} {first later : Int} {ws : List (Int × Nat)} {ew : Value} {e : Int × Nat} {cids : List CidR}

 (gr : Gr news0 news) (hN : N ≤ 10000) (hp : Pot C (N + 50) oP oC) (hP : DctP (sk g) kvs2 db o2) (hkl : kvs2.length ≤ 2) (hw : valueAt kvs2 "W" = some (.ref lw)) (hdw : valueAt kvs2 "DW" = none)
    (harr : ∃ t1 t2 t3 nw, (lw, lstO [.int first t1, .ref lws, .int later t2, .int (later + 4) t3, ew] nw) ∈ news) (hlst : ∃ k, (lws, lstO vs k) ∈ news) (hnum : Paired (fun v w => NumAt v w.1 w.2 news) vs ws) (hew : NumAt ew e.1 e.2 news) (hcids : ∃ k rs, (cr, lstO rs k) ∈ news ∧ Paired (fun y r => CidAt y r news) rs cids)
    (B : WNum mixed first later vs ws e (1000, 0) cids)
    (hK : ∀ fl R' mu' news', Gr news0 news' → (∃ oP' oC', mu' = (P, oP') :: (C, oC') :: rest ∧ Pot C (N + 100) oP' oC' ∧ LawRes g (retOf fl) news') → K fl R' mu' news') :
    WP ⟨g, 6, .fn (("pot", NameKind.cell) :: ("is_mixed", NameKind.local) :: ("cid_rows", NameKind.local) :: ("turn", NameKind.local) :: ("length", NameKind.local) :: ("low", NameKind.local) :: ("first", NameKind.local) :: ("widths", NameKind.local) :: ("later", NameKind.local) :: ("equal_width", NameKind.local) :: ("below", NameKind.local) :: ("default", NameKind.local) :: ("chars", NameKind.local) :: ("octets", NameKind.local) :: ("rows", NameKind.local) :: ("pair", NameKind.local) :: ("glyph", NameKind.local) :: ("width", NameKind.local) :: ("head", NameKind.local) :: ("cutting", NameKind.local) :: ("_law_draw", NameKind.globalImplicit) :: ("range", NameKind.globalImplicit) :: ("_law_number", NameKind.globalImplicit) :: ("_law_texts", NameKind.globalImplicit) :: ("bytes", NameKind.globalImplicit) :: ("_law_cut", NameKind.globalImplicit) :: ("_law_glyph", NameKind.globalImplicit) :: ("len", NameKind.globalImplicit) :: ("_law_product", NameKind.globalImplicit) :: ("_law_fraction", NameKind.globalImplicit) :: ("Name", NameKind.globalImplicit) :: ("CMap", NameKind.globalImplicit) :: ("wide_font", NameKind.globalImplicit) :: ("Lookup", NameKind.globalImplicit) :: [] : List (Str × NameKind)), false, false⟩ (("pot", some (.ref P)) :: ("is_mixed", some (.bool mixed)) :: ("cid_rows", some (.ref cr)) :: ("turn", o1) :: ("length", o2') :: ("low", o3) :: ("first", some (.int first t1)) :: ("widths", some (.ref lws)) :: ("later", some (.int later t2)) :: ("equal_width", some (ew)) :: ("below", some (.ref db)) :: ("default", none) :: ("chars", none) :: ("octets", none) :: ("rows", none) :: ("pair", none) :: ("glyph", none) :: ("width", none) :: ("head", none) :: ("cutting", none) :: ("_law_draw", some (.ref 638)) :: ("range", some (.type "range")) :: ("_law_number", some (.ref 645)) :: ("_law_texts", some (.ref 671)) :: ("bytes", some (.type "bytes")) :: ("_law_cut", some (.ref 683)) :: ("_law_glyph", some (.ref 688)) :: ("len", some (.builtin "len")) :: ("_law_product", some (.ref 659)) :: ("_law_fraction", some (.ref 652)) :: ("Name", some (.ref 197)) :: ("CMap", some (.ref 344)) :: ("wide_font", some (.ref 619)) :: ("Lookup", some (.ref 318)) :: [] : Tab) ((P, oP) :: (C, oC) :: (db, o2) :: rest) news (dropS (fnBody 87) 8) K := by
  conv => arg 5; whnf
  refine WP.lt ?_
  intro Rt
  repeat' ((fail_if_success (first | (with_reducible show WP _ _ _ _ (PySem.Stmt.If _ _ _ _ :: _ :: _) _) | (with_reducible show WP _ _ _ _ (PySem.Stmt.For _ _ _ _ _ :: _) _))); fail "w")
  refine WP.join (fun z : Obj × Obj × Obj × List (Str × Value) × Value × Int × Nat => (("pot", some (.ref P)) :: ("is_mixed", some (.bool mixed)) :: ("cid_rows", some (.ref cr)) :: ("turn", o1) :: ("length", o2') :: ("low", o3) :: ("first", some (.int first t1)) :: ("widths", some (.ref lws)) :: ("later", some (.int later t2)) :: ("equal_width", some (ew)) :: ("below", some (.ref db)) :: ("default", some (z.2.2.2.2.1)) :: ("chars", none) :: ("octets", none) :: ("rows", none) :: ("pair", none) :: ("glyph", none) :: ("width", none) :: ("head", none) :: ("cutting", none) :: ("_law_draw", some (.ref 638)) :: ("range", some (.type "range")) :: ("_law_number", some (.ref 645)) :: ("_law_texts", some (.ref 671)) :: ("bytes", some (.type "bytes")) :: ("_law_cut", some (.ref 683)) :: ("_law_glyph", some (.ref 688)) :: ("len", some (.builtin "len")) :: ("_law_product", some (.ref 659)) :: ("_law_fraction", some (.ref 652)) :: ("Name", some (.ref 197)) :: ("CMap", some (.ref 344)) :: ("wide_font", some (.ref 619)) :: ("Lookup", some (.ref 318)) :: [] : Tab)) (fun z => (P, z.1) :: (C, z.2.1) :: (db, z.2.2.1) :: rest) (fun z news' => Pot C (N + 56) z.1 z.2.1 ∧ DctP (sk g) z.2.2.2.1 db z.2.2.1 ∧ valueAt z.2.2.2.1 "W" = some (.ref lw) ∧ ((valueAt z.2.2.2.1 "DW" = none ∧ z.2.2.2.2.2 = (1000, 0)) ∨ ∃ v, valueAt z.2.2.2.1 "DW" = some v ∧ NumAt v z.2.2.2.2.2.1 z.2.2.2.2.2.2 news') ∧ NumAt z.2.2.2.2.1 z.2.2.2.2.2.1 z.2.2.2.2.2.2 news' ∧ (z.2.2.2.2.2.1.natAbs ≤ 1300 ∧ z.2.2.2.2.2.2 ≤ 1)) ?_ ?_
  · intro K' hT
    repeat' ((fail_if_success (first | (with_reducible show WP _ _ _ _ (PySem.Stmt.If _ _ _ _ :: _ :: _) _) | (with_reducible show WP _ _ _ _ (PySem.Stmt.For _ _ _ _ _ :: _) _))); fail "w")
    refine' draw_w hp (by decide) (by decide) (by omega) ?_
    intro oP2 oC2 x2 t2 news3 hp2 h02 h12 gr4
    repeat' ((fail_if_success (first | (with_reducible show WP _ _ _ _ (PySem.Stmt.If _ _ _ _ :: _ :: _) _) | (with_reducible show WP _ _ _ _ (PySem.Stmt.For _ _ _ _ _ :: _) _))); fail "w")
    refine' ite_beqI ?_ ?_ <;> intro hz
    · repeat' ((fail_if_success (first | (with_reducible show WP _ _ _ _ (PySem.Stmt.If _ _ _ _ :: _ :: _) _) | (with_reducible show WP _ _ _ _ (PySem.Stmt.For _ _ _ _ _ :: _) _))); fail "w")
      refine' (number_ct hp2 (by omega)).w ?_
      rintro _ _ r mu' news4 ⟨oP3, oC3, top, pp, rfl, hp3, hn6, hb1, hb2⟩ gr5
      have hrh := (num_ne_none hn6).2
      repeat' ((fail_if_success (first | (with_reducible show WP _ _ _ _ (PySem.Stmt.If _ _ _ _ :: _ :: _) _) | (with_reducible show WP _ _ _ _ (PySem.Stmt.For _ _ _ _ _ :: _) _))); fail "w")
      refine O.dset (.tail (.tail .head)) hP (strKind_is _ _ _ _) (by omega) ?_
      intro o9 hP9
      repeat' ((fail_if_success (first | (with_reducible show WP _ _ _ _ (PySem.Stmt.If _ _ _ _ :: _ :: _) _) | (with_reducible show WP _ _ _ _ (PySem.Stmt.For _ _ _ _ _ :: _) _))); fail "w")
      refine' hT.next (_, _, _, stored kvs2 "DW" r, r, (top, pp)) _ _ _ (by fail "tab") (by rfl) (gr4.trans gr5) ?J40
      case' J40 => try dsimp only
      exact ⟨hp3.mono (by omega), hP9, by rw [val_ne _ (by decide +kernel)]; exact hw, .inr ⟨r, val_eq _ _ _, hn6⟩, hn6, ⟨hb1, hb2⟩⟩
    · repeat' ((fail_if_success (first | (with_reducible show WP _ _ _ _ (PySem.Stmt.If _ _ _ _ :: _ :: _) _) | (with_reducible show WP _ _ _ _ (PySem.Stmt.For _ _ _ _ _ :: _) _))); fail "w")
      refine' hT.next (_, _, _, kvs2, _, (1000, 0)) _ _ _ (by fail "tab") (by rfl) gr4 ?J44
      case' J44 => try dsimp only
      exact ⟨hp2.mono (by omega), hP, hw, .inl ⟨hdw, rfl⟩, .inl ⟨_, rfl, rfl⟩, by decide⟩
  rintro z1 news3 ⟨hp3, hP3, hw3, hd3, hvm, hdb⟩ gr3
  first | refine WP.rot ?_ | refine WE.rot ?_ | refine WA.rot ?_ | refine WO.rot ?_ | refine WB.rot ?_ | refine WFor.rot ?_
  first | refine WP.rot ?_ | refine WE.rot ?_ | refine WA.rot ?_ | refine WO.rot ?_ | refine WB.rot ?_ | refine WFor.rot ?_
  first | refine WP.freeze ?_ | refine WE.freeze ?_ | refine WA.freeze ?_ | refine WO.freeze ?_ | refine WB.freeze ?_ | refine WFor.freeze ?_
  repeat' ((fail_if_success (first | (with_reducible show WP _ _ _ _ (PySem.Stmt.If _ _ _ _ :: _ :: _) _) | (with_reducible show WP _ _ _ _ (PySem.Stmt.For _ _ _ _ _ :: _) _))); fail "w")
  refine' (lawtexts_ct hp3 (by omega)).w ?_
  rintro _ _ r mu' news4 ⟨oP4, oC4, dc, D0, rfl, hp4, rfl, hCh, hSV, hDl⟩ gr4
  repeat' ((fail_if_success (first | (with_reducible show WP _ _ _ _ (PySem.Stmt.If _ _ _ _ :: _ :: _) _) | (with_reducible show WP _ _ _ _ (PySem.Stmt.For _ _ _ _ _ :: _) _))); fail "w")
  refine' draw_w hp4 (by decide) (by decide) (by omega) ?_
  intro oP5 oC5 x5 t5 news5 hp5 h05 h15 gr5
  repeat' ((fail_if_success (first | (with_reducible show WP _ _ _ _ (PySem.Stmt.If _ _ _ _ :: _ :: _) _) | (with_reducible show WP _ _ _ _ (PySem.Stmt.For _ _ _ _ _ :: _) _))); fail "w")
  refine WCo.Rz (num := x5.toNat) (fun z : Obj × Obj × List Int => (P, z.1) :: (C, z.2.1) :: rest) (fun i z ys news' => Pot C (N + 67 + 2 * i) z.1 z.2.1 ∧ IntsAre ys z.2.2 ∧ (∀ k ∈ z.2.2, 0 ≤ k ∧ k ≤ 255) ∧ z.2.2.length = i) (oP5, oC5, []) (by fail "mem") (rng_small (by omega) (by omega)) (rng_size _) (by decide) rfl (by omega) rfl ⟨hp5, .nil, (fun _ h => nomatch h), rfl⟩ ?_ ?_
  · rintro i t z2 ys news' KY KS hE hi ⟨hp5, hIn, hb, hyl⟩ gr
    repeat' ((fail_if_success (first | (with_reducible show WP _ _ _ _ (PySem.Stmt.If _ _ _ _ :: _ :: _) _) | (with_reducible show WP _ _ _ _ (PySem.Stmt.For _ _ _ _ _ :: _) _))); fail "w")
    repeat' ((fail_if_success (first | (with_reducible show WP _ _ _ _ (PySem.Stmt.If _ _ _ _ :: _ :: _) _) | (with_reducible show WP _ _ _ _ (PySem.Stmt.For _ _ _ _ _ :: _) _))); fail "w")
    refine' draw_w hp5 (by decide) (by decide) (by omega) ?_
    intro oP6 oC6 x6 t6 news6 hp6 h06 h16 gr6
    repeat' ((fail_if_success (first | (with_reducible show WP _ _ _ _ (PySem.Stmt.If _ _ _ _ :: _ :: _) _) | (with_reducible show WP _ _ _ _ (PySem.Stmt.For _ _ _ _ _ :: _) _))); fail "w")
    refine' draw_w hp6 (by decide) (by decide) (by omega) ?_
    intro oP7 oC7 x7 t7 news7 hp7 h07 h17 gr7
    repeat' ((fail_if_success (first | (with_reducible show WP _ _ _ _ (PySem.Stmt.If _ _ _ _ :: _ :: _) _) | (with_reducible show WP _ _ _ _ (PySem.Stmt.For _ _ _ _ _ :: _) _))); fail "w")
    refine O.item3 rfl (by fail "mem") ⟨by omega, by omega⟩ h07 h17 ?_
    intro j tj hj0 hj1
    repeat' ((fail_if_success (first | (with_reducible show WP _ _ _ _ (PySem.Stmt.If _ _ _ _ :: _ :: _) _) | (with_reducible show WP _ _ _ _ (PySem.Stmt.For _ _ _ _ _ :: _) _))); fail "w")
    refine hE.it (_, _, z2.2.2 ++ [j]) _ _ _ rfl (by fail "gr") ?_
    refine ⟨hp7, ints_snoc hIn, ?_, by simp [hyl]⟩
    intro k hk
    rcases List.mem_append.mp hk with hk | hk
    · exact hb k hk
    · rw [List.mem_singleton.mp hk]; exact ⟨hj0, hj1⟩
  rintro Do z3 yo news19 ⟨hp19, hIn, hb, hnl⟩ hyo gr19
  repeat' ((fail_if_success (first | (with_reducible show WP _ _ _ _ (PySem.Stmt.If _ _ _ _ :: _ :: _) _) | (with_reducible show WP _ _ _ _ (PySem.Stmt.For _ _ _ _ _ :: _) _))); fail "w")
  refine O.bMake (by fail "mem") lstP hIn (fun k hk => by have := hb k hk; omega) (by omega) ?_
  rintro ob tb hob hobz
  repeat' ((fail_if_success (first | (with_reducible show WP _ _ _ _ (PySem.Stmt.If _ _ _ _ :: _ :: _) _) | (with_reducible show WP _ _ _ _ (PySem.Stmt.For _ _ _ _ _ :: _) _))); fail "w")
  first | refine WP.thaw ?_ | refine WE.thaw ?_ | refine WA.thaw ?_ | refine WO.thaw ?_ | refine WB.thaw ?_ | refine WFor.thaw ?_
  have gr20 : Gr news4 ((Do, lstO yo yo.length) :: news19) := gr5.trans (Gr.trans (Gr.refl _).cons (gr19.trans (Gr.refl _).cons))
  have gr21 : Gr news3 ((Do, lstO yo yo.length) :: news19) := (Gr.refl _).cons.trans (gr4.trans gr20)
  have gr22 := gr3.trans gr21
  have H : WHead g z1.2.2.2.1 db z1.2.2.1 lw lws cr first later vs ws ew e z1.2.2.2.2.2 cids ((Do, lstO yo yo.length) :: news19) := ⟨(gr4.trans gr20).mem List.mem_cons_self, hP3, hw3, hd3.imp id fun ⟨v, a, b⟩ => ⟨v, a, b.gr gr21⟩, let ⟨t1, t2, t3, n, q⟩ := harr; ⟨t1, t2, t3, n, gr22.mem q⟩, hlst.imp fun _ q => gr22.mem q, hnum.mono fun _ _ q => q.gr gr22, hew.gr gr22, let ⟨k, rs, a, b⟩ := hcids; ⟨k, rs, gr22.mem a, b.mono fun _ _ q => q.gr gr22⟩⟩
  exact lw_rows (gr.trans gr22) H ⟨B.f0, B.l0, B.len, B.ws, B.e, hdb, B.cz, B.clen⟩ (hvm.gr gr21) (hCh.gr gr20) hSV (by omega) (hp19.mono (by omega)) hK
end
end

-- G43
section
section
variable {g : Gp}
theorem lw_low {rest news0 news : LedT} {K : Flow → Tab → LedT → LedT → Prop} {P C cr : Addr} {oP oC : Obj} {N : Nat} {mixed : Bool} {o1 o2' o3 : Option Value} {cids : List CidR}

 (gr : Gr news0 news) (hN : N ≤ 10000) (hp : Pot C (N + 20) oP oC)
    (hcids : ∃ k rs, (cr, lstO rs k) ∈ news ∧ Paired (fun y r => CidAt y r news) rs cids) (hcz : mixed = false → cids = [(2, 0, 65535, 0)]) (hcl : cids.length ≤ 100)
    (hK : ∀ fl R' mu' news', Gr news0 news' → (∃ oP' oC', mu' = (P, oP') :: (C, oC') :: rest ∧ Pot C (N + 100) oP' oC' ∧ LawRes g (retOf fl) news') → K fl R' mu' news') :
    WP ⟨g, 6, .fn (("pot", NameKind.cell) :: ("is_mixed", NameKind.local) :: ("cid_rows", NameKind.local) :: ("turn", NameKind.local) :: ("length", NameKind.local) :: ("low", NameKind.local) :: ("first", NameKind.local) :: ("widths", NameKind.local) :: ("later", NameKind.local) :: ("equal_width", NameKind.local) :: ("below", NameKind.local) :: ("default", NameKind.local) :: ("chars", NameKind.local) :: ("octets", NameKind.local) :: ("rows", NameKind.local) :: ("pair", NameKind.local) :: ("glyph", NameKind.local) :: ("width", NameKind.local) :: ("head", NameKind.local) :: ("cutting", NameKind.local) :: ("_law_draw", NameKind.globalImplicit) :: ("range", NameKind.globalImplicit) :: ("_law_number", NameKind.globalImplicit) :: ("_law_texts", NameKind.globalImplicit) :: ("bytes", NameKind.globalImplicit) :: ("_law_cut", NameKind.globalImplicit) :: ("_law_glyph", NameKind.globalImplicit) :: ("len", NameKind.globalImplicit) :: ("_law_product", NameKind.globalImplicit) :: ("_law_fraction", NameKind.globalImplicit) :: ("Name", NameKind.globalImplicit) :: ("CMap", NameKind.globalImplicit) :: ("wide_font", NameKind.globalImplicit) :: ("Lookup", NameKind.globalImplicit) :: [] : List (Str × NameKind)), false, false⟩ (("pot", some (.ref P)) :: ("is_mixed", some (.bool mixed)) :: ("cid_rows", some (.ref cr)) :: ("turn", o1) :: ("length", o2') :: ("low", o3) :: ("first", none) :: ("widths", none) :: ("later", none) :: ("equal_width", none) :: ("below", none) :: ("default", none) :: ("chars", none) :: ("octets", none) :: ("rows", none) :: ("pair", none) :: ("glyph", none) :: ("width", none) :: ("head", none) :: ("cutting", none) :: ("_law_draw", some (.ref 638)) :: ("range", some (.type "range")) :: ("_law_number", some (.ref 645)) :: ("_law_texts", some (.ref 671)) :: ("bytes", some (.type "bytes")) :: ("_law_cut", some (.ref 683)) :: ("_law_glyph", some (.ref 688)) :: ("len", some (.builtin "len")) :: ("_law_product", some (.ref 659)) :: ("_law_fraction", some (.ref 652)) :: ("Name", some (.ref 197)) :: ("CMap", some (.ref 344)) :: ("wide_font", some (.ref 619)) :: ("Lookup", some (.ref 318)) :: [] : Tab) ((P, oP) :: (C, oC) :: rest) news (dropS (fnBody 87) 3) K := by
  conv => arg 5; whnf
  refine WP.lt ?_
  intro Rt
  repeat' ((fail_if_success (first | (with_reducible show WP _ _ _ _ [PySem.Stmt.Assign _ _ _, _, _, _, _, _, _, _, _] _))); fail "w")
  refine' draw_w hp (by decide) (by decide) (by omega) ?_
  intro oP1 oC1 x1 t1 news1 hp1 h01 h11 gr1
  repeat' ((fail_if_success (first | (with_reducible show WP _ _ _ _ [PySem.Stmt.Assign _ _ _, _, _, _, _, _, _, _, _] _))); fail "w")
  refine' draw_w hp1 (by decide) (by decide) (by omega) ?_
  intro oP2 oC2 x2 t2 news2 hp2 h02 h12 gr2
  repeat' ((fail_if_success (first | (with_reducible show WP _ _ _ _ [PySem.Stmt.Assign _ _ _, _, _, _, _, _, _, _, _] _))); fail "w")
  refine WCs.Rz (num := x2.toNat) (by fail "nm") (fun z : Obj × Obj × List (Int × Nat) => (P, z.1) :: (C, z.2.1) :: rest) (fun i z ys news' => Pot C (N + 22 + 2 * i) z.1 z.2.1 ∧ Paired (fun v w => NumAt v w.1 w.2 news') ys z.2.2 ∧ (∀ w ∈ z.2.2, w.1.natAbs ≤ 1300 ∧ w.2 ≤ 1) ∧ ys.length = i) (oP2, oC2, []) (by fail "mem") (rng_small (by omega) (by omega)) (rng_size _) (by decide) rfl (by omega) rfl ⟨hp2, .nil, (fun _ h => nomatch h), rfl⟩ ?_ ?_
  · rintro i t z1 ys news' KY KS hE hi ⟨hp5, hPw, hb, hyl⟩ gr
    repeat' ((fail_if_success (first | (with_reducible show WP _ _ _ _ [PySem.Stmt.Assign _ _ _, _, _, _, _, _, _, _, _] _))); fail "w")
    repeat' ((fail_if_success (first | (with_reducible show WP _ _ _ _ [PySem.Stmt.Assign _ _ _, _, _, _, _, _, _, _, _] _))); fail "w")
    refine' (number_ct hp5 (by omega)).w ?_
    rintro _ _ r mu' news6 ⟨oP6, oC6, top, pp, rfl, hp6, hn6, hb1, hb2⟩ gr6
    repeat' ((fail_if_success (first | (with_reducible show WP _ _ _ _ [PySem.Stmt.Assign _ _ _, _, _, _, _, _, _, _, _] _))); fail "w")
    refine hE.it (_, _, z1.2.2 ++ [(top, pp)]) _ _ _ rfl (by fail "gr") ?_
    refine ⟨hp6, (hPw.mono fun _ _ h => h.gr gr6).snoc hn6, ?_, by simp [hyl]⟩
    intro w hw
    rcases List.mem_append.mp hw with hw | hw
    · exact hb w hw
    · rw [List.mem_singleton.mp hw]; exact ⟨hb1, hb2⟩
  rintro D z2 vs news5 ⟨hp5, hPw, hb0, hyl⟩ hvl gr6
  repeat' ((fail_if_success (first | (with_reducible show WP _ _ _ _ [PySem.Stmt.Assign _ _ _, _, _, _, _, _, _, _, _] _))); fail "w")
  refine' draw_w hp5 (by decide) (by decide) (by omega) ?_
  intro oP7 oC7 x7 t7 news7 hp7 h07 h17 gr7
  repeat' ((fail_if_success (first | (with_reducible show WP _ _ _ _ [PySem.Stmt.Assign _ _ _, _, _, _, _, _, _, _, _] _))); fail "w")
  refine' (number_ct hp7 (by omega)).w ?_
  rintro _ _ ew mu' news8 ⟨oP8, oC8, et, ep, rfl, hp8, hew, heb1, heb2⟩ gr8
  have hewh := (num_ne_none hew).2
  repeat' ((fail_if_success (first | (with_reducible show WP _ _ _ _ [PySem.Stmt.Assign _ _ _, _, _, _, _, _, _, _, _] _))); fail "w")
  refine' WE.dict ?w1 ?w2 ?w3 ?w4 ?_; (case w1 => rfl); (case w2 => rfl); (case w3 => decide); (case w4 => decide)
  intro db hdb
  repeat' ((fail_if_success (first | (with_reducible show WP _ _ _ _ [PySem.Stmt.Assign _ _ _, _, _, _, _, _, _, _, _] _))); fail "w")
  refine DK.done rfl (show (["W"] : List Str).Nodup by decide +kernel) ?_
  intro o2 hP2
  rename_i lw
  first | refine WP.rot ?_ | refine WE.rot ?_ | refine WA.rot ?_ | refine WO.rot ?_ | refine WB.rot ?_ | refine WFor.rot ?_
  obtain ⟨kvs2, hP, hkl, hw, hdw⟩ : ∃ kvs2, DctP (sk g) kvs2 db o2 ∧ kvs2.length ≤ 2 ∧ valueAt kvs2 "W" = some (.ref lw) ∧ valueAt kvs2 "DW" = none := ⟨_, hP2, Nat.le_succ _, rfl, rfl⟩
  clear hP2
  have gr10 : ∀ p, Gr ((D, lstO vs vs.length) :: news5) (p :: news8) := fun p => gr7.trans (gr8.trans (Gr.refl _).cons)
  have gr12 : ∀ p, Gr news (p :: news8) := fun p => gr1.trans (gr2.trans ((Gr.refl _).cons.trans (gr6.trans ((Gr.refl _).cons.trans (gr10 p)))))
  exact lw_mid (vs := vs) (ws := z2.2.2) (e := (et, ep)) (cids := cids) (gr.trans (gr12 _)) hN (hp8.mono (by omega)) hP hkl hw hdw ⟨_, _, _, _, .head _⟩ ⟨_, (gr10 _).mem List.mem_cons_self⟩ (hPw.mono fun _ _ q => (q.gr (Gr.refl _).cons).gr (gr10 _)) (hew.gr (Gr.refl _).cons) (let ⟨k, rs, a, b⟩ := hcids; ⟨k, rs, (gr12 _).mem a, b.mono fun _ _ q => q.gr (gr12 _)⟩)
    ⟨h01, by omega, by omega, hb0, ⟨heb1, heb2⟩, by decide, hcz, hcl⟩ hK
end
end

-- G44
section
section
variable {g : Gp}
set_option hygiene false in
local macro_rules | `(tactic| fail "w") => `(tactic| ((with_reducible refine' O.lst ?z ?_); (case z => rfl); intro Dc))
theorem lawwide_ct {P C : Addr} {oP oC : Obj} {N : Nat} {rest news : LedT} (hp : Pot C N oP oC) (hN : N ≤ 10000) :
    CtX (GG g) 7 693 [.ref P] ((P, oP) :: (C, oC) :: rest) news (fun r mu' news' => ∃ oP' oC', mu' = (P, oP') :: (C, oC') :: rest ∧ Pot C (N + 100) oP' oC' ∧ LawRes g r news') := by
  fail "enterW"
  intro K hK Rt
  dsimp only
  repeat' ((fail_if_success (first | (with_reducible show WP _ _ _ _ (PySem.Stmt.If _ _ _ _ :: _ :: _) _) | (with_reducible show WE _ _ _ _ (PySem.Expr.IfExp _ _ _ _) _) | (with_reducible show WP _ _ _ _ [PySem.Stmt.Assign _ _ _, _, _, _, _, _, _, _, _, _, _, _, _, _, _] _))); fail "w")
  refine' draw_w hp (by decide) (by decide) (by omega) ?_
  intro oP1 oC1 x1 t1 news1 hp1 h01 h11 gr1
  repeat' ((fail_if_success (first | (with_reducible show WP _ _ _ _ (PySem.Stmt.If _ _ _ _ :: _ :: _) _) | (with_reducible show WE _ _ _ _ (PySem.Expr.IfExp _ _ _ _) _) | (with_reducible show WP _ _ _ _ [PySem.Stmt.Assign _ _ _, _, _, _, _, _, _, _, _, _, _, _, _, _, _] _))); fail "w")
  refine WP.join (fun z : Obj × Obj × Addr × List CidR × Option Value × Option Value × Option Value => (("pot", some (.ref P)) :: ("is_mixed", some (.bool (x1 == 0))) :: ("cid_rows", some (.ref z.2.2.1)) :: ("turn", z.2.2.2.2.1) :: ("length", z.2.2.2.2.2.1) :: ("low", z.2.2.2.2.2.2) :: ("first", none) :: ("widths", none) :: ("later", none) :: ("equal_width", none) :: ("below", none) :: ("default", none) :: ("chars", none) :: ("octets", none) :: ("rows", none) :: ("pair", none) :: ("glyph", none) :: ("width", none) :: ("head", none) :: ("cutting", none) :: ("_law_draw", some (.ref 638)) :: ("range", some (.type "range")) :: ("_law_number", some (.ref 645)) :: ("_law_texts", some (.ref 671)) :: ("bytes", some (.type "bytes")) :: ("_law_cut", some (.ref 683)) :: ("_law_glyph", some (.ref 688)) :: ("len", some (.builtin "len")) :: ("_law_product", some (.ref 659)) :: ("_law_fraction", some (.ref 652)) :: ("Name", some (.ref 197)) :: ("CMap", some (.ref 344)) :: ("wide_font", some (.ref 619)) :: ("Lookup", some (.ref 318)) :: [] : Tab)) (fun z => (P, z.1) :: (C, z.2.1) :: rest) (fun z news' => Pot C (N + 20) z.1 z.2.1 ∧ (∃ k rs, (z.2.2.1, lstO rs k) ∈ news' ∧ Paired (fun y r => CidAt y r news') rs z.2.2.2.1) ∧ ((x1 == 0) = false → z.2.2.2.1 = [(2, 0, 65535, 0)]) ∧ z.2.2.2.1.length ≤ 100) ?_ ?_
  · intro K' hT
    repeat' ((fail_if_success (first | (with_reducible show WP _ _ _ _ (PySem.Stmt.If _ _ _ _ :: _ :: _) _) | (with_reducible show WE _ _ _ _ (PySem.Expr.IfExp _ _ _ _) _) | (with_reducible show WP _ _ _ _ [PySem.Stmt.Assign _ _ _, _, _, _, _, _, _, _, _, _, _, _, _, _, _] _))); fail "w")
    refine iteB ?_ ?_ <;> intro hm
    · repeat' ((fail_if_success (first | (with_reducible show WP _ _ _ _ (PySem.Stmt.If _ _ _ _ :: _ :: _) _) | (with_reducible show WE _ _ _ _ (PySem.Expr.IfExp _ _ _ _) _) | (with_reducible show WP _ _ _ _ [PySem.Stmt.Assign _ _ _, _, _, _, _, _, _, _, _, _, _, _, _, _, _] _))); fail "w")
      refine WO.thaw (WO.rot ?_)
      refine' draw_w hp1 (by decide) (by decide) (by omega) ?_
      intro oP3 oC3 x3 t3 news3 hp3 h03 h13 gr3
      repeat' ((fail_if_success (first | (with_reducible show WP _ _ _ _ (PySem.Stmt.If _ _ _ _ :: _ :: _) _) | (with_reducible show WE _ _ _ _ (PySem.Expr.IfExp _ _ _ _) _) | (with_reducible show WP _ _ _ _ [PySem.Stmt.Assign _ _ _, _, _, _, _, _, _, _, _, _, _, _, _, _, _] _))); fail "w")
      refine WFor.Rz (num := x3.toNat) (fun z : Obj × Obj × List Value × Nat × List CidR × Option Value × Option Value × Option Value => (("pot", some (.ref P)) :: ("is_mixed", some (.bool (x1 == 0))) :: ("cid_rows", some (.ref Dc)) :: ("turn", z.2.2.2.2.2.1) :: ("length", z.2.2.2.2.2.2.1) :: ("low", z.2.2.2.2.2.2.2) :: ("first", none) :: ("widths", none) :: ("later", none) :: ("equal_width", none) :: ("below", none) :: ("default", none) :: ("chars", none) :: ("octets", none) :: ("rows", none) :: ("pair", none) :: ("glyph", none) :: ("width", none) :: ("head", none) :: ("cutting", none) :: ("_law_draw", some (.ref 638)) :: ("range", some (.type "range")) :: ("_law_number", some (.ref 645)) :: ("_law_texts", some (.ref 671)) :: ("bytes", some (.type "bytes")) :: ("_law_cut", some (.ref 683)) :: ("_law_glyph", some (.ref 688)) :: ("len", some (.builtin "len")) :: ("_law_product", some (.ref 659)) :: ("_law_fraction", some (.ref 652)) :: ("Name", some (.ref 197)) :: ("CMap", some (.ref 344)) :: ("wide_font", some (.ref 619)) :: ("Lookup", some (.ref 318)) :: [] : Tab)) (fun z => (P, z.1) :: (C, z.2.1) :: (Dc, lstO z.2.2.1 z.2.2.2.1) :: rest) (fun i z news' => Pot C (N + 2 + 4 * i) z.1 z.2.1 ∧ Paired (fun y r => CidAt y r news') z.2.2.1 z.2.2.2.2.1 ∧ z.2.2.2.2.1.length = i) (oP3, oC3, [], 0, [], _, _, _) (by fail "mem") (rng_small (by omega) (by omega)) (rng_size _) (by fail "tab") rfl ⟨hp3, .nil, rfl⟩ ?_ ?_
      · rintro i t z1 news' K' hT hi ⟨hp, hrs, hcl⟩ gr'
        have hrl := Paired.length hrs
        repeat' ((fail_if_success (first | (with_reducible show WP _ _ _ _ (PySem.Stmt.If _ _ _ _ :: _ :: _) _) | (with_reducible show WE _ _ _ _ (PySem.Expr.IfExp _ _ _ _) _) | (with_reducible show WP _ _ _ _ [PySem.Stmt.Assign _ _ _, _, _, _, _, _, _, _, _, _, _, _, _, _, _] _))); fail "w")
        refine' draw_w hp (by decide) (by decide) (by omega) ?_
        intro oP6 oC6 x6 t6 news6 hp6 h06 h16 gr6
        repeat' ((fail_if_success (first | (with_reducible show WP _ _ _ _ (PySem.Stmt.If _ _ _ _ :: _ :: _) _) | (with_reducible show WE _ _ _ _ (PySem.Expr.IfExp _ _ _ _) _) | (with_reducible show WP _ _ _ _ [PySem.Stmt.Assign _ _ _, _, _, _, _, _, _, _, _, _, _, _, _, _, _] _))); fail "w")
        refine WE.join (fun z : Int × Tok => .int z.1 z.2) (fun _ => (P, oP6) :: (C, oC6) :: (Dc, lstO z1.2.2.1 z1.2.2.2.1) :: rest) (fun _ news' => news' = news6) ?_ ?_
        · intro K' hJ
          refine WE.ifExp ?_
          repeat' ((fail_if_success (first | (with_reducible show WP _ _ _ _ (PySem.Stmt.If _ _ _ _ :: _ :: _) _) | (with_reducible show WE _ _ _ _ (PySem.Expr.IfExp _ _ _ _) _) | (with_reducible show WP _ _ _ _ [PySem.Stmt.Assign _ _ _, _, _, _, _, _, _, _, _, _, _, _, _, _, _] _))); fail "w")
          refine' ite_beqI ?_ ?_ <;> intro hz
          · repeat' ((fail_if_success (first | (with_reducible show WP _ _ _ _ (PySem.Stmt.If _ _ _ _ :: _ :: _) _) | (with_reducible show WE _ _ _ _ (PySem.Expr.IfExp _ _ _ _) _) | (with_reducible show WP _ _ _ _ [PySem.Stmt.Assign _ _ _, _, _, _, _, _, _, _, _, _, _, _, _, _, _] _))); fail "w")
            exact hJ (_, _) _ rfl (Gr.refl _)
          · repeat' ((fail_if_success (first | (with_reducible show WP _ _ _ _ (PySem.Stmt.If _ _ _ _ :: _ :: _) _) | (with_reducible show WE _ _ _ _ (PySem.Expr.IfExp _ _ _ _) _) | (with_reducible show WP _ _ _ _ [PySem.Stmt.Assign _ _ _, _, _, _, _, _, _, _, _, _, _, _, _, _, _] _))); fail "w")
            exact hJ (_, _) _ rfl (Gr.refl _)
        rintro z4 _ rfl grX
        clear grX
        repeat' ((fail_if_success (first | (with_reducible show WP _ _ _ _ (PySem.Stmt.If _ _ _ _ :: _ :: _) _) | (with_reducible show WE _ _ _ _ (PySem.Expr.IfExp _ _ _ _) _) | (with_reducible show WP _ _ _ _ [PySem.Stmt.Assign _ _ _, _, _, _, _, _, _, _, _, _, _, _, _, _, _] _))); fail "w")
        refine' draw_w hp6 (by decide) (by decide) (by omega) ?_
        intro oP9 oC9 x9 t9 news9 hp9 h09 h19 gr9
        repeat' ((fail_if_success (first | (with_reducible show WP _ _ _ _ (PySem.Stmt.If _ _ _ _ :: _ :: _) _) | (with_reducible show WE _ _ _ _ (PySem.Expr.IfExp _ _ _ _) _) | (with_reducible show WP _ _ _ _ [PySem.Stmt.Assign _ _ _, _, _, _, _, _, _, _, _, _, _, _, _, _, _] _))); fail "w")
        refine' draw_w hp9 (by decide) (by decide) (by omega) ?_
        intro oP10 oC10 x10 t10 news10 hp10 h010 h110 gr10
        repeat' ((fail_if_success (first | (with_reducible show WP _ _ _ _ (PySem.Stmt.If _ _ _ _ :: _ :: _) _) | (with_reducible show WE _ _ _ _ (PySem.Expr.IfExp _ _ _ _) _) | (with_reducible show WP _ _ _ _ [PySem.Stmt.Assign _ _ _, _, _, _, _, _, _, _, _, _, _, _, _, _, _] _))); fail "w")
        refine' draw_w hp10 (by decide) (by decide) (by omega) ?_
        intro oP11 oC11 x11 t11 news11 hp11 h011 h111 gr11
        repeat' ((fail_if_success (first | (with_reducible show WP _ _ _ _ (PySem.Stmt.If _ _ _ _ :: _ :: _) _) | (with_reducible show WE _ _ _ _ (PySem.Expr.IfExp _ _ _ _) _) | (with_reducible show WP _ _ _ _ [PySem.Stmt.Assign _ _ _, _, _, _, _, _, _, _, _, _, _, _, _, _, _] _))); fail "w")
        have gr12 : Gr news' news11 := gr6.trans (gr9.trans (gr10.trans gr11))
        refine' hT.next (_, _, z1.2.2.1 ++ [_], _, z1.2.2.2.2.1 ++ [(1 + x6, z4.1 + x9, z4.1 + x9 + x10, x11)], _, _, _) _ _ _ (by fail "tab") (by rfl) (gr'.trans (gr12.trans (Gr.refl _).cons)) ?J49
        case' J49 => dsimp only
        exact ⟨hp11.mono (by omega), (hrs.mono fun _ _ q => (q.gr gr12).gr (Gr.refl _).cons).snoc ⟨_, _, _, _, _, rfl, .head _⟩, by rw [List.length_append, hcl]; rfl⟩
      rintro z2 news30 ⟨hp, hrs, hcl⟩ gr30
      first | refine WP.rot ?_ | refine WE.rot ?_ | refine WA.rot ?_ | refine WO.rot ?_ | refine WB.rot ?_ | refine WFor.rot ?_
      first | refine WP.rot ?_ | refine WE.rot ?_ | refine WA.rot ?_ | refine WO.rot ?_ | refine WB.rot ?_ | refine WFor.rot ?_
      first | refine WP.freeze ?_ | refine WE.freeze ?_ | refine WA.freeze ?_ | refine WO.freeze ?_ | refine WB.freeze ?_ | refine WFor.freeze ?_
      repeat' ((fail_if_success (first | (with_reducible show WP _ _ _ _ (PySem.Stmt.If _ _ _ _ :: _ :: _) _) | (with_reducible show WE _ _ _ _ (PySem.Expr.IfExp _ _ _ _) _) | (with_reducible show WP _ _ _ _ [PySem.Stmt.Assign _ _ _, _, _, _, _, _, _, _, _, _, _, _, _, _, _] _))); fail "w")
      refine' hT.next (_, _, _, z2.2.2.2.2.1, _, _, _) _ _ _ (by fail "tab") (by rfl) (by fail "gr") ?J58
      case' J58 => dsimp only
      exact ⟨hp.mono (by omega), ⟨_, _, .head _, hrs.mono fun _ _ q => q.gr (Gr.refl _).cons⟩, fun h => (by rw [hm] at h; cases h), by omega⟩
    · repeat' ((fail_if_success (first | (with_reducible show WP _ _ _ _ (PySem.Stmt.If _ _ _ _ :: _ :: _) _) | (with_reducible show WE _ _ _ _ (PySem.Expr.IfExp _ _ _ _) _) | (with_reducible show WP _ _ _ _ [PySem.Stmt.Assign _ _ _, _, _, _, _, _, _, _, _, _, _, _, _, _, _] _))); fail "w")
      refine' hT.next (_, _, _, [(2, 0, 65535, 0)], _, _, _) _ _ _ (by fail "tab") (by rfl) (Gr.refl _) ?J60
      case' J60 => try dsimp only
      exact ⟨hp1.mono (by omega), ⟨_, _, by fail "mem", .cons ⟨_, _, _, _, _, rfl, by fail "mem"⟩ .nil⟩, fun _ => rfl, by decide⟩
  rintro z3 news5 ⟨hp5, hcids, hcz, hcl⟩ gr5
  replace gr5 := (Gr.refl _).cons.cons.trans gr5
  exact lw_low (gr1.trans gr5) hN hp5 hcids hcz hcl hK
end
end

-- G45
section
theorem ints_snocL {vs : List Value} {i : Int} {t : Tok} (h : IntsL vs) : IntsL (vs ++ [.int i t]) := fun v hv => by
  rcases List.mem_append.mp hv with hv | hv
  · exact h v hv
  · rw [List.mem_singleton.mp hv]; exact ⟨_, _, rfl⟩
theorem pick40 {vs : List Value} : kms_pick vs none (some 40) = vs.take 40 := by
  unfold kms_pick kms_lo kms_hi
  simp only [show ¬ ((40 : Int) < 0) by decide, if_false]
  rw [show ((40 : Int).toNat) = 40 from rfl, Nat.sub_zero, List.drop_zero]
  by_cases h : 40 ≤ vs.length
  · rw [Nat.min_eq_left h]
  · rw [Nat.min_eq_right (by omega), List.take_length, List.take_of_length_le (by omega)]
section
variable {g : Gp}
theorem lawpot_ct {ls : Addr} {ol : Obj} {vs : List Value} {mu news : LedT} (hl : (ls, ol) ∈ news) (PL : LstP vs ol) (hi : IntsL vs) (hz : vs.length ≤ 63) :
    CtX (GG g) 1 631 [.ref ls] mu news (fun r mu' news' => mu' = mu ∧ ∃ P C oP oC n, r = .ref P ∧ news' = (P, oP) :: (C, oC) :: n ∧ Gr news n ∧ Pot C 0 oP oC) := by
  fail "enterW"
  intro K hK Rt
  dsimp only
  repeat' fail "w"
  rw [pick40]
  have hi1 : IntsL (vs.take 40) := fun v hv => hi v (List.mem_of_mem_take hv)
  have hz1 : (vs.take 40).length ≤ 40 := by rw [List.length_take]; omega
  generalize vs.take 40 = us at hi1 hz1 ⊢
  refine WCs.Lz (by fail "nm") (fun _ : Unit => mu) (fun i _ ys news' => IntsL ys ∧ ys.length ≤ i) () (by fail "mem") lstP (by decide +kernel) rfl (by omega) rfl ⟨(fun _ h => nomatch h), Nat.le_refl _⟩ ?_ ?_
  · rintro i v _ ys news' KY KS hE hv ⟨hy, hyl⟩ gr
    obtain ⟨j, tj, rfl⟩ := hi1 _ (List.mem_of_getElem? hv)
    repeat' fail "w"
    refine hE.it () _ _ _ rfl (by fail "gr") ?_
    exact ⟨ints_snocL hy, by rw [List.length_append]; exact Nat.succ_le_succ hyl⟩
  rintro D _ ys news5 ⟨hy, hyl⟩ hvl gr6
  repeat' fail "w"
  refine WFor.Lz (fun z : Int × Tok × Option Value => ([("script", some (.ref ls)), ("cell", z.2.2), ("cells", some (.ref D)), ("state", some (.int z.1 z.2.1))] : Tab)) (fun z => mu) (fun i z news' => 0 ≤ z.1 ∧ z.1 < 2147483647) (1, _, _) (by fail "mem") lstP rfl rfl ⟨Int.zero_le_ofNat 1, show (1 : Int) < 2147483647 by decide⟩ ?_ ?_
  · rintro i v z1 news' K' hT hv ⟨h0, h1⟩ gr
    obtain ⟨j, tj, rfl⟩ := hy _ (List.mem_of_getElem? hv)
    have hm : IntMulOk z1.1 48271 := IntMulOk.of_right (intBits_le_64 (by omega) (by omega))
    repeat' fail "w"
    refine' hT.next (_, _, _) _ _ _ (by fail "tab") (by rfl) (by fail "gr") ?J38
    case' J38 => try dsimp only
    exact ⟨fmod_ge (by decide), fmod_lt (by decide)⟩
  rintro z2 news8 ⟨h0, h1⟩ gr8
  repeat' fail "w"
  refine WCo.Lz (fun _ : Unit => mu) (fun i _ ys news' => IntsL ys ∧ ys.length ≤ i) () (by fail "mem") lstP (by decide +kernel) rfl (by omega) rfl ⟨(fun _ h => nomatch h), Nat.le_refl _⟩ ?_ ?_
  · rintro i v _ ys news' KY KS hE hv ⟨hy2, hyl2⟩ gr
    obtain ⟨j, tj, rfl⟩ := hy _ (List.mem_of_getElem? hv)
    repeat' fail "w"
    refine hE.it () _ _ _ rfl (by fail "gr") ?_
    exact ⟨ints_snocL hy2, by rw [List.length_append]; exact Nat.succ_le_succ hyl2⟩
  rintro C _ zs news9 ⟨hzs, hzl⟩ hvl2 gr9
  repeat' fail "w"
  refine hK _ _ _ _ (Gr.trans (Gr.trans (by fail "gr") gr9) (Gr.refl _).cons.cons) ⟨rfl, _, _, _, _, _, rfl, rfl, Gr.trans (by fail "gr") gr9, _, _, _, _, _, lstP, lstP, hzs, by omega, by decide, by decide⟩
end
end

-- G46
section
section
variable {g : Gp}
theorem lawsum_ct {l : Addr} {k : Nat} {vs : List Value} {ws : List (Int × Nat)} {mu news : LedT} (hl : (l, lstO vs k) ∈ news) (hw : Paired (fun v w => PairAt v (w.1, (w.2 : Int)) news) vs ws) (hb : ∀ w ∈ ws, w.2 ≤ 12) (hz : vs.length ≤ 1000) :
    CtX (GG g) 2 664 [.ref l] mu news (fun r mu' news' => mu' = mu ∧ PairAt r ((sumW ws).1, ((sumW ws).2 : Int)) news') := by
  fail "enterW"
  intro K hK Rt
  dsimp only
  repeat' fail "w"
  refine WCo.Lz (fun _ : Unit => mu) (fun i _ ys news' => IntsAre ys ((ws.take i).map at12)) () (by fail "mem") lstP (by decide +kernel) rfl (by omega) rfl .nil ?_ ?_
  · rintro i v _ ys news' KY KS hE hv hy gr
    obtain ⟨w, hw', a, t1, t2, rfl, ha⟩ := Paired.get hw hv
    have hwb := hb w (List.mem_of_getElem? hw')
    repeat' fail "w"
    have e : w.1 * 10 ^ (12 - (w.2 : Int)).toNat = at12 w := by
      unfold at12
      rw [show (12 - (w.2 : Int)).toNat = 12 - w.2 by omega]
    dsimp only
    rw [e]
    refine hE.it () _ _ _ rfl (by fail "gr") ?_
    rw [take_snoc hw', List.map_append]
    exact ints_snoc hy
  rintro D _ ys news5 hy hvl gr6
  repeat' fail "w"
  refine O.sum (by fail "mem") lstP hy ?_
  intro t
  have hl1 := Paired.length hw
  rw [hl1, List.take_length]
  have hm : IntMulOk (ws.map at12).sum 1 := IntMulOk.of_right (intBits_le_64 (by decide) (by decide))
  repeat' fail "w"
  refine' (product_pair (p := 12) (q := 0) ⟨_, _, _, rfl, List.mem_cons_of_mem _ (.head _)⟩ ⟨_, _, _, rfl, .head _⟩ hm).wM ?_
  intro r news7 hr gr7
  repeat' fail "w"
  rw [Int.mul_one] at hr
  refine hK _ _ _ _ (Gr.trans (Gr.trans gr6 (by fail "gr")) gr7) ⟨rfl, ?_⟩
  rw [sumW_eq ws hb]
  exact hr
end
end

-- G47
section
section
variable {g : Gp}
local macro_rules | `(tactic| fail "w") => `(tactic| with_reducible refine O.neStr ?_)
theorem law_c {hid news mu : LedT} {P C f rl ls : Addr} {oP oC : Obj} {k : Nat} {b : Array UInt8} {tb : Tok} {rs : List Value} {cs : List (Int × Int)} {wd : Int × Int → Int × Nat} {tx : Int × Int → Str} {o1 o2 o3 : Option Value} (L : LawF g f rl b rs k cs wd tx news)
    (hR : ∀ news', Gr news news' → CtB (GG g) 8 700 [.ref P] ((P, oP) :: (C, oC) :: mu) news') :
    WPb ⟨g, 8, .fn ([("script", NameKind.local), ("pot", NameKind.local), ("font", NameKind.local), ("octets", NameKind.local), ("rows", NameKind.local), ("pair", NameKind.local), ("width", NameKind.local), ("text", NameKind.local), ("_law_pot", NameKind.globalImplicit), ("_law_draw", NameKind.globalImplicit), ("_law_wide", NameKind.globalImplicit), ("_law_simple", NameKind.globalImplicit), ("list", NameKind.globalImplicit), ("string_width", NameKind.globalImplicit), ("_law_sum", NameKind.globalImplicit), ("string_text", NameKind.globalImplicit), ("_law_is_refused", NameKind.globalImplicit)] : List (Str × NameKind)), false, true⟩ hid hid ([("script", some (.ref ls)), ("pot", some (.ref P)), ("font", some (.ref f)), ("octets", some (.bytes b tb)), ("rows", some (.ref rl)), ("pair", o1), ("width", o2), ("text", o3), ("_law_pot", some (.ref 631)), ("_law_draw", some (.ref 638)), ("_law_wide", some (.ref 693)), ("_law_simple", some (.ref 676)), ("list", some (.type "list")), ("string_width", some (.ref 598)), ("_law_sum", some (.ref 664)), ("string_text", some (.ref 603)), ("_law_is_refused", some (.ref 700))] : Tab) ((P, oP) :: (C, oC) :: mu) news (dropS (fnBody 89) 4) := by
  conv => arg 7; whnf
  refine WPb.lt ?_
  intro Rt
  obtain ⟨v1, v2, v3, v4, v5, v6, v7, I⟩ := L.font.inst
  have hrl := L.rl
  have hlen := Paired.length L.rows
  have hlen2 := L.font.len
  refine WPb.step ?_
  repeat' fail "w"
  refine' (swidth_ct L.font).wR ?_
  intro y news1 hy gr1
  obtain ⟨_, _, Iy⟩ := id hy
  repeat' fail "w"
  refine' (told_ct hy).w ?_
  rintro _ _ r mu' news2 ⟨rfl, y2, t1, t2, rfl, hy2⟩ gr2
  have gr3 := gr1.trans gr2
  have L3 := L.gr gr3
  have hrl3 := L3.rl
  repeat' fail "w"
  refine WCo.Lz (fun _ : Unit => (P, oP) :: (C, oC) :: mu) (fun i _ ys news' => Paired (fun v w => PairAt v (w.1, (w.2 : Int)) news') ys ((cs.map wd).take i)) () hrl3 lstP (by decide) rfl (by omega) rfl .nil ?_ ?_
  · rintro i v _ ys news' KY KS hE hv hS gr
    obtain ⟨p, hp, a, pa, wa, ty, rfl, h1, h2, h3⟩ := Paired.get L3.rows hv
    have h1' := gr.mem h1
    have hw : (cs.map wd)[i]? = some (wd p) := by rw [List.getElem?_map, hp]; rfl
    repeat' fail "w"
    refine hE.it () _ _ _ rfl (by fail "gr") ?_
    rw [take_snoc hw]
    exact hS.snoc (h3.gr gr)
  rintro D _ ys news4 hS hl gr
  rw [List.take_of_length_le (by rw [List.length_map, hlen]; exact Nat.le_refl _)] at hS
  have hysl := Paired.length hS
  rw [List.length_map] at hysl
  repeat' fail "w"
  refine' (lawsum_ct (k := ys.length) (by fail "mem") (hS.mono fun _ _ q => q.gr (Gr.refl _).cons) (fun w hw => by obtain ⟨q, hq, rfl⟩ := List.mem_map.mp hw; exact L.font.small q hq) (by omega)).wM ?_
  intro r news5 hr gr5
  have gr6 := gr3.trans (gr.trans ((Gr.refl _).cons.trans gr5))
  obtain ⟨ra, ru1, ru2, rfl, hra⟩ := hr
  repeat' fail "w"
  refine O.neTup (p := ((sumW (cs.map wd)).1, ((sumW (cs.map wd)).2 : Int))) ⟨_, _, _, rfl, Gr.mem (gr.trans ((Gr.refl _).cons.trans gr5)) hy2⟩ ⟨_, _, _, rfl, hra⟩ ?_
  repeat' fail "w"
  refine ⟨rfl, ?_⟩
  have L6 := L.gr gr6
  have hrl6 := L6.rl
  refine WPb.last ?_
  repeat' fail "w"
  refine' (stext_ct L6.font).wS ?_
  intro ty news7 gr7
  have L7 := L6.gr gr7
  have hrl7 := L7.rl
  repeat' fail "w"
  refine WCo.Lz (fun _ : Unit => (P, oP) :: (C, oC) :: mu) (fun i _ ys news' => StrsAre ys ((cs.map tx).take i)) () hrl7 lstP (by decide) rfl (by omega) rfl .nil ?_ ?_
  · rintro i v _ ys news' KY KS hE hv hS gr
    obtain ⟨p, hp, a, pa, wa, ty, rfl, h1, h2, h3⟩ := Paired.get L7.rows hv
    have h1' := gr.mem h1
    have hw : (cs.map tx)[i]? = some (tx p) := by rw [List.getElem?_map, hp]; rfl
    repeat' fail "w"
    refine hE.it () _ _ _ rfl (by fail "gr") ?_
    rw [take_snoc hw]
    exact strs_snoc hS
  rintro D _ ys news8 hS hl gr
  rw [List.take_of_length_le (by rw [List.length_map, hlen]; exact Nat.le_refl _)] at hS
  have hsum := len_sum (l := cs.map tx) (k := 100) (fun y hy => by obtain ⟨q, hq, rfl⟩ := List.mem_map.mp hy; exact L.font.short q hq)
  rw [List.length_map] at hsum
  repeat' fail "w"
  refine O.join (by fail "mem") lstP hS (by rw [show (Str.ofString "").length = 0 by decide +kernel]; omega) ?_
  intro t5
  repeat' fail "w"
  rw [beq_self_eq_true]
  exact ⟨rfl, WEb.call (by fail "ev") (by k_is) rfl (by fail "ev") rfl (hR _ (gr6.trans (gr7.trans (gr.trans (Gr.refl _).cons))))⟩
end
end

-- G48
section
section
variable {g : Gp}
local macro_rules | `(tactic| fail "w") => `(tactic| with_reducible refine O.neStr ?_)
theorem law_b {hid news mu : LedT} {P C f rl ls : Addr} {oP oC : Obj} {k : Nat} {b : Array UInt8} {tb : Tok} {rs : List Value} {cs : List (Int × Int)} {wd : Int × Int → Int × Nat} {tx : Int × Int → Str} {o1 o2 o3 : Option Value} (L : LawF g f rl b rs k cs wd tx news)
    (hR : ∀ news', Gr news news' → CtB (GG g) 8 700 [.ref P] ((P, oP) :: (C, oC) :: mu) news') :
    WPb ⟨g, 8, .fn ([("script", NameKind.local), ("pot", NameKind.local), ("font", NameKind.local), ("octets", NameKind.local), ("rows", NameKind.local), ("pair", NameKind.local), ("width", NameKind.local), ("text", NameKind.local), ("_law_pot", NameKind.globalImplicit), ("_law_draw", NameKind.globalImplicit), ("_law_wide", NameKind.globalImplicit), ("_law_simple", NameKind.globalImplicit), ("list", NameKind.globalImplicit), ("string_width", NameKind.globalImplicit), ("_law_sum", NameKind.globalImplicit), ("string_text", NameKind.globalImplicit), ("_law_is_refused", NameKind.globalImplicit)] : List (Str × NameKind)), false, true⟩ hid hid ([("script", some (.ref ls)), ("pot", some (.ref P)), ("font", some (.ref f)), ("octets", some (.bytes b tb)), ("rows", some (.ref rl)), ("pair", o1), ("width", o2), ("text", o3), ("_law_pot", some (.ref 631)), ("_law_draw", some (.ref 638)), ("_law_wide", some (.ref 693)), ("_law_simple", some (.ref 676)), ("list", some (.type "list")), ("string_width", some (.ref 598)), ("_law_sum", some (.ref 664)), ("string_text", some (.ref 603)), ("_law_is_refused", some (.ref 700))] : Tab) ((P, oP) :: (C, oC) :: mu) news (dropS (fnBody 89) 3) := by
  conv => arg 7; whnf
  refine WPb.lt ?_
  intro Rt
  obtain ⟨v1, v2, v3, v4, v5, v6, v7, I⟩ := L.font.inst
  have hrl := L.rl
  have hlen := Paired.length L.rows
  have hlen2 := L.font.len
  refine WPb.step ?_
  repeat' fail "w"
  refine WFor.Lz (fun z : Option Value × Option Value × Option Value => ([("script", some (.ref ls)), ("pot", some (.ref P)), ("font", some (.ref f)), ("octets", some (.bytes b tb)), ("rows", some (.ref rl)), ("pair", z.1), ("width", z.2.1), ("text", z.2.2), ("_law_pot", some (.ref 631)), ("_law_draw", some (.ref 638)), ("_law_wide", some (.ref 693)), ("_law_simple", some (.ref 676)), ("list", some (.type "list")), ("string_width", some (.ref 598)), ("_law_sum", some (.ref 664)), ("string_text", some (.ref 603)), ("_law_is_refused", some (.ref 700))] : Tab)) (fun z => (P, oP) :: (C, oC) :: mu) (fun i z news' => True) (_, _, _) hrl lstP rfl rfl trivial ?_ ?_
  · rintro i v z1 news' K' hT hv _ gr
    obtain ⟨p, hp, a, pa, wa, ty, rfl, h1, h2, h3⟩ := Paired.get L.rows hv
    have hmem : p ∈ cs := List.mem_of_getElem? hp
    have h1' := gr.mem h1
    have h2' := h2.gr gr
    have I' := I.gr gr
    repeat' fail "w"
    refine' (L.font.width _ _ _ _ gr hmem h2').wR ?_
    intro y2 news4 hy2 gr4
    obtain ⟨_, _, Iy⟩ := id hy2
    repeat' fail "w"
    refine' (told_ct hy2).w ?_
    rintro _ _ r mu' news5 ⟨rfl, y5, t1, t2, rfl, hy5⟩ gr5
    have gr6 := gr.trans (gr4.trans gr5)
    repeat' fail "w"
    refine O.neTup (p := ((wd p).1, ((wd p).2 : Int))) ⟨_, _, _, rfl, hy5⟩ (h3.gr gr6) ?_
    have I6 := I.gr gr6
    repeat' fail "w"
    refine' (L.font.text _ _ _ _ gr6 hmem (h2.gr gr6)).wS ?_
    intro t7 news7 gr7
    repeat' fail "w"
    refine' hT.next (_, _, _) _ _ _ (by fail "tab") (by rfl) ((gr4.trans gr5).trans gr7 |> gr.trans) ?J41
    case' J41 => try dsimp only
  rintro z2 news8 _ gr8
  repeat' fail "w"
  exact ⟨rfl, law_c (L.gr gr8) fun n q => hR n (gr8.trans q)⟩
theorem law_a {hid news mu : LedT} {P C f rl ls : Addr} {oP oC : Obj} {k : Nat} {b : Array UInt8} {tb : Tok} {rs : List Value} {cs : List (Int × Int)} {wd : Int × Int → Int × Nat} {tx : Int × Int → Str} {o1 o2 o3 : Option Value} (L : LawF g f rl b rs k cs wd tx news)
    (hR : ∀ news', Gr news news' → CtB (GG g) 8 700 [.ref P] ((P, oP) :: (C, oC) :: mu) news') :
    WPb ⟨g, 8, .fn ([("script", NameKind.local), ("pot", NameKind.local), ("font", NameKind.local), ("octets", NameKind.local), ("rows", NameKind.local), ("pair", NameKind.local), ("width", NameKind.local), ("text", NameKind.local), ("_law_pot", NameKind.globalImplicit), ("_law_draw", NameKind.globalImplicit), ("_law_wide", NameKind.globalImplicit), ("_law_simple", NameKind.globalImplicit), ("list", NameKind.globalImplicit), ("string_width", NameKind.globalImplicit), ("_law_sum", NameKind.globalImplicit), ("string_text", NameKind.globalImplicit), ("_law_is_refused", NameKind.globalImplicit)] : List (Str × NameKind)), false, true⟩ hid hid ([("script", some (.ref ls)), ("pot", some (.ref P)), ("font", some (.ref f)), ("octets", some (.bytes b tb)), ("rows", some (.ref rl)), ("pair", o1), ("width", o2), ("text", o3), ("_law_pot", some (.ref 631)), ("_law_draw", some (.ref 638)), ("_law_wide", some (.ref 693)), ("_law_simple", some (.ref 676)), ("list", some (.type "list")), ("string_width", some (.ref 598)), ("_law_sum", some (.ref 664)), ("string_text", some (.ref 603)), ("_law_is_refused", some (.ref 700))] : Tab) ((P, oP) :: (C, oC) :: mu) news (dropS (fnBody 89) 2) := by
  conv => arg 7; whnf
  refine WPb.lt ?_
  intro Rt
  obtain ⟨v1, v2, v3, v4, v5, v6, v7, I⟩ := L.font.inst
  have hrl := L.rl
  have hlen := Paired.length L.rows
  have hlen2 := L.font.len
  refine WPb.step ?_
  repeat' fail "w"
  refine' (L.font.codes _ _ _ (Gr.refl _)).wR ?_
  rintro D news2 ⟨rs2, k2, hD, hP⟩ gr2
  have hlen3 := Paired.length hP
  have L2 := L.gr gr2
  have hrl2 := L2.rl
  repeat' fail "w"
  refine WCo.Lz (fun _ : Unit => (P, oP) :: (C, oC) :: mu) (fun i _ ys news' => Paired (fun v p => PairAt v p news') ys (cs.take i)) () (by fail "mem") lstP (by decide) rfl (by omega) rfl .nil ?_ ?_
  · rintro i v _ ys news' KY KS hE hv hS gr
    obtain ⟨p, hp, a, pa, wa, ty, rfl, h1, h2, h3⟩ := Paired.get L2.rows hv
    have gr' := (Gr.refl _).cons.trans gr
    have h1' := gr'.mem h1
    repeat' fail "w"
    refine hE.it () _ _ _ rfl (by fail "gr") ?_
    rw [take_snoc hp]
    exact hS.snoc (h2.gr gr')
  rintro D3 _ ys news4 hS hl gr
  rw [hlen, List.take_length] at hS
  repeat' fail "w"

  refine O.nePairs (by fail "mem") (by fail "mem") lstP lstP (hP.mono fun _ _ q => (q.gr (Gr.trans (by fail "gr") (gr.trans (Gr.refl _).cons))).up) (hS.mono fun _ _ q => (q.gr (Gr.refl _).cons).up) ?_
  repeat' fail "w"
  have gr6 : ∀ p, Gr news (p :: news4) := fun p => gr2.trans (Gr.trans (Gr.refl _).cons (gr.trans (Gr.refl _).cons))
  exact ⟨rfl, law_b (L.gr (gr6 _)) fun n q => hR n ((gr6 _).trans q)⟩
end
end

-- G49
section
section
variable {g : Gp}
theorem law_all {news : LedT} {ls : Addr} {ol : Obj} {vs : List Value} (hl : (ls, ol) ∈ news) (PL : LstP vs ol) (hi : IntsL vs) (hz : vs.length ≤ 63)
    (hR : ∀ (P C : Addr) (oP oC : Obj) (N : Nat) (news' : LedT), N ≤ 10000 → Pot C N oP oC → CtB (GG g) 8 700 [.ref P] [(P, oP), (C, oC)] news') :
    WPb ⟨g, 8, .fn ([("script", NameKind.local), ("pot", NameKind.local), ("font", NameKind.local), ("octets", NameKind.local), ("rows", NameKind.local), ("pair", NameKind.local), ("width", NameKind.local), ("text", NameKind.local), ("_law_pot", NameKind.globalImplicit), ("_law_draw", NameKind.globalImplicit), ("_law_wide", NameKind.globalImplicit), ("_law_simple", NameKind.globalImplicit), ("list", NameKind.globalImplicit), ("string_width", NameKind.globalImplicit), ("_law_sum", NameKind.globalImplicit), ("string_text", NameKind.globalImplicit), ("_law_is_refused", NameKind.globalImplicit)] : List (Str × NameKind)), false, true⟩ [] [(ls, ol)] ([("script", some (.ref ls)), ("pot", none), ("font", none), ("octets", none), ("rows", none), ("pair", none), ("width", none), ("text", none), ("_law_pot", some (.ref 631)), ("_law_draw", some (.ref 638)), ("_law_wide", some (.ref 693)), ("_law_simple", some (.ref 676)), ("list", some (.type "list")), ("string_width", some (.ref 598)), ("_law_sum", some (.ref 664)), ("string_text", some (.ref 603)), ("_law_is_refused", some (.ref 700))] : Tab) [] news (dropS (fnBody 89) 0) := by
  conv => arg 7; whnf
  refine WPb.lt ?_
  intro Rt
  refine WPb.step ?_
  repeat' fail "w"
  refine' (lawpot_ct hl PL hi hz).w ?_
  rintro _ _ r mu' news' ⟨rfl, P, C, oP, oC, n, rfl, rfl, grn, hp⟩ gr1
  repeat' fail "w"
  refine ⟨rfl, ?_⟩
  refine WPb.perm (mu' := [(P, oP), (C, oC)]) (news' := n) (fun _ _ _ _ S => S.perm (List.Perm.refl _)) ?_
  refine WPb.hide (grn.mem hl) fun n2 => ?_
  refine WPb.step ?_
  repeat' ((fail_if_success (first | (with_reducible show WE _ _ _ _ (PySem.Expr.IfExp _ _ _ _) _))); fail "w")
  refine WE.join (fun z : Value × Obj × Obj => z.1) (fun z => [(P, z.2.1), (C, z.2.2)]) (fun z news4 => Pot C 200 z.2.1 z.2.2 ∧ LawRes g z.1 news4) ?_ ?_
  · intro K' hJ
    refine WE.ifExp ?_
    repeat' fail "w"
    refine' draw_w hp (by decide) (by decide) (by omega) ?_
    intro oP5 oC5 x5 t5 news5 hp5 h05 h15 gr5
    repeat' fail "w"
    refine' ite_beqI ?_ ?_ <;> intro hx
    · repeat' fail "w"
      refine' (lawwide_ct hp5 (by omega)).w ?_
      rintro _ _ r mu' news6 ⟨oP6, oC6, rfl, hp6, hL⟩ gr6
      repeat' fail "w"
      exact hJ (_, _, _) _ ⟨hp6.mono (by omega), hL⟩ (by fail "gr")
    · repeat' fail "w"
      refine' (lawsimple_ct hp5 (by omega)).w ?_
      rintro _ _ r mu' news6 ⟨oP6, oC6, rfl, hp6, hL⟩ gr6
      repeat' fail "w"
      exact hJ (_, _, _) _ ⟨hp6.mono (by omega), hL⟩ (by fail "gr")
  rintro ⟨v, oP7, oC7⟩ news7 ⟨hp7, tp, f, b, tb, rl, rs, k, cs, wd, tx, rfl, h1, h2, h3, h4⟩ gr7
  repeat' fail "w"
  exact ⟨rfl, law_a ⟨h2, h3, h4⟩ fun n q => hR P C _ _ 200 n (by decide) hp7⟩
end
end

-- X9
section
open PySem PySem.W PyProof.Rows PySem.Spec PySem.Calls PyProof.V
section
variable {g : Gp} {n : Nat} {md : Mode} {r fz : Bool} {R : Tab} {mu news : LedT} {K : Value → LedT → LedT → Prop} {KU : Unit → LedT → LedT → Prop} {KM : Value × List Value → LedT → LedT → Prop} {pl : Sem Bool} {e D : Addr} {oe od : Obj} {w v : Value} {name : Str}
theorem O.excMeth (h : KM (.builtin "Exception.__init__", []) mu news) : WO ⟨g, n, md, r, fz⟩ R mu news (getMethod (.type "Exception") "__init__" pl) KM := fun z s Q I S q => by with_reducible refine' v_excMeth I.ok S ?_; exact fun s' S' => q _ _ _ _ h S'
theorem O.excInit (hX : ExO oe) (h : ∀ oe' tp, ExO oe' → oe'.dict = oe.dict → K .none ((e, oe') :: mu) ((tp, tupO [w]) :: news)) : WO ⟨g, n, md, r, fz⟩ R ((e, oe) :: mu) news (call (.builtin "Exception.__init__") [.ref e, w]) K := fun z s Q I S q =>
  v_excInit I.ok S hX fun oe' tp s' S' a b => q _ _ _ _ (h oe' tp a b) S'
theorem O.setX1 (hX : ExO oe) (hdn : oe.dict = none) (hf : findIn (hd.heap_1 g.w.params) (.ref 59) name = some none) (h : ∀ D od oe', ExO oe' → oe'.dict = some D → ExD D od 1 → KU () ((D, od) :: (e, oe') :: mu) news) : WO ⟨g, n, md, r, fz⟩ R ((e, oe) :: mu) news (setAttr (.ref e) name v) KU := fun z s Q I S q =>
  v_setX1 I.ok S hX hdn hf fun D od oe' s' S' a b d => q _ _ _ _ (h D od oe' a b d) S'
theorem O.setX2 {kk : Nat} (hX : ExO oe) (hdn : oe.dict = some D) (hx : ExD D od kk) (hk : kk ≤ 50) (hf : findIn (hd.heap_1 g.w.params) (.ref 59) name = some none) (h : ∀ od', ExD D od' (kk + 1) → KU () ((D, od') :: (e, oe) :: mu) news) : WO ⟨g, n, md, r, fz⟩ R ((D, od) :: (e, oe) :: mu) news (setAttr (.ref e) name v) KU := fun z s Q I S q =>
  v_setX2 I.ok S hX hdn hx hk hf fun od' s' S' d => q _ _ _ _ (h od' d) S'
end
end

-- G50
section
section
variable {g : Gp}
local macro_rules | `(tactic| fail "w") => `(tactic| with_reducible refine O.excMeth ?_)
noncomputable def exO (tp : Addr) : Obj := { cls := .ref 59, data := .fields #[.ref tp, .none, .none, .none, .bool false, .none] }
theorem init_ct {e tp : Addr} {y : Str} {t : Tok} {mu news : LedT} : CtX (GG g) 1 36 [.ref e, .str y t] ((e, exO tp) :: mu) news (fun r mu' news' => r = .none ∧ ∃ oe md a, mu' = a :: (e, oe) :: md ∧ ExO oe) := by
  refine' enterWD ([.ref e, .str y t, .int (-1) 209]) ?lk ?cd ?ini ?bd ?nd ?db ?a ?b ?c ?_; (case lk => k_is); (case cd => k_is); (case ini => fail "init"); (case bd => exact fun _ X => binds_K X rfl (by k_is) rfl rfl rfl); (case nd => decide +kernel); (case db => decide +kernel); (case a => rfl); (case b => rfl); (case c => rfl)
  intro K hK Rt
  dsimp only
  repeat' fail "w"
  refine O.excInit ⟨rfl, _, rfl⟩ ?_
  intro oe tp' hX1 hd1
  repeat' fail "w"
  refine O.setX1 hX1 hd1 find_what ?_
  intro D od oe2 hX2 hd2 hx2
  repeat' fail "w"
  refine O.setX2 hX2 hd2 hx2 (by decide) find_at ?_
  intro od3 hx3
  repeat' fail "w"
  exact hK _ _ _ _ (by fail "gr") ⟨rfl, _, _, _, rfl, hX2⟩
end
end

-- X10
section
open PySem PySem.W PyProof.Rows PySem.Spec PySem.Calls PyProof.V
section
variable {g : Gp} {c : Cx} {n k : Nat} {m : Str → Option Value} {x x0 mu news : LedT} {s : Shared} {E : Value → Shared → Prop}
theorem v_ff {y : Str} {t : Tok} {Q : Value → Shared → Prop} (O : Ok (GG g) c n) (hn : Nat.ble 1 n = true) (S : ES c m x mu news s) (hx : ∀ p ∈ x0, p ∈ x) (h : ∀ e s', MadeX c x0 e s' → FF s'.heap → Q (.ref e) s') : wpAny (GG g).M c.A (call (.ref 59) [.str y t]) Q E s := by
  obtain ⟨nm, q, N, bs, hdct, sn, sub, ab, col, dd, k0, k1, k2, k3, k5, hC⟩ := S.ff O
  have S3 := ((S.push (tupO [.str y t]) rfl).push (exO s.heap.objs.size) rfl).thaw
  have hz : (s.heap.push (tupO [.str y t])).objs.size = s.heap.objs.size + 1 := Heap.size_push ..
  obtain ⟨hp, gs, d, tk, os⟩ := s
  refine ff_call hC (O.X.keeps S.F.keep) ff_init ff_fn (by show (1 : Nat) ≤ sizeLine; rw [sizeLine_eq]; omega) ?_
  dsimp only at S3 hz
  rw [hz] at S3
  refine init_ct (tp := hp.objs.size) c m x _ _ _ (O.le hn) S3 ⟨rfl, rfl, ?_, ?_⟩ fun r mu' ext s' S4 ⟨hr, oe, md, a, hmu, hX⟩ => ?_
  · rw [depth_under_make]; exact Nat.le_succ _
  · rw [units_under_make]; show c.un + 1 ≤ c.un + 8; omega
  · subst hr hmu
    have S5 : ES c m x ((hp.objs.size + 1, oe) :: a :: md) _ s' := S4.perm (List.Perm.append_right _ (List.Perm.swap _ _ _))
    exact ⟨rfl, h _ s' ⟨_, _, _, _, _, hx, S5, hX⟩ (S5.ff O)⟩
theorem v_raise {e : Expr} {pos : Pos} {rest : List Stmt} {Q : Flow → Shared → Prop} (h : wpAny (GG g).M c.A (eval e c.env) (fun v s₁ => ∃ a, v = .ref a ∧ MadeX c x0 a s₁ ∧ FF s₁.heap) (RaiE c x0) s) : wpAny (GG g).M c.A (execs (.Raise (some e) none pos :: rest) c.env) Q (RaiE c x0) s := by
  refine v_cons (ff_raise rfl (wpAny_mono h (fun v s₁ ⟨a, e1, hM, hF⟩ => ?_) fun _ _ q => q))
  obtain ⟨m, x, mu, news, oe, _, S, hX⟩ := id hM
  exact ⟨a, oe, e1, hF, (S.N (a, oe) (by simp)).1, hX, ⟨a, rfl, .inl hM⟩⟩
end
section
variable {g : Gp} {n : Nat}
theorem enterED {name qual : Str} {params : Arguments} {body : List Stmt} {scope : Scope} {dV kV doc pm cdv ct oc : Value} {an od : Option Addr} {osl : Array (Option Value)} {f : Addr} {vs : List Value} (vs' : List Value) {binds : List (Str × Value)} {R : Tab} {mu news : LedT} 
    (hlk : (hd.heap_1 g.w.params).lookup f = some ⟨oc, od, .func (fnOf name qual params body scope dV kV doc pm an cdv ct), osl⟩) (hcd : codeIn (hd.heap_1 g.w.params) cdv qual = true)
    (hin : InitC (GG g) scope.names vs' binds R) (hbind : ∀ s : Shared, (hd.heap_1 g.w.params).In s.heap → BindsTo s (fnOf name qual params body scope dV kV doc pm an cdv ct) ⟨vs, []⟩ binds) (hnd : (scope.names.map (·.1)).Nodup) (hdbg : (scope.names.any fun y => y.1 == ("__debug__" : Str)) = false)
    (hco : scope.isCoroutine = false) (hgen : scope.isGenerator = false) (hk : scope.kind = .function)
    (h : ∀ c m x cells s, Ok (GG g) c n → FT (GG g) c scope.names m cells R → ES c m (cells ++ x) mu news s → wpAny (GG g).M c.A (execs body c.env) (Back c x news fun _ _ _ => False) (RaiE c x) s) : CtE (GG g) (n + 1) f vs mu news :=
  (enterXG (G := GG g) hlk hcd hbind hin hnd hdbg hco hgen hk h).e fun _ _ _ q => q
theorem enterE {name qual : Str} {params : Arguments} {body : List Stmt} {scope : Scope} {dV kV doc pm cdv ct oc : Value} {an od : Option Addr} {osl : Array (Option Value)} {f : Addr} {vs : List Value} {binds : List (Str × Value)} {R : Tab} {mu news : LedT} 
    (hlk : (hd.heap_1 g.w.params).lookup f = some ⟨oc, od, .func (fnOf name qual params body scope dV kV doc pm an cdv ct), osl⟩) (hcd : codeIn (hd.heap_1 g.w.params) cdv qual = true)
    (hin : InitC (GG g) scope.names vs binds R) (hbind : bindArgs (fnOf name qual params body scope dV kV doc pm an cdv ct) ⟨vs, []⟩ = pure binds) (hnd : (scope.names.map (·.1)).Nodup) (hdbg : (scope.names.any fun y => y.1 == ("__debug__" : Str)) = false)
    (hco : scope.isCoroutine = false) (hgen : scope.isGenerator = false) (hk : scope.kind = .function)
    (h : ∀ c m x cells s, Ok (GG g) c n → FT (GG g) c scope.names m cells R → ES c m (cells ++ x) mu news s → wpAny (GG g).M c.A (execs body c.env) (Back c x news fun _ _ _ => False) (RaiE c x) s) : CtE (GG g) (n + 1) f vs mu news :=
  (enterXG (G := GG g) hlk hcd (fun _ _ => BindsTo.of_eq hbind) hin hnd hdbg hco hgen hk h).e fun _ _ _ q => q
end

section
variable {g : Gp} {n : Nat}
theorem enterWE {name qual : Str} {params : Arguments} {body : List Stmt} {scope : Scope} {dV kV doc pm cdv ct oc : Value} {an od : Option Addr} {osl : Array (Option Value)} {f : Addr} {vs : List Value} {binds : List (Str × Value)} {R : Tab} {mu news : LedT}
    (hlk : (hd.heap_1 g.w.params).lookup f = some ⟨oc, od, .func (fnOf name qual params body scope dV kV doc pm an cdv ct), osl⟩) (hcd : codeIn (hd.heap_1 g.w.params) cdv qual = true)
    (hin : InitC (GG g) scope.names vs binds R) (hbind : bindArgs (fnOf name qual params body scope dV kV doc pm an cdv ct) ⟨vs, []⟩ = pure binds) (hnd : (scope.names.map (·.1)).Nodup) (hdbg : (scope.names.any fun y => y.1 == ("__debug__" : Str)) = false)
    (hco : scope.isCoroutine = false) (hgen : scope.isGenerator = false) (hk : scope.kind = .function)
    (h : ∀ K : Flow → Tab → LedT → LedT → Prop, let Rt := R; WP ⟨g, n, .fn scope.names, true, false⟩ Rt mu news body K) : CtE (GG g) (n + 1) f vs mu news :=
  enterE hlk hcd hin hbind hnd hdbg hco hgen hk fun c m x cells s O T S => h (fun _ _ _ _ => False) ⟨c, m, cells, cells ++ x, x, c.env⟩ s _ ⟨O, rfl, T, rfl⟩ S fun fl R' mu' news' m' xc' s' hp _ I' S' => hp.elim
theorem enterWED {name qual : Str} {params : Arguments} {body : List Stmt} {scope : Scope} {dV kV doc pm cdv ct oc : Value} {an od : Option Addr} {osl : Array (Option Value)} {f : Addr} {vs : List Value} (vs' : List Value) {binds : List (Str × Value)} {R : Tab} {mu news : LedT}
    (hlk : (hd.heap_1 g.w.params).lookup f = some ⟨oc, od, .func (fnOf name qual params body scope dV kV doc pm an cdv ct), osl⟩) (hcd : codeIn (hd.heap_1 g.w.params) cdv qual = true)
    (hin : InitC (GG g) scope.names vs' binds R) (hbind : ∀ s : Shared, (hd.heap_1 g.w.params).In s.heap → BindsTo s (fnOf name qual params body scope dV kV doc pm an cdv ct) ⟨vs, []⟩ binds) (hnd : (scope.names.map (·.1)).Nodup) (hdbg : (scope.names.any fun y => y.1 == ("__debug__" : Str)) = false)
    (hco : scope.isCoroutine = false) (hgen : scope.isGenerator = false) (hk : scope.kind = .function)
    (h : ∀ K : Flow → Tab → LedT → LedT → Prop, let Rt := R; WP ⟨g, n, .fn scope.names, true, false⟩ Rt mu news body K) : CtE (GG g) (n + 1) f vs mu news :=
  enterED vs' hlk hcd hin hbind hnd hdbg hco hgen hk fun c m x cells s O T S => h (fun _ _ _ _ => False) ⟨c, m, cells, cells ++ x, x, c.env⟩ s _ ⟨O, rfl, T, rfl⟩ S fun fl R' mu' news' m' xc' s' hp _ I' S' => hp.elim
end
section
variable {g : Gp} {n : Nat} {ns : List (Str × NameKind)} {fz : Bool} {R : Tab} {mu news : LedT}
theorem inY {z : Zx} {md : Mode} {r : Bool} (I : Fm.In ⟨g, n, md, r, fz⟩ z R) : ∀ p ∈ z.y, p ∈ z.x := by
  cases md with
  | fn ns => rw [I.2.2.2]; exact fun p h => List.mem_append_right _ h
  | cp => rw [I.2.2.2]; exact fun p h => h
theorem CtE.w {k : Nat} {f : Addr} {vs : List Value} {md : Mode} {K : Value → LedT → LedT → Prop} (C : CtE (GG g) k f vs mu news) (hk : Nat.ble k n = true) : WO ⟨g, n, md, true, fz⟩ R mu news (call (.ref f) vs) K := fun z s Q I S q => by
  cases md with
  | fn ns => exact C.at I.ok hk S (inY I)
  | cp => exact wpAny_mono (C.atX I.ok hk S) (fun _ _ h => h) fun v s' hh => by obtain ⟨e, e1, h⟩ := hh; exact ⟨e, e1, h.sub (inY I)⟩
noncomputable def WR (F : Fm) (R : Tab) (mu news : LedT) (e : Expr) : Prop := ∀ (z : Zx) (s : Shared), F.In z R → ES z.c z.m z.x mu news s → wpAny (GG F.g).M z.c.A (eval e z.env) (fun v s₁ => ∃ a, v = .ref a ∧ MadeX z.c z.y a s₁ ∧ FF s₁.heap) (RaiE z.c z.y) s
theorem WR.ff {y m : Str} {np pos : Pos} {e : Expr} {k : Tok → Tok} (hf : EV ⟨g, n, .fn ns, true, fz⟩ R mu news (.Name y np) (fun _ => .ref 59)) (hk : keepIn (hd.heap_1 g.w.params) (.ref 59) = true) (p1 : isPlain e = true) (h1 : EV ⟨g, n, .fn ns, true, fz⟩ R mu news e (fun t => .str m (k t))) (hn : Nat.ble 1 n = true) :
    WR ⟨g, n, .fn ns, true, fz⟩ R mu news (.Call (.Name y np) [e] [] pos) := fun z s I S => ec1 I.ok S (hf z I) hk p1 (h1 z I) fun t1 s' S' => v_ff I.ok hn S' (inY I) fun a s2 M2 F2 => ⟨a, rfl, M2, F2⟩
theorem WP.raise {e : Expr} {pos : Pos} {rest : List Stmt} {K : Flow → Tab → LedT → LedT → Prop} (h : WR ⟨g, n, .fn ns, true, fz⟩ R mu news e) : WP ⟨g, n, .fn ns, true, fz⟩ R mu news (.Raise (some e) none pos :: rest) K := fun z s Q I S q => by
  have h' := h z s I S
  have e := I.2.1
  show wpAny (GG g).M z.c.A (execs _ z.env) Q (RaiE z.c z.y) s
  rw [e] at h' ⊢
  exact v_raise h'
theorem EV.addS {F : Fm} {e1 e2 : Expr} {pos : Pos} {y z0 : Str} {k1 k2 : Tok → Tok} (h1 : EV F R mu news e1 (fun t => .str y (k1 t))) (h2 : EV F R mu news e2 (fun t => .str z0 (k2 t))) (hz : Nat.ble (y.length + z0.length) 10000 = true) : EV F R mu news (.BinOp e1 .Add e2 pos) (fun t => .str (y ++ z0) t) := fun z I =>
  Ev.bin (h1 z I) (h2 z I) fun _ _ _ _ _ S k => PyProof.Rows.add_str (fun t' tk => k t' _ (S.tok tk)) (by have := Nat.le_of_ble_eq_true hz; rw [sizeLine_eq]; omega)
theorem WP.whileR {test : Expr} {body rest : List Stmt} {pos : Pos} {K : Flow → Tab → LedT → LedT → Prop} (h : WB ⟨g, n, .fn ns, true, fz⟩ R mu news test (fun b mu' news' => b = true ∧ ∀ K', WP ⟨g, n, .fn ns, true, fz⟩ R mu' news' body K')) : WP ⟨g, n, .fn ns, true, fz⟩ R mu news (.While test body [] pos :: rest) K := fun z s Q I S q => by
  have e := I.2.1
  have h' : wpAny (GG g).M z.c.A (PySem.isTrue test z.env (eval test z.env)) (fun b s₂ => b = true ∧ wpAny (GG g).M z.c.A (execs body z.env) (fun _ _ => False) (RaiE z.c z.y) s₂) (RaiE z.c z.y) s := h z s _ I S fun b mu' news' s' k S' => ⟨k.1, k.2 (fun _ _ _ _ => False) z s' _ I S' fun fl R' mu2 news2 m' xc' s2 hp _ _ _ => hp⟩
  show wpAny (GG g).M z.c.A (execs _ z.env) Q (RaiE z.c z.y) s
  rw [e] at h' ⊢
  exact v_whileR I.1 h'
end
section
variable {g : Gp} {n : Nat} {ns : List (Str × NameKind)} {fz : Bool} {R RC : Tab} {mu news : LedT} {elt iter : Expr} {scope : Scope} {y : Str} {py pos : Pos} {v : Value}
noncomputable def WCoR (g : Gp) (n : Nat) (ns : List (Str × NameKind)) (fz : Bool) (R : Tab) (mu news : LedT) (elt iter : Expr) (y : Str) (py : Pos) (scope : Scope) (pos : Pos) (xv : Value) : Prop :=
  ∀ (z : Zx) (s : Shared) (cl : List (Str × Addr)) (Q : Value → Shared → Prop), Fm.In ⟨g, n, .fn ns, true, fz⟩ z R → ES z.c z.m z.x mu news s → ClOk z.c scope cl → CompGoR (GG g) z.c elt (.Name y py) iter scope pos cl Q (RaiE z.c z.y) xv s
theorem WE.compR {K : Value → LedT → LedT → Prop} (hf : freeOk ns scope = true) (hnd : (scope.names.map (·.1)).Nodup) (hkind : scope.kind = .function) (hs : notSet iter = true) (h : WE ⟨g, n, .fn ns, true, fz⟩ R mu news iter (fun xv mu' news' => WCoR g n ns fz R mu' news' elt iter y py scope pos xv)) :
    WE ⟨g, n, .fn ns, true, fz⟩ R mu news (.ListComp elt [⟨.Name y py, iter, [], 0⟩] scope pos) K := fun z s Q I S q => by
  have e := I.2.1
  show wpAny (GG g).M z.c.A (eval _ z.env) Q (RaiE z.c z.y) s
  rw [e]
  exact v_ListCompR I.2.2.1 hf hnd hkind (fun _ => fold_no hs) fun cl hcl => by
    have h' : wpAny (GG g).M z.c.A (eval iter z.env) (CompGoR (GG g) z.c elt (.Name y py) iter scope pos cl Q (RaiE z.c z.y)) (RaiE z.c z.y) s := h z s _ I S fun v mu' news' s' k S' => k z s' cl Q I S' hcl
    rw [e] at h'
    exact h'
theorem elemR {r : Bool} {KY : Value → LedT → LedT → Prop} {c : Cx} {m : Str → Option Value} {xc x : LedT} {s : Shared} {cl : List (Str × Addr)} {I : Addr} {oI : Obj} {C : Addr} {oC : Obj} {D : Addr} {m₂ : Str → Option Value} {ys : List Value}
    (hx : scope.names.lookup y = some .local) (hkind : scope.kind = .function) (hnd : (scope.names.map (·.1)).Nodup) (hdbg : (scope.names.any fun y => y.1 == ("__debug__" : Str)) = false) (hK : CTab (GG g) ns R [(y, v)] scope.names RC) (h : WE ⟨g, n, .cp, r, fz⟩ RC mu news elt KY)
    (O : Ok (GG g) c n) (T : FT (GG g) c ns m xc R) (hxx : ∀ p ∈ xc, p ∈ x) (hcl : ClOk c scope cl) (hC : LCg.NsObj oC m₂) (S : ES c m ((I, oI) :: (C, oC) :: (D, LCg.lst ys) :: x) mu news s) :
    wpAny (GG g).M c.A (assign (.Name y py) (compEnvC scope cl C c.env) v) (fun _ s₂ => ∃ oC, wpAny (GG g).M c.A (eval elt (compEnvC scope cl C c.env)) (fun w s' => ∃ mu' news', KY w mu' news' ∧ ES c m ((I, oI) :: (C, oC) :: (D, LCg.lst ys) :: x) mu' news' s') (if r = true then RaiC c ((I, oI) :: (C, oC) :: (D, LCg.lst ys) :: x) else noE) s₂ ∧ ∃ m₂, LCg.NsObj oC m₂) noE s :=
  wpAny_assign_Name (comp_store S hC hx hkind fun oC' s' hC' S' => by
    have hb : ∀ y' v', (y', v') ∈ [(y, v)] → (fun z => if z = y then some v else m₂ z) y' = some v' := by
      intro y' v' hm
      obtain ⟨rfl, rfl⟩ : y' = y ∧ v' = v := by simpa using hm
      exact if_pos rfl
    have I0 : Fm.In ⟨g, n, .cp, r, fz⟩ ⟨c, m, (C, oC') :: xc, (I, oI) :: (C, oC') :: (D, LCg.lst ys) :: x, (I, oI) :: (C, oC') :: (D, LCg.lst ys) :: x, compEnvC scope cl C c.env⟩ RC := ⟨O, initK_rds O T hcl hC' hnd hkind hdbg (hK.initK hb), (fun p hp => by
      rcases List.mem_cons.mp hp with rfl | hp
      · exact .tail _ (.head _)
      · exact .tail _ (.tail _ (.tail _ (hxx p hp)))), rfl⟩
    refine ⟨oC', ?_, _, hC'⟩
    exact h _ s' _ I0 S' fun w mu' news' s2 k S2 => ⟨mu', news', k, S2⟩)
theorem subXr {z : Zx} (I : Fm.In ⟨g, n, .fn ns, true, fz⟩ z R) : ∀ p ∈ z.xc, p ∈ z.x := by rw [I.2.2.2]; exact fun p h => List.mem_append_left _ h
theorem WCoR.L {l : Addr} {o : Obj} {vs : List Value} (K0 : Nat) (hl : (l, o) ∈ news) (P : LstP vs o) (hcell : ∀ y ∈ scope.names, y.2 ≠ .cell) (hkind : scope.kind = .function) (hz : vs.length ≤ 1000000) (hK0 : K0 < vs.length)
    (hx : scope.names.lookup y = some .local) (hnd : (scope.names.map (·.1)).Nodup) (hdbg : (scope.names.any fun y => y.1 == ("__debug__" : Str)) = false)
    (turn : ∀ i v news', i < K0 → vs[i]? = some v → Gr news news' → ∃ RC, CTab (GG g) ns R [(y, v)] scope.names RC ∧ WE ⟨g, n, .cp, false, fz⟩ RC mu news' elt (fun _ mu' news2 => mu' = mu ∧ Gr news news2))
    (last : ∀ v news', vs[K0]? = some v → Gr news news' → ∃ RC, CTab (GG g) ns R [(y, v)] scope.names RC ∧ ∀ K, WE ⟨g, n, .cp, true, fz⟩ RC mu news' elt K) : WCoR g n ns fz R mu news elt iter y py scope pos (.ref l) := fun z s cl Q I S hcl =>
  goLR (inY I) K0 I.1 S hl P hcell hkind hz hK0 (fun i v I' oI C oC D m₂ ys news' s hi hv gr hC S => by
    obtain ⟨RC, hT, h⟩ := turn i v news' hi hv gr
    refine wpAny_mono (elemR (r := false) hx hkind hnd hdbg hT h I.1 I.2.2.1 (subXr I) hcl hC S) (fun _ s2 h2 => ?_) fun _ _ h => h
    obtain ⟨oC', h2, m2, h3⟩ := h2
    exact ⟨oC', wpAny_mono h2 (fun w s3 ⟨mu', news2, k, S3⟩ => ⟨mu', news2, k.1, k.2, S3⟩) fun _ _ h => h, m2, h3⟩)
    fun v I' oI C oC D m₂ ys news' s hv gr hC S => by
    obtain ⟨RC, hT, h⟩ := last v news' hv gr
    refine wpAny_mono (elemR (r := true) hx hkind hnd hdbg hT (h fun _ _ _ => False) I.1 I.2.2.1 (subXr I) hcl hC S) (fun _ s2 h2 => ?_) fun _ _ h => h
    obtain ⟨oC', h2, m2, h3⟩ := h2
    exact ⟨oC', wpAny_mono h2 (fun w s3 ⟨mu', news2, k, S3⟩ => k) fun _ _ h => h, m2, h3⟩
end
section
variable {F : Fm} {R : Tab} {mu news : LedT} {pos : Pos} {es : List Expr}
theorem WA.abs {K : List Value → LedT → LedT → Prop} (P : LedT → Prop) (h0 : P news) (h : ∀ N, P N → WA F R mu N pos es K) : WA F R mu news pos es K := h news h0
theorem WPr.freeze {p : Addr × Obj} {ks : List (Option Expr)} {K : List (Value × Value) → LedT → LedT → Prop} (h : WPr F R mu (p :: news) ks es pos K) : WPr F R (p :: mu) news ks es pos K := WT.freeze h
end
section
variable {g : Gp} {n : Nat} {ns : List (Str × NameKind)} {hid : LedT} {R : Tab} {mu news : LedT}
theorem LawEnd.mono {c : Cx} {x x' : LedT} {f : Flow} {s : Shared} (h : LawEnd c x f s) (hs : ∀ p ∈ x', p ∈ x) : LawEnd c x' f s := ⟨h.1, h.2.mono hs⟩
theorem WPb.try {body0 rest : List Stmt} {y : Str} {np hp pos p1 p2 : Pos} {k : Nat} (hy : ns.lookup y = some .globalImplicit) (hg : nsIn (hd.heap_1 g.w.params) mainGlobals y = some (some (.ref 59))) (hdb : (y == ("__debug__" : Str)) = false)
    (h : ∀ K, WP ⟨g, n, .fn ns, true, true⟩ R mu news body0 K) : WPb ⟨g, n, .fn ns, false, true⟩ hid hid R mu news (.Try body0 [.ExceptHandler (some (.Name y np)) none [.Return (some (.Constant (.bool true) k p1)) p2] hp] [] [] pos :: rest) := fun z s I OB hh S => by
  have e := I.2.1
  show wpAny (GG g).M z.c.A (execs _ z.env) _ noE s
  rw [e]
  refine wpAny_mono (v_try (x := z.y) I.1 OB (by show z.c.sc.names.lookup y = _; rw [I.2.2.1.hns]; exact hy) hg (ff_of_in OB.1) hdb (fun A Q E s' hq => v_ret (wpAny_pure hq)) ?_) (fun fl s' h => h.mono hh) fun _ _ h => h
  have h' : wpAny (GG g).M z.c.A (execs body0 z.env) (fun _ _ => False) (RaiE z.c z.y) s := h (fun _ _ _ _ => False) z s (fun _ _ => False) I S fun fl R' mu' news' m' xc' s' hp _ _ _ => hp
  rw [e] at h'
  exact h'
theorem enterBW {name qual : Str} {params : Arguments} {body : List Stmt} {scope : Scope} {dV kV doc pm cdv ct oc : Value} {an od : Option Addr} {osl : Array (Option Value)} {f : Addr} {vs : List Value} {binds : List (Str × Value)}
    (hlk : (hd.heap_1 g.w.params).lookup f = some ⟨oc, od, .func (fnOf name qual params body scope dV kV doc pm an cdv ct), osl⟩) (hcd : codeIn (hd.heap_1 g.w.params) cdv qual = true)
    (hin : InitC (GG g) scope.names vs binds R) (hbind : bindArgs (fnOf name qual params body scope dV kV doc pm an cdv ct) ⟨vs, []⟩ = pure binds) (hnd : (scope.names.map (·.1)).Nodup) (hdbg : (scope.names.any fun y => y.1 == ("__debug__" : Str)) = false)
    (hco : scope.isCoroutine = false) (hgen : scope.isGenerator = false) (hk : scope.kind = .function) (h : ∀ hid, WPb ⟨g, n, .fn scope.names, false, true⟩ hid hid R mu news body) : CtB (GG g) (n + 1) f vs mu news :=
  enterB (G := GG g) hlk hcd (fun _ _ => BindsTo.of_eq hbind) hin hnd hdbg hco hgen hk fun c m x cells s O OB T S => h x ⟨c, m, cells, cells ++ x, x, c.env⟩ s ⟨O, rfl, T, rfl⟩ OB (fun p hp => hp) S
end
end

-- G53
section
section
variable {g : Gp}
theorem isnum_no {v : Value} {kk : Str} {mu news : LedT} (hk : CtX (GG g) 1 279 [v] mu news (fun r mu' _ => mu' = mu ∧ ∃ t, r = .str kk t)) (h : kk = "null" ∨ kk = "name") : CtX (GG g) 2 286 [v] mu news (fun r mu' _ => mu' = mu ∧ r = .bool false) := by
  rcases h with rfl | rfl
  all_goals
    fail "enterW"
    intro K hK Rt
    dsimp only
    repeat' fail "w"
    refine' hk.w ?_
    rintro _ _ r mu' news1 ⟨rfl, t, rfl⟩ gr1
    repeat' fail "w"
    exact hK _ _ _ _ (by fail "gr") ⟨rfl, rfl⟩
theorem number_raise {v : Value} {kk : Str} {mu news : LedT} (hk : CtX (GG g) 1 279 [v] mu news (fun r mu' _ => mu' = mu ∧ ∃ t, r = .str kk t)) (h : kk = "null" ∨ kk = "name") : CtE (GG g) 3 464 [v] mu news := by
  fail "enterWE"
  intro K Rt
  dsimp only
  repeat' fail "w"
  refine' (isnum_no hk h).wV ?_
  intro news1 gr1
  repeat' fail "w"
theorem whole_raise {i : Int} {t : Tok} {mu news : LedT} (h : i < 0) : CtE (GG g) 3 471 [.int i t] mu news := by
  fail "enterWE"
  intro K Rt
  dsimp only
  repeat' fail "w"
  refine' kind_int.w ?_
  rintro _ _ r mu' news1 ⟨rfl, t, rfl⟩ gr1
  repeat' fail "w"
  refine' ite_dec ?_ ?_ <;> intro hz
  · repeat' fail "w"
    repeat' fail "w"
  · omega
theorem base_raise {t : Tok} {mu news : LedT} : CtE (GG g) 3 412 [.str "Identity-H" t] mu news := by
  fail "enterWE"
  intro K Rt
  dsimp only
  repeat' fail "w"
  refine' ascii_ct.wR ?_
  rintro D1 news1 ⟨vs1, k1, h1, h3⟩ gr1
  have hl1 : vs1.length = 95 := h3.length.trans ascii_len
  repeat' fail "w"
end
end

-- G54
section
section
variable {g : Gp}
theorem array_raise {a d : Addr} {o : Obj} {kvs : List (Str × Value)} {i : Int} {t u : Tok} {mu news : LedT} (I : LkAt a news) (hdd : (d, o) ∈ news) (P : DctP (sk g) kvs d o) (hv : (valueAt kvs "Widths").getD .none = .int i u) : CtE (GG g) 3 523 [.ref a, .ref d, .str "Widths" t] mu news := by
  obtain ⟨_, _, Ii⟩ := id I
  fail "enterWE"
  intro K Rt
  dsimp only
  repeat' fail "w"
  refine' (get_ct I hdd P hv ty_int ne_int).wV ?_
  intro news1 gr1
  repeat' fail "w"
theorem unit_raise1 {a d b : Addr} {o : Obj} {kvs : List (Str × Value)} {u : Tok} {mu news : LedT} (I : LkAt a news) (hdd : (d, o) ∈ news) (P : DctP (sk g) kvs d o) (hv : (valueAt kvs "Subtype").getD .none = .ref b) (hn : Inst 197 b [("text", .str "Type3" u)] news)
    (hm : (valueAt kvs "FontMatrix").getD .none = .none) : CtE (GG g) 4 537 [.ref a, .ref d] mu news := by
  obtain ⟨_, _, Ii⟩ := id I
  fail "enterWE"
  intro K Rt
  dsimp only
  repeat' fail "w"
  refine' (nameat_name I hdd P hv hn).wV ?_
  intro news1 gr1
  repeat' fail "w"
  refine' (get_ct (I.gr gr1) (gr1.mem hdd) P hm ty_none ne_none).wV ?_
  intro news2 gr2
  repeat' fail "w"
theorem unit_raise2 {a d b l : Addr} {o : Obj} {kvs : List (Str × Value)} {u : Tok} {v1 v2 v3 v4 : Value} {k : Nat} {mu news : LedT} (I : LkAt a news) (hdd : (d, o) ∈ news) (P : DctP (sk g) kvs d o) (hv : (valueAt kvs "Subtype").getD .none = .ref b) (hn : Inst 197 b [("text", .str "Type3" u)] news)
    (hm : (valueAt kvs "FontMatrix").getD .none = .ref l) (hl : (l, lstO [v1, v2, v3, v4] k) ∈ news) : CtE (GG g) 4 537 [.ref a, .ref d] mu news := by
  obtain ⟨_, _, Ii⟩ := id I
  have T2 : Ty g (.type "list") (.ref l) news := ty_list hl rfl
  fail "enterWE"
  intro K Rt
  dsimp only
  repeat' fail "w"
  refine' (nameat_name I hdd P hv hn).wV ?_
  intro news1 gr1
  repeat' fail "w"
  refine' (get_ct (I.gr gr1) (gr1.mem hdd) P hm (T2.gr gr1) ne_list).wV ?_
  intro news2 gr2
  repeat' fail "w"
  refine iteT rfl ?_
  repeat' fail "w"
theorem miss_raise {a d d2 b : Addr} {o o2 : Obj} {kvs kvs2 : List (Str × Value)} {w : Value} {mu news : LedT} (I : LkAt a news) (hdd : (d, o) ∈ news) (P : DctP (sk g) kvs d o) (hv : (valueAt kvs "FontDescriptor").getD .none = .ref d2)
    (hd2 : (d2, o2) ∈ news) (P2 : DctP (sk g) kvs2 d2 o2) (hv2 : (valueAt kvs2 "MissingWidth").getD .none = .ref b) (hn : Inst 197 b [("text", w)] news) : CtE (GG g) 4 530 [.ref a, .ref d] mu news := by
  obtain ⟨_, _, Ii⟩ := id I
  have T2 : Ty g (.type "dict") (.ref d2) news := ty_dict hd2 P2.cls
  fail "enterWE"
  intro K Rt
  dsimp only
  repeat' fail "w"
  refine' (get_ct I hdd P hv T2 ne_dict).wV ?_
  intro news1 gr1
  repeat' fail "w"
  refine' (get_ct (I.gr gr1) (gr1.mem hd2) P2 hv2 (ty_inst (xo_197 _) (hn.gr gr1)) ne_name).wV ?_
  intro news2 gr2
  have hn2 := (hn.gr gr1).gr gr2
  repeat' fail "w"
  exact (number_raise (kind_name hn2) (.inr rfl)).w rfl
theorem enc_raise {a d b : Addr} {o : Obj} {kvs : List (Str × Value)} {u : Tok} {mu news : LedT} (I : LkAt a news) (hdd : (d, o) ∈ news) (P : DctP (sk g) kvs d o) (hv : (valueAt kvs "Encoding").getD .none = .ref b) (hn : Inst 197 b [("text", .str "Identity-H" u)] news) : CtE (GG g) 4 424 [.ref a, .ref d] mu news := by
  obtain ⟨_, _, Ii⟩ := id I
  fail "enterWE"
  intro K Rt
  dsimp only
  repeat' fail "w"
  refine' (get_ct I hdd P hv (ty_inst (xo_197 _) hn) ne_name).wV ?_
  intro news1 gr1
  have hn1 := hn.gr gr1
  repeat' fail "w"
  exact base_raise.w rfl
end
end

-- G55
section
section
variable {g : Gp}
theorem desc_raise {a d l : Addr} {o : Obj} {kvs : List (Str × Value)} {vs : List Value} {k : Nat} {mu news : LedT} (I : LkAt a news) (hdd : (d, o) ∈ news) (P : DctP (sk g) kvs d o) (hv : (valueAt kvs "DescendantFonts").getD .none = .ref l) (hl : (l, lstO vs k) ∈ news) (hz : vs.length ≤ 10) (h1 : vs.length ≠ 1) : CtE (GG g) 4 516 [.ref a, .ref d] mu news := by
  obtain ⟨_, _, Ii⟩ := id I
  have T2 : Ty g (.type "list") (.ref l) news := ty_list hl rfl
  fail "enterWE"
  intro K Rt
  dsimp only
  repeat' fail "w"
  refine' (get_ct I hdd P hv T2 ne_list).wV ?_
  intro news1 gr1
  have hb : ((vs.length : Int) != 1) = true := by rw [bne_iff_ne]; omega
  repeat' fail "w"
  refine iteT hb ?_
  repeat' fail "w"
theorem idcut_raise {a d : Addr} {y : Str} {mu news : LedT} (hn : ∀ t, CtX (GG g) 3 509 [.ref a, .ref d, .str "Encoding" t] mu news (fun r mu' news' => mu' = mu ∧ ∃ u, r = .str y u)) (hy : y = "WinAnsiEncoding" ∨ y = "") : CtE (GG g) 4 551 [.ref a, .ref d] mu news := by
  rcases hy with rfl | rfl
  all_goals
    fail "enterWE"
    intro K Rt
    dsimp only
    repeat' fail "w"
    refine' (hn _).wS ?_
    intro u news1 gr1
    repeat' fail "w"
theorem idcut_okV {a d b : Addr} {o : Obj} {kvs : List (Str × Value)} {u : Tok} {mu news : LedT} (I : LkAt a news) (hdd : (d, o) ∈ news) (P : DctP (sk g) kvs d o) (hv : (valueAt kvs "Encoding").getD .none = .ref b) (hn : Inst 197 b [("text", .str "Identity-V" u)] news) :
    CtX (GG g) 4 551 [.ref a, .ref d] mu news (fun r mu' news' => mu' = mu ∧ ∃ t, r = .ref t) := by
  fail "enterW"
  intro K hK Rt
  dsimp only
  repeat' fail "w"
  refine' (nameat_name I hdd P hv hn).wV ?_
  intro news1 gr1
  repeat' fail "w"
  refine' identity_ct.w ?_
  rintro _ _ r mu' news2 ⟨rfl, y, l, ch, rfl, hi, ta, nn, t1, t2, t3, h1, h2⟩ gr2
  repeat' fail "w"
  exact hK _ _ _ _ (by fail "gr") ⟨rfl, _, rfl⟩
theorem srows_raise7 {a d : Addr} {o : Obj} {kvs : List (Str × Value)} {i : Int} {u : Tok} {mu news : LedT} (I : LkAt a news) (hdd : (d, o) ∈ news) (P : DctP (sk g) kvs d o) (hv : (valueAt kvs "Widths").getD .none = .int i u) : CtE (GG g) 4 481 [.ref a, .ref d] mu news := by
  fail "enterWE"
  intro K Rt
  dsimp only
  repeat' fail "w"
  exact (array_raise I hdd P hv).w rfl
theorem srows_raise1 {a d l : Addr} {o : Obj} {kvs : List (Str × Value)} {vs : List Value} {k : Nat} {i : Int} {u : Tok} {mu news : LedT} (I : LkAt a news) (hdd : (d, o) ∈ news) (P : DctP (sk g) kvs d o) (hv : (valueAt kvs "Widths").getD .none = .ref l) (hl : (l, lstO vs k) ∈ news) (hne : vs ≠ []) (hz : vs.length ≤ 10)
    (hf : (valueAt kvs "FirstChar").getD .none = .int i u) (hi : i < 0) : CtE (GG g) 4 481 [.ref a, .ref d] mu news := by
  obtain ⟨_, _, Ii⟩ := id I
  fail "enterWE"
  intro K Rt
  dsimp only
  repeat' fail "w"
  refine' (arrayat_list I hdd P hv hl rfl).wV ?_
  intro news1 gr1
  have hl1 := gr1.mem hl
  repeat' fail "w"
  refine' (get_ct (I.gr gr1) (gr1.mem hdd) P hf ty_int ne_int).wV ?_
  intro news2 gr2
  repeat' fail "w"
  exact (whole_raise hi).w rfl
end
end

-- G56
section
section
variable {g : Gp}
theorem array_none {a d : Addr} {o : Obj} {kvs : List (Str × Value)} {t : Tok} {mu news : LedT} (I : LkAt a news) (hdd : (d, o) ∈ news) (P : DctP (sk g) kvs d o) (hv : (valueAt kvs "Widths").getD .none = .none) :
    CtX (GG g) 3 523 [.ref a, .ref d, .str "Widths" t] mu news (fun r mu' news' => mu' = mu ∧ ∃ l k, r = .ref l ∧ (l, lstO [] k) ∈ news') := by
  obtain ⟨_, _, Ii⟩ := id I
  fail "enterW"
  intro K hK Rt
  dsimp only
  repeat' fail "w"
  refine' (get_ct I hdd P hv ty_none ne_none).wV ?_
  intro news1 gr1
  repeat' fail "w"
  exact hK _ _ _ _ (by fail "gr") ⟨rfl, _, _, rfl, by fail "mem"⟩
theorem simplerows_empty {a d : Addr} {o : Obj} {kvs : List (Str × Value)} {mu news : LedT} (I : LkAt a news) (hdd : (d, o) ∈ news) (P : DctP (sk g) kvs d o) (hv : (valueAt kvs "Widths").getD .none = .none) :
    CtX (GG g) 4 481 [.ref a, .ref d] mu news (fun r mu' news' => mu' = mu ∧ ∃ l k, r = .ref l ∧ (l, lstO [] k) ∈ news') := by
  obtain ⟨_, _, Ii⟩ := id I
  fail "enterW"
  intro K hK Rt
  dsimp only
  repeat' fail "w"
  refine' (array_none I hdd P hv).w ?_
  rintro _ _ r mu' news1 ⟨rfl, l, k, rfl, hl⟩ gr1
  repeat' fail "w"
  exact hK _ _ _ _ (by fail "gr") ⟨rfl, _, _, rfl, by fail "mem"⟩
theorem simplerows_zero {a d l : Addr} {o ol : Obj} {kvs : List (Str × Value)} {vs : List Value} {ws : List (Int × Nat)} {mu news : LedT} (I : LkAt a news) (hdd : (d, o) ∈ news) (P : DctP (sk g) kvs d o) (hv : (valueAt kvs "Widths").getD .none = .ref l) (hl : (l, ol) ∈ news) (Pl : LstP vs ol)
    (hne : vs ≠ []) (hlen : vs.length ≤ 100) (hw : Paired (fun v w => NumAt v w.1 w.2 news) vs ws) (hf : (valueAt kvs "FirstChar").getD .none = .none) :
    CtX (GG g) 4 481 [.ref a, .ref d] mu news (fun r mu' news' => mu' = mu ∧ ∃ row rows nn, r = .ref rows ∧ (rows, lstO [.ref row] nn) ∈ news') := by
  obtain ⟨_, _, Ii⟩ := id I
  fail "enterW"
  intro K hK Rt
  dsimp only
  repeat' fail "w"
  refine' (arrayat_list I hdd P hv hl Pl.cls).wV ?_
  intro news1 gr1
  repeat' fail "w"
  refine' (get_ct (I.gr gr1) (gr1.mem hdd) P hf ty_none ne_none).wV ?_
  intro news2 gr2
  repeat' fail "w"
  refine WCo.Lz (fun _ : Unit => _) (fun i _ ys news' => ys = vs.take i) () (by fail "mem") Pl (by decide) rfl (by omega) rfl rfl ?_ ?_
  · rintro i v _ ys news' KY KS hE hv rfl gr
    obtain ⟨w, _, hn⟩ := Paired.get hw hv
    have hn' : NumAt v w.1 w.2 news' := (((hn.gr gr1).gr gr2)).gr gr
    repeat' fail "w"
    refine' (fetch_num hn').wV ?_
    intro news4 gr4
    repeat' fail "w"
    refine' (numof_ct (hn'.gr gr4)).wV ?_
    intro news5 gr5
    repeat' fail "w"
    refine hE.it () _ _ _ rfl (by fail "gr") ?_
    exact (take_snoc hv).symm
  · rintro D _ ys news' rfl hl gr
    rw [List.take_length] at *
    repeat' fail "w"
    exact hK _ _ _ _ (by fail "gr") ⟨rfl, _, _, _, rfl, by fail "mem"⟩
theorem stdw_empty {t : Tok} {mu news : LedT} : CtX (GG g) 1 495 [.str "" t] mu news (fun r mu' news' => mu' = mu ∧ ∃ l, r = .ref l ∧ (l, tupO []) ∈ news') := by
  fail "enterW"
  intro K hK Rt
  dsimp only
  repeat' fail "w"
  exact hK _ _ _ _ (by fail "gr") ⟨rfl, _, rfl, by fail "mem"⟩
end
end

-- G57
section
section
variable {g : Gp}
theorem wrows_raise {a l : Addr} {i : Int} {t : Tok} {nn : Nat} {mu news : LedT} (I : LkAt a news) (hl : (l, lstO [.int i t] nn) ∈ news) (h1 : 0 ≤ i) : CtE (GG g) 4 476 [.ref a, .ref l] mu news := by
  obtain ⟨_, _, Ii⟩ := id I
  fail "enterWE"
  intro K Rt
  dsimp only
  repeat' fail "w"
  refine WP.whileR ?_
  repeat' fail "w"
  refine ⟨rfl, fun K' => ?_⟩
  repeat' fail "w"
  refine' fetch_int.wV ?_
  intro news1 gr1
  repeat' fail "w"
  refine' (whole_ct h1).wV ?_
  intro news2 gr2
  repeat' fail "w"
  refine iteF (by kernel_rfl) ?_
  repeat' fail "w"
  refine iteF (by kernel_rfl) ?_
  repeat' fail "w"
end
section
variable {g : Gp}
theorem srows_raise3 {a d l : Addr} {o : Obj} {kvs : List (Str × Value)} {i : Int} {t : Tok} {k : Nat} {mu news : LedT} (I : LkAt a news) (hdd : (d, o) ∈ news) (P : DctP (sk g) kvs d o) (hv : (valueAt kvs "Widths").getD .none = .ref l) (hl : (l, lstO [.int i t, .none] k) ∈ news)
    (hf : (valueAt kvs "FirstChar").getD .none = .none) (hi : NumAt (.int i t) i 0 news) : CtE (GG g) 4 481 [.ref a, .ref d] mu news := by
  obtain ⟨_, _, Ii⟩ := id I
  fail "enterWE"
  intro K Rt
  dsimp only
  repeat' fail "w"
  refine' (arrayat_list I hdd P hv hl rfl).wV ?_
  intro news1 gr1
  have hl1 := gr1.mem hl
  repeat' fail "w"
  refine' (get_ct (I.gr gr1) (gr1.mem hdd) P hf ty_none ne_none).wV ?_
  intro news2 gr2
  repeat' fail "w"
  refine WE.compR (by decide +kernel) (by decide +kernel) rfl rfl ?_
  repeat' fail "w"
  refine WCoR.L 1 (by fail "mem") (lstP (vs := [.int i t, .none])) (by decide) rfl (show 2 ≤ 1000000 by decide) (show 1 < 2 by decide) (by decide +kernel) (by decide +kernel) (by decide +kernel) ?_ ?_
  · intro j v news' hj hv gr
    obtain rfl : j = 0 := by omega
    obtain rfl : (.int i t : Value) = v := Option.some.inj hv
    have hn' : NumAt (.int i t) i 0 news' := ((hi.gr gr1).gr gr2).gr gr
    refine ⟨_, by fail "ctab", ?_⟩
    repeat' fail "w"
    refine' fetch_int.wV ?_
    intro news4 gr4
    repeat' fail "w"
    refine' (numof_ct (hn'.gr gr4)).wV ?_
    intro news5 gr5
    repeat' fail "w"
    exact ⟨rfl, by fail "gr"⟩
  · intro v news' hv gr
    obtain rfl : (.none : Value) = v := Option.some.inj hv
    refine ⟨_, by fail "ctab", fun K => ?_⟩
    repeat' fail "w"
    refine' (fetch_ct ty_none ne_none).wV ?_
    intro news4 gr4
    repeat' fail "w"
    exact (number_raise kind_none (.inl rfl)).w rfl
end
end

-- G58
section
section
variable {g : Gp}
theorem simple_raise {a d : Addr} {o : Obj} {kvs : List (Str × Value)} {mu news : LedT} (I : LkAt a news) (hdd : (d, o) ∈ news) (P : DctP (sk g) kvs d o)
    (hr : CtE (GG g) 4 481 [.ref a, .ref d] mu news ∨ ((((valueAt kvs "Widths").getD .none = .none ∧ (valueAt kvs "BaseFont").getD .none = .none) ∨ CtX (GG g) 4 481 [.ref a, .ref d] mu news (fun r mu' news' => mu' = mu ∧ ∃ row rows nn, r = .ref rows ∧ (rows, lstO [.ref row] nn) ∈ news')) ∧
      ((∀ news', Gr news news' → CtE (GG g) 4 424 [.ref a, .ref d] mu news') ∨ ((valueAt kvs "Encoding").getD .none = .none ∧ ((∀ news', Gr news news' → CtE (GG g) 4 530 [.ref a, .ref d] mu news') ∨ ((valueAt kvs "FontDescriptor").getD .none = .none ∧ ∀ news', Gr news news' → CtE (GG g) 4 537 [.ref a, .ref d] mu news')))))) : CtE (GG g) 5 611 [.ref a, .ref d] mu news := by
  obtain ⟨_, _, Ii⟩ := id I
  refine' enterWED ([.ref a, .ref d, .none]) ?lk ?cd ?ini ?bd ?nd ?db ?a ?b ?c ?_; (case lk => k_is); (case cd => k_is); (case ini => fail "init"); (case bd => exact fun _ X => binds_K X rfl (by k_is) rfl rfl rfl); (case nd => decide +kernel); (case db => decide +kernel); (case a => rfl); (case b => rfl); (case c => rfl)
  intro K Rt
  dsimp only
  repeat' fail "w"
  rcases hr with hr | ⟨⟨hw, hb⟩ | hr, ht⟩
  · exact hr.w rfl
  · refine' (simplerows_empty I hdd P hw).w ?_
    rintro _ _ r mu' news1 ⟨rfl, l, k, rfl, hl⟩ gr1
    repeat' fail "w"
    refine' (nameat_none (I.gr gr1) (gr1.mem hdd) P hb).w ?_
    rintro _ _ r mu' news2 ⟨rfl, u, rfl⟩ gr2
    repeat' fail "w"
    refine' stdw_empty.w ?_
    rintro _ _ r mu' news3 ⟨rfl, l3, rfl, hl3⟩ gr3
    repeat' fail "w"
    rcases ht with he | ⟨he, ht⟩
    · exact (he _ (gr1.trans (gr2.trans gr3))).w rfl
    refine' (enc_none (I.gr (gr1.trans (gr2.trans gr3))) (Gr.mem (gr1.trans (gr2.trans gr3)) hdd) P he).wR ?_
    intro dn news8 hW gr8
    repeat' fail "w"
    rcases ht with hm | ⟨hm, hu⟩
    · exact (hm _ ((gr1.trans (gr2.trans gr3)).trans gr8)).w rfl
    refine' (missing_none (I.gr ((gr1.trans (gr2.trans gr3)).trans gr8)) (Gr.mem ((gr1.trans (gr2.trans gr3)).trans gr8) hdd) P hm).w ?_
    rintro _ _ r mu' news9 ⟨rfl, u, rfl⟩ gr9
    repeat' fail "w"
    exact (hu _ (((gr1.trans (gr2.trans gr3)).trans gr8).trans gr9)).w rfl
  · refine' hr.w ?_
    rintro _ _ r mu' news1 ⟨rfl, row, rows, nn, rfl, hl⟩ gr1
    repeat' fail "w"
    rcases ht with he | ⟨he, ht⟩
    · exact (he _ (gr1.trans (Gr.refl _).cons)).w rfl
    refine' (enc_none (I.gr (gr1.trans (Gr.refl _).cons)) (Gr.mem (gr1.trans (Gr.refl _).cons) hdd) P he).wR ?_
    intro dn news8 hW gr8
    repeat' fail "w"
    rcases ht with hm | ⟨hm, hu⟩
    · exact (hm _ ((gr1.trans (Gr.refl _).cons).trans gr8)).w rfl
    refine' (missing_none (I.gr ((gr1.trans (Gr.refl _).cons).trans gr8)) (Gr.mem ((gr1.trans (Gr.refl _).cons).trans gr8) hdd) P hm).w ?_
    rintro _ _ r mu' news9 ⟨rfl, u, rfl⟩ gr9
    repeat' fail "w"
    exact (hu _ (((gr1.trans (Gr.refl _).cons).trans gr8).trans gr9)).w rfl
end
end

-- G59
section
section
variable {g : Gp}
theorem wide_raise {a d : Addr} {o : Obj} {kvs : List (Str × Value)} {mu news : LedT} (I : LkAt a news) (hdd : (d, o) ∈ news) (P : DctP (sk g) kvs d o)
    (hr : CtE (GG g) 4 516 [.ref a, .ref d] mu news ∨ ∃ (l d2 : Addr) (k : Nat) (o2 : Obj) (kvs2 : List (Str × Value)), (valueAt kvs "DescendantFonts").getD .none = .ref l ∧ (l, lstO [.ref d2] k) ∈ news ∧ (d2, o2) ∈ news ∧ DctP (sk g) kvs2 d2 o2 ∧ (valueAt kvs2 "DW").getD .none = .none ∧
      ((∀ news', Gr news news' → CtE (GG g) 4 551 [.ref a, .ref d] mu news') ∨ ((∀ news', Gr news news' → CtX (GG g) 4 551 [.ref a, .ref d] mu news' (fun r mu' news' => mu' = mu ∧ ∃ t, r = .ref t)) ∧ ∃ (lw : Addr) (k2 : Nat) (i : Int) (t : Tok), (valueAt kvs2 "W").getD .none = .ref lw ∧ (lw, lstO [.int i t] k2) ∈ news ∧ 0 ≤ i))) : CtE (GG g) 5 619 [.ref a, .ref d] mu news := by
  obtain ⟨_, _, Ii⟩ := id I
  refine' enterWED ([.ref a, .ref d, .none, .none]) ?lk ?cd ?ini ?bd ?nd ?db ?a ?b ?c ?_; (case lk => k_is); (case cd => k_is); (case ini => fail "init"); (case bd => exact fun _ X => binds_K X rfl (by k_is) rfl rfl rfl); (case nd => decide +kernel); (case db => decide +kernel); (case a => rfl); (case b => rfl); (case c => rfl)
  intro K Rt
  dsimp only
  repeat' fail "w"
  rcases hr with hr | ⟨l, d2, k, o2, kvs2, hv, hl, hd2, P2, hdw, ht⟩
  · exact hr.w rfl
  refine' (descendant_ct I hdd P hv hl hd2 P2.cls).wV ?_
  intro news1 gr1
  have hd21 := gr1.mem hd2
  repeat' fail "w"
  refine' (get_ct (I.gr gr1) (gr1.mem hd2) P2 hdw ty_none ne_none).wV ?_
  intro news2 gr2
  repeat' fail "w"
  rcases ht with ht | ⟨hc, lw, k2, i, t, hw, hlw, hi⟩
  · exact (ht _ (gr1.trans gr2)).w rfl
  refine' (hc _ (gr1.trans gr2)).w ?_
  rintro _ _ r mu' news3 ⟨rfl, tc, rfl⟩ gr3
  have gr4 := gr1.trans (gr2.trans gr3)
  repeat' fail "w"
  refine' (arrayat_list (I.gr (gr4.trans (Gr.refl _).cons)) ((gr4.trans (Gr.refl _).cons).mem hd2) P2 hw ((gr4.trans (Gr.refl _).cons).mem hlw) rfl).wV ?_
  intro news5 gr5
  have gr6 := (gr4.trans (Gr.refl _).cons).trans gr5
  repeat' fail "w"
  exact (wrows_raise (I.gr gr6) (gr6.mem hlw) hi).w rfl
end
end

-- G60
section
noncomputable def RaS (g : Gp) (k : Nat) (f d : Addr) (news : LedT) : Prop := ∀ (a : Addr) (mu news' : LedT), Gr news news' → LkAt a news' → CtE (GG g) k f [.ref a, .ref d] mu news'
theorem RaS.gr {g : Gp} {k : Nat} {f d : Addr} {news news' : LedT} (h : RaS g k f d news) (gr : Gr news news') : RaS g k f d news' := fun a mu n2 g2 I => h a mu n2 (gr.trans g2) I
section
variable {g : Gp} {d n l d2 l2 : Addr} {o o2 : Obj} {k k2 : Nat} {t u : Tok} {news : LedT}
theorem head0 (P : DctP (sk g) [("Subtype", .ref n), ("Widths", .ref l)] d o) (hdd : (d, o) ∈ news) (hn : Inst 197 n [("text", .str "Type3" u)] news) (hl : (l, lstO [.int 1 t] k) ∈ news) : RaS g 5 611 d news := fun a mu news' gr I =>
  simple_raise I (gr.mem hdd) P (.inr ⟨.inr (simplerows_zero (ws := [(1, 0)]) I (gr.mem hdd) P (by kernel_rfl) (gr.mem hl) lstP (List.cons_ne_nil _ _) (show 1 ≤ 100 by decide) (.cons (.inl ⟨_, rfl, rfl⟩) .nil) (by kernel_rfl)), .inr ⟨by kernel_rfl, .inr ⟨by kernel_rfl, fun n2 g2 => unit_raise1 (I.gr g2) (g2.mem (gr.mem hdd)) P (by kernel_rfl) ((hn.gr gr).gr g2) (by kernel_rfl)⟩⟩⟩)
theorem head1 {t1 t2 t3 t4 : Tok} (P : DctP (sk g) [("Subtype", .ref n), ("FontMatrix", .ref l)] d o) (hdd : (d, o) ∈ news) (hn : Inst 197 n [("text", .str "Type3" u)] news) (hl : (l, lstO [.int 1 t1, .int 0 t2, .int 0 t3, .int 1 t4] k) ∈ news) : RaS g 5 611 d news := fun a mu news' gr I =>
  simple_raise I (gr.mem hdd) P (.inr ⟨.inl ⟨by kernel_rfl, by kernel_rfl⟩, .inr ⟨by kernel_rfl, .inr ⟨by kernel_rfl, fun n2 g2 => unit_raise2 (I.gr g2) (g2.mem (gr.mem hdd)) P (by kernel_rfl) ((hn.gr gr).gr g2) (by kernel_rfl) (g2.mem (gr.mem hl))⟩⟩⟩)
theorem head2 (P : DctP (sk g) [("Widths", .int 7 t)] d o) (hdd : (d, o) ∈ news) : RaS g 5 611 d news := fun a mu news' gr I =>
  simple_raise I (gr.mem hdd) P (.inl (srows_raise7 (i := 7) (u := t) I (gr.mem hdd) P (by kernel_rfl)))
theorem head3 (P : DctP (sk g) [("Widths", .ref l)] d o) (hdd : (d, o) ∈ news) (hl : (l, lstO [.int 1 t, .none] k) ∈ news) : RaS g 5 611 d news := fun a mu news' gr I =>
  simple_raise I (gr.mem hdd) P (.inl (srows_raise3 I (gr.mem hdd) P (by kernel_rfl) (gr.mem hl) (by kernel_rfl) (.inl ⟨_, rfl, rfl⟩)))
theorem head4r {v : Value} (P : DctP (sk g) [("Widths", .ref l), ("FirstChar", v)] d o) (hdd : (d, o) ∈ news) (hl : (l, lstO [.int 1 t] k) ∈ news) (hv : v = .int (-1) u) : RaS g 5 611 d news := fun a mu news' gr I => by
  subst hv
  exact simple_raise I (gr.mem hdd) P (.inl (srows_raise1 (i := -1) (u := u) I (gr.mem hdd) P (by kernel_rfl) (gr.mem hl) (List.cons_ne_nil _ _) (show 1 ≤ 10 by decide) (by kernel_rfl) (by decide)))
theorem head5 (P : DctP (sk g) [("Encoding", .ref n)] d o) (hdd : (d, o) ∈ news) (hn : Inst 197 n [("text", .str "Identity-H" u)] news) : RaS g 5 611 d news := fun a mu news' gr I =>
  simple_raise I (gr.mem hdd) P (.inr ⟨.inl ⟨by kernel_rfl, by kernel_rfl⟩, .inl fun n2 g2 => enc_raise (I.gr g2) (g2.mem (gr.mem hdd)) P (by kernel_rfl) ((hn.gr gr).gr g2)⟩)
theorem head6 {w : Value} (P : DctP (sk g) [("FontDescriptor", .ref d2)] d o) (hdd : (d, o) ∈ news) (P2 : DctP (sk g) [("MissingWidth", .ref n)] d2 o2) (hd2 : (d2, o2) ∈ news) (hn : Inst 197 n [("text", w)] news) : RaS g 5 611 d news := fun a mu news' gr I =>
  simple_raise I (gr.mem hdd) P (.inr ⟨.inl ⟨by kernel_rfl, by kernel_rfl⟩, .inr ⟨by kernel_rfl, .inl fun n2 g2 => miss_raise (I.gr g2) (g2.mem (gr.mem hdd)) P (by kernel_rfl) (g2.mem (gr.mem hd2)) P2 (by kernel_rfl) ((hn.gr gr).gr g2)⟩⟩)
theorem head7 {vs : List Value} (P : DctP (sk g) [("DescendantFonts", .ref l)] d o) (hdd : (d, o) ∈ news) (hl : (l, lstO vs k) ∈ news) (hz : vs.length ≤ 10) (h1 : vs.length ≠ 1) : RaS g 5 619 d news := fun a mu news' gr I =>
  wide_raise I (gr.mem hdd) P (.inl (desc_raise I (gr.mem hdd) P (by kernel_rfl) (gr.mem hl) hz h1))
theorem head9 (P : DctP (sk g) [("Encoding", .ref n), ("DescendantFonts", .ref l)] d o) (hdd : (d, o) ∈ news) (hn : Inst 197 n [("text", .str "WinAnsiEncoding" u)] news) (hl : (l, lstO [.ref d2] k) ∈ news) (P2 : DctP (sk g) [] d2 o2) (hd2 : (d2, o2) ∈ news) : RaS g 5 619 d news := fun a mu news' gr I =>
  wide_raise I (gr.mem hdd) P (.inr ⟨l, d2, k, o2, [], by kernel_rfl, gr.mem hl, gr.mem hd2, P2, by kernel_rfl, .inl fun n2 g2 => idcut_raise (fun t => (nameat_name (I.gr g2) (g2.mem (gr.mem hdd)) P (by kernel_rfl) ((hn.gr gr).gr g2)).mono fun r mu' n3 h => ⟨h.1, _, h.2⟩) (.inl rfl)⟩)
theorem head10 (P : DctP (sk g) [("DescendantFonts", .ref l)] d o) (hdd : (d, o) ∈ news) (hl : (l, lstO [.ref d2] k) ∈ news) (P2 : DctP (sk g) [] d2 o2) (hd2 : (d2, o2) ∈ news) : RaS g 5 619 d news := fun a mu news' gr I =>
  wide_raise I (gr.mem hdd) P (.inr ⟨l, d2, k, o2, [], by kernel_rfl, gr.mem hl, gr.mem hd2, P2, by kernel_rfl, .inl fun n2 g2 => idcut_raise (fun t => nameat_none (I.gr g2) (g2.mem (gr.mem hdd)) P (by kernel_rfl)) (.inr rfl)⟩)
theorem head11 (P : DctP (sk g) [("Encoding", .ref n), ("DescendantFonts", .ref l)] d o) (hdd : (d, o) ∈ news) (hn : Inst 197 n [("text", .str "Identity-V" u)] news) (hl : (l, lstO [.ref d2] k) ∈ news) (P2 : DctP (sk g) [("DW", .none), ("W", .ref l2)] d2 o2) (hd2 : (d2, o2) ∈ news) (hl2 : (l2, lstO [.int 1 t] k2) ∈ news) : RaS g 5 619 d news := fun a mu news' gr I =>
  wide_raise I (gr.mem hdd) P (.inr ⟨l, d2, k, o2, _, by kernel_rfl, gr.mem hl, gr.mem hd2, P2, by kernel_rfl, .inr ⟨fun n2 g2 => idcut_okV (I.gr g2) (g2.mem (gr.mem hdd)) P (by kernel_rfl) ((hn.gr gr).gr g2), l2, k2, 1, t, by kernel_rfl, gr.mem hl2, by decide⟩⟩)
end
end

-- G63
section
section
variable {g : Gp}
theorem refused_tail {hid : LedT} {P C H : Addr} {oP oC : Obj} {N k : Nat} {ds : List Value} {news : LedT} (hp : Pot C N oP oC) (hN : N ≤ 10000)
    (hl : (H, lstO ds k) ∈ news) (hH : ∀ i : Int, 0 ≤ i → i < 12 → ∃ d, ds[i.toNat]? = some (.ref d) ∧ RaS g 5 (if i < 7 then 611 else 619) d news) :
    WPb ⟨g, 7, .fn ([("pot", NameKind.local), ("heads", NameKind.local), ("spot", NameKind.local), ("Name", NameKind.globalImplicit), ("_law_draw", NameKind.globalImplicit), ("simple_font", NameKind.globalImplicit), ("Lookup", NameKind.globalImplicit), ("wide_font", NameKind.globalImplicit), ("FontFault", NameKind.globalImplicit)] : List (Str × NameKind)), false, true⟩ hid hid ([("pot", some (.ref P)), ("heads", some (.ref H)), ("spot", none), ("Name", some (.ref 197)), ("_law_draw", some (.ref 638)), ("simple_font", some (.ref 611)), ("Lookup", some (.ref 318)), ("wide_font", some (.ref 619)), ("FontFault", some (.ref 59))] : Tab) [(P, oP), (C, oC)] news (dropS (fnBody 88) 1) := by
  conv => arg 7; whnf
  refine WPb.lt ?_
  intro Rt
  refine WPb.step ?_
  repeat' fail "w"
  refine' draw_w hp (by decide) (by decide) (by omega) ?_
  intro oP5 oC5 x5 t5 news5 hp5 h05 h15 gr5
  have hl5 := gr5.mem hl
  repeat' fail "w"
  refine ⟨rfl, ?_⟩
  obtain ⟨d, hdx, hr⟩ := hH x5 h05 h15
  refine WPb.try rfl (by k_is) rfl fun K => ?_
  repeat' fail "w"
  refine' ite_dec ?_ ?_ <;> intro hx
  · rw [if_pos hx] at hr
    repeat' fail "w"
    refine' lookup_ct.wR ?_
    intro y news6 hy gr6
    repeat' fail "w"
    refine O.item rfl (by fail "mem") lstP h05 (by omega) hdx ?_
    repeat' fail "w"
    exact (hr _ _ _ (by fail "gr") ⟨_, _, hy⟩).w rfl
  · rw [if_neg hx] at hr
    repeat' fail "w"
    refine' lookup_ct.wR ?_
    intro y news6 hy gr6
    repeat' fail "w"
    refine O.item rfl (by fail "mem") lstP h05 (by omega) hdx ?_
    repeat' fail "w"
    exact (hr _ _ _ (by fail "gr") ⟨_, _, hy⟩).w rfl
end
end

-- G61
section
section
variable {g : Gp}
theorem inst_mono {C a : Addr} {fs : List (Str × Value)} {l l' : LedT} (h : Inst C a fs l) (gr : Gr l l') : Inst C a fs l' := h.gr gr
theorem refused_heads {hid : LedT} {P C : Addr} {oP oC : Obj} {N : Nat} {news : LedT} (hp : Pot C N oP oC) (hN : N ≤ 10000) :
    WPb ⟨g, 7, .fn ([("pot", NameKind.local), ("heads", NameKind.local), ("spot", NameKind.local), ("Name", NameKind.globalImplicit), ("_law_draw", NameKind.globalImplicit), ("simple_font", NameKind.globalImplicit), ("Lookup", NameKind.globalImplicit), ("wide_font", NameKind.globalImplicit), ("FontFault", NameKind.globalImplicit)] : List (Str × NameKind)), false, true⟩ hid hid ([("pot", some (.ref P)), ("heads", none), ("spot", none), ("Name", some (.ref 197)), ("_law_draw", some (.ref 638)), ("simple_font", some (.ref 611)), ("Lookup", some (.ref 318)), ("wide_font", some (.ref 619)), ("FontFault", some (.ref 59))] : Tab) [(P, oP), (C, oC)] news (dropS (fnBody 88) 0) := by
  conv => arg 7; whnf
  refine WPb.lt ?_
  intro Rt
  refine WPb.step ?_
  repeat' fail "w"
  refine' WE.dict ?w1 ?w2 ?w3 ?w4 ?_; (case w1 => rfl); (case w2 => rfl); (case w3 => decide); (case w4 => decide)
  intro d0 hd0
  repeat' fail "w"
  refine' name_ct.wR ?_
  intro n0 Wn0 hn0 gn0
  repeat' fail "w"
  refine DK.done rfl (show (["Subtype", "Widths"] : List Str).Nodup by decide +kernel) ?_
  intro od0 Pd0
  refine WA.freeze ?_
  refine' WA.abs ?_ ?_ ?_
  · exact fun N => Gr news N ∧ RaS g 5 611 d0 N
  · exact ⟨by fail "gr", head0 Pd0 (.head _) (inst_mono hn0 (by fail "gr")) (by fail "mem")⟩
  rintro N0 ⟨G0, H0⟩
  clear Pd0
  repeat' fail "w"
  refine' WE.dict ?w1 ?w2 ?w3 ?w4 ?_; (case w1 => rfl); (case w2 => rfl); (case w3 => decide); (case w4 => decide)
  intro d1 hd1
  repeat' fail "w"
  refine' name_ct.wR ?_
  intro n1 Wn1 hn1 gn1
  repeat' fail "w"
  refine DK.done rfl (show (["Subtype", "FontMatrix"] : List Str).Nodup by decide +kernel) ?_
  intro od1 Pd1
  refine WA.freeze ?_
  refine' WA.abs ?_ ?_ ?_
  · exact fun N => Gr N0 N ∧ RaS g 5 611 d1 N
  · exact ⟨by fail "gr", head1 Pd1 (.head _) (inst_mono hn1 (by fail "gr")) (by fail "mem")⟩
  rintro N1 ⟨G1, H1⟩
  clear Pd1
  repeat' fail "w"
  refine' WE.dict ?w1 ?w2 ?w3 ?w4 ?_; (case w1 => rfl); (case w2 => rfl); (case w3 => decide); (case w4 => decide)
  intro d2 hd2
  repeat' fail "w"
  refine DK.done rfl (show (["Widths"] : List Str).Nodup by decide +kernel) ?_
  intro od2 Pd2
  refine WA.freeze ?_
  refine' WA.abs ?_ ?_ ?_
  · exact fun N => Gr N1 N ∧ RaS g 5 611 d2 N
  · exact ⟨by fail "gr", head2 Pd2 (.head _)⟩
  rintro N2 ⟨G2, H2⟩
  clear Pd2
  repeat' fail "w"
  refine' WE.dict ?w1 ?w2 ?w3 ?w4 ?_; (case w1 => rfl); (case w2 => rfl); (case w3 => decide); (case w4 => decide)
  intro d3 hd3
  repeat' fail "w"
  refine DK.done rfl (show (["Widths"] : List Str).Nodup by decide +kernel) ?_
  intro od3 Pd3
  refine WA.freeze ?_
  refine' WA.abs ?_ ?_ ?_
  · exact fun N => Gr N2 N ∧ RaS g 5 611 d3 N
  · exact ⟨by fail "gr", head3 Pd3 (.head _) (by fail "mem")⟩
  rintro N3 ⟨G3, H3⟩
  clear Pd3
  repeat' fail "w"
  refine' WE.dict ?w1 ?w2 ?w3 ?w4 ?_; (case w1 => rfl); (case w2 => rfl); (case w3 => decide); (case w4 => decide)
  intro d4 hd4
  repeat' fail "w"
  refine DK.done rfl (show (["Widths", "FirstChar"] : List Str).Nodup by decide +kernel) ?_
  intro od4 Pd4
  refine WA.freeze ?_
  refine' WA.abs ?_ ?_ ?_
  · exact fun N => Gr N3 N ∧ RaS g 5 611 d4 N
  · exact ⟨by fail "gr", head4r Pd4 (.head _) (by fail "mem") rfl⟩
  rintro N4 ⟨G4, H4⟩
  clear Pd4
  repeat' fail "w"
  refine' WE.dict ?w1 ?w2 ?w3 ?w4 ?_; (case w1 => rfl); (case w2 => rfl); (case w3 => decide); (case w4 => decide)
  intro d5 hd5
  repeat' fail "w"
  refine' name_ct.wR ?_
  intro n5 Wn5 hn5 gn5
  repeat' fail "w"
  refine DK.done rfl (show (["Encoding"] : List Str).Nodup by decide +kernel) ?_
  intro od5 Pd5
  refine WA.freeze ?_
  refine' WA.abs ?_ ?_ ?_
  · exact fun N => Gr N4 N ∧ RaS g 5 611 d5 N
  · exact ⟨by fail "gr", head5 Pd5 (.head _) (inst_mono hn5 (by fail "gr"))⟩
  rintro N5 ⟨G5, H5⟩
  clear Pd5
  repeat' fail "w"
  refine' WE.dict ?w1 ?w2 ?w3 ?w4 ?_; (case w1 => rfl); (case w2 => rfl); (case w3 => decide); (case w4 => decide)
  intro d6 hd6
  repeat' fail "w"
  refine' WE.dict ?w1 ?w2 ?w3 ?w4 ?_; (case w1 => rfl); (case w2 => rfl); (case w3 => decide); (case w4 => decide)
  intro e6 he6
  repeat' fail "w"
  refine' name_ct.wR ?_
  intro n6 Wn6 hn6 gn6
  repeat' fail "w"
  refine DK.done rfl (show (["MissingWidth"] : List Str).Nodup by decide +kernel) ?_
  intro oe6 Pe6
  refine WPr.freeze ?_
  repeat' fail "w"
  refine DK.done rfl (show (["FontDescriptor"] : List Str).Nodup by decide +kernel) ?_
  intro od6 Pd6
  refine WA.freeze ?_
  refine' WA.abs ?_ ?_ ?_
  · exact fun N => Gr N5 N ∧ RaS g 5 611 d6 N
  · exact ⟨by fail "gr", head6 Pd6 (.head _) Pe6 (by fail "mem") (inst_mono hn6 (by fail "gr"))⟩
  rintro N6 ⟨G6, H6⟩
  clear Pd6
  repeat' fail "w"
  refine' WE.dict ?w1 ?w2 ?w3 ?w4 ?_; (case w1 => rfl); (case w2 => rfl); (case w3 => decide); (case w4 => decide)
  intro d7 hd7
  repeat' fail "w"
  refine DK.done rfl (show (["DescendantFonts"] : List Str).Nodup by decide +kernel) ?_
  intro od7 Pd7
  refine WA.freeze ?_
  refine' WA.abs ?_ ?_ ?_
  · exact fun N => Gr N6 N ∧ RaS g 5 619 d7 N
  · exact ⟨by fail "gr", head7 (vs := []) Pd7 (.head _) (by fail "mem") (by decide) (by decide)⟩
  rintro N7 ⟨G7, H7⟩
  clear Pd7
  repeat' fail "w"
  refine' WE.dict ?w1 ?w2 ?w3 ?w4 ?_; (case w1 => rfl); (case w2 => rfl); (case w3 => decide); (case w4 => decide)
  intro d8 hd8
  repeat' fail "w"
  refine DK.done rfl (show (["DescendantFonts"] : List Str).Nodup by decide +kernel) ?_
  intro od8 Pd8
  refine WA.freeze ?_
  refine' WA.abs ?_ ?_ ?_
  · exact fun N => Gr N7 N ∧ RaS g 5 619 d8 N
  · exact ⟨by fail "gr", head7 (vs := [_, _]) Pd8 (.head _) (by fail "mem") (show 2 ≤ 10 by decide) (show 2 ≠ 1 by decide)⟩
  rintro N8 ⟨G8, H8⟩
  clear Pd8
  repeat' fail "w"
  refine' WE.dict ?w1 ?w2 ?w3 ?w4 ?_; (case w1 => rfl); (case w2 => rfl); (case w3 => decide); (case w4 => decide)
  intro d9 hd9
  repeat' fail "w"
  refine' name_ct.wR ?_
  intro n9 Wn9 hn9 gn9
  repeat' fail "w"
  refine DK.done rfl (show (["Encoding", "DescendantFonts"] : List Str).Nodup by decide +kernel) ?_
  intro od9 Pd9
  refine WA.freeze ?_
  refine' WA.abs ?_ ?_ ?_
  · exact fun N => Gr N8 N ∧ RaS g 5 619 d9 N
  · exact ⟨by fail "gr", head9 Pd9 (.head _) (inst_mono hn9 (by fail "gr")) (by fail "mem") ⟨by assumption, emD_is⟩ (by fail "mem")⟩
  rintro N9 ⟨G9, H9⟩
  clear Pd9
  repeat' fail "w"
  refine' WE.dict ?w1 ?w2 ?w3 ?w4 ?_; (case w1 => rfl); (case w2 => rfl); (case w3 => decide); (case w4 => decide)
  intro d10 hd10
  repeat' fail "w"
  refine DK.done rfl (show (["DescendantFonts"] : List Str).Nodup by decide +kernel) ?_
  intro od10 Pd10
  refine WA.freeze ?_
  refine' WA.abs ?_ ?_ ?_
  · exact fun N => Gr N9 N ∧ RaS g 5 619 d10 N
  · exact ⟨by fail "gr", head10 Pd10 (.head _) (by fail "mem") ⟨by assumption, emD_is⟩ (by fail "mem")⟩
  rintro N10 ⟨G10, H10⟩
  clear Pd10
  repeat' fail "w"
  refine' WE.dict ?w1 ?w2 ?w3 ?w4 ?_; (case w1 => rfl); (case w2 => rfl); (case w3 => decide); (case w4 => decide)
  intro d11 hd11
  repeat' fail "w"
  refine' name_ct.wR ?_
  intro n11 Wn11 hn11 gn11
  repeat' fail "w"
  refine' WE.dict ?w1 ?w2 ?w3 ?w4 ?_; (case w1 => rfl); (case w2 => rfl); (case w3 => decide); (case w4 => decide)
  intro e11 he11
  repeat' fail "w"
  refine DK.done rfl (show (["DW", "W"] : List Str).Nodup by decide +kernel) ?_
  intro oe11 Pe11
  refine WA.freeze ?_
  repeat' fail "w"
  refine DK.done rfl (show (["Encoding", "DescendantFonts"] : List Str).Nodup by decide +kernel) ?_
  intro od11 Pd11
  refine WA.freeze ?_
  refine' WA.abs ?_ ?_ ?_
  · exact fun N => Gr N10 N ∧ RaS g 5 619 d11 N
  · exact ⟨by fail "gr", head11 Pd11 (.head _) (inst_mono hn11 (by fail "gr")) (by fail "mem") Pe11 (by fail "mem") (by fail "mem")⟩
  rintro N11 ⟨G11, H11⟩
  clear Pd11
  repeat' fail "w"
  refine ⟨rfl, refused_tail hp hN (.head _) fun i hi0 hi1 => ?_⟩
  have e : i = 0 ∨ i = 1 ∨ i = 2 ∨ i = 3 ∨ i = 4 ∨ i = 5 ∨ i = 6 ∨ i = 7 ∨ i = 8 ∨ i = 9 ∨ i = 10 ∨ i = 11 := below12 hi0 hi1
  have gL : ∀ p, Gr N11 (p :: N11) := fun p => (Gr.refl _).cons
  rcases e with rfl | rfl | rfl | rfl | rfl | rfl | rfl | rfl | rfl | rfl | rfl | rfl
  · exact ⟨d0, rfl, (H0.gr (by fail "gr")).gr (gL _)⟩
  · exact ⟨d1, rfl, (H1.gr (by fail "gr")).gr (gL _)⟩
  · exact ⟨d2, rfl, (H2.gr (by fail "gr")).gr (gL _)⟩
  · exact ⟨d3, rfl, (H3.gr (by fail "gr")).gr (gL _)⟩
  · exact ⟨d4, rfl, (H4.gr (by fail "gr")).gr (gL _)⟩
  · exact ⟨d5, rfl, (H5.gr (by fail "gr")).gr (gL _)⟩
  · exact ⟨d6, rfl, (H6.gr (by fail "gr")).gr (gL _)⟩
  · exact ⟨d7, rfl, (H7.gr (by fail "gr")).gr (gL _)⟩
  · exact ⟨d8, rfl, (H8.gr (by fail "gr")).gr (gL _)⟩
  · exact ⟨d9, rfl, (H9.gr (by fail "gr")).gr (gL _)⟩
  · exact ⟨d10, rfl, (H10.gr (by fail "gr")).gr (gL _)⟩
  · exact ⟨d11, rfl, H11.gr (gL _)⟩
end
end

-- G64
section
section
variable {g : Gp}
theorem refused_ct {P C : Addr} {oP oC : Obj} {N : Nat} {news : LedT} (hp : Pot C N oP oC) (hN : N ≤ 10000) : CtB (GG g) 8 700 [.ref P] [(P, oP), (C, oC)] news := by
  fail "enterBW c8 c8 init kr c7 c7 c1 c1 c1 i0"
  intro hid
  with_reducible have h := refused_heads (g := g) (hid := hid) (P := P) (C := C) (news := news) hp hN
  exact h
end
end

-- J1
section
open PySem PySem.W PyProof.Rows PySem.Spec PySem.Calls PyProof.V
section
variable {G : Gl} {n : Nat} {name qual : Str} {params : Arguments} {body : List Stmt} {scope : Scope} {dV kV doc pm cdv ct oc : Value} {an od : Option Addr} {osl : Array (Option Value)} {f : Addr} {vs vs' : List Value} {binds : List (Str × Value)} {R : Tab}
theorem ns_hide {h : Heap} {a ls : Addr} {m : Str → Option Value} {lo : Obj} (hn : h.Ns a m) (hl : h.get? ls = some lo) (hd : ∀ es ep, lo.data ≠ .dict es ep) : (hideAll h [ls]).Ns a m := by
  obtain ⟨o, es, ep, ho, hod, r⟩ := hn
  refine ⟨o, es, ep, hideAll_get _ ho fun hm => ?_, hod, r⟩
  obtain rfl := List.mem_singleton.mp hm
  exact hd es ep (Option.some.inj (hl.symm.trans ho) ▸ hod)
theorem topRead_hide {p : Program} {loose : List Str} {mg mb : Str → Option Value} {h : Heap} {ls : Addr} {lo : Obj} (T : TopRead p loose mg mb h) (hl : h.get? ls = some lo) (hd : ∀ es ep, lo.data ≠ .dict es ep) : TopRead p loose mg mb (hideAll h [ls]) :=
  ⟨ns_hide T.g hl hd, ns_hide T.b hl hd, let ⟨mc, h1, h2⟩ := T.nolimit; ⟨mc, ns_hide h1 hl hd, h2⟩, T.builtins, T.free⟩
theorem enterTop {s : Shared} {ls : Addr} {lo : Obj} {Rr : Result → Shared → Prop}
    (hlk : G.K.lookup f = some ⟨oc, od, .func (fnOf name qual params body scope dV kV doc pm an cdv ct), osl⟩) (hcd : codeIn G.K cdv qual = true)
    (hbind : ∀ s, G.K.In s.heap → BindsTo s (fnOf name qual params body scope dV kV doc pm an cdv ct) ⟨vs, []⟩ binds) (hin : InitC G scope.names vs' binds R) (hnd : (scope.names.map (·.1)).Nodup) (hdbg : (scope.names.any fun y => y.1 == ("__debug__" : Str)) = false)
    (hco : scope.isCoroutine = false) (hgen : scope.isGenerator = false) (hk : scope.kind = .function) (hn : n ≤ 8)
    (X : G.K.In (hideAll s.heap [ls])) (T : TopRead G.p G.loose G.mg G.mb (hideAll s.heap [ls])) (hls : s.heap.get? ls = some lo)
    (h : ∀ c m cells s', c.base = hideAll s.heap [ls] → c.s₀ = s → Ok G c n → OkB G c → FT G c scope.names m cells R → ES c m (cells ++ []) [] [(ls, lo)] s' →
      wpAny G.M c.A (execs body c.env) (fun fl s'' => Rr (.ok (.ret (retOf fl))) s'') noE s') : codeAny G.M callerA (.call (.ref f) ⟨vs, []⟩) Rr s := by
  have kOf : ∀ {y : Str} {k : NameKind} (L' : Addr), (y, k) ∈ scope.names → (envOfC qual scope L' f cdv).kindOf y = some k := fun L' hm => lookup_mem hnd hm
  have kx : (binds.all fun y => scope.names.lookup y.1 == some .local || scope.names.lookup y.1 == some .cell) = true := by
    rw [List.all_eq_true]
    intro b hb
    obtain ⟨k, hk, e⟩ := hin.pars b hb
    rw [lookup_mem hnd hk]
    rcases e with rfl | rfl <;> rfl
  have bnd := hin.bsnd hnd
  have Xs : G.K.In s.heap := X.keeps fun b o e => of_hideAll _ e
  have Ts : TopRead G.p G.loose G.mg G.mb s.heap := T.keeps fun b o e => of_hideAll _ e
  refine codeAny_call_function (by decide +kernel) (Xs _ _ hlk) rfl hco hgen rfl (codeRec_of Xs hcd) (hbind s Xs _ _ _ _ ?_)
  refine wpAny_newFunctionEnv_cells hk (kindsX kx _) fun env' he s' z => ?_
  subst he
  refine ⟨Ts.nolimit.keeps z.toInCall.keep, codeAny_func ?_⟩
  obtain ⟨h₁, tk, rfl, _⟩ := z.done
  have hk₁ := z.toInCall.keep
  obtain ⟨cells, NC, Y⟩ := Cl.news (h₀ := s.heap) (Nat.le_refl _) fun n c hm => ⟨z.cell n c (lookup_of_mem_nodup (cellsFrom_names scope.names 0 (s.heap.objs.size + 1) [] [] rfl ▸ cells_nd hnd) hm), z.above n c hm⟩
  have hlt : ls < s.heap.objs.size := Heap.lt_size hls
  let g := hideAll s.heap [ls]
  let L' := s.heap.objs.size
  replace Y : CellsAre (bindC (envOfC qual scope L' f cdv).kindOf binds fun _ => none) (cellsFrom (L' + 1) scope.names []) cells := Y
  have F' : Fr g L' h₁ (bindL (envOfC qual scope L' f cdv).kindOf binds fun _ => none) := ⟨z.toInCall.ns, fun b o e => hk₁ b o (of_hideAll _ e), Nat.le_of_eq (hideAll_size _ _)⟩
  have N' : News g L' h₁ (cells ++ [(ls, lo)]) := fun p hp => by
    rcases List.mem_append.mp hp with hp | hp
    · refine ⟨(NC p hp).1, (NC p hp).2.1, ?_⟩
      cases q : g.get? p.1 with
      | none => rfl
      | some o => have := of_hideAll _ q; rw [(NC p hp).2.2] at this; cases this
    · obtain rfl := List.mem_singleton.mp hp
      exact ⟨hk₁ _ _ hls, Nat.ne_of_lt hlt, hideAll_none _ (.head _)⟩
  let c' : Cx := { dp := callerA.depth + 1, un := callerA.units + 3, gd := callerA.guards, outer := [], A₀ := callerA, base := g, h₀ := g, L := L', q := qual, sc := scope, f := f, cd := cdv, cl := cellsFrom (L' + 1) scope.names [], s₀ := s }
  have hd8 : callerA.depth + 1 + (4 * 8 + 4) < recursionLimit := by decide +kernel
  have hu8 : callerA.units + 3 + (40 * 8 + 40) < cLine := by decide +kernel
  have O' : Ok G c' n := ⟨below_caller _, X, T, hk, by show callerA.depth + 1 + _ < _; omega, by show callerA.units + 3 + _ < _; omega⟩
  obtain ⟨cnd', cge⟩ := cellsFrom_addr scope.names (L' + 1) (L' + 1) [] (fun _ h => by cases h) (Nat.le_refl _) .nil
  have FT' : FT G c' scope.names (bindL (envOfC qual scope L' f cdv).kindOf binds fun _ => none) cells R := by
    refine ⟨rfl, hin.names, hnd, fun y v hm k hk e => ?_, fun y v hm k hk e => ?_, fun y v hm k hk h1 h2 => ?_, fun y z a h1 h2 => lookup_inj cnd' h1 h2, hdbg⟩
    · subst e
      rw [bindL_is _ (kOf L' hk) _ _ bnd, hin.locs hnd y v _ hm hk (by decide)]
      cases v <;> rfl
    · subst e
      have hs : ((cellsFrom (L' + 1) scope.names []).lookup y).isSome = true := cellsFrom_some _ _ _ (.inl (lookup_mem hnd hk))
      obtain ⟨a, ha⟩ := Option.isSome_iff_exists.mp hs
      obtain ⟨o, ho, hd⟩ := CellsAre.get Y ha
      refine ⟨a, o, ha, ho, ?_⟩
      unfold cellObj
      rw [hd, bindC_is _ (by rw [kOf L' hk]; decide) _ _ bnd, hin.locs hnd y v _ hm hk (by decide)]
      cases v <;> rfl
    · rcases hin.kinds y _ hk with h | h | h
      · exact absurd h h1
      · exact absurd h h2
      · subst h; exact ⟨rfl, hin.glos hnd y v hm hk⟩
  have S' : ES c' (bindL (envOfC qual scope L' f cdv).kindOf binds fun _ => none) (cells ++ []) [] [(ls, lo)] { s with heap := h₁, toks := tk } := by
    refine ⟨F', by rw [List.append_nil, List.nil_append]; exact N', ?_, ⟨h₁, _, rfl⟩⟩
    rw [List.append_nil, List.nil_append, List.map_append, List.nodup_append]
    refine ⟨by rw [CellsAre.addrs Y]; exact cnd', by simp, fun a ha b hb e => ?_⟩
    subst e
    rw [CellsAre.addrs Y] at ha
    obtain ⟨q, hq, e⟩ := List.mem_map.mp ha
    have h2 := cge q hq
    rw [e] at h2
    obtain rfl := List.mem_singleton.mp hb
    exact absurd hlt (Nat.not_lt.mpr (Nat.le_of_succ_le h2))
  exact wpAny_mono (h c' _ cells _ rfl rfl O' ⟨X, T⟩ FT' S') (fun fl s2 hb => by cases fl <;> exact hb) fun _ _ h => h.elim
end
end

-- J2
section
theorem ints_L {vs : List Value} {xs : List Int} (h : IntsAre vs xs) : IntsL vs ∧ vs.length = xs.length := by
  induction h with
  | nil => exact ⟨(fun _ h => nomatch h), rfl⟩
  | cons i t _ ih =>
    refine ⟨fun v hv => ?_, by rw [List.length_cons, List.length_cons, ih.2]⟩
    rcases List.mem_cons.mp hv with rfl | hv
    · exact ⟨_, _, rfl⟩
    · exact ih.1 v hv
theorem no_lists : ∀ P, ((hd.heap_1 P).all fun p => match p.2.data with | .seq .. => p.2.cls != .type "list" | _ => true) = true := fun P => by kernel_rfl
theorem mem_of_lookupF : ∀ {K : Frag} {a : Addr} {o : Obj}, K.lookup a = some o → (a, o) ∈ K
  | [], _, _, h => by cases h
  | (b, x) :: r, a, o, h => by
    rw [List.lookup_cons] at h
    cases hb : a == b with
    | true => rw [hb] at h; cases h; rw [eq_of_beq hb]; exact .head _
    | false => rw [hb] at h; exact .tail _ (mem_of_lookupF h)
theorem in_hide {P : Params} {h : Heap} {ls : Addr} {lo : Obj} {xs : Array Value} {k : Nat} (X : (hd.heap_1 P).In h) (hl : h.get? ls = some lo) (hc : lo.cls = .type "list") (hd' : lo.data = .seq xs k) : (hd.heap_1 P).In (hideAll h [ls]) := fun a o e => by
  refine hideAll_get _ (X a o e) fun hm => ?_
  obtain rfl := List.mem_singleton.mp hm
  obtain rfl : lo = o := Option.some.inj (hl.symm.trans (X _ _ e))
  have := List.all_eq_true.mp (no_lists P) _ (mem_of_lookupF e)
  dsimp only at this
  rw [hd', hc] at this
  exact absurd this (show ¬ ((Value.type "list" != Value.type "list") = true) by decide)
theorem enterTopG {g : Gp} {n : Nat} {name qual : Str} {params : Arguments} {body : List Stmt} {scope : Scope} {dV kV doc pm cdv ct oc : Value} {an od : Option Addr} {osl : Array (Option Value)} {f : Addr} {vs : List Value} {binds : List (Str × Value)} {R : Tab} {s : Shared} {ls : Addr} {lo : Obj} {Rr : Result → Shared → Prop}
    (hlk : (hd.heap_1 g.w.params).lookup f = some ⟨oc, od, .func (fnOf name qual params body scope dV kV doc pm an cdv ct), osl⟩) (hcd : codeIn (hd.heap_1 g.w.params) cdv qual = true)
    (hin : InitC (GG g) scope.names vs binds R) (hbind : bindArgs (fnOf name qual params body scope dV kV doc pm an cdv ct) ⟨vs, []⟩ = pure binds) (hnd : (scope.names.map (·.1)).Nodup) (hdbg : (scope.names.any fun y => y.1 == ("__debug__" : Str)) = false)
    (hco : scope.isCoroutine = false) (hgen : scope.isGenerator = false) (hk : scope.kind = .function) (hn : n ≤ 8)
    (X : (hd.heap_1 g.w.params).In (hideAll s.heap [ls])) (T : TopRead g.p g.loose g.mg g.mb (hideAll s.heap [ls])) (hls : s.heap.get? ls = some lo)
    (h : ∀ c m cells s', c.base = hideAll s.heap [ls] → c.s₀ = s → Ok (GG g) c n → OkB (GG g) c → FT (GG g) c scope.names m cells R → ES c m (cells ++ []) [] [(ls, lo)] s' →
      wpAny (GG g).M c.A (execs body c.env) (fun fl s'' => Rr (.ok (.ret (retOf fl))) s'') noE s') : codeAny (GG g).M callerA (.call (.ref f) ⟨vs, []⟩) Rr s :=
  enterTop (G := GG g) hlk hcd (fun _ _ => BindsTo.of_eq hbind) hin hnd hdbg hco hgen hk hn X T hls h
theorem walk_law (d : DefRec) (hdef : defOf q rowL.name = some (d, [])) : WalkO q loose (XL q []) (kHook hd.heap_1 as as_ok).says rowL.toRowW d [] fun f vs => PySem.call f vs := by
  intro w s₀ s₁ mg mb G Y fa o pm cd doc dV kV ho hd hcd hD hmg hg args vals as hpre hlay hrd hwl hlo
  have KX := kIn_of Y
  rw [defOf_name hdef] at hmg
  have T := topRead_of G.T
  wrow_args hpre hlay hrd hwl hlo
  rename_i xs _ _ _ _ _ _ _ ls vs _ hL _ _ _ hI _ hz _
  obtain ⟨hIL, hlen⟩ := ints_L hI
  obtain ⟨lo, hls, hc, k, hd'⟩ := hL
  have hnd : ∀ es ep, lo.data ≠ .dict es ep := fun es ep e => by rw [hd'] at e; cases e
  have hnf : ∀ vs, lo.data ≠ .fields vs := fun vs e => by rw [hd'] at e; cases e
  refine enter_call ?_
  let g : Gp := ⟨w, q, looseW q loose, ExcName.means s₀.heap, mg, mb⟩
  have e705 : mg "law" = some (.ref 705) := mg_of KX T.g (show nsIn (Mine.hd.heap_1 w.params) mainGlobals "law" = some (some (.ref 705)) by k_is)
  obtain rfl : fa = 705 := by rw [show rowL.name = "law" from rfl, e705] at hmg; injection hmg with hmg; injection hmg with hmg; exact hmg.symm
  have hX := in_hide KX hls hc hd'
  have hT : TopRead g.p g.loose g.mg g.mb (hideAll s₁.heap [ls]) := topRead_hide T hls hnd
  show codeAny (GG g).M callerA (.call (.ref 705) ⟨[.ref ls], []⟩) _ _
  refine' enterTopG (g := g) (n := 8) ?lkJ ?cdJ ?iniJ ?bdJ ?ndJ ?dbJ ?aJ ?bJ ?cJ ?hnJ hX hT hls ?_; (case lkJ => k_is); (case cdJ => k_is); (case iniJ => fail "init"); (case bdJ => kernel_rfl); (case ndJ => decide +kernel); (case dbJ => decide +kernel); (case aJ => rfl); (case bJ => rfl); (case cJ => rfl); (case hnJ => decide)
  intro c m cells s hb hs O OB T' S
  dsimp only at T'
  have h := law_all (g := g) (news := [(ls, lo)]) (.head _) ⟨hc, k, by rw [hd']⟩ hIL (by omega) (fun P C oP oC N news' hN hp => refused_ct hp hN) ⟨c, m, cells, cells ++ [], [], c.env⟩ s ⟨O, rfl, T', rfl⟩ OB (fun _ h => nomatch h) S
  refine wpAny_mono h (fun f s' hE => ?_) fun _ _ h => h
  obtain ⟨rfl, ⟨h1, h2⟩, hp, tk, e⟩ := hE
  rw [hb] at h1
  rw [hs] at e
  refine ⟨.inl ⟨.bool true, .bool true, [], rfl, raisesW_false allW_false_nil, .bool true, ?_, fun _ => ⟨.nil, fun _ h => nomatch h⟩⟩, OldK.of_keep fun b o e => ?_, by rw [e], .of_eq (by rw [e]; exact hg)⟩
  · exact postW_of (by rfl) (by wtm_val) (by rfl)
  · by_cases hbl : b = ls
    · subst hbl
      obtain rfl : lo = o := Option.some.inj (hls.symm.trans e)
      exact h2 _ (.head _) hnf
    · exact h1 b o (hideAll_get _ e fun hm => hbl (List.mem_singleton.mp hm))
theorem all_holds : rowL.toRowW.promised → PySem.Challenge.rw_og0191_01.Holds := fun hw => top_holds hw walk_law
end

theorem prom : rowL.toRowW.promised := by w_witness2
end Mine

theorem PySem.Challenge.cw_og0191_01_holds : PySem.Challenge.rw_og0191_01.Holds :=
  Mine.all_holds Mine.prom
