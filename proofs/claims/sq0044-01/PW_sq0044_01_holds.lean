import PyProof.Rows.All
import Wide.All
import OpenK.AllK
import Wide.FinOn
import PySem.Challenge.RW_sq0044_01
open PySem PySem.W PySem.Spec PySem.Calls PyProof.Rows
set_option Elab.async false
set_option rowWalk.seconds 0
set_option maxRecDepth 100000
set_option maxHeartbeats 8000000
section
namespace Mine
local macro_rules | `(tactic| o_head $_) => `(tactic| assumption)
/-- the written part of the heap, as the kit's head writes it (`kk.heap_..`) -/
theorem kk (h : (OpenLaw.row PySem.Challenge.rw_sq0044_01).Holds) : (OpenLaw.row PySem.Challenge.rw_sq0044_01).Holds := by k_head
/-- a run over a tree of objects, its two parts given -/
noncomputable def runG (ok : Thread → Bool) (st : SharedT → Thread → Option (SharedT × Thread)) : Nat → SharedT → Thread → Option SharedT
  | 0, _, _ => none
  | n + 1, s, t => match through t with
    | true => some s
    | false => match ok t with
      | false => none
      | true => match st s t with
        | some (s', t') => runG ok st n s' t'
        | none => none
theorem runG_of {tb : String → Option Builtin} {p : Program} {w : World} {n₀ : Nat} {ann : Option Value} : ∀ {n : Nat} {s s' : SharedT} {t : Thread}, runG (stepOk n₀ ann) (stepT (denote tb) p w) n s t = some s' → topRun tb p w n₀ ann n s.abs t = some s'.abs
  | 0, _, _, _, h => by cases h
  | n + 1, s, s', t, h => by
    unfold runG at h
    unfold topRun
    cases ht : through t with
    | true => rw [ht] at h; cases h; rfl
    | false =>
      rw [ht] at h
      cases hk : stepOk n₀ ann t with
      | false => rw [hk] at h; cases h
      | true =>
        rw [hk] at h
        cases hs : stepT (denote tb) p w s t with
        | none => rw [hs] at h; cases h
        | some r => obtain ⟨s₂, t₂⟩ := r; rw [hs] at h; rw [stepT_spec hs]; exact runG_of h
/-- the heap's objects: those of `K` (in their order) written out, each other one as `f` says -/
noncomputable def fill (f : Nat → Obj) : List (Addr × Obj) → Nat → Nat → List Obj
  | _, _, 0 => []
  | [], i, n + 1 => f i :: fill f [] (i + 1) n
  | x :: K, i, n + 1 => match Nat.beq x.1 i with
    | true => x.2 :: fill f K (i + 1) n
    | false => f i :: fill f (x :: K) (i + 1) n
noncomputable def patch (f : Nat → Obj) : List (Addr × Obj) → Nat → Obj
  | [], i => f i
  | x :: E, i => match Nat.beq x.1 i with
    | true => x.2
    | false => patch f E i
theorem fill_eq {f : Nat → Obj} : ∀ (n : Nat) (K : List (Addr × Obj)) (i : Nat), (∀ x ∈ K, f x.1 = x.2) → fill f K i n = (List.range' i n).map f
  | 0, K, i, _ => by cases K <;> rfl
  | n + 1, [], i, h => by rw [List.range'_succ, List.map_cons, ← fill_eq n [] (i + 1) h]; rfl
  | n + 1, x :: K, i, h => by
    rw [List.range'_succ, List.map_cons]
    unfold fill
    cases q : Nat.beq x.1 i with
    | true => rw [← Nat.eq_of_beq_eq_true q, h x List.mem_cons_self, fill_eq n K _ fun y hy => h y (List.mem_cons_of_mem _ hy)]
    | false => rw [fill_eq n (x :: K) _ h]
theorem patch_eq {f : Nat → Obj} {i : Nat} : ∀ (E : List (Addr × Obj)), (∀ x ∈ E, f x.1 = x.2) → patch f E i = f i
  | [], _ => rfl
  | x :: E, h => by
    unfold patch
    cases q : Nat.beq x.1 i with
    | true => rw [← Nat.eq_of_beq_eq_true q, h x List.mem_cons_self]
    | false => exact patch_eq E fun y hy => h y (List.mem_cons_of_mem _ hy)
noncomputable def SK (E K : List (Addr × Obj)) (n : Nat) (f : Nat → Obj) (life : Life) (drawn : Drawn) (toks : Nat) (os : OsState) : Shared := ⟨⟨(fill (patch f E) K 0 n).toArray, life⟩, Array.mk [], drawn, toks, os⟩
theorem abs_is {E K : List (Addr × Obj)} {s : SharedT} {n : Nat} (h : ∀ x ∈ E ++ K, s.tree.get x.1 = some x.2) (hn : s.n = n) (hg : s.gens.size = 0) :
    s.abs = SK E K n (fun i => (s.tree.get i).getD default) s.life s.drawn s.toks s.os := by
  have h' : ∀ x ∈ E ++ K, (s.tree.get x.1).getD default = x.2 := fun x hx => by rw [h x hx]; rfl
  have e : patch (fun i => (s.tree.get i).getD default) E = fun i => (s.tree.get i).getD default := funext fun i => patch_eq E fun x hx => h' x (List.mem_append_left _ hx)
  unfold SharedT.abs SK absHeap BT.list
  rw [e, fill_eq _ _ _ fun x hx => h' x (List.mem_append_right _ hx), hn, Array.eq_empty_of_size_eq_zero hg, List.range_eq_range']
theorem at_of {t : BT} : ∀ {as : List Addr} {K : List (Addr × Obj)}, as = K.map (·.1) → as.map t.get = K.map (fun p => some p.2) → ∀ x ∈ K, t.get x.1 = some x.2
  | _, [], _, _, x, hx => by cases hx
  | [], _ :: _, e, _, _, _ => by cases e
  | a :: as, y :: K, e, h, x, hx => by
    simp only [List.map_cons, List.cons.injEq] at e h
    cases hx with
    | head => rw [← e.1, h.1]
    | tail _ hx => exact at_of e.2 h.2 x hx
theorem obs_of {K : List (Addr × Obj)} {s : SharedT} {n : Nat} : ∀ {as : List Addr}, as = K.map (·.1) → (∀ x ∈ K, s.tree.get x.1 = some x.2) → s.n = n → as.all (Nat.blt · n) = true → K.map (fun p => alive p.2) = K.map (fun p => some p.2) → as.map s.abs.heap.get? = K.map fun p => some p.2 := by
  rintro _ rfl h hn hb ha
  rw [← ha, List.map_map]
  refine List.map_congr_left fun x hx => ?_
  refine abs_get ?_ (h x hx)
  have := List.all_eq_true.mp hb x.1 (List.mem_map_of_mem hx)
  rw [hn]
  exact Nat.le_of_ble_eq_true this
theorem seen_eq {q : Program} {loose mods : List Str} {Xt : Shared → Bool} {s : Shared}
    (h1 : seen ((recsOf q).map (·.name)) (ownsOf q) [] { s with gens := #[] } = expectedOf q) (h2 : s.heap.bltView = bltViewBooted)
    (h3 : s.heap.keysOk (looseW q loose) ((recsOf q).map (·.name)) ((litsOf q).map (·.1)) ((clssOf q (looseW q loose)).map (·.name)) = true) (h4 : s.heap.accountedOkI mods = true)
    (h5 : s.heap.isNs mainGlobals = true) (h6 : s.heap.isNs builtinsNs = true) (h7 : tablesOk q s.heap = true) (h8 : Xt s = true) (h9 : s.gens.size = 0) (h10 : tabsOk q s = true) (h11 : pinSeenD q (drecsOf q) s = pinGoodD (drecsOf q))
    (h12 : plainSeenE q (looseW q loose) s = plainGoodE q (looseW q loose)) (h13 : plainSeenD q loose s = plainGoodD q loose) (h14 : wideSeen q s = wideGood q) (h15 : clsSeenW q loose s = clsGoodW q loose) : openSeen q loose mods Xt true s = openGood q loose := by
  unfold openSeen openGood
  rw [h1, h2, h3, h4, h5, h6, h7, h8, h9, h10, h11, h12, h13, h14, h15]
  rfl
theorem left_of {p q : Program} {loose : List Str} {Xt : Shared → Bool} {α : Type} {Yf : Shared → α} {Ya : World → α} {N : Nat} {g0 : Bool} {H₀ : Params → Heap} {gs₀ : Array GenState} {d₀ : Drawn} {k₀ : Nat} {m₀ : Nat} {ann : Option Value} {S : World → OsState → SharedT}
    {E K : Params → List (Addr × Obj)} {as : List Addr} {N1 : Nat}
    (open_ : ∀ w : World, (fencedOpening treeTable p w N).map (fun s => (s.heap, s.gens, s.drawn, s.toks)) = some (H₀ w.params, gs₀, d₀, k₀))
    (size : ∀ w : World, ((H₀ w.params).isNs mainGlobals && gs₀.size == 0, (H₀ w.params).objs.size, (H₀ w.params).nsMap mainGlobals "__annotations__") = (true, m₀, ann))
    (hS : ∀ w os, (S w os).abs = ⟨H₀ w.params, gs₀, d₀, k₀, os⟩)
    (hK : ∀ P, as = (E P ++ K P).map (·.1))
    (run : ∀ w : World, (fun os => (runG (stepOk m₀ ann) (stepT (denote treeTable) p w) N (S w os) (topStub p)).map (fun s => (as.map s.tree.get, s.n, s.gens.size))) = fun _ => some ((E w.params ++ K w.params).map (fun p => some p.2), N1, 0))
    (good1 : ∀ P f life drawn toks os, (staticsOk (importedModules p.main.body) (H₀ P) (SK (E P) (K P) N1 f life drawn toks os).heap && namesBound p (SK (E P) (K P) N1 f life drawn toks os).heap && gensDone (SK (E P) (K P) N1 f life drawn toks os) && laidKept (H₀ P) (SK (E P) (K P) N1 f life drawn toks os).heap) = true)
    (good2 : ∀ P f life drawn toks os, openSeen q loose (importedModules p.main.body) Xt g0 (SK (E P) (K P) N1 f life drawn toks os) = openGood q loose)
    (good3 : ∀ w (s : SharedT), (∀ x ∈ E w.params ++ K w.params, s.tree.get x.1 = some x.2) → s.n = N1 → Yf s.abs = Ya w) : LeftO p q loose Xt Yf Ya N g0 := fun w => by
  obtain ⟨⟨h, gs, d, k, os⟩, e, e'⟩ := Option.map_eq_some_iff.mp (open_ w)
  obtain ⟨rfl, rfl, rfl, rfl⟩ : h = H₀ w.params ∧ gs = gs₀ ∧ d = d₀ ∧ k = k₀ := by simpa using e'
  obtain ⟨z1, z2, z3⟩ : _ ∧ _ ∧ _ := by simpa only [Prod.mk.injEq] using size w
  obtain ⟨s, r0, l⟩ := Option.map_eq_some_iff.mp (congrFun (run w) os)
  obtain ⟨l1, l2, l3⟩ : _ ∧ _ ∧ _ := by simpa only [Prod.mk.injEq] using l
  have l4 := at_of (hK w.params) l1
  have r := runG_of r0
  rw [hS] at r
  have a := abs_is l4 l2 l3
  have t : topFrom treeTable p w N ⟨H₀ w.params, gs, d, k, os⟩ = some s.abs := by
    unfold topFrom
    dsimp only
    rw [z1, z2, z3, r]
    show (match staticsOk (importedModules p.main.body) (H₀ w.params) s.abs.heap && namesBound p s.abs.heap && gensDone s.abs && laidKept (H₀ w.params) s.abs.heap with | true => _ | false => _) = _
    rw [show (staticsOk (importedModules p.main.body) (H₀ w.params) s.abs.heap && namesBound p s.abs.heap && gensDone s.abs && laidKept (H₀ w.params) s.abs.heap) = true from a ▸ good1 w.params _ _ _ _ _]
  unfold openEnds
  rw [e]
  show (topFrom treeTable p w N _).map _ = _
  rw [t]
  exact congrArg some (Prod.ext (a ▸ good2 w.params _ _ _ _ _) (good3 w s l4 l2))
end Mine
end
section
namespace Mine
noncomputable def bootT (P : Params) : BT :=
  .node (boot_o_0 P) (.node (boot_o_1 P) (.node (boot_o_3 P) (.node (boot_o_7 P) .nil .nil) .nil) (.node (boot_o_5 P) (.node (boot_o_9 P) .nil .nil) .nil))
    (.node (boot_o_2 P) (.node (boot_o_4 P) (.node (boot_o_8 P) .nil .nil) .nil) (.node (boot_o_6 P) (.node (boot_o_10 P) .nil .nil) .nil))
noncomputable def life0 : Life := Life.mk [] [] [] 0 [] [] false #[] [] 0 false false false 0 [2000, 10, 10] false 0 true [] [] 0 false
noncomputable def S0 (w : World) (os : OsState) : SharedT := ⟨bootT w.params, 11, life0, Array.mk [], boot_drawn, boot_toks, os⟩
theorem S0_abs (w : World) (os : OsState) : (S0 w os).abs = ⟨boot_heap w.params, Array.mk [], boot_drawn, boot_toks, os⟩ := by kernel_rfl
/-- the law's row and its program -/
noncomputable abbrev R0 : RowW := OpenRow.toRowW (OpenLaw.row PySem.Challenge.rw_sq0044_01)
noncomputable abbrev P0 : Program := (OpenRow.toRowW (OpenLaw.row PySem.Challenge.rw_sq0044_01)).prog
/-- the statements that the head keeps in view -/
noncomputable def q0 : Program := view P0 [0, 2, 3, 4, 5, 6, 7, 9, 10, 11, 12, 14, 15, 16, 17, 18, 19, 20, 21, 22, 23, 24, 25, 26, 27, 28, 30, 31, 32, 33, 34, 35, 36, 37, 38, 39, 40, 41, 45, 46, 47, 48, 49, 50, 51, 52, 55, 56, 57, 58, 59, 60, 61, 62, 63, 64, 65, 66, 67]
noncomputable def loose0 : List Str := ["PageError", "MAX_DIMEN", "MOST_SIZE", "PLAIN_SORT", "PROGRAM_SORT", "LARGER_SORT", "PIECES_SORT", "STOP_SKIP", "KERN_OP", "LEAD", "Font", "CHAR", "LIGATURE", "HBOX", "VBOX", "RULE", "KERN", "GLUE", "PENALTY", "DISC", "MARK", "INSERT", "ADJUST", "MATH", "SPECIAL", "UNSET", "FONT_KERN", "EXPLICIT", "ACCENT_KERN", "MU_KERN", "FOR_DEVICE", "WRITING", "OPENING", "CLOSING", "Char", "Ligature", "Kern", "described", "described_list", "run"].map Str.ofString
noncomputable def vals0 : List (Str × WData) := [("MAX_DIMEN", 1073741823), ("MOST_SIZE", 134217727), ("PLAIN_SORT", 0), ("PROGRAM_SORT", 1), ("LARGER_SORT", 2), ("PIECES_SORT", 3), ("STOP_SKIP", 128), ("KERN_OP", 128), ("LEAD", 255), ("CHAR", 0), ("LIGATURE", 1), ("HBOX", 2), ("VBOX", 3), ("RULE", 4), ("KERN", 5), ("GLUE", 6), ("PENALTY", 7), ("DISC", 8), ("MARK", 9), ("INSERT", 10), ("ADJUST", 11), ("MATH", 12), ("SPECIAL", 13), ("UNSET", 14), ("FONT_KERN", 0), ("EXPLICIT", 1), ("ACCENT_KERN", 2), ("MU_KERN", 3), ("FOR_DEVICE", 0), ("WRITING", 1), ("OPENING", 2), ("CLOSING", 3)].map fun x => (Str.ofString x.1, WData.int x.2)
noncomputable def as0 : List Addr := [2, 3, 15, 17, 18, 20, 21, 22, 29, 30, 32, 33, 35, 36, 37, 38, 39, 40, 43, 50, 51, 52, 55, 62, 63, 64, 67, 74, 75, 76, 79, 86, 87, 88, 91, 98, 99, 100, 103, 105, 106, 108, 109, 110, 112, 113, 115, 116, 117, 119, 120, 122, 123, 132, 133, 135, 136, 138, 139, 140, 142, 143, 145, 146, 147, 149, 150, 152, 153, 154, 156, 157, 159, 160, 161, 163, 164, 166, 167, 168, 170, 171, 173, 174, 175, 177, 178, 180, 181, 189, 190, 191, 192, 194, 195, 197, 198, 199, 201, 202, 204, 205, 206, 208, 209, 211, 212, 213, 215, 216, 218, 219, 220, 222, 223, 225, 226, 227, 229, 230, 232, 233, 234, 236, 237, 239, 240, 241, 243, 244, 246, 247, 248, 250, 251, 253, 254, 255, 257, 258, 260, 261, 262, 264, 265, 267, 268, 269, 270, 271, 272, 273, 292, 294, 295, 297, 298, 306, 308, 309, 311, 312, 313, 314, 315, 316, 317, 327, 328, 331, 332, 333, 334, 335, 336, 337, 347, 349, 350, 352, 353, 354, 355, 356, 357, 358, 361, 363, 364, 366, 367, 368, 371, 372, 373, 375, 376, 378, 379, 380, 381, 384, 385, 386, 387, 390, 391, 392, 393, 395, 396, 398, 399, 407, 410, 411, 412, 413, 414, 415, 416, 419, 421, 422, 424, 425, 426, 428, 429, 431, 432, 433, 435, 436, 438, 439, 440, 442, 443, 445, 446, 447, 448, 450, 451, 453, 454, 455, 456, 457, 459, 460, 462, 463, 464, 466, 467, 469, 470, 471, 473, 474, 476, 477, 478, 480, 481, 483, 484, 485, 488, 489, 490, 492, 493, 495, 496, 497, 499, 500, 502, 503, 504, 506, 507, 509, 510, 511, 513, 514, 516, 517, 518, 520, 521, 523, 524, 525, 528, 529]
noncomputable def Xt0 (s : Shared) : Bool := xlAt q0 vals0 s && recOk (RowW.records R0) s
/-- what the kit's written part leaves out and the checks read: two of the booted objects ahead of it, one among it, and the (empty) table of each code -/
noncomputable def tabs0 : List Addr := [16, 31, 104, 111, 118, 134, 141, 148, 155, 162, 169, 176, 193, 200, 207, 214, 221, 228, 235, 242, 249, 256, 263, 293, 307, 329, 348, 362, 369, 374, 382, 388, 394, 408, 420, 427, 434, 441, 449, 458, 465, 472, 479, 486, 491, 498, 505, 512, 519, 526]
noncomputable def as1 : List Addr := 4 :: (tabs0 ++ 0 :: 1 :: as0)
noncomputable def E0 (P : Params) : List (Addr × Obj) := (4, boot_o_4 P) :: tabs0.map fun a => (a, ⟨.none, none, .fields #[], #[]⟩)
noncomputable def K0 (P : Params) : List (Addr × Obj) := (0, boot_o_0 P) :: (1, boot_o_1 P) :: Mine.kk.heap_1 P
theorem big_f : ∀ w : World, (fun os => (runG (PySem.W.Fast.tw6613529449190102663 11 (some (.ref 6))) (PySem.W.Fast.tw10156331382660048174 (PySem.W.Fast.tw11892475500146522536 PySem.W.Fast.tw14364793385576792824) P0 (w.withFollow "special-get-raises" false)) 9714 (S0 (w.withFollow "special-get-raises" false) os) (topStub P0)).map (fun s => (as1.map s.tree.get, s.n, s.gens.size))) = fun _ => some ((E0 (w.withFollow "special-get-raises" false).params ++ K0 (w.withFollow "special-get-raises" false).params).map (fun p => some p.2), 530, 0) := fun w => by kernel_rfl
theorem big_t : ∀ w : World, (fun os => (runG (PySem.W.Fast.tw6613529449190102663 11 (some (.ref 6))) (PySem.W.Fast.tw10156331382660048174 (PySem.W.Fast.tw11892475500146522536 PySem.W.Fast.tw14364793385576792824) P0 (w.withFollow "special-get-raises" true)) 9714 (S0 (w.withFollow "special-get-raises" true) os) (topStub P0)).map (fun s => (as1.map s.tree.get, s.n, s.gens.size))) = fun _ => some ((E0 (w.withFollow "special-get-raises" true).params ++ K0 (w.withFollow "special-get-raises" true).params).map (fun p => some p.2), 530, 0) := fun w => by kernel_rfl
/-- the quick forms of the library, put back -/
theorem big {b : Bool} {w : World} (h : (fun os => (runG (PySem.W.Fast.tw6613529449190102663 11 (some (.ref 6))) (PySem.W.Fast.tw10156331382660048174 (PySem.W.Fast.tw11892475500146522536 PySem.W.Fast.tw14364793385576792824) P0 (w.withFollow "special-get-raises" b)) 9714 (S0 (w.withFollow "special-get-raises" b) os) (topStub P0)).map (fun s => (as1.map s.tree.get, s.n, s.gens.size))) = fun _ => some ((E0 (w.withFollow "special-get-raises" b).params ++ K0 (w.withFollow "special-get-raises" b).params).map (fun p => some p.2), 530, 0)) :
    (fun os => (runG (stepOk 11 (some (.ref 6))) (stepT (denote treeTable) P0 (w.withFollow "special-get-raises" b)) 9714 (S0 (w.withFollow "special-get-raises" b) os) (topStub P0)).map (fun s => (as1.map s.tree.get, s.n, s.gens.size))) = fun _ => some ((E0 (w.withFollow "special-get-raises" b).params ++ K0 (w.withFollow "special-get-raises" b).params).map (fun p => some p.2), 530, 0) := by
  rw [← PySem.W.Fast.te6613529449190102663, ← PySem.W.Fast.te10156331382660048174, ← PySem.W.Fast.te11892475500146522536, ← PySem.W.Fast.te14364793385576792824] at h
  exact h
theorem good1 (P : Params) (f : Nat → Obj) (life : Life) (drawn : Drawn) (toks : Nat) (os : OsState) : (staticsOk (importedModules P0.main.body) (boot_heap P) (SK (E0 P) (K0 P) 530 f life drawn toks os).heap && namesBound P0 (SK (E0 P) (K0 P) 530 f life drawn toks os).heap && gensDone (SK (E0 P) (K0 P) 530 f life drawn toks os) && laidKept (boot_heap P) (SK (E0 P) (K0 P) 530 f life drawn toks os).heap) = true := by kernel_rfl
theorem good2_1 (P : Params) (f : Nat → Obj) (life : Life) (drawn : Drawn) (toks : Nat) (os : OsState) : seen ((recsOf q0).map (·.name)) (ownsOf q0) [] { (SK (E0 P) (K0 P) 530 f life drawn toks os) with gens := #[] } = expectedOf q0 := by kernel_rfl
theorem good2_2 (P : Params) (f : Nat → Obj) (life : Life) (drawn : Drawn) (toks : Nat) (os : OsState) : (SK (E0 P) (K0 P) 530 f life drawn toks os).heap.bltView = bltViewBooted := by kernel_rfl
theorem good2_3 (P : Params) (f : Nat → Obj) (life : Life) (drawn : Drawn) (toks : Nat) (os : OsState) : (SK (E0 P) (K0 P) 530 f life drawn toks os).heap.keysOk (looseW q0 loose0) ((recsOf q0).map (·.name)) ((litsOf q0).map (·.1)) ((clssOf q0 (looseW q0 loose0)).map (·.name)) = true := by kernel_rfl
theorem good2_4 (P : Params) (f : Nat → Obj) (life : Life) (drawn : Drawn) (toks : Nat) (os : OsState) : (SK (E0 P) (K0 P) 530 f life drawn toks os).heap.accountedOkI (importedModules P0.main.body) = true := by kernel_rfl
theorem good2_5 (P : Params) (f : Nat → Obj) (life : Life) (drawn : Drawn) (toks : Nat) (os : OsState) : (SK (E0 P) (K0 P) 530 f life drawn toks os).heap.isNs mainGlobals = true := by kernel_rfl
theorem good2_6 (P : Params) (f : Nat → Obj) (life : Life) (drawn : Drawn) (toks : Nat) (os : OsState) : (SK (E0 P) (K0 P) 530 f life drawn toks os).heap.isNs builtinsNs = true := by kernel_rfl
theorem good2_7 (P : Params) (f : Nat → Obj) (life : Life) (drawn : Drawn) (toks : Nat) (os : OsState) : tablesOk q0 (SK (E0 P) (K0 P) 530 f life drawn toks os).heap = true := by kernel_rfl
theorem good2_8 (P : Params) (f : Nat → Obj) (life : Life) (drawn : Drawn) (toks : Nat) (os : OsState) : Xt0 (SK (E0 P) (K0 P) 530 f life drawn toks os) = true := by kernel_rfl
theorem good2_9 (P : Params) (f : Nat → Obj) (life : Life) (drawn : Drawn) (toks : Nat) (os : OsState) : (SK (E0 P) (K0 P) 530 f life drawn toks os).gens.size = 0 := by kernel_rfl
theorem good2_10 (P : Params) (f : Nat → Obj) (life : Life) (drawn : Drawn) (toks : Nat) (os : OsState) : tabsOk q0 (SK (E0 P) (K0 P) 530 f life drawn toks os) = true := by kernel_rfl
theorem good2_11 (P : Params) (f : Nat → Obj) (life : Life) (drawn : Drawn) (toks : Nat) (os : OsState) : pinSeenD q0 (drecsOf q0) (SK (E0 P) (K0 P) 530 f life drawn toks os) = pinGoodD (drecsOf q0) := by kernel_rfl
theorem good2_12 (P : Params) (f : Nat → Obj) (life : Life) (drawn : Drawn) (toks : Nat) (os : OsState) : plainSeenE q0 (looseW q0 loose0) (SK (E0 P) (K0 P) 530 f life drawn toks os) = plainGoodE q0 (looseW q0 loose0) := by kernel_rfl
theorem good2_13 (P : Params) (f : Nat → Obj) (life : Life) (drawn : Drawn) (toks : Nat) (os : OsState) : plainSeenD q0 loose0 (SK (E0 P) (K0 P) 530 f life drawn toks os) = plainGoodD q0 loose0 := by kernel_rfl
theorem good2_14 (P : Params) (f : Nat → Obj) (life : Life) (drawn : Drawn) (toks : Nat) (os : OsState) : wideSeen q0 (SK (E0 P) (K0 P) 530 f life drawn toks os) = wideGood q0 := by kernel_rfl
theorem good2_15 (P : Params) (f : Nat → Obj) (life : Life) (drawn : Drawn) (toks : Nat) (os : OsState) : clsSeenW q0 loose0 (SK (E0 P) (K0 P) 530 f life drawn toks os) = clsGoodW q0 loose0 := by kernel_rfl
theorem good2 (P : Params) (f : Nat → Obj) (life : Life) (drawn : Drawn) (toks : Nat) (os : OsState) : openSeen q0 loose0 (importedModules P0.main.body) Xt0 true (SK (E0 P) (K0 P) 530 f life drawn toks os) = openGood q0 loose0 :=
  seen_eq (good2_1 P f life drawn toks os) (good2_2 P f life drawn toks os) (good2_3 P f life drawn toks os) (good2_4 P f life drawn toks os) (good2_5 P f life drawn toks os) (good2_6 P f life drawn toks os) (good2_7 P f life drawn toks os) (good2_8 P f life drawn toks os) (good2_9 P f life drawn toks os) (good2_10 P f life drawn toks os) (good2_11 P f life drawn toks os) (good2_12 P f life drawn toks os) (good2_13 P f life drawn toks os) (good2_14 P f life drawn toks os) (good2_15 P f life drawn toks os)
theorem as_eq : ∀ P, as0 = (Mine.kk.heap_1 P).map (·.1) := fun _ => by kernel_rfl
theorem as1_eq : ∀ P, as1 = (E0 P ++ K0 P).map (·.1) := fun _ => by kernel_rfl
theorem all_alive : ∀ P, (Mine.kk.heap_1 P).map (fun p => alive p.2) = (Mine.kk.heap_1 P).map (fun p => some p.2) := fun _ => by kernel_rfl
theorem boot_at : ∀ w : World, (fencedOpening treeTable P0 w 9714).map (fun s => (s.heap, s.gens, s.drawn, s.toks)) = some (boot_heap w.params, Array.mk [], boot_drawn, boot_toks) := boot_open (by kernel_rfl) (by decide +kernel) (fun _ => by kernel_rfl)
theorem boot_size : ∀ w : World, ((boot_heap w.params).isNs mainGlobals && (Array.mk [] : Array GenState).size == 0, (boot_heap w.params).objs.size, (boot_heap w.params).nsMap mainGlobals "__annotations__") = (true, 11, some (.ref 6)) := fun _ => by kernel_rfl
theorem left : LeftO P0 q0 loose0 Xt0 (kHook Mine.kk.heap_1 as0 as_eq).obs (kHook Mine.kk.heap_1 as0 as_eq).val 9714 :=
  left_of (E := E0) (K := K0) (as := as1) (N1 := 530) boot_at boot_size S0_abs as1_eq
    (fun w => byRow2 "special-get-raises" (P := fun w => (fun os => (runG (stepOk 11 (some (.ref 6))) (stepT (denote treeTable) P0 w) 9714 (S0 w os) (topStub P0)).map (fun s => (as1.map s.tree.get, s.n, s.gens.size))) = fun _ => some ((E0 w.params ++ K0 w.params).map (fun p => some p.2), 530, 0)) (fun w => big (big_f w)) (fun w => big (big_t w)) w)
    good1 good2 (fun w s h hn => obs_of (as_eq w.params) (fun x hx => h x (List.mem_append_right _ (List.mem_cons_of_mem _ (List.mem_cons_of_mem _ hx)))) hn (by decide +kernel) (all_alive w.params))
theorem said : PySem.Challenge.rw_sq0044_01.wellSaid = true := by
  rw [PySem.W.Fast.te9446332074065402090]
  unfold PySem.W.Fast.tw9446332074065402090 PySem.W.Fast.tw17960256430627541270 PySem.W.Fast.tw2436336058641802641 PySem.W.Fast.tw12908688711261696721
  simp only [Bool.and_eq_true]
  with_reducible repeat' refine And.intro ?_ ?_
  all_goals decide +kernel
end Mine
end
section
namespace Mine
theorem ownH3_0 : True := by
  k_with "own o_law" => refine holds_law said fun _ => ?_
  trivial
local macro_rules | `(tactic| o_law) => `(tactic| k_extra "own o_law")
theorem ownH3_1 : True := by
  k_with "own o_head" => refine holds_open (q := q0) (loose := loose0) (Xt := Xt0) (XP := XL q0 vals0) (Yf := (kHook Mine.kk.heap_1 as0 as_eq).obs) (Ya := (kHook Mine.kk.heap_1 as0 as_eq).val) (YP := (kHook Mine.kk.heap_1 as0 as_eq).says) (N := 9714) left (Hook.of _) (Hook.keeps _) (fun s e => xl_of s (Bool.and_eq_true_iff.mp e).1) XL.keeps (by rfl) (by rfl) (by rfl) (fun s e => recFacts_of (Bool.and_eq_true_iff.mp e).2) (by rfl) (by first | assumption | decide +kernel) (by decide +kernel) ⟨rfl, rfl, rfl, rfl, rfl, by decide +kernel⟩ ?hw ?hc
  trivial
local macro_rules | `(tactic| o_head $_) => `(tactic| k_extra "own o_head")
open_top hd for PySem.Challenge.rw_sq0044_01
end Mine
end
theorem Mine.fresh_B1 : True := by w_top off; k_with_none; trivial
namespace Mine
theorem fill_once (P : Params) : Mine.kk.heap_1 P = Mine.kk.heap_1 P ∧ PySem.Challenge.rw_sq0044_01 = PySem.Challenge.rw_sq0044_01 := by
  k_fill
  exact ⟨rfl, rfl⟩
/-- everything outside `as` stands as it stood -/
noncomputable def Kept (h : Heap) (as : List Addr) (h' : Heap) : Prop := ∀ b o, h.get? b = some o → b ∉ as → h'.get? b = some o
theorem Kept.refl {h : Heap} {as : List Addr} : Kept h as h := fun _ _ e _ => e
theorem Kept.trans {h h' h'' : Heap} {as : List Addr} (x : Kept h as h') (y : Kept h' as h'') : Kept h as h'' := fun b o e n => y b o (x b o e n) n
/-- the place where a call stands -/
noncomputable def Cx (w : World) (A : Around) (h₀ : Heap) (L : Addr) (h : Heap) (m : Str → Option Value) : Prop :=
  ∃ (A₀ : Around) (base : Heap) (outer : List Env) (env : Env) (p : Program) (loose : List Str) (mean : ExcName → Option Value) (mg mb : Str → Option Value),
    Below A₀ base outer h₀ ∧ Fr h₀ L h m ∧ (Mine.kk.heap_1 w.params).In h₀ ∧ Top p loose mean mg mb h₀ ∧ A.frames = some (env :: outer) ∧ env.frame = some L ∧ env.scope.kind = .function ∧ A.handled = none
theorem Cx.fr {w : World} {A : Around} {h₀ h : Heap} {L : Addr} {m : Str → Option Value} (C : Cx w A h₀ L h m) : Fr h₀ L h m := by
  obtain ⟨_, _, _, _, _, _, _, _, _, _, F, _⟩ := C; exact F
theorem enter {w : World} {A : Around} {s : Shared} {h₀ : Heap} {L : Addr} {m : Str → Option Value} {foot : List (Addr × Obj)} {R : Result → Shared → Prop}
    {name qual : Str} {params : Arguments} {body : List Stmt} {scope : Scope} {dV kV doc pm cdv ct oc : Value} {an od : Option Addr} {osl : Array (Option Value)} {f : Addr} {args : Args} {binds : List (Str × Value)}
    (C : Cx w A h₀ L s.heap m) (N : News h₀ L s.heap foot)
    (ho : (Mine.kk.heap_1 w.params).lookup f = some ⟨oc, od, .func (fnOf name qual params body scope dV kV doc pm an cdv ct), osl⟩) (hcd : codeIn (Mine.kk.heap_1 w.params) cdv qual = true) (hroom : A.depth < recursionLimit)
    (hbind : BindsTo s (fnOf name qual params body scope dV kV doc pm an cdv ct) args binds) (hloc : ∀ y ∈ binds, scope.names.lookup y.1 = some .local)
    (h : ∀ (base : Heap) (outer : List Env) (p : Program) (loose : List Str) (mean : ExcName → Option Value) (mg mb : Str → Option Value) (g : Heap) (L' : Addr) (h₁ : Heap),
      Fr h₀ L g m → Fr g L' h₁ (fun y => binds.reverse.lookup y) → News g L' h₁ foot → (∀ b o, s.heap.get? b = some o → b ∉ foot.map (·.1) → g.get? b = some o) →
      Below A base outer g → (Mine.kk.heap_1 w.params).In g → Top p loose mean mg mb g → A.handled = none →
      wpAny (model PySem.Challenge.rw_sq0044_01.row.prog w) (A.deeper (envOf qual scope L' f cdv)) (execs body (envOf qual scope L' f cdv))
        (fun fl s' => LeaveK h₀ L m g R (match fl with | .ret v => v | _ => .none) s')
        (fun e s' => wpAny (model PySem.Challenge.rw_sq0044_01.row.prog w) (A.deeper (envOf qual scope L' f cdv)) (leaving (envOf qual scope L' f cdv) e) (fun _ s'' => R (.error e) s'') (fun e' s'' => R (.error e') s'') s')
        { s with heap := h₁, toks := s.toks + binds.length })
    (hco : scope.isCoroutine = false) (hgen : scope.isGenerator = false) (hk : scope.kind = .function)
    (hcell : ∀ x ∈ scope.names, x.2 ≠ .cell) : codeAny (model PySem.Challenge.rw_sq0044_01.row.prog w) A (.call (.ref f) args) R s := by
  obtain ⟨A₀, base, outer, env, p, loose, mean, mg, mb, B, F, X, T, hA, hf, hke, hh⟩ := C
  obtain ⟨FG, BG, st, lv⟩ := groundX (R := R) B F N hA hf hke
  refine codeAny_call_def (fd := fnOf name qual params body scope dV kV doc pm an cdv ct) (body := body) (binds := binds) hroom ((X.keeps F.keep) _ _ ho) rfl (T.nolimit.keeps F.keep) (codeRec_of (X.keeps F.keep) hcd) rfl hbind hcell hloc (fun h₁ hns hk₁ => ?_) hco hgen hk
  exact wpAny_mono (h base (env :: outer) p loose mean mg mb _ s.heap.objs.size h₁ FG ⟨hns, fun b o e => hk₁ b o (of_hideAll _ e), Nat.le_of_eq (hideAll_size _ _)⟩
    (fun p hp => ⟨hk₁ _ _ (N p hp).1, Nat.ne_of_lt (Heap.lt_size (N p hp).1), hideAll_none _ (List.mem_map_of_mem hp)⟩)
    (fun b o e n => hideAll_get _ e n) BG (X.keeps st) (T.keeps st) hh) (fun fl s' hl => lv _ _ hl) fun _ _ y => y
theorem Cx.inK {w : World} {A : Around} {h₀ h : Heap} {L : Addr} {m : Str → Option Value} (C : Cx w A h₀ L h m) : (Mine.kk.heap_1 w.params).In h := by
  obtain ⟨A₀, base, outer, env, p, loose, mean, mg, mb, B, F, X, T, hA, hf, hke, hh⟩ := C
  exact X.keeps F.keep
theorem Cx.form {w : World} {A : Around} {h₀ h : Heap} {L : Addr} {m : Str → Option Value} (C : Cx w A h₀ L h m) :
    ∃ (dp un : Nat) (gd : Option (List Code)) (env : Env) (outer : List Env), A = { handled := none, depth := dp, frames := some (env :: outer), guards := gd, units := un } := by
  obtain ⟨A₀, base, outer, env, p, loose, mean, mg, mb, B, F, X, T, hA, hf, hke, hh⟩ := C
  obtain ⟨a, b, c, d, e⟩ := A
  cases hA; cases hh
  exact ⟨b, e, d, env, outer, rfl⟩
theorem Cx.form_ {w : World} {A : Around} {h₀ h : Heap} {L : Addr} {m : Str → Option Value} (C : Cx w A h₀ L h m) {P : Prop}
    (k : ∀ (dp un : Nat) (gd : Option (List Code)) (env : Env) (outer : List Env), A = { handled := none, depth := dp, frames := some (env :: outer), guards := gd, units := un } → P) : P :=
  let ⟨dp, un, gd, env, outer, e⟩ := C.form
  k dp un gd env outer e
theorem Cx.deeper {w : World} {A : Around} {g h base : Heap} {outer : List Env} {L f : Addr} {m : Str → Option Value} {qual : Str} {scope : Scope} {cdv : Value} {p : Program} {loose : List Str} {mean : ExcName → Option Value} {mg mb : Str → Option Value}
    (B : Below A base outer g) (F : Fr g L h m) (X : (Mine.kk.heap_1 w.params).In g) (T : Top p loose mean mg mb g) (hh : A.handled = none) (hk : scope.kind = .function) : Cx w (A.deeper (envOf qual scope L f cdv)) g L h m :=
  ⟨A, base, outer, envOf qual scope L f cdv, p, loose, mean, mg, mb, B, F, X, T, Around.frames_deeper B.stack, rfl, hk, hh⟩
theorem Cx.under {w : World} {A : Around} {g h : Heap} {L : Addr} {m : Str → Option Value} {as : Args} (C : Cx w A g L h m) : Cx w (A.under (.builtin "type.__call__" as)) g L h m := by
  obtain ⟨dp, un, gd, env, outer, rfl⟩ := C.form
  obtain ⟨A₀, base, outer, env, p, loose, mean, mg, mb, B, F, X, T, hA, hf, hke, hh⟩ := C
  exact ⟨A₀, base, outer, env, p, loose, mean, mg, mb, B, F, X, T, hA, hf, hke, rfl⟩
theorem Cx.at {w : World} {A : Around} {g h h' : Heap} {L : Addr} {m m' : Str → Option Value} (C : Cx w A g L h m) (F' : Fr g L h' m') : Cx w A g L h' m' := by
  obtain ⟨A₀, base, outer, env, p, loose, mean, mg, mb, B, F, X, T, hA, hf, hke, hh⟩ := C
  exact ⟨A₀, base, outer, env, p, loose, mean, mg, mb, B, F', X, T, hA, hf, hke, hh⟩
/-- what stands in the ledger besides the call's foot stands behind the call -/
theorem news_keep {h₀ h h' : Heap} {L : Addr} {as : List Addr} {rest : List (Addr × Obj)} (N : News h₀ L h rest) (K : Kept h as h') (ne : ∀ p ∈ rest, p.1 ∉ as) : News h₀ L h' rest := fun p hp =>
  ⟨K _ _ (N p hp).1 (ne p hp), (N p hp).2⟩
theorem news_keep0 {h₀ h h' : Heap} {L : Addr} {rest : List (Addr × Obj)} (N : News h₀ L h rest) (K : Kept h [] h') : News h₀ L h' rest := news_keep N K fun _ _ h => nomatch h
theorem news_app {h₀ h : Heap} {L : Addr} {a b : List (Addr × Obj)} (N : News h₀ L h a) (N' : News h₀ L h b) : News h₀ L h (a ++ b) := fun p hp => (List.mem_append.mp hp).elim (N p) (N' p)
theorem news_sub {h₀ h : Heap} {L : Addr} {a b : List (Addr × Obj)} (N : News h₀ L h a) (hs : ∀ p ∈ b, p ∈ a) : News h₀ L h b := fun p hp => N p (hs p hp)
theorem news_lt {h₀ h : Heap} {L : Addr} {a : List (Addr × Obj)} (N : News h₀ L h a) : ∀ p ∈ a, p.1 < h.objs.size := fun p hp => Heap.lt_size (N p hp).1
theorem news_below {h₀ h : Heap} {L x : Addr} {a : List (Addr × Obj)} (N : News h₀ L h a) (hx : h.objs.size ≤ x) : ∀ p ∈ a, p.1 < x := fun p hp => Nat.lt_of_lt_of_le (Heap.lt_size (N p hp).1) hx
theorem kept_of {h₀ g h h' : Heap} {L : Addr} {mt ro : List (Addr × Obj)} (N : News h₀ L h (mt ++ ro)) (G : ∀ b o, h.get? b = some o → b ∉ (mt ++ ro).map (·.1) → g.get? b = some o) (K : ∀ b o, g.get? b = some o → h'.get? b = some o)
    (R : ∀ p ∈ ro, h'.get? p.1 = some p.2) : Kept h (mt.map (·.1)) h' := fun b o e n => by
  by_cases hb : b ∈ (mt ++ ro).map (·.1)
  · obtain ⟨p, hp, rfl⟩ := List.mem_map.mp hb
    rcases List.mem_append.mp hp with q | q
    · exact absurd (List.mem_map_of_mem q) n
    · have := (N p hp).1
      rw [e] at this
      cases this
      exact R p q
  · exact K b o (G b o e hb)
theorem kept_nil_of {h h' : Heap} (k : ∀ b o, h.get? b = some o → h'.get? b = some o) {as : List Addr} : Kept h as h' := fun b o e _ => k b o e
theorem none_of_push {h : Heap} {a : Addr} (ha : h.objs.size ≤ a) : h.get? a = none := Heap.get?_none_of_le ha
/-- an object is made: its __init__ is entered over the very heap -/
theorem callC {w : World} {A : Around} {E Q : Value → Shared → Prop} {s : Shared} {h₀ : Heap} {L C : Addr} {m : Str → Option Value} {fI : Addr} {pos : List Value} {kw : List (Str × Value)}
    (Cc : Cx w A h₀ L s.heap m) (hm : makesIn (Mine.kk.heap_1 w.params) C = true) (hi : findIn (Mine.kk.heap_1 w.params) (.ref C) "__init__" = some (some (.ref fI))) (hf : isFn (Mine.kk.heap_1 w.params) (.ref fI) = true)
    (h : ∀ x dx h', Cx w (A.under (.builtin "type.__call__" ⟨.ref C :: pos, kw⟩)) h₀ L h' m → News h₀ L h' [(x, instObj C dx), (dx, dictOf [] 0)] → (∀ b o, s.heap.get? b = some o → h'.get? b = some o) → s.heap.get? x = none → s.heap.get? dx = none → dx < x →
      codeAny (model PySem.Challenge.rw_sq0044_01.row.prog w) (A.under (.builtin "type.__call__" ⟨.ref C :: pos, kw⟩)) (.call (.ref fI) ⟨.ref x :: pos, kw⟩) (InitBack x fun r s' => match r with | .ok (.ret v) => Q v s' | .ok _ => False | .error e => E e s') { s with heap := h' }) :
    wpAny (model PySem.Challenge.rw_sq0044_01.row.prog w) A (call (.ref C) pos kw) Q E s := by
  obtain ⟨A₀, base, outer, env, p, loose, mean, mg, mb, B, F, X, T, hA, hf', hke, hh⟩ := id Cc
  refine wpAny_call ?_
  have X' := X.keeps F.keep
  obtain ⟨hh', g, d, t, os⟩ := s
  have N' := ((News.nil (h₀ := h₀) (L := L) (h := hh')).push F emptyDict).push (F.push _) (instObj C hh'.objs.size)
  rw [Heap.size_push] at N'
  refine make_core (makes_of X' hm) (looks_findIn X' hi) (fun self => bind_fn X' self (beq_iff_eq.mp hf)) (.inl rfl) (h _ hh'.objs.size _ (Cx.under (Cx.at Cc ((F.push _).push _))) N' (fun b o e => Heap.get?_push_of_some _ (Heap.get?_push_of_some _ e)) (none_of_push (Nat.le_succ _)) (none_of_push (Nat.le_refl _)) (Nat.lt_succ_self _))
theorem kept_made {h h2 g h' : Heap} {x dx : Addr} {ox od : Obj} (k : ∀ b o, h.get? b = some o → h2.get? b = some o) (hx : h.get? x = none) (hdx : h.get? dx = none)
    (G : ∀ b o, h2.get? b = some o → b ∉ ([(x, ox), (dx, od)] : List (Addr × Obj)).map (·.1) → g.get? b = some o) (K : ∀ b o, g.get? b = some o → h'.get? b = some o) : Kept h [] h' := fun b o e _ =>
  K b o (G b o (k b o e) (fun q => by
    simp only [List.map_cons, List.map_nil, List.mem_cons, List.not_mem_nil, or_false] at q
    rcases q with rfl | rfl
    · rw [hx] at e; cases e
    · rw [hdx] at e; cases e))
theorem fresh_made {h h2 g : Heap} {x dx q : Addr} {ox od : Obj} (k : ∀ b o, h.get? b = some o → h2.get? b = some o)
    (G : ∀ b o, h2.get? b = some o → b ∉ ([(x, ox), (dx, od)] : List (Addr × Obj)).map (·.1) → g.get? b = some o) (hq : g.get? q = none) (n1 : q ≠ x) (n2 : q ≠ dx) : h.get? q = none := by
  cases e : h.get? q with
  | none => rfl
  | some o =>
    have := G q o (k q o e) (by simp [n1, n2])
    rw [hq] at this; cases this
theorem fresh_g {h g : Heap} {q : Addr} {as : List Addr} (G : ∀ b o, h.get? b = some o → b ∉ as → g.get? b = some o) (hq : g.get? q = none) (n : q ∉ as) : h.get? q = none := by
  cases e : h.get? q with
  | none => rfl
  | some o => have := G q o e n; rw [hq] at this; cases this
theorem news_none {h₀ h : Heap} {L x : Addr} {a : List (Addr × Obj)} (N : News h₀ L h a) (hx : h.get? x = none) : ∀ p ∈ a, p.1 ≠ x := fun p hp e => by
  have := (N p hp).1; rw [e, hx] at this; cases this
/-- a frame's names, written out, and others -/
noncomputable abbrev mp (l j : List (Str × Value)) : Str → Option Value := fun y => List.lookup y (l ++ j)
theorem lookup_ne {y a : Str} {v : Value} {l : List (Str × Value)} (h : ¬ y = a) : List.lookup y ((a, v) :: l) = List.lookup y l := by
  rw [List.lookup_cons, beq_eq_false_iff_ne.mpr h]
theorem fr_cong {g h : Heap} {L : Addr} {m m' : Str → Option Value} (F : Fr g L h m) (e : ∀ y, m y = m' y) : Fr g L h m' := (funext e : m = m') ▸ F
theorem le_up {a n d k : Nat} (h : a ≤ n) (e : Nat.ble (n + d) k = true) : a + d ≤ k := Nat.le_trans (Nat.add_le_add_right h d) (Nat.le_of_ble_eq_true e)
/-- a cut whose middle is said by its conclusion: what stands there gives P, for every P -/
theorem cutC {α : Type} {M : Model} {A : Around} {t : Sem α} {Q : α → Shared → Prop} {E : Value → Shared → Prop} {s : Shared} (J : (α → Shared → Prop) → Prop) (h : wpAny M A t (fun a s' => ∀ P, J P → P a s') E s) (k : J Q) : wpAny M A t Q E s := wpAny_mono h (fun _ _ x => x Q k) fun _ _ x => x
theorem cut {α : Type} {M : Model} {A : Around} {t : Sem α} {Q : α → Shared → Prop} {E : Value → Shared → Prop} {s : Shared} (J : α → Shared → Prop) (h : wpAny M A t J E s) (k : ∀ a s', J a s' → Q a s') : wpAny M A t Q E s := wpAny_mono h k fun _ _ x => x
noncomputable abbrev bagO (x y z : Int) (tx ty tz : Tok) : Obj := { cls := .type "list", data := .seq #[.int x tx, .int y ty, .int z tz] }
theorem getD0 {a b c d : Int} : [a, b, c].getD (Int.toNat 0) d = a := rfl
theorem getD1 {a b c d : Int} : [a, b, c].getD (Int.toNat 1) d = b := rfl
theorem getD2 {a b c d : Int} : [a, b, c].getD (Int.toNat 2) d = c := rfl
theorem fmod_b {a b : Int} (h : 0 < b) : 0 ≤ a.fmod b ∧ a.fmod b < b := ⟨Int.fmod_nonneg_of_pos a h, Int.fmod_lt_of_pos a h⟩
theorem draw_pow1 {y z : Int} (hy : 0 ≤ y) (hy' : y < 2147483629) (hz : 0 ≤ z) (hz' : z < 1000) : (y + 40961 * (z + 1) + 577).natAbs < 2 ^ 64 := by (first | lia | omega)
theorem draw_pow2 {a z : Int} (hz : 0 ≤ z) (hz' : z < 1000) : (a.fmod 2147483647 + 104729 * (z + 1)).natAbs < 2 ^ 64 := by
  have := @fmod_b a 2147483647 (by decide)
  (first | lia | omega)
end Mine
open Mine
local macro_rules | `(tactic| walk_at $s:str) => `(tactic| k_extra $s)
namespace Mine
theorem lnB1_0 : True := by
  k_with "binaryOp Pow int int" => (with_reducible refine pow_int_small (by decide) (by decide) (by simp only [getD1, getD2]; first | exact draw_pow1 (by assumption) (by assumption) (by assumption) (by assumption) | exact draw_pow2 (by assumption) (by assumption)) ?_)
  trivial
theorem draw_spec {w : World} {A : Around} {s : Shared} {h₀ : Heap} {L : Addr} {m : Str → Option Value} {b : Addr} {x y z many : Int} {tx ty tz tm : Tok} {Q E : Value → Shared → Prop}
    (C : Cx w A h₀ L s.heap m) (N : News h₀ L s.heap [(b, bagO x y z tx ty tz)]) (hd : A.depth ≤ 400) (hu : A.units ≤ 400)
    (hx : 0 ≤ x) (hy : 0 ≤ y) (hy' : y < 2147483629) (hz : 0 ≤ z) (hz' : z < 1000) (hm : 0 < many) (hm' : many < 1000)
    (ret : ∀ (d x' z' : Int) (td tx' ty' tz' : Tok) (h' : Heap) (tk' : Tok), Fr h₀ L h' m → News h₀ L h' [(b, bagO x' y z' tx' ty' tz')] → Kept s.heap [b] h' →
      0 ≤ d → d < many → 0 ≤ x' → 0 ≤ z' → z' ≤ z + 1 → Q (.int d td) { s with heap := h', toks := tk' }) :
    wpAny (model PySem.Challenge.rw_sq0044_01.row.prog w) A (call (.ref 477) [.ref b, .int many tm]) Q E s := by
  refine wpAny_call ?_
  refine Cx.form_ C ?_; intro dp un gd env0 outer0 eA9; subst eA9; (try dsimp only at hd); (try dsimp only at hu); k_dflt (refine' enter (binds := [(Str.ofString "bag", .ref b), (Str.ofString "many", .int many tm)]) ?k1 ?k2 ?k6 ?k7 ?k8 ?k9 ?kB ?_ ?c2 ?c3 ?c4 ?c5; (case k1 => assumption); (case k2 => assumption); (case k6 => k_is); (case k7 => k_is); (case k8 => (first | exact le_up (d := 1) hd rfl | exact le_up (d := 2) hd rfl | (simp only [depth_under_make, depth_under_kw, recursionLimit]; (first | lia | omega)))); (case k9 => first | exact BindsTo.of_eq rfl | exact binds_K (Cx.inK (by assumption)) rfl (by k_is) rfl rfl rfl); (case c5 => decide); (case kB => exact locs rfl); (case c2 => exact rfl); (case c3 => exact rfl); (case c4 => exact rfl)); intro base outer p loose mean mg mb g L' hB1 FG F NB G B X T hh; obtain rfl : env0 :: outer0 = outer := Option.some.inj B.stack; (try dsimp only); (try k_fold)
  k_steps
  all_goals ((try dsimp only); (try k_unfold); (try dsimp only); (with_reducible rename Fr _ _ _ _ => cF); (with_reducible rename News _ _ _ _ => cN); refine leaveK_ cF cN ?_; intro kF kN; (try dsimp only [InitBack]); (try refine ⟨rfl, ?_⟩); (try dsimp only))
  · simp only [getD0, getD1, getD2] at *
    exact ret _ _ _ _ _ _ _ _ _ kF kN (fun b o e n => cF.keep b o (G b o e n)) (fmod_b hm).1 (fmod_b hm).2 (Int.fdiv_nonneg hx (by (first | lia | omega))) hz (by (first | lia | omega))
  · simp only [getD0, getD1, getD2] at *
    exact ret _ _ _ _ _ _ _ _ _ kF kN (fun b o e n => cF.keep b o (G b o e n)) (fmod_b hm).1 (fmod_b hm).2 hx (by (first | lia | omega)) (by (first | lia | omega))
/-- arguments that are read at sight: names of the frame, constants -/
inductive ArgsV (ev : Env) (m : Str → Option Value) : Tok → List Expr → List Value → Tok → Prop
  | nil {t : Tok} : ArgsV ev m t [] [] t
  | loc {t t' : Tok} {x : Str} {pos : Pos} {v : Value} {es : List Expr} {vs : List Value} : m x = some v → ev.kindOf x = some .local → (x == ("__debug__" : Str)) = false → ArgsV ev m t es vs t' → ArgsV ev m t (.Name x pos :: es) (v :: vs) t'
  | int {t t' : Tok} {i : Int} {k : Nat} {pos : Pos} {es : List Expr} {vs : List Value} : ArgsV ev m (t + 1) es vs t' → ArgsV ev m t (.Constant (.int i) k pos :: es) (.int i t :: vs) t'
  | bool {t t' : Tok} {b : Bool} {k : Nat} {pos : Pos} {es : List Expr} {vs : List Value} : ArgsV ev m t es vs t' → ArgsV ev m t (.Constant (.bool b) k pos :: es) (.bool b :: vs) t'
  | none {t t' : Tok} {k : Nat} {pos : Pos} {es : List Expr} {vs : List Value} : ArgsV ev m t es vs t' → ArgsV ev m t (.Constant .none k pos :: es) (.none :: vs) t'
section
variable {M : Model} {A : Around} {E : Value → Shared → Prop} {s : Shared} {name : Str} {scope : Scope} {L a : Addr} {cd : Value} {h₀ : Heap} {m : Str → Option Value}
theorem args_read {es : List Expr} {vs : List Value} {t t' : Tok} {pos : Pos} (hk : scope.kind = .function) (ha : ArgsV (envOf name scope L a cd) m t es vs t') : ∀ {s : Shared} {Q : List Value → Shared → Prop}, s.toks = t → Fr h₀ L s.heap m → Q vs { s with toks := t' } → wpAny M A (spliced (backTo pos (starEach es (envOf name scope L a cd)))) Q E s := by
  induction ha with
  | nil => intro s Q e F h; subst e; exact args_nil h
  | loc hv hl hd _ ih => intro s Q e F h; exact args_cons (ld F hv (ih e F h) hk hl hd)
  | int _ ih => intro s Q e F h; subst e; exact args_cons (wpAny_Constant_int (ih rfl F h))
  | bool _ ih => intro s Q e F h; exact args_cons (wpAny_Constant_bool (ih e F h))
  | none _ ih => intro s Q e F h; exact args_cons (wpAny_Constant_none (ih e F h))
theorem args_any {ev : Env} {es : List Expr} {vs : List Value} {t t' : Tok} {pos : Pos} (ha : ArgsV ev m t es vs t') : (backTo pos (starEach es ev)).any (·.1) = false := by
  induction ha with
  | nil => rfl
  | loc _ _ _ _ ih => exact ih
  | int _ ih => exact ih
  | bool _ ih => exact ih
  | none _ ih => exact ih
theorem call_named {K : Frag} {p : Program} {loose : List Str} {mean : ExcName → Option Value} {mg mb : Str → Option Value} {f : Addr} {x : Str} {px pos : Pos} {es : List Expr} {vs : List Value} {t' : Tok} {Q : Value → Shared → Prop}
    (F : Fr h₀ L s.heap m) (X : K.In h₀) (T : Top p loose mean mg mb h₀) (e : nsIn K mainGlobals x = some (some (.ref f))) (hf : keepIn K (.ref f) = true)
    (ha : ArgsV (envOf name scope L a cd) m s.toks es vs t') (h : wpAny M A (call (.ref f) vs) Q E { s with toks := t' })
    (hk : scope.kind = .function := by rfl) (hx : (envOf name scope L a cd).kindOf x = some .globalImplicit := by rfl) (hd : (x == ("__debug__" : Str)) = false := by decide) :
    wpAny M A (eval (.Call (.Name x px) es [] pos) (envOf name scope L a cd)) Q E s := by
  refine Call_ (nameX_K F X (topRead_of T) e ?_ hk hx hd)
  cases ha with
  | nil => exact callWith_K0 (X.keeps F.keep) hf h
  | loc hv hl hd r => exact callWith_K X hf (args_read hk (.loc hv hl hd r) rfl F ⟨X.keeps F.keep, h⟩) rfl (args_any r)
  | int r => exact callWith_K X hf (args_read hk (.int r) rfl F ⟨X.keeps F.keep, h⟩) rfl (args_any r)
  | bool r => exact callWith_K X hf (args_read hk (.bool r) rfl F ⟨X.keeps F.keep, h⟩) rfl (args_any r)
  | none r => exact callWith_K X hf (args_read hk (.none r) rfl F ⟨X.keeps F.keep, h⟩) rfl (args_any r)
end
theorem toks_gen {M : Model} {A : Around} {α : Type} {x : Sem α} {Q : α → Shared → Prop} {E : Value → Shared → Prop} {hp : Heap} {g : Array GenState} {d : Drawn} {t0 : Tok} {o : OsState} (h : ∀ t, wpAny M A x Q E ⟨hp, g, d, t, o⟩) : wpAny M A x Q E ⟨hp, g, d, t0 + 1, o⟩ := h _
end Mine
theorem Mine.fresh_B2 : True := by w_top off; k_with_none; trivial
namespace Mine
theorem fill_once2 (P : Params) : Mine.kk.heap_1 P = Mine.kk.heap_1 P ∧ PySem.Challenge.rw_sq0044_01 = PySem.Challenge.rw_sq0044_01 := by
  k_fill
  exact ⟨rfl, rfl⟩
theorem ownB2_0 : True := by
  k_with "own k_room" => ((try simp only [depth_under_make, depth_under_kw, depth_in1, depth_deeper, recursionLimit]); (first | lia | omega))
  trivial
end Mine
open Mine
local macro_rules | `(tactic| k_room) => `(tactic| k_extra "own k_room")
namespace Mine
theorem is_whole_spec {w : World} {A : Around} {s : Shared} {h₀ : Heap} {L : Addr} {m : Str → Option Value} {v lo hi : Int} {tv tl th : Tok} {Q E : Value → Shared → Prop}
    (C : Cx w A h₀ L s.heap m) (hd : A.depth ≤ 400)
    (ret : ∀ (h' : Heap) (tk' : Tok), Fr h₀ L h' m → Kept s.heap [] h' → Q (.bool (decide (lo ≤ v) && decide (v ≤ hi))) { s with heap := h', toks := tk' }) :
    wpAny (model PySem.Challenge.rw_sq0044_01.row.prog w) A (call (.ref 109) [.int v tv, .int lo tl, .int hi th]) Q E s := by
  refine wpAny_call ?_
  have N0 : News h₀ L s.heap [] := News.nil
  refine Cx.form_ C ?_; intro dp un gd env0 outer0 eA9; subst eA9; (try dsimp only at hd); (try dsimp only at hu); k_dflt (refine' enter (binds := [(Str.ofString "value", .int v tv), (Str.ofString "low", .int lo tl), (Str.ofString "high", .int hi th)]) ?k1 ?k2 ?k6 ?k7 ?k8 ?k9 ?kB ?_ ?c2 ?c3 ?c4 ?c5; (case k1 => assumption); (case k2 => assumption); (case k6 => k_is); (case k7 => k_is); (case k8 => (first | exact le_up (d := 1) hd rfl | exact le_up (d := 2) hd rfl | (simp only [depth_under_make, depth_under_kw, recursionLimit]; (first | lia | omega)))); (case k9 => first | exact BindsTo.of_eq rfl | exact binds_K (Cx.inK (by assumption)) rfl (by k_is) rfl rfl rfl); (case c5 => decide); (case kB => exact locs rfl); (case c2 => exact rfl); (case c3 => exact rfl); (case c4 => exact rfl)); intro base outer p loose mean mg mb g L' hB1 FG F NB G B X T hh; obtain rfl : env0 :: outer0 = outer := Option.some.inj B.stack; (try dsimp only); (try k_fold)
  repeat' (first | (k_unfold; (try dsimp only)) | (dsimp only; k_unfold; (try dsimp only)) | ((fail_if_success (with_reducible show Exists _)); (fail_if_success (with_reducible show LeaveK h₀ L m g _ _ _)); first | walk1 | (dsimp only; (fail_if_success (with_reducible show Exists _)); (fail_if_success (with_reducible show LeaveK h₀ L m g _ _ _)); walk1)))
  all_goals ((try dsimp only); (try k_unfold); (try dsimp only); (with_reducible rename Fr _ _ _ _ => cF); (with_reducible rename News _ _ _ _ => cN); refine leaveK_ cF cN ?_; intro kF kN; (try dsimp only [InitBack]); (try refine ⟨rfl, ?_⟩); (try dsimp only))
  all_goals (have hq := fun tk => ret _ tk kF (fun b o e _ => cF.keep b o (G b o e (by simp))))
  all_goals (simp only [*, decide_true, decide_false, Bool.true_and, Bool.false_and] at hq ⊢; exact hq _)
theorem check_code_spec {w : World} {A : Around} {s : Shared} {h₀ : Heap} {L : Addr} {m : Str → Option Value} {c : Int} {tc : Tok} {Q E : Value → Shared → Prop}
    (C : Cx w A h₀ L s.heap m) (hd : A.depth ≤ 380) (h0 : 0 ≤ c) (h1 : c ≤ 255)
    (ret : ∀ (h' : Heap) (tk' : Tok), Fr h₀ L h' m → Kept s.heap [] h' → Q (.int c tc) { s with heap := h', toks := tk' }) :
    wpAny (model PySem.Challenge.rw_sq0044_01.row.prog w) A (call (.ref 298) [.int c tc]) Q E s := by
  refine wpAny_call ?_
  have N0 : News h₀ L s.heap [] := News.nil
  refine Cx.form_ C ?_; intro dp un gd env0 outer0 eA9; subst eA9; (try dsimp only at hd); (try dsimp only at hu); k_dflt (refine' enter (binds := [(Str.ofString "code", .int c tc)]) ?k1 ?k2 ?k6 ?k7 ?k8 ?k9 ?kB ?_ ?c2 ?c3 ?c4 ?c5; (case k1 => assumption); (case k2 => assumption); (case k6 => k_is); (case k7 => k_is); (case k8 => (first | exact le_up (d := 1) hd rfl | exact le_up (d := 2) hd rfl | (simp only [depth_under_make, depth_under_kw, recursionLimit]; (first | lia | omega)))); (case k9 => first | exact BindsTo.of_eq rfl | exact binds_K (Cx.inK (by assumption)) rfl (by k_is) rfl rfl rfl); (case c5 => decide); (case kB => exact locs rfl); (case c2 => exact rfl); (case c3 => exact rfl); (case c4 => exact rfl)); intro base outer p loose mean mg mb g L' hB1 FG F NB G B X T hh; obtain rfl : env0 :: outer0 = outer := Option.some.inj B.stack; (try dsimp only); (try k_fold)
  k_with "call ref" => (refine is_whole_spec (Cx.deeper (by k_asm) (by k_asm) (by k_asm) (by k_asm) (by k_asm) rfl) (by first | exact le_up (d := 1) hd rfl | (simp only [depth_deeper]; (first | lia | omega))) ?_; intro hw tkw Fw Kw; have Nw := news_keep0 (by k_asm) Kw; (try k_sweep))
  repeat' (first | (k_unfold; (try dsimp only)) | (dsimp only; k_unfold; (try dsimp only)) | ((fail_if_success (with_reducible show Exists _)); (fail_if_success (with_reducible show LeaveK h₀ L m g _ _ _)); first | walk1 | (dsimp only; (fail_if_success (with_reducible show Exists _)); (fail_if_success (with_reducible show LeaveK h₀ L m g _ _ _)); walk1)))
  ((try dsimp only); (try k_unfold); (try dsimp only); (with_reducible rename Fr _ _ _ _ => cF); (with_reducible rename News _ _ _ _ => cN); refine leaveK_ cF cN ?_; intro kF kN; (try dsimp only [InitBack]); (try refine ⟨rfl, ?_⟩); (try dsimp only))
  exact ret _ _ kF (fun b o e _ => cF.keep b o (G b o e (by simp)))
noncomputable abbrev charD (w : World) (t1 t2 : Tok) (vf vc : Value) : Obj := dictOf [⟨PyData.keyHash w.params (Str.ofString "font"), .str (Str.ofString "font") t1, vf⟩, ⟨PyData.keyHash w.params (Str.ofString "code"), .str (Str.ofString "code") t2, vc⟩] 2
theorem char_spec {w : World} {A : Around} {s : Shared} {h₀ : Heap} {L : Addr} {m : Str → Option Value} {vf : Value} {c : Int} {tc : Tok} {Q E : Value → Shared → Prop}
    (C : Cx w A h₀ L s.heap m) (hd : A.depth ≤ 360) (h0 : 0 ≤ c) (h1 : c ≤ 255)
    (ret : ∀ (x dx : Addr) (t1 t2 : Tok) (h' : Heap) (tk' : Tok), s.heap.get? x = none → s.heap.get? dx = none → dx < x → Fr h₀ L h' m → News h₀ L h' [(x, instObj 315 dx), (dx, charD w t1 t2 vf (.int c tc))] → Kept s.heap [] h' → Q (.ref x) { s with heap := h', toks := tk' }) :
    wpAny (model PySem.Challenge.rw_sq0044_01.row.prog w) A (call (.ref 315) [vf, .int c tc]) Q E s := by
  refine Cx.form_ C ?_; intro dp un gd env0 outer0 eA9; subst eA9; (try dsimp only at hd); (try dsimp only at hu); k_dflt (refine' callC C ?k4 ?k5 ?k6 ?_; (case k4 => k_is); (case k5 => k_is); (case k6 => k_is))
  intro x dx h2 C2 N2 k2 hx hdx l2
  replace l2 := ltN l2
  k_dflt (refine' enter (binds := [(Str.ofString "self", .ref x), (Str.ofString "font", vf), (Str.ofString "code", .int c tc)]) ?k1 ?k2 ?k6 ?k7 ?k8 ?k9 ?kB ?_ ?c2 ?c3 ?c4 ?c5; (case k1 => exact C2); (case k2 => exact N2); (case k6 => k_is); (case k7 => k_is); (case k8 => (first | exact le_up (d := 1) hd rfl | exact le_up (d := 2) hd rfl | (simp only [depth_under_make, depth_under_kw, recursionLimit]; (first | lia | omega)))); (case k9 => first | exact BindsTo.of_eq rfl | exact binds_K (Cx.inK (by exact C2)) rfl (by k_is) rfl rfl rfl); (case c5 => decide); (case kB => exact locs rfl); (case c2 => exact rfl); (case c3 => exact rfl); (case c4 => exact rfl)); intro base outer p loose mean mg mb g L' hB1 FG F NB G B X T hh; obtain rfl : env0 :: outer0 = outer := Option.some.inj B.stack; (try dsimp only); (try k_fold)
  k_with "call ref" => (refine check_code_spec (Cx.deeper (by k_asm) (by k_asm) (by k_asm) (by k_asm) (by k_asm) rfl) (by first | exact le_up (d := 2) hd rfl | (simp only [depth_deeper, depth_under_make]; (first | lia | omega))) h0 h1 ?_; intro hw tkw Fw Kw; have Nw := news_keep0 (by k_asm) Kw; (try k_sweep))
  repeat' (first | (k_unfold; (try dsimp only)) | (dsimp only; k_unfold; (try dsimp only)) | ((fail_if_success (with_reducible show Exists _)); (fail_if_success (with_reducible show LeaveK h₀ L m g _ _ _)); first | walk1 | (dsimp only; (fail_if_success (with_reducible show Exists _)); (fail_if_success (with_reducible show LeaveK h₀ L m g _ _ _)); walk1)))
  ((try dsimp only); (try k_unfold); (try dsimp only); (with_reducible rename Fr _ _ _ _ => cF); (with_reducible rename News _ _ _ _ => cN); refine leaveK_ cF cN ?_; intro kF kN; (try dsimp only [InitBack]); (try refine ⟨rfl, ?_⟩); (try dsimp only))
  exact ret x dx _ _ _ _ hx hdx l2 kF kN (kept_made k2 hx hdx G cF.keep)
noncomputable abbrev ligD (w : World) (t1 t2 t3 t4 t5 : Tok) (vf vc vp vl vr : Value) : Obj := dictOf [⟨PyData.keyHash w.params (Str.ofString "font"), .str (Str.ofString "font") t1, vf⟩, ⟨PyData.keyHash w.params (Str.ofString "code"), .str (Str.ofString "code") t2, vc⟩,
  ⟨PyData.keyHash w.params (Str.ofString "parts"), .str (Str.ofString "parts") t3, vp⟩, ⟨PyData.keyHash w.params (Str.ofString "left"), .str (Str.ofString "left") t4, vl⟩, ⟨PyData.keyHash w.params (Str.ofString "right"), .str (Str.ofString "right") t5, vr⟩] 5
noncomputable abbrev kernD (w : World) (t1 t2 : Tok) (vw vs : Value) : Obj := dictOf [⟨PyData.keyHash w.params (Str.ofString "width"), .str (Str.ofString "width") t1, vw⟩, ⟨PyData.keyHash w.params (Str.ofString "sort"), .str (Str.ofString "sort") t2, vs⟩] 2
theorem check_dimen_spec {w : World} {A : Around} {s : Shared} {h₀ : Heap} {L : Addr} {m : Str → Option Value} {c : Int} {tc : Tok} {Q E : Value → Shared → Prop}
    (C : Cx w A h₀ L s.heap m) (hd : A.depth ≤ 380) (h0 : -1073741823 ≤ c) (h1 : c ≤ 1073741823)
    (ret : ∀ (h' : Heap) (tk' : Tok), Fr h₀ L h' m → Kept s.heap [] h' → Q (.int c tc) { s with heap := h', toks := tk' }) :
    wpAny (model PySem.Challenge.rw_sq0044_01.row.prog w) A (call (.ref 123) [.int c tc]) Q E s := by
  refine wpAny_call ?_
  have N0 : News h₀ L s.heap [] := News.nil
  refine Cx.form_ C ?_; intro dp un gd env0 outer0 eA9; subst eA9; (try dsimp only at hd); (try dsimp only at hu); k_dflt (refine' enter (binds := [(Str.ofString "value", .int c tc)]) ?k1 ?k2 ?k6 ?k7 ?k8 ?k9 ?kB ?_ ?c2 ?c3 ?c4 ?c5; (case k1 => assumption); (case k2 => assumption); (case k6 => k_is); (case k7 => k_is); (case k8 => (first | exact le_up (d := 1) hd rfl | exact le_up (d := 2) hd rfl | (simp only [depth_under_make, depth_under_kw, recursionLimit]; (first | lia | omega)))); (case k9 => first | exact BindsTo.of_eq rfl | exact binds_K (Cx.inK (by assumption)) rfl (by k_is) rfl rfl rfl); (case c5 => decide); (case kB => exact locs rfl); (case c2 => exact rfl); (case c3 => exact rfl); (case c4 => exact rfl)); intro base outer p loose mean mg mb g L' hB1 FG F NB G B X T hh; obtain rfl : env0 :: outer0 = outer := Option.some.inj B.stack; (try dsimp only); (try k_fold)
  repeat' (first | (k_unfold; (try dsimp only)) | (dsimp only; k_unfold; (try dsimp only)) | ((fail_if_success (with_reducible show Exists _)); (fail_if_success (with_reducible show LeaveK h₀ L m g _ _ _)); first | walk1 | (dsimp only; (fail_if_success (with_reducible show Exists _)); (fail_if_success (with_reducible show LeaveK h₀ L m g _ _ _)); walk1)))
  ((try dsimp only); (try k_unfold); (try dsimp only); (with_reducible rename Fr _ _ _ _ => cF); (with_reducible rename News _ _ _ _ => cN); refine leaveK_ cF cN ?_; intro kF kN; (try dsimp only [InitBack]); (try refine ⟨rfl, ?_⟩); (try dsimp only))
  exact ret _ _ kF (fun b o e _ => cF.keep b o (G b o e (by simp)))
theorem kern_spec {w : World} {A : Around} {s : Shared} {h₀ : Heap} {L : Addr} {m : Str → Option Value} {c : Int} {tc ts : Tok} {Q E : Value → Shared → Prop}
    (C : Cx w A h₀ L s.heap m) (hd : A.depth ≤ 360) (h0 : -1073741823 ≤ c) (h1 : c ≤ 1073741823)
    (ret : ∀ (x dx : Addr) (t1 t2 : Tok) (h' : Heap) (tk' : Tok), s.heap.get? x = none → s.heap.get? dx = none → dx < x → Fr h₀ L h' m → News h₀ L h' [(x, instObj 356 dx), (dx, kernD w t1 t2 (.int c tc) (.int 0 ts))] → Kept s.heap [] h' → Q (.ref x) { s with heap := h', toks := tk' }) :
    wpAny (model PySem.Challenge.rw_sq0044_01.row.prog w) A (call (.ref 356) [.int c tc, .int 0 ts]) Q E s := by
  refine Cx.form_ C ?_; intro dp un gd env0 outer0 eA9; subst eA9; (try dsimp only at hd); (try dsimp only at hu); k_dflt (refine' callC C ?k4 ?k5 ?k6 ?_; (case k4 => k_is); (case k5 => k_is); (case k6 => k_is))
  intro x dx h2 C2 N2 k2 hx hdx l2
  replace l2 := ltN l2
  k_dflt (refine' enter (binds := [(Str.ofString "self", .ref x), (Str.ofString "width", .int c tc), (Str.ofString "sort", .int 0 ts)]) ?k1 ?k2 ?k6 ?k7 ?k8 ?k9 ?kB ?_ ?c2 ?c3 ?c4 ?c5; (case k1 => exact C2); (case k2 => exact N2); (case k6 => k_is); (case k7 => k_is); (case k8 => (first | exact le_up (d := 1) hd rfl | exact le_up (d := 2) hd rfl | (simp only [depth_under_make, depth_under_kw, recursionLimit]; (first | lia | omega)))); (case k9 => first | exact BindsTo.of_eq rfl | exact binds_K (Cx.inK (by exact C2)) rfl (by k_is) rfl rfl rfl); (case c5 => decide); (case kB => exact locs rfl); (case c2 => exact rfl); (case c3 => exact rfl); (case c4 => exact rfl)); intro base outer p loose mean mg mb g L' hB1 FG F NB G B X T hh; obtain rfl : env0 :: outer0 = outer := Option.some.inj B.stack; (try dsimp only); (try k_fold)
  k_with "call ref" => (refine is_whole_spec (Cx.deeper (by k_asm) (by k_asm) (by k_asm) (by k_asm) (by k_asm) rfl) (by first | exact le_up (d := 2) hd rfl | (simp only [depth_deeper, depth_under_make]; (first | lia | omega))) ?_; intro hw tkw Fw Kw; have Nw := news_keep0 (by k_asm) Kw; (try k_sweep))
  k_with "call ref" => (refine check_dimen_spec (Cx.deeper (by k_asm) (by k_asm) (by k_asm) (by k_asm) (by k_asm) rfl) (by first | exact le_up (d := 2) hd rfl | (simp only [depth_deeper, depth_under_make]; (first | lia | omega))) h0 h1 ?_; intro hw tkw Fw Kw; have Nw := news_keep0 (by k_asm) Kw; (try k_sweep))
  repeat' (first | (k_unfold; (try dsimp only)) | (dsimp only; k_unfold; (try dsimp only)) | ((fail_if_success (with_reducible show Exists _)); (fail_if_success (with_reducible show LeaveK h₀ L m g _ _ _)); first | walk1 | (dsimp only; (fail_if_success (with_reducible show Exists _)); (fail_if_success (with_reducible show LeaveK h₀ L m g _ _ _)); walk1)))
  ((try dsimp only); (try k_unfold); (try dsimp only); (with_reducible rename Fr _ _ _ _ => cF); (with_reducible rename News _ _ _ _ => cN); refine leaveK_ cF cN ?_; intro kF kN; (try dsimp only [InitBack]); (try refine ⟨rfl, ?_⟩); (try dsimp only))
  exact ret x dx _ _ _ _ hx hdx l2 kF kN (kept_made k2 hx hdx G cF.keep)
end Mine
theorem Mine.fresh_B3 : True := by w_top off; k_with_none; trivial
namespace Mine
theorem fill_once3 (P : Params) : Mine.kk.heap_1 P = Mine.kk.heap_1 P ∧ PySem.Challenge.rw_sq0044_01 = PySem.Challenge.rw_sq0044_01 := by
  k_fill
  exact ⟨rfl, rfl⟩
theorem ownB3_0 : True := by
  k_with "own k_room" => ((try simp only [depth_under_make, depth_under_kw, depth_in1, depth_deeper, recursionLimit]); (first | lia | omega))
  trivial
theorem lnB3_0 : True := by
  k_with "my sub" => first | exact List.forall_mem_nil _ | (refine' List.forall_mem_cons.mpr ⟨?_, ?_⟩; (· k_mem); (· k_extra "my sub"))
  trivial
open LCg
section
variable {prog : Program} {w : World} {A : Around} {E : Value → Shared → Prop} {s : Shared} {h₀ : Heap} {L : Addr} {m : Str → Option Value} {env : Env}
theorem comp_inv {elt : Expr} {x : Str} {scope : Scope} {cl : List (Str × Addr)} {S : List (Addr × Obj) → Prop} {P : Nat → Value → Prop} {Fin : List Value → List (Addr × Obj) → Prop} {n : Nat} {news : List (Addr × Obj)}
    (J : Nat → List Value → List (Addr × Obj) → Prop)
    (turn : ∀ i ys nw, J i ys nw → ∀ v I oI C oC D m₂ h tk (E' : Value → Shared → Prop), P i v → NsObj oC m₂ → m₂ x = some v → Fr h₀ L h m → News h₀ L h ((I, oI) :: (C, oC) :: (D, lst ys) :: nw) → Off3 I C D nw → ((@Ne Nat I C) ∧ (@Ne Nat I D) ∧ (@Ne Nat C D)) →
      wpAny (model prog w) A (eval elt (compEnvC scope cl C env)) (CompEnd h₀ L m { s with heap := h, toks := tk } I oI C oC D (lst ys) S (fun y nw' => J (i + 1) (ys ++ [y]) nw')) E' { s with heap := h, toks := tk })
    (fin : ∀ ys nw, J n ys nw → Fin ys nw) (start : J 0 [] news) : CompRest prog w A h₀ L m env elt x scope cl s S P Fin n 0 [] news := by
  have key : ∀ k i ys nw, i + k = n → J i ys nw → CompRest prog w A h₀ L m env elt x scope cl s S P Fin k i ys nw := by
    intro k
    induction k with
    | zero =>
      intro i ys nw hi hJ
      have e : i = n := by (first | lia | omega)
      subst e
      exact CompRest.zero (fin ys nw hJ)
    | succ k ih =>
      intro i ys nw hi hJ
      refine CompRest.succ fun v I oI C oC D m₂ h tk E' hP hC hx F N off hne => ?_
      refine wpAny_mono (turn i ys nw hJ v I oI C oC D m₂ h tk E' hP hC hx F N off hne) (fun y s₂ he => ?_) fun _ _ e => e
      obtain ⟨h', tk', nw', e1, e2, e3, e4, e5, e6⟩ := he
      exact ⟨h', tk', nw', e1, e2, e3, e4, e5, ih (i + 1) _ _ (by (first | lia | omega)) e6⟩
  exact key n 0 [] news (by (first | lia | omega)) start
/-- where the element's value changes nothing of the ledger -/
theorem comp_inv0 {elt : Expr} {x : Str} {scope : Scope} {cl : List (Str × Addr)} {S : List (Addr × Obj) → Prop} {P : Nat → Value → Prop} {Fin : List Value → List (Addr × Obj) → Prop} {n : Nat} {news : List (Addr × Obj)}
    (J : Nat → List Value → Prop) (hS : S news)
    (turn : ∀ i ys, J i ys → ∀ v I oI C oC D m₂ h tk (E' : Value → Shared → Prop), P i v → NsObj oC m₂ → m₂ x = some v → Fr h₀ L h m → News h₀ L h ((I, oI) :: (C, oC) :: (D, lst ys) :: news) →
      wpAny (model prog w) A (eval elt (compEnvC scope cl C env)) (fun y s₂ => ∃ h' tk', s₂ = { s with heap := h', toks := tk' } ∧ Fr h₀ L h' m ∧ News h₀ L h' ((I, oI) :: (C, oC) :: (D, lst ys) :: news) ∧ J (i + 1) (ys ++ [y])) E' { s with heap := h, toks := tk })
    (fin : ∀ ys, J n ys → Fin ys news) (start : J 0 []) : CompRest prog w A h₀ L m env elt x scope cl s S P Fin n 0 [] news := by
  refine comp_inv (fun i ys nw => nw = news ∧ J i ys) ?_ (fun ys nw h => h.1 ▸ fin ys h.2) ⟨rfl, start⟩
  rintro i ys nw ⟨rfl, hJ⟩ v I oI C oC D m₂ h tk E' hP hC hx F N off hne
  refine wpAny_mono (turn i ys hJ v I oI C oC D m₂ h tk E' hP hC hx F N) (fun y s₂ he => ?_) fun _ _ e => e
  obtain ⟨h', tk', rfl, F', N', hJ'⟩ := he
  exact ⟨h', tk', _, rfl, F', N', off, hS, rfl, hJ'⟩
theorem ListComp_tup {elt iter : Expr} {x : Str} {px : Pos} {scope : Scope} {cl : List (Str × Addr)} {pos : Pos} {Q : Value → Shared → Prop} (_F₀ : Fr h₀ L s.heap m)
    (hclos : closureFor scope env = pure cl) (hcell : ∀ y ∈ scope.names, y.2 ≠ .cell) (hkind : scope.kind = .function)
    (hnames : ∀ y ∈ scope.names, y.2 = .local → scope.names.lookup y.1 = some .local) (hx : scope.names.lookup x = some .local)
    (h : wpAny (model prog w) A (eval iter env) (fun xv s₁ => ∃ ax its news, xv = .ref ax ∧ A.handled = none ∧ Fr h₀ L s₁.heap m ∧ News h₀ L s₁.heap news ∧ h₀.IsTuple ax its ∧ its.size ≤ sizeLine ∧
      ∀ g, CompRest prog w A h₀ L m env elt x scope cl { s₁ with heap := g } (fun _ => True) (fun i v => its[i]? = some v) (FinE h₀ L m { s₁ with heap := g } Q) its.size 0 [] news) E s)
    (hs : ∀ x, foldedSetIterable iter env x = pure x := by intro _; rfl) :
    wpAny (model prog w) A (eval (.ListComp elt [⟨.Name x px, iter, [], 0⟩] scope pos) env) Q E s := by
  rw [eval_ListComp]
  refine wpAny_comprehension_free (use := none) rfl hs hclos hkind hnames (wpAny_mono h (fun xv s₁ h₁ => ?_) fun _ _ e => e)
  obtain ⟨ax, its, news, rfl, hh, F, N, ht, hsz, R⟩ := h₁
  have hl : s₁.heap.IsTuple ax its := ht.at fun o e => F.keep _ _ e
  have hlt : ax < s₁.heap.objs.size := by obtain ⟨_, e, _⟩ := hl; exact Heap.lt_size e
  refine wpAny_pyIter_tuple hl ?_
  have up : ∀ b o, s₁.heap.get? b = some o → (s₁.heap.push { cls := .type "tuple_iterator", data := .fields #[.ref ax, .int 0 0] }).get? b = some o := fun b o e => Heap.get?_push_of_some _ e
  refine block_U (S := fun _ => True) (Walks.tuple hh s₁.heap.objs.size ax (Nat.ne_of_lt hlt) its) hsz (fun i h st => by obtain ⟨o, e, _⟩ := st.1; exact ⟨o, e⟩)
    (fun i h h' o nw st e e' k N _ => ⟨by obtain ⟨o', q, r⟩ := st.1; rw [e] at q; cases q; exact ⟨o, e', r⟩, ht.at fun o e => k _ _ e⟩) hcell hkind hx ⟨⟨_, Heap.get?_push_size _ rfl, rfl, rfl⟩, hl.at fun o e => up _ _ e⟩ (fun b hb => ?_)
    (F.keeps up) (N.grown up) (Nat.ne_of_lt F.ns.lt) (next_is_new F) (fun p hp => Nat.ne_of_lt (Heap.lt_size (N p hp).1)) trivial (R _) ?_
  · show b < (s₁.heap.push _).objs.size
    rw [Heap.size_push]
    rcases List.mem_cons.mp hb with rfl | hb
    · exact Nat.lt_succ_self _
    · rw [List.mem_singleton.mp hb]; exact Nat.lt_succ_of_lt hlt
  · intro D C h tk m' ys news' F' N' o1 hn hC₀ hD₀ hCL hDL hCD offC fin
    refine ⟨m', hn, fun h'' hs'' => fin D h'' tk (F'.change hs'' hCL hC₀) (fun p hp => ?_) o1⟩
    refine ⟨hs''.extBut _ _ ?_ (N' p hp).1, (N' p hp).2⟩
    rcases List.mem_cons.mp hp with rfl | hp
    · exact Ne.symm hCD
    · exact offC p hp
end
noncomputable abbrev tupO (vs : List Value) : Obj := { cls := .type "tuple", data := .seq vs.toArray }
/-- an int of one octet -/
noncomputable def Oct (v : Value) : Prop := ∃ i t, v = .int i t ∧ 0 ≤ i ∧ i ≤ 255
theorem tuple_list_M {prog : Program} {w : World} {A : Around} {E : Value → Shared → Prop} {s : Shared} {h₀ : Heap} {L l : Addr} {m : Str → Option Value} {news : List (Addr × Obj)} {its : List Value} {n : Nat} {Q : Value → Shared → Prop}
    (F : Fr h₀ L s.heap m) (N : News h₀ L s.heap news) (hm : (l, ({ cls := .type "list", data := .seq its.toArray n } : Obj)) ∈ news) (hsz : its.length ≤ 100000)
    (h : ∀ q h', Fr h₀ L h' m → News h₀ L h' ((q, tupO its) :: news) → (∀ p ∈ news, p.1 < q) → Q (.ref q) { s with heap := h' }) : wpAny (model prog w) A (call (.type "tuple") [.ref l]) Q E s := by
  refine call_tuple_list (items := its.toArray) ⟨_, (N _ hm).1, rfl, n, rfl⟩ (fun h' hk => ?_) (by simp [sizeLine_eq]; (first | lia | omega))
  have F' := F.keeps hk
  have N' : News h₀ L h' news := N.grown hk
  exact h _ _ (F'.push _) (N'.push F' _) fun p hp => Heap.lt_size (N' p hp).1
theorem lnB3_1 : True := by
  k_with "call type:tuple" => (k_here; (with_reducible show wpAny _ _ (call (Value.type _) [Value.ref _]) _ _ _); k_dflt (refine tuple_list_M (by k_asm) (by k_asm) (by k_mem) (by (first | lia | omega)) ?_); intro _ _ _ _ lz9; (try k_lt lz9); (try k_sweep))
  trivial
theorem lig_spec {w : World} {A : Around} {s : Shared} {h₀ : Heap} {L : Addr} {m : Str → Option Value} {vf : Value} {c : Int} {tc : Tok} {tp : Addr} {its : List Value} {l r : Bool} {Q E : Value → Shared → Prop}
    (C : Cx w A h₀ L s.heap m) (hd : A.depth ≤ 360) (h0 : 0 ≤ c) (h1 : c ≤ 255) (ht : s.heap.IsTuple tp its.toArray) (hi : ∀ v ∈ its, Oct v) (hsz : its.length ≤ 1000)
    (ret : ∀ (x dx tq : Addr) (t1 t2 t3 t4 t5 : Tok) (h' : Heap) (tk' : Tok), s.heap.get? x = none → s.heap.get? dx = none → s.heap.get? tq = none → dx < x → tq ≠ x → tq ≠ dx →
      Fr h₀ L h' m → News h₀ L h' [(x, instObj 335 dx), (dx, ligD w t1 t2 t3 t4 t5 vf (.int c tc) (.ref tq) (.bool l) (.bool r)), (tq, tupO its)] → Kept s.heap [] h' → Q (.ref x) { s with heap := h', toks := tk' }) :
    wpAny (model PySem.Challenge.rw_sq0044_01.row.prog w) A (call (.ref 335) [vf, .int c tc, .ref tp, .bool l, .bool r]) Q E s := by
  refine Cx.form_ C ?_; intro dp un gd env0 outer0 eA9; subst eA9; (try dsimp only at hd); (try dsimp only at hu); k_dflt (refine' callC C ?k4 ?k5 ?k6 ?_; (case k4 => k_is); (case k5 => k_is); (case k6 => k_is))
  intro x dx h2 C2 N2 k2 hx hdx l2
  replace l2 := ltN l2
  k_dflt (refine' enter (binds := [(Str.ofString "self", .ref x), (Str.ofString "font", vf), (Str.ofString "code", .int c tc), (Str.ofString "parts", .ref tp), (Str.ofString "left", .bool l), (Str.ofString "right", .bool r)]) ?k1 ?k2 ?k6 ?k7 ?k8 ?k9 ?kB ?_ ?c2 ?c3 ?c4 ?c5; (case k1 => exact C2); (case k2 => exact N2); (case k6 => k_is); (case k7 => k_is); (case k8 => (first | exact le_up (d := 1) hd rfl | exact le_up (d := 2) hd rfl | (simp only [depth_under_make, depth_under_kw, recursionLimit]; (first | lia | omega)))); (case k9 => first | exact BindsTo.of_eq rfl | exact binds_K (Cx.inK (by exact C2)) rfl (by k_is) rfl rfl rfl); (case c5 => decide); (case kB => exact locs rfl); (case c2 => exact rfl); (case c3 => exact rfl); (case c4 => exact rfl)); intro base outer p loose mean mg mb g L' hB1 FG F NB G B X T hh; obtain rfl : env0 :: outer0 = outer := Option.some.inj B.stack; (try dsimp only); (try k_fold)
  have htg : g.IsTuple tp its.toArray := ht.at fun o e => G _ _ (k2 _ _ e) (fun q => by
    simp only [List.map_cons, List.map_nil, List.mem_cons, List.not_mem_nil, or_false] at q
    rcases q with q | q
    · rw [q, hx] at e; cases e
    · rw [q, hdx] at e; cases e)
  k_with "call ref" => (refine check_code_spec (Cx.deeper (by k_asm) (by k_asm) (by k_asm) (by k_asm) (by k_asm) rfl) (by first | exact le_up (d := 2) hd rfl | (simp only [depth_deeper, depth_under_make]; (first | lia | omega))) h0 h1 ?_; intro hw tkw Fw Kw; have Nw := news_keep0 (by k_asm) Kw; (try k_sweep))
  repeat' ((fail_if_success (with_reducible show wpAny _ _ (eval (Expr.ListComp _ _ _ _) _) _ _ _)); first | (k_unfold; (try dsimp only)) | (dsimp only; k_unfold; (try dsimp only)) | ((fail_if_success (with_reducible show Exists _)); (fail_if_success (with_reducible show LeaveK h₀ L m g _ _ _)); first | walk1 | (dsimp only; (fail_if_success (with_reducible show Exists _)); (fail_if_success (with_reducible show LeaveK h₀ L m g _ _ _)); walk1)))
  (with_reducible rename Fr _ _ _ _ => F1)
  refine ListComp_tup F1 (cl := []) rfl (by decide) rfl (by decide) rfl ?_
  walk1
  (with_reducible rename News _ _ _ _ => N1)
  refine ⟨tp, its.toArray, _, rfl, rfl, F1, N1, htg, by simp [sizeLine_eq]; (first | lia | omega), fun g2 => ?_⟩
  refine comp_inv0 (fun i ys => ys = its.take i) trivial ?_ ?_ rfl
  · intro i ys hJ v I oI C oC D m₂ hA1 tkA E' hP hC hx' FA NA
    clear F1 N1
    have hP' : its[i]? = some v := by simpa using hP
    obtain ⟨iv, it, rfl, i0, i1⟩ := hi v (List.mem_of_getElem? hP')
    k_with "call ref" => (refine check_code_spec (Cx.deeper (by k_asm) (by k_asm) (by k_asm) (by k_asm) (by k_asm) rfl) (by first | exact le_up (d := 2) hd rfl | (simp only [depth_deeper, depth_under_make]; (first | lia | omega))) i0 i1 ?_; intro hw tkw Fw Kw; have Nw := news_keep0 (by k_asm) Kw; (try k_sweep))
    repeat' (first | (k_unfold; (try dsimp only)) | (dsimp only; k_unfold; (try dsimp only)) | ((fail_if_success (with_reducible show Exists _)); (fail_if_success (with_reducible show LeaveK h₀ L m g _ _ _)); first | walk1 | (dsimp only; (fail_if_success (with_reducible show Exists _)); (fail_if_success (with_reducible show LeaveK h₀ L m g _ _ _)); walk1)))
    refine ⟨_, _, rfl, Fw, Nw, ?_⟩
    rw [hJ, List.take_add_one, hP']; rfl
  · intro ys hJ D hA2 tk2 F2 N2 o2
    rw [hJ] at N2
    simp only [List.size_toArray, List.take_length] at N2
    simp only [Off1, and_true] at o2
    clear F1 N1
    repeat' (first | (k_unfold; (try dsimp only)) | (dsimp only; k_unfold; (try dsimp only)) | ((fail_if_success (with_reducible show Exists _)); (fail_if_success (with_reducible show LeaveK h₀ L m g _ _ _)); first | walk1 | (dsimp only; (fail_if_success (with_reducible show Exists _)); (fail_if_success (with_reducible show LeaveK h₀ L m g _ _ _)); walk1)))
    ((try dsimp only); (try k_unfold); (try dsimp only); (with_reducible rename Fr _ _ _ _ => cF); (with_reducible rename News _ _ _ _ => cN); refine leaveK_ cF cN ?_; intro kF kN; (try dsimp only [InitBack]); (try refine ⟨rfl, ?_⟩); (try dsimp only))
    refine ret x dx _ _ _ _ _ _ _ _ hx hdx ?_ l2 ?_ ?_ kF (news_sub kN (by k_extra "my sub")) (kept_made k2 hx hdx G cF.keep)
    · exact fresh_made k2 G (cN.fresh (.head _)) (by k_ne) (by k_ne)
    · k_ne
    · k_ne
end Mine
theorem Mine.fresh_X1 : True := by w_top off; k_with_none; trivial
namespace Mine
theorem fill_onceX1 (P : Params) : Mine.kk.heap_1 P = Mine.kk.heap_1 P ∧ PySem.Challenge.rw_sq0044_01 = PySem.Challenge.rw_sq0044_01 := by
  k_fill
  exact ⟨rfl, rfl⟩
/-- the own class's line of bases -/
noncomputable def exBm : List Value := [.ref 39, .type "ValueError", .type "Exception", .type "BaseException", .type "object"]
theorem ex_obj (P : Params) : ∃ o, (Mine.kk.heap_1 P).lookup 100 = some o ∧ ∃ nm qn N bs sn sub ab col dd k0 k1 k2 k3 k5, o = excClassObj nm qn 100 N bs exBm true sn sub ab col dd k0 k1 k2 k3 k5 "ValueError.__new__" :=
  ⟨_, by k_is, _, _, _, _, _, _, _, _, _, _, _, _, _, _, rfl⟩
section
variable {prog : Program} {w : World} {A : Around} {E : Value → Shared → Prop} {R : Result → Shared → Prop} {h : Heap} {g : Array GenState} {d : Drawn} {t : Nat} {os : OsState}
variable {nm q : Str} {C N : Addr} {bs : List Value} {hdct : Bool} {sn : List Str} {sub : List Value} {ab : Bool} {col : Option Bool} {dd : Option Addr} {k0 k1 k2 k3 k5 : Option Value}
noncomputable abbrev exObj (C t : Addr) : Obj := { cls := .ref C, data := .fields #[.ref t, .none, .none, .none, .bool false, .none] }
theorem ex_check {M : Model} {rest : List Value} {Q : Unit → Shared → Prop} (hC : h.get? C = some (excClassObj nm q C N bs exBm hdct sn sub ab col dd k0 k1 k2 k3 k5 "ValueError.__new__"))
    (hq : Q () ⟨h, g, d, t, os⟩) : wpAny M A (checkBuiltinCall "ValueError.__new__" ⟨.ref C :: rest, []⟩) Q E ⟨h, g, d, t, os⟩ := by
  have F := F.excBase_ValueError
  have hcont : (Value.ref C :: exBm).contains (.type "ValueError") = true := by rw [List.contains_cons, show exBm.contains (.type "ValueError") = true by decide +kernel, Bool.or_true]
  have hstar := F.noStar
  simp only [checkBuiltinCall, F.newKind, F.newSplit, F.newRow]
  repeat (first | refine wpAny_loadPart_at hC ?_ | (refine wpAny_isSubtype_exc hC ?_; rw [hcont]) | refine wpAny_staticBase_exc hC ?_ | refine wpAny_madeBy_exc hC ?_ | simp only [bne_self_eq_false, Bool.false_eq_true, if_false] | wp_step)
  exact hq
theorem ex_new {rest : List Value} (hC : h.get? C = some (excClassObj nm q C N bs exBm hdct sn sub ab col dd k0 k1 k2 k3 k5 "ValueError.__new__"))
    (hq : R (.ok (.ret (.ref (h.objs.size + 1)))) ⟨(h.push { cls := .type "tuple", data := .seq rest.toArray }).push (exObj C h.objs.size), g, d, t, os⟩) (hrest : rest.length ≤ sizeLine) :
    codeAny (model prog w) A (.builtin "ValueError.__new__" ⟨.ref C :: rest, []⟩) R ⟨h, g, d, t, os⟩ := by
  have F := F.excBase_ValueError
  have hends := F.ends
  have hcB : (Value.ref C :: exBm).contains (.type "ValueError") = true := by rw [List.contains_cons, show exBm.contains (.type "ValueError") = true by decide +kernel, Bool.or_true]
  have hcA : (Value.ref C :: exBm).contains (.type "AttributeError") = false := by rw [List.contains_cons, show exBm.contains (.type "AttributeError") = false by decide +kernel]; rfl
  have hcN : (Value.ref C :: exBm).contains (.type "NameError") = false := by rw [List.contains_cons, show exBm.contains (.type "NameError") = false by decide +kernel]; rfl
  refine codeAny_builtinAt F.entry ?_
  unfold Builtin.«BaseException.__new__»
  refine PySem.wpAt_bind ?_
  show PySem.wpAt _ _ _ (stack >>= _) _ _ _
  refine PySem.wpAt_bind (PySem.wpAt_stack fun p below => PySem.wpAt_of_wpAny ?_)
  wp_walk
  refine PySem.wpAt_of_wpAny ?_
  rw [F.owner]
  repeat (first | with_reducible refine wpAny_madeHere_exc F.canon hC ?_ | with_reducible refine wpAny_loadPart_at hC ?_ | (with_reducible refine wpAny_isSubtype_exc hC ?_; first | rw [hcB] | rw [hcA] | rw [hcN]) | wp_step)
  show R _ _
  rw [Heap.size_push]
  exact hq
theorem ex_type_call {rest : List Value} {fI : Addr} {Q : Fin → Shared → Prop} (hC : h.get? C = some (excClassObj nm q C N bs exBm hdct sn sub ab col dd k0 k1 k2 k3 k5 "ValueError.__new__"))
    (hi : Looks (model prog w) h (typeLookup (.ref C) "__init__") (some (.ref fI))) (hb : ∀ self, Looks (model prog w) h (bindSpecial (.ref fI) self) (.ref fI, [self]))
    (hq : wpAny (model prog w) A (call (.ref fI) (.ref (h.objs.size + 1) :: rest)) (fun r s' => r = .none ∧ Q (.done (.ret (.ref (h.objs.size + 1)))) s') E ⟨(h.push { cls := .type "tuple", data := .seq rest.toArray }).push (exObj C h.objs.size), g, d, t, os⟩) (hrest : rest.length ≤ sizeLine) :
    wpAny (model prog w) A (Builtin.«type.__call__» ⟨.ref C :: rest, []⟩) Q E ⟨h, g, d, t, os⟩ := by
  repeat (first | with_reducible refine wpAny_loadPart_at hC ?_ | with_reducible refine wpAny_madeBy_exc hC ?_ | wp_step)
  refine codeAny_call_builtin_code (Code.quiet_builtin _ F.excBase_ValueError.quiet) (ex_check hC ?_)
  refine ex_new hC ?_ hrest
  show wpAny _ _ _ _ _ _
  have k : ∀ b o, h.get? b = some o → ((h.push { cls := .type "tuple", data := .seq rest.toArray }).push (exObj C h.objs.size)).get? b = some o := fun b o e => Heap.get?_push_of_some _ (Heap.get?_push_of_some _ e)
  have hC₁ := k _ _ hC
  have hget : ((h.push { cls := .type "tuple", data := .seq rest.toArray }).push (exObj C h.objs.size)).get? (h.objs.size + 1) = some (exObj C h.objs.size) := by heap_get
  have hcC : (Value.ref C :: exBm).contains (.ref C) = true := by simp
  unfold isInstance
  repeat (first | with_reducible refine wpAny_loadPart_at hget ?_ | (with_reducible refine wpAny_isSubtype_exc hC₁ ?_; rw [hcC]) | wp_step)
  show wpAny _ _ (typeLookup (.ref C) _) _ _ _
  refine (hi.keeps k).at ?_
  refine wpAny_holding (wpAny_bind ?_)
  refine ((hb _).keeps k).at ?_
  refine wpAny_bind (wpAny_mono hq (fun r s' hr => ?_) fun _ _ x => x)
  obtain ⟨rfl, hQ⟩ := hr
  wp_walk
  exact hQ
theorem ex_call {rest : List Value} {fI : Addr} {Q : Value → Shared → Prop} (hC : h.get? C = some (excClassObj nm q C N bs exBm hdct sn sub ab col dd k0 k1 k2 k3 k5 "ValueError.__new__"))
    (hi : Looks (model prog w) h (typeLookup (.ref C) "__init__") (some (.ref fI))) (hb : ∀ self, Looks (model prog w) h (bindSpecial (.ref fI) self) (.ref fI, [self]))
    (hq : wpAny (model prog w) (A.under (.builtin "type.__call__" ⟨.ref C :: rest, []⟩)) (call (.ref fI) (.ref (h.objs.size + 1) :: rest)) (fun r s' => r = .none ∧ Q (.ref (h.objs.size + 1)) s') E ⟨(h.push { cls := .type "tuple", data := .seq rest.toArray }).push (exObj C h.objs.size), g, d, t, os⟩) (hrest : rest.length ≤ sizeLine) :
    wpAny (model prog w) A (call (.ref C) rest) Q E ⟨h, g, d, t, os⟩ := by
  have f1 := tc_lookup
  have f2 := tc_bind (.ref C)
  have hT : (⟨h, g, d, t, os⟩ : Shared).TypeIs (.ref C) "type" := ⟨_, hC, rfl⟩
  refine wpAny_call (codeAny_of_tree ?_)
  show wpAny _ _ (callAny (.ref C) _) _ _ _
  repeat (any_goals (first | assumption | with_reducible refine wpAny_loadPart_at hC ?_ | wp_step))
  refine ⟨rfl, ?_⟩
  exact codeAny_call_builtin_at (Code.quiet_builtin _ (by decide +kernel)) entry_typeCall (wpAny_check_type_call_sub hC (ex_type_call hC hi hb hq hrest))
end
end Mine
theorem Mine.fresh_X2 : True := by w_top off; k_with_none; trivial
open Sem (wp)
open Builtin Builtin.ObjectAttr
namespace Mine
theorem fill_onceX2 (P : Params) : Mine.kk.heap_1 P = Mine.kk.heap_1 P ∧ PySem.Challenge.rw_sq0044_01 = PySem.Challenge.rw_sq0044_01 := by
  k_fill
  exact ⟨rfl, rfl⟩
section
variable {prog : Program} {w : World} {A : Around} {E : Value → Shared → Prop} {R : Result → Shared → Prop} {h : Heap} {g : Array GenState} {d : Drawn} {t : Nat} {os : OsState}
variable {nm q : Str} {C N x ta : Addr} {bs : List Value} {sn : List Str} {sub : List Value} {ab : Bool} {col : Option Bool} {dd : Option Addr} {k0 k1 k2 k3 k5 : Option Value} {name : Str} {v : Value}
theorem ex_check_sa {M : Model} {o : Obj} {nameV : Value} {Q : Unit → Shared → Prop}
    (hC : h.get? C = some (excClassObj nm q C N bs exBm true sn sub ab col dd k0 k1 k2 k3 k5 "ValueError.__new__")) (hx : h.get? x = some o) (hc : o.cls = .ref C) (hq : Q () ⟨h, g, d, t, os⟩) :
    wpAny M A (checkBuiltinCall "object.__setattr__" ⟨[.ref x, nameV, v], []⟩) Q E ⟨h, g, d, t, os⟩ := by
  have SF := F.store_ValueError
  have hcB : (Value.ref C :: exBm).contains (.type "object") = true := by rw [List.contains_cons, show exBm.contains (.type "object") = true by decide +kernel, Bool.or_true]
  simp only [checkBuiltinCall, SF.kind, SF.split]
  refine wpAny_bind ?_
  · unfold isInstance
    repeat (first | (with_reducible refine wpAny_loadPart_at hx ?_; rw [hc]) | (with_reducible refine wpAny_isSubtype_exc hC ?_; rw [hcB]) | wp_step)
    exact hq
theorem ex_store {tk : Tok} {o : Obj} {Q : Fin → Shared → Prop}
    (hC : h.get? C = some (excClassObj nm q C N bs exBm true sn sub ab col dd k0 k1 k2 k3 k5 "ValueError.__new__")) (hi : Looks (model prog w) h (typeLookup (.ref C) name) none) (hx : h.get? x = some o) (hc : o.cls = .ref C) (hnc : ∀ c, o.data ≠ .cls c) (hdn : o.dict = none)
    (hq : ∀ h' tk', h'.get? x = some { cls := o.cls, dict := some h.objs.size, data := o.data, slots := o.slots } → (∃ oD, h'.get? h.objs.size = some oD) → (∀ b o', b ≠ x → h.get? b = some o' → h'.get? b = some o') → Q (.done (.ret .none)) ⟨h', g, d, tk', os⟩) :
    wpAny (model prog w) A (Builtin.«object.__setattr__» ⟨[.ref x, .str name tk, v], []⟩) Q E ⟨h, g, d, t, os⟩ := by
  have hpass : refuseLoop (.ref x) "__setattr__" exBm = pure () := by
    unfold exBm; rw [refuseLoop_ref]; exact F.store_ValueError.passes (.ref x)
  unfold Builtin.«object.__setattr__»
  repeat (first | rw [refuse_eq] | (rw [refuseLoop_ref, hpass]) | (with_reducible refine wpAny_loadPart_at hx ?_; rw [hc]) | with_reducible refine wpAny_mroOf_exc hC ?_ | (with_reducible refine hi.at ?_) | wp_step)
  rw [hdn, if_neg (by simp [typeHasDict])]
  split
  · rename_i hcd
    cases hcd
  split
  · rename_i c hcd
    exact absurd hcd (hnc c)
  · have hx₁ : (h.push { cls := .type "dict", data := .dict #[] }).get? x = some o := Heap.get?_push_of_some _ hx
    have hxs : x ≠ h.objs.size := Nat.ne_of_lt (Heap.lt_size hx)
    refine wpAny_bind (wpAny_alloc' ?_)
    refine wpAny_bind (wpAny_update' hx₁ ?_)
    refine wpAny_pure ?_
    have hgd : ((h.push { cls := .type "dict", data := .dict #[] }).update x fun o => { cls := o.cls, dict := some h.objs.size, data := o.data, slots := o.slots }).get? h.objs.size
        = some { cls := .type "dict", data := .dict #[] } :=
      (Heap.get?_update_ne _ _ _ _ hxs.symm).trans (Heap.get?_push_at rfl rfl)
    have hnd : ((h.push { cls := .type "dict", data := .dict #[] }).update x fun o => { cls := o.cls, dict := some h.objs.size, data := o.data, slots := o.slots }).Ns h.objs.size (fun _ => none) :=
      ⟨_, #[], _, hgd, rfl, fun e he => absurd he (by simp), fun _ => rfl⟩
    show wpAny _ _ (storeInDict h.objs.size (.str name tk) name v) _ _ _
    unfold storeInDict newKeyGuard
    refine wpAny_bind (wpAny_pure (wpAny_bind (wpAny_nsSet1 (Heap.Ns1.of_empty hnd) fun h' hn' hs => ?_)))
    obtain ⟨oD, esD, epD, hoD, hdD, hcD⟩ := hn'.count (Within.cons name v Within.nil)
    refine wpAny_bind (wpAny_lookBehind hoD (by rw [hdD]; exact pastItsLine_dict (Nat.le_trans hcD (by rw [List.length_cons, List.length_nil, sizeLine_eq]; (first | lia | omega)))) ?_)
    wp_walk
    refine hq h' _ ?_ ⟨oD, hoD⟩ (fun b ob hbx hb => ?_)
    · refine (hs.2 x hxs).trans (Heap.get?_update_self _ hx₁ ?_)
      have hfr := (Heap.get?_some_iff.mp hx).2
      obtain ⟨oc, od, odt, osl⟩ := o
      cases odt <;> first | rfl | exact hfr
    · exact (hs.2 b (Nat.ne_of_lt (Heap.lt_size hb))).trans ((Heap.get?_update_ne _ _ _ _ hbx).trans (Heap.get?_push_of_some _ hb))
theorem ex_set {o : Obj} {Q : Unit → Shared → Prop}
    (hC : h.get? C = some (excClassObj nm q C N bs exBm true sn sub ab col dd k0 k1 k2 k3 k5 "ValueError.__new__")) (hi : Looks (model prog w) h (typeLookup (.ref C) name) none) (hs : Looks (model prog w) h (typeLookup (.ref C) "__setattr__") (some (.builtin "object.__setattr__")))
    (hx : h.get? x = some o) (hc : o.cls = .ref C) (hnc : ∀ c, o.data ≠ .cls c) (hdn : o.dict = none)
    (hq : ∀ h' tk', h'.get? x = some { cls := o.cls, dict := some h.objs.size, data := o.data, slots := o.slots } → (∃ oD, h'.get? h.objs.size = some oD) → (∀ b o', b ≠ x → h.get? b = some o' → h'.get? b = some o') → Q () ⟨h', g, d, tk', os⟩) :
    wpAny (model prog w) A (setAttr (.ref x) name v) Q E ⟨h, g, d, t, os⟩ := by
  have f3 := F.store_ValueError.slot.bind (.ref x)
  unfold setAttr callSpecial? specialOf
  repeat (any_goals (first | assumption | (with_reducible refine wpAny_loadPart_at hx ?_; rw [hc]) | (with_reducible refine hs.at ?_) | wp_step))
  refine codeAny_call_builtin F.store_ValueError.slot.plain F.store_ValueError.entry (ex_check_sa hC hx hc (ex_store hC hi hx hc hnc hdn fun h' tk' q1 q2 q3 => ?_))
  repeat (any_goals (first | assumption | wp_step))
  exact hq h' _ q1 q2 q3
end
end Mine
theorem Mine.fresh_X3 : True := by w_top off; k_with_none; trivial
namespace Mine
theorem fill_onceX3 (P : Params) : Mine.kk.heap_1 P = Mine.kk.heap_1 P ∧ PySem.Challenge.rw_sq0044_01 = PySem.Challenge.rw_sq0044_01 := by
  k_fill
  exact ⟨rfl, rfl⟩
theorem ex_set_g {w : World} {A : Around} {s : Shared} {g : Heap} {L x t : Addr} {m : Str → Option Value} {to : Obj} {v : Value} {Q : Unit → Shared → Prop} {E : Value → Shared → Prop}
    (F : Fr g L s.heap m) (N : News g L s.heap [(x, exObj 100 t), (t, to)]) (X : (Mine.kk.heap_1 w.params).In g) (hxt : t ≠ x)
    (h : ∀ o h' tk', o.cls = .ref 100 → o.data = .fields #[.ref t, .none, .none, .none, .bool false, .none] → Fr g L h' m → News g L h' [(x, o), (t, to)] → Q () { s with heap := h', toks := tk' }) :
    wpAny (model PySem.Challenge.rw_sq0044_01.row.prog w) A (setAttr (.ref x) (Str.ofString "reason") v) Q E s := by
  have X' := X.keeps F.keep
  obtain ⟨o, ho, nm, qn, N', bs, sn, sub, ab, col, dd, k0, k1, k2, k3, k5, rfl⟩ := ex_obj w.params
  have hC := X' _ _ ho
  obtain ⟨hh, gg, dr, tt, os⟩ := s
  refine ex_set (o := exObj 100 t) hC (looks_findIn X' (by k_is)) (looks_findIn X' (by k_is)) (N _ (.head _)).1 rfl (fun c q => by cases q) rfl fun h' tk' q1 q2 q3 => ?_
  refine h _ h' tk' ?_ ?_ ⟨F.ns.at' fun o e => q3 L o (Ne.symm (N _ (.head _)).2.1) e, fun b o e => q3 b o (fun q => by rw [q, (N _ (.head _)).2.2] at e; cases e) (F.keep b o e), F.above⟩ (List.forall_mem_cons.mpr ⟨⟨q1, (N _ (.head _)).2⟩, List.forall_mem_cons.mpr ⟨⟨q3 t _ hxt (N _ (.tail _ (.head _))).1, (N _ (.tail _ (.head _))).2⟩, fun _ h => nomatch h⟩⟩) <;> rfl
theorem ex_spec {w : World} {A : Around} {s : Shared} {h₀ : Heap} {L : Addr} {m : Str → Option Value} {v : Value} {Q E : Value → Shared → Prop}
    (C : Cx w A h₀ L s.heap m) (hd : A.depth ≤ 400)
    (ret : ∀ (e t : Addr) (o : Obj) (h' : Heap) (tk' : Tok), s.heap.get? e = none → s.heap.get? t = none → o.cls = .ref 100 → o.data = .fields #[.ref t, .none, .none, .none, .bool false, .none] → Fr h₀ L h' m → News h₀ L h' [(e, o), (t, tupO [v])] → Kept s.heap [] h' → Q (.ref e) { s with heap := h', toks := tk' }) :
    wpAny (model PySem.Challenge.rw_sq0044_01.row.prog w) A (call (.ref 100) [v]) Q E s := by
  have F0 := C.fr
  have X0 := C.inK
  obtain ⟨o, ho, nm, qn, N', bs, sn, sub, ab, col, dd, k0, k1, k2, k3, k5, rfl⟩ := ex_obj w.params
  have hC := X0 _ _ ho
  obtain ⟨hp, gg, dr, tt, os⟩ := s
  refine ex_call (fI := 36) hC (looks_findIn X0 (by k_is)) (fun self => bind_fn X0 self (by k_is)) ?_ (by simp [sizeLine_eq])
  have F2 : Fr h₀ L ((hp.push { cls := .type "tuple", data := .seq #[v] }).push (exObj 100 hp.objs.size)) m := (F0.push _).push _
  have N2 : News h₀ L ((hp.push { cls := .type "tuple", data := .seq #[v] }).push (exObj 100 hp.objs.size)) [(hp.objs.size + 1, exObj 100 hp.objs.size), (hp.objs.size, tupO [v])] := by
    have := ((News.nil (h₀ := h₀) (L := L) (h := hp)).push F0 (tupO [v])).push (F0.push _) (exObj 100 hp.objs.size)
    rw [Heap.size_push] at this
    exact this
  have C2 := (C.at F2).under (as := ⟨.ref 100 :: [v], []⟩)
  have hx : hp.get? (hp.objs.size + 1) = none := none_of_push (Nat.le_succ _)
  have ht : hp.get? hp.objs.size = none := none_of_push (Nat.le_refl _)
  have hne : hp.objs.size ≠ hp.objs.size + 1 := Nat.ne_of_lt (Nat.lt_succ_self _)
  have k2 : ∀ b o, hp.get? b = some o → ((hp.push { cls := .type "tuple", data := .seq #[v] }).push (exObj 100 hp.objs.size)).get? b = some o := fun b o e => Heap.get?_push_of_some _ (Heap.get?_push_of_some _ e)
  generalize hp.objs.size + 1 = x at *
  generalize hp.objs.size = t at *
  generalize (hp.push { cls := .type "tuple", data := .seq #[v] }).push (exObj 100 t) = h2 at *
  clear hC X0 F0
  refine Cx.form_ C ?_; intro dp un gd env0 outer0 eA9; subst eA9
  (try dsimp only at hd)
  refine wpAny_call ?_
  k_dflt (refine' enter (binds := [(Str.ofString "self", .ref x), (Str.ofString "reason", v)]) ?k1 ?k2 ?k6 ?k7 ?k8 ?k9 ?kB ?_ ?c2 ?c3 ?c4 ?c5; (case k1 => exact C2); (case k2 => exact N2); (case k6 => k_is); (case k7 => k_is); (case k8 => (first | exact le_up (d := 1) hd rfl | exact le_up (d := 2) hd rfl | (simp only [depth_under_make, depth_under_kw, recursionLimit]; (first | lia | omega)))); (case k9 => first | exact BindsTo.of_eq rfl | exact binds_K (Cx.inK (by exact C2)) rfl (by k_is) rfl rfl rfl); (case c5 => decide); (case kB => exact locs rfl); (case c2 => exact rfl); (case c3 => exact rfl); (case c4 => exact rfl)); intro base outer p loose mean mg mb g L' hB1 FG F NB G B X T hh; obtain rfl : env0 :: outer0 = outer := Option.some.inj B.stack; (try dsimp only); (try k_fold)
  repeat' (first | (k_unfold; (try dsimp only)) | (dsimp only; k_unfold; (try dsimp only)) | ((fail_if_success (with_reducible show Exists _)); (fail_if_success (with_reducible show LeaveK h₀ L m g _ _ _)); first | walk1 | (dsimp only; (fail_if_success (with_reducible show Exists _)); (fail_if_success (with_reducible show LeaveK h₀ L m g _ _ _)); walk1)))
  refine ex_set_g (by k_asm) (by k_asm) (by k_asm) hne ?_
  intro o' h' tk' oc od F' N'
  repeat' (first | (k_unfold; (try dsimp only)) | (dsimp only; k_unfold; (try dsimp only)) | ((fail_if_success (with_reducible show Exists _)); (fail_if_success (with_reducible show LeaveK h₀ L m g _ _ _)); first | walk1 | (dsimp only; (fail_if_success (with_reducible show Exists _)); (fail_if_success (with_reducible show LeaveK h₀ L m g _ _ _)); walk1)))
  ((try dsimp only); (try k_unfold); (try dsimp only); (with_reducible rename Fr _ _ _ _ => cF); (with_reducible rename News _ _ _ _ => cN); refine leaveK_ cF cN ?_; intro kF kN; (try dsimp only [InitBack]); (try refine ⟨rfl, ?_⟩); (try dsimp only))
  exact ret x t o' _ _ hx ht oc od kF kN (kept_made k2 hx ht G cF.keep)
end Mine
theorem Mine.fresh_X4 : True := by w_top off; k_with_none; trivial
namespace Mine
theorem fill_onceX4 (P : Params) : Mine.kk.heap_1 P = Mine.kk.heap_1 P ∧ PySem.Challenge.rw_sq0044_01 = PySem.Challenge.rw_sq0044_01 := by
  k_fill
  exact ⟨rfl, rfl⟩
section
variable {M : Model} {A : Around} {E : Value → Shared → Prop} {env : Env}
variable {nm q : Str} {C N : Addr} {bs : List Value} {sn : List Str} {sub : List Value} {ab : Bool} {col : Option Bool} {dd : Option Addr} {k0 k1 k2 k3 k5 : Option Value}
theorem ex_raise {s : Shared} {x : Sem Value} {Q : Flow → Shared → Prop} (hh : A.handled = none)
    (h : wpAny M A x (fun v s₁ => ∃ e t o, v = .ref e ∧ (∃ nm q N bs sn sub ab col dd k0 k1 k2 k3 k5, s₁.heap.get? C = some (excClassObj nm q C N bs exBm true sn sub ab col dd k0 k1 k2 k3 k5 "ValueError.__new__")) ∧
      s₁.heap.get? e = some o ∧ o.cls = .ref C ∧ o.data = .fields #[.ref t, .none, .none, .none, .bool false, .none] ∧ E (.ref e) s₁) E s) :
    wpAny M A (raiseStmt env (some x) none) Q E s := by
  have hcB : (Value.ref C :: exBm).contains (.type "BaseException") = true := by rw [List.contains_cons, show exBm.contains (.type "BaseException") = true by decide +kernel, Bool.or_true]
  unfold raiseStmt
  refine wpAny_bind (wpAny_mono h (fun v s₁ h₁ => ?_) fun _ _ x => x)
  obtain ⟨e, t, o, rfl, ⟨nm, q, N, bs, sn, sub, ab, col, dd, k0, k1, k2, k3, k5, hC⟩, he, hc, hdt, hE⟩ := h₁
  obtain ⟨hp, g, d, tk, os⟩ := s₁
  obtain ⟨oc, od, odt, osl⟩ := o
  dsimp only at hc hdt
  subst hc hdt
  repeat (first | with_reducible refine wpAny_loadPart_at he ?_ | with_reducible refine wpAny_loadPart_at hC ?_ | (with_reducible refine wpAny_isSubtype_exc hC ?_; rw [hcB]) | wp_step)
  exact wpAny_raiseNew_none hh hE
theorem evalOpt_no (env : Env) : evalOpt none env = none := rfl
theorem Raise_ex {s : Shared} {e₀ : Expr} {pos : Pos} {Q : Flow → Shared → Prop} (hh : A.handled = none)
    (h : wpAny M A (eval e₀ env) (fun v s₁ => ∃ e t o, v = .ref e ∧ (∃ nm q N bs sn sub ab col dd k0 k1 k2 k3 k5, s₁.heap.get? C = some (excClassObj nm q C N bs exBm true sn sub ab col dd k0 k1 k2 k3 k5 "ValueError.__new__")) ∧
      s₁.heap.get? e = some o ∧ o.cls = .ref C ∧ o.data = .fields #[.ref t, .none, .none, .none, .bool false, .none] ∧ E (.ref e) s₁) E s) :
    wpAny M A (exec (.Raise (some e₀) none pos) env) Q E s := by
  rw [arm_exec_Raise]
  rw [arm_evalOpt_some, evalOpt_no]
  simp only [Option.map]
  exact wpAny_bind (wpAny_standAt (ex_raise hh (wpAny_bind (wpAny_mono h (fun v s₃ h₃ => wpAny_bind (wpAny_standAt (wpAny_pure h₃))) fun _ _ x => x))))
end
section
variable {M : Model} {A : Around} {E : Value → Shared → Prop} {s' : Shared} {base g : Heap} {outer : List Env} {L a e t : Addr} {m : Str → Option Value} {name : Str} {scope : Scope} {cd : Value} {Q : Unit → Shared → Prop}
theorem ex_leave {vs : List Value} {o : Obj} {C : Addr} (K : Below A base outer g) (F : Fr g L s'.heap m) (N : News g L s'.heap [(e, o), (t, tupO vs)]) (hc : o.cls = .ref C) (hdt : o.data = .fields #[.ref t, .none, .none, .none, .bool false, .none])
    (hQ : ∀ h', RaisedS base g outer e (.ref C) t vs [] h' → g.UpToSlots h' → Q () { s' with heap := h' }) (hk : scope.kind = .function := by rfl) :
    wpAny M (A.deeper (envOf name scope L a cd)) (leaving (envOf name scope L a cd) (.ref e)) Q E s' := by
  have K' := K.push (name := name) (a := a) (cd := cd) F hk
  have hin : ∀ env ∈ (envOf name scope L a cd :: outer), ∀ b, env.frame = some b → b ∈ e :: t :: (envOf name scope L a cd :: outer).filterMap (·.frame) := fun env he b hb => .tail _ (.tail _ (List.mem_filterMap.mpr ⟨env, he, hb⟩))
  have fe : g.get? e = none := (N _ (.head _)).2.2
  have ft : g.get? t = none := (N _ (.tail _ (.head _))).2.2
  have sg : ∀ b o, g.get? b = some o → b ∉ outer.filterMap (·.frame) → (hideAll s'.heap (e :: t :: (envOf name scope L a cd :: outer).filterMap (·.frame))).get? b = some o := fun b o q nm => hideAll_get _ (F.keep b o q) fun hm => by
    rcases List.mem_cons.mp hm with z | hm
    · rw [z, fe] at q; cases q
    rcases List.mem_cons.mp hm with z | hm
    · rw [z, ft] at q; cases q
    rcases kts_mem hm with z | z
    · rw [z, kts_self F] at q
      cases q
    · exact nm z
  have st : base.StaysIn (hideAll s'.heap (e :: t :: (envOf name scope L a cd :: outer).filterMap (·.frame))) := fun b o q => sg b o (K.stays b o q) fun hm => by
    rw [(K.frames.mem hm).1] at q; cases q
  refine wpAny_leaving_firstW (a0 := .ref t) K'.stack (funFrames_hide K'.frames hin) rfl (N _ (.head _)).1 (fun b o q => of_hideAll _ q) (hideAll_none _ (.head _)) hdt rfl rfl fun h' hL => ?_
  obtain ⟨k1, ⟨_, _, k2⟩, k3, k4⟩ := hL
  rw [hc] at k3
  refine hQ h' ⟨⟨_, st, sg, (fun _ h => nomatch h), ⟨k1, hideAll_none _ (.head _), k2, k3⟩, hideAll_none _ (.tail _ (.head _))⟩, Heap.TupAt.of_slots ⟨_, _, (N _ (.tail _ (.head _))).1, rfl, rfl⟩ k4⟩ ((Heap.UpToSlots.of_keeps F.keep).trans k4)
end
end Mine
theorem Mine.fresh_B4 : True := by w_top off; k_with_none; trivial
namespace Mine
theorem fill_once4 (P : Params) : Mine.kk.heap_1 P = Mine.kk.heap_1 P ∧ PySem.Challenge.rw_sq0044_01 = PySem.Challenge.rw_sq0044_01 := by
  k_fill
  exact ⟨rfl, rfl⟩
theorem ownB4_0 : True := by
  k_with "own k_room" => ((try simp only [depth_under_make, depth_under_kw, depth_in1, depth_deeper, recursionLimit]); (first | lia | omega))
  trivial
structure RowM where
  skip : Int
  follow : Int
  op : Int
  rest : Int
structure FontM where
  charOf : Int → Option (Int × Int)
  prog : List RowM
  boundary : Int
  edgeStart : Int
structure FontL where
  x : Addr
  dx : Addr
  dc : Addr
  tp : Addr
  tk : Addr
  es : List DictEntry
  n : Nat
  f : Int → Option Value
  rows : List Value
  tb : Tok
  te : Tok
  tn : Tok
  k0 : Tok
  k1 : Tok
noncomputable def TupP (P : Addr → Obj → Prop) (a : Addr) (items : List Value) : Prop := ∃ o, P a o ∧ o.cls = .type "tuple" ∧ ∃ n, o.data = .seq items.toArray n
theorem TupP.mono {P P' : Addr → Obj → Prop} {a : Addr} {items : List Value} (k : ∀ a o, P a o → P' a o) (x : TupP P a items) : TupP P' a items := Exists.imp (fun _ => And.imp_left (k _ _)) x
theorem TupP.at {g h : Heap} {a : Addr} {items : List Value} (k : ∀ b o, g.get? b = some o → h.get? b = some o) (x : TupP (fun a o => g.get? a = some o) a items) : h.IsTuple a items.toArray := Exists.imp (fun _ => And.imp_left (k _ _)) x
structure FontAt (w : World) (P : Addr → Obj → Prop) (l : FontL) (F : FontM) : Prop where
  inst : P l.x (instObj 271 l.dx)
  dict : P l.dx (dictOf l.es l.n)
  gchars : getL (Str.ofString "chars") l.es = some (some (.ref l.dc))
  gprog : getL (Str.ofString "program") l.es = some (some (.ref l.tp))
  gkerns : getL (Str.ofString "kerns") l.es = some (some (.ref l.tk))
  gbound : getL (Str.ofString "boundary") l.es = some (some (.int F.boundary l.tb))
  gedge : getL (Str.ofString "edge_start") l.es = some (some (.int F.edgeStart l.te))
  gnum : getL (Str.ofString "number") l.es = some (some (.int 1 l.tn))
  nstarts : getL (Str.ofString "starts") l.es = some none
  nhas : getL (Str.ofString "has") l.es = some none
  lo : (l.dc == sysModules) = false
  chars : ∃ o es ep, P l.dc o ∧ o.ExactDict ∧ o.data = .dict es ep ∧ KeysOf (intKind PySem.Challenge.rw_sq0044_01.row.prog w) es ∧ ∀ k, findBy (intKind PySem.Challenge.rw_sq0044_01.row.prog w).is es k = l.f k
  charNo : ∀ k, F.charOf k = none → l.f k = none
  charYes : ∀ k so re, F.charOf k = some (so, re) → ∃ r, l.f k = some (.ref r) ∧ ∃ wd t0 t1 t2 t3 t4 t5, TupP P r [.int wd t0, .int 0 t1, .int 0 t2, .int 0 t3, .int so t4, .int re t5]
  prog : TupP P l.tp l.rows
  rowLen : l.rows.length = F.prog.length
  rowAt : ∀ (i : Nat) (r : RowM), F.prog[i]? = some r → ∃ a, l.rows[i]? = some (.ref a) ∧ ∃ t0 t1 t2 t3, TupP P a [.int r.skip t0, .int r.follow t1, .int r.op t2, .int r.rest t3]
  kerns : TupP P l.tk [.int 7001 l.k0, .int (-3000) l.k1]
theorem FontAt.mono {w : World} {P P' : Addr → Obj → Prop} {l : FontL} {F : FontM} (k : ∀ a o, P a o → P' a o) (x : FontAt w P l F) : FontAt w P' l F where
  inst := k _ _ x.inst
  dict := k _ _ x.dict
  gchars := x.gchars
  gprog := x.gprog
  gkerns := x.gkerns
  gbound := x.gbound
  gedge := x.gedge
  gnum := x.gnum
  nstarts := x.nstarts
  nhas := x.nhas
  lo := x.lo
  chars := x.chars.imp fun _ => Exists.imp fun _ => Exists.imp fun _ => And.imp_left (k _ _)
  charNo := x.charNo
  charYes := fun c so re h => (x.charYes c so re h).imp fun _ => And.imp_right (Exists.imp fun _ => Exists.imp fun _ => Exists.imp fun _ => Exists.imp fun _ => Exists.imp fun _ => Exists.imp fun _ => Exists.imp fun _ => fun q => q.mono k)
  prog := x.prog.mono k
  rowLen := x.rowLen
  rowAt := fun i r h => (x.rowAt i r h).imp fun _ => And.imp_right (Exists.imp fun _ => Exists.imp fun _ => Exists.imp fun _ => Exists.imp fun _ => fun q => q.mono k)
  kerns := x.kerns.mono k
section
variable {prog : Program} {w : World} {M : Model} {A : Around} {E : Value → Shared → Prop} {s : Shared} {h₀ : Heap} {L D C c : Addr} {m : Str → Option Value} {news news' : List (Addr × Obj)} {its : Array Value} {n : Nat} {p : List Value} {y v : Value} {scope : Scope} {cl : List (Str × Addr)} {env : Env} {x : Str} {pos : Pos} {o : Obj} {Q : Value → Shared → Prop}
theorem pop_in (F : Fr h₀ L s.heap m) (N : News h₀ L s.heap news) (U : Upd D (listOf its n) (listOf p.toArray (n + 1)) news news') (e : kl_last its.toList = some (p, y))
    (hz : its.toList.length ≤ sizeLine) (h : ∀ h', Fr h₀ L h' m → News h₀ L h' news' → Q y { s with heap := h' }) : wpAny (model prog w) A (call (.builtin "list.pop") [.ref D]) Q E s := kl_pop F N e U hz h
theorem cell_in (hk : (compEnvC scope cl C env).scope.kind = .function) (hx : (compEnvC scope cl C env).kindOf x = some .cell) (N : News h₀ L s.heap news) (hc : cl.lookup x = some c) (hm : (c, o) ∈ news) (hd : o.data = .cell (some v)) (h : Q v s)
    (hb : (x == ("__debug__" : Str)) = false := by decide) : wpAny M A (eval (.Name x pos) (compEnvC scope cl C env)) Q E s := lcf_cell N hc hm hd h hk hx hb
end
/-- stands in h, off the addresses as -/
noncomputable abbrev Rd (h : Heap) (as : List Addr) : Addr → Obj → Prop := fun a o => h.get? a = some o ∧ a ∉ as
noncomputable abbrev Gd (g : Heap) : Addr → Obj → Prop := fun a o => g.get? a = some o
section
variable {prog : Program} {w : World} {A : Around} {E : Value → Shared → Prop} {s : Shared} {K : Frag} {x C dx L : Addr} {g : Heap} {m : Str → Option Value} {es : List DictEntry} {n : Nat} {name : Str} {v : Value}
theorem getAttr_g {expr : Bool} {Q : Value → Shared → Prop} {attr : Option Value} (F : Fr g L s.heap m) (X₀ : K.In g) (hx : g.get? x = some (instObj C dx)) (hdx : g.get? dx = some (dictOf es n)) (hl : getL name es = some (some v)) (hg : plainGet K C name = true) (hh : hasDictIn K C = true)
    (ha : findIn K (.ref C) name = some attr) (hn : noGet K attr = true) (hv : handedIn v = true) (h : Q v { s with toks := s.toks + 1 }) :
    wpAny (model prog w) A (getAttr (.ref x) name expr) Q E s :=
  get_own F X₀ ⟨F.keep _ _ hx, rfl, rfl, F.keep _ _ hdx⟩ hg hh ha hn hl hv h
theorem getMethod_g {pl : Sem Bool} {Q : Value × List Value → Shared → Prop} {f : Addr} (F : Fr g L s.heap m) (X₀ : K.In g) (hx : g.get? x = some (instObj C dx)) (hdx : g.get? dx = some (dictOf es n)) (hl : getL name es = some none) (hg : plainGet K C name = true)
    (hf : findIn K (.ref C) name = some (some (.ref f))) (ht : isFn K (.ref f) = true) (h : Q (.ref f, [.ref x]) s) : wpAny (model prog w) A (getMethod (.ref x) name pl) Q E s :=
  method_inst F X₀ ⟨F.keep _ _ hx, rfl, rfl, F.keep _ _ hdx⟩ hg hf ht hl h
end
section
variable {w : World} {A : Around} {E : Value → Shared → Prop} {s : Shared} {L : Addr} {g : Heap} {m : Str → Option Value} {fl : FontL} {FM : FontM} {k : Int} {t : Tok}
theorem FontAt.map (x : FontAt w (Gd g) fl FM) (F : Fr g L s.heap m) : s.heap.MapOf (intKind PySem.Challenge.rw_sq0044_01.row.prog w) fl.dc fl.f := Exists.imp (fun _ => Exists.imp fun _ => Exists.imp fun _ => And.imp_left (F.keep _ _)) x.chars
theorem in_chars {Q : Value → Shared → Prop} (F : Fr g L s.heap m) (x : FontAt w (Gd g) fl FM) (h : Q (.bool (FM.charOf k).isSome) { s with toks := s.toks + 1 }) : wpAny (model PySem.Challenge.rw_sq0044_01.row.prog w) A (compareOp .In (.int k t) (.ref fl.dc)) Q E s := by
  refine wpAny_in_of (intKind_is _ w k t) x.lo (x.map F) ?_
  cases e : FM.charOf k with
  | none => rw [x.charNo k e]; rw [e] at h; exact h
  | some p =>
    obtain ⟨so, re⟩ := p
    obtain ⟨r, e', _⟩ := x.charYes k so re e
    rw [e']; rw [e] at h; exact h
theorem get_chars {Q : Value → Shared → Prop} {d : Value} (F : Fr g L s.heap m) (x : FontAt w (Gd g) fl FM) (hN : FM.charOf k = none → Q d { s with toks := s.toks + 1 })
    (hY : ∀ so re r wd t0 t1 t2 t3 t4 t5, FM.charOf k = some (so, re) → TupP (Gd g) r [.int wd t0, .int 0 t1, .int 0 t2, .int 0 t3, .int so t4, .int re t5] → Q (.ref r) { s with toks := s.toks + 1 }) : wpAny (model PySem.Challenge.rw_sq0044_01.row.prog w) A (call (.builtin "dict.get") [.ref fl.dc, .int k t, d]) Q E s := by
  have M := x.map F
  have hT : s.TypeIs (.ref fl.dc) "dict" := M.typeIs
  refine call_meetsIn PySem.F.slot_dict_get hT PySem.F.entry_dict_get (PySem.F.args_dict_get_3 _ _ _) (meets_dict_get_default (intKind PySem.Challenge.rw_sq0044_01.row.prog w) fl.dc (intKind_is _ w k t) x.lo d) ⟨_, M, ?_⟩
  cases e : FM.charOf k with
  | none => rw [x.charNo k e]; exact hN e
  | some p =>
    obtain ⟨so, re⟩ := p
    obtain ⟨r, e', wd, t0, t1, t2, t3, t4, t5, q⟩ := x.charYes k so re e
    rw [e']; exact hY so re r wd t0 t1 t2 t3 t4 t5 e q
theorem getMethod_chars {pl : Sem Bool} {Q : Value × List Value → Shared → Prop} (F : Fr g L s.heap m) (x : FontAt w (Gd g) fl FM) (h : Q (.builtin "dict.get", [.ref fl.dc]) s) : wpAny (model PySem.Challenge.rw_sq0044_01.row.prog w) A (getMethod (.ref fl.dc) (Str.ofString "get") pl) Q E s :=
  have M := x.map F
  have hT : s.TypeIs (.ref fl.dc) "dict" := M.typeIs
  getMethod_builtin hT PySem.F.plainAttrs_dict PySem.F.slot_dict_get PySem.F.type_dict_get M.noDict h
end
theorem lnB4_0 : True := by
  k_with "getAttr ref" => (k_here; k_dflt (refine getAttr_g (by k_asm) (by k_asm) (by assumption) (by assumption) (by assumption) (by k_is) (by k_is) (by k_is) (by k_is) (by k_handed) ?_; k_whole))
  k_with "getMethod ref" => (k_here; k_dflt (refine getMethod_g (by k_asm) (by k_asm) (by assumption) (by assumption) (by assumption) (by k_is) (by k_is) (by k_is) ?_; k_whole))
  k_with "compareOp In int ref" => (k_here; (refine in_chars (by k_asm) (by assumption) ?_))
  k_with "getMethod ref" => (k_here; (refine getMethod_chars (by k_asm) (by assumption) ?_))
  k_with "call builtin:dict.get" => (k_here; (refine get_chars (by k_asm) (by assumption) ?_ ?_); (all_goals intros))
  k_with "subscriptTail" => (k_here; (with_reducible show wpAny _ _ (subscriptTail _ _ (Value.ref _) (Value.int _ _)) _ _ _); k_dflt (refine item_tupleT (by exact TupP.at (Fr.keep (by k_asm)) (by assumption)) (by decide) (by decide) (by rfl) (by rfl) ?_; k_whole))
  trivial
theorem has_spec {w : World} {A : Around} {s : Shared} {h₀ : Heap} {L : Addr} {m : Str → Option Value} {fl : FontL} {FM : FontM} {c : Int} {tc : Tok} {Q E : Value → Shared → Prop}
    (C : Cx w A h₀ L s.heap m) (hd : A.depth ≤ 390) (hf : FontAt w (Gd s.heap) fl FM)
    (ret : ∀ (h' : Heap) (tk' : Tok), Fr h₀ L h' m → Kept s.heap [] h' → Q (.bool (FM.charOf c).isSome) { s with heap := h', toks := tk' }) :
    wpAny (model PySem.Challenge.rw_sq0044_01.row.prog w) A (call (.ref 205) [.ref fl.x, .int c tc]) Q E s := by
  refine wpAny_call ?_
  have N0 : News h₀ L s.heap [] := News.nil
  refine Cx.form_ C ?_; intro dp un gd env0 outer0 eA9; subst eA9; (try dsimp only at hd); (try dsimp only at hu); k_dflt (refine' enter (binds := [(Str.ofString "self", .ref fl.x), (Str.ofString "code", .int c tc)]) ?k1 ?k2 ?k6 ?k7 ?k8 ?k9 ?kB ?_ ?c2 ?c3 ?c4 ?c5; (case k1 => assumption); (case k2 => assumption); (case k6 => k_is); (case k7 => k_is); (case k8 => (first | exact le_up (d := 1) hd rfl | exact le_up (d := 2) hd rfl | (simp only [depth_under_make, depth_under_kw, recursionLimit]; (first | lia | omega)))); (case k9 => first | exact BindsTo.of_eq rfl | exact binds_K (Cx.inK (by assumption)) rfl (by k_is) rfl rfl rfl); (case c5 => decide); (case kB => exact locs rfl); (case c2 => exact rfl); (case c3 => exact rfl); (case c4 => exact rfl)); intro base outer p loose mean mg mb g L' hB1 FG F NB G B X T hh; obtain rfl : env0 :: outer0 = outer := Option.some.inj B.stack; (try dsimp only); (try k_fold)
  have hg : FontAt w (Gd g) fl FM := hf.mono fun a o e => G a o e (by simp)
  have i1 := hg.inst
  have i2 := hg.dict
  have i3 := hg.gchars
  repeat' (first | (k_unfold; (try dsimp only)) | (dsimp only; k_unfold; (try dsimp only)) | ((fail_if_success (with_reducible show Exists _)); (fail_if_success (with_reducible show LeaveK h₀ L m g _ _ _)); first | walk1 | (dsimp only; (fail_if_success (with_reducible show Exists _)); (fail_if_success (with_reducible show LeaveK h₀ L m g _ _ _)); walk1)))
  ((try dsimp only); (try k_unfold); (try dsimp only); (with_reducible rename Fr _ _ _ _ => cF); (with_reducible rename News _ _ _ _ => cN); refine leaveK_ cF cN ?_; intro kF kN; (try dsimp only [InitBack]); (try refine ⟨rfl, ?_⟩); (try dsimp only))
  exact ret _ _ kF (fun b o e _ => cF.keep b o (G b o e (by simp)))
noncomputable def FontM.start (F : FontM) (c : Int) : Int := if c = 256 then F.edgeStart else match F.charOf c with
  | some (so, re) => if so = 1 then re else -1
  | none => -1
theorem FontM.start_edge {F : FontM} {c : Int} (h : c = 256) : F.start c = F.edgeStart := by unfold FontM.start; rw [if_pos h]
theorem FontM.start_none {F : FontM} {c : Int} (h : c ≠ 256) (h' : F.charOf c = none) : F.start c = -1 := by unfold FontM.start; rw [if_neg h, h']
theorem FontM.start_one {F : FontM} {c so re : Int} (h : c ≠ 256) (h' : F.charOf c = some (so, re)) (h1 : so = 1) : F.start c = re := by unfold FontM.start; rw [if_neg h, h']; simp [h1]
theorem FontM.start_other {F : FontM} {c so re : Int} (h : c ≠ 256) (h' : F.charOf c = some (so, re)) (h1 : so ≠ 1) : F.start c = -1 := by unfold FontM.start; rw [if_neg h, h']; simp [h1]
theorem starts_spec {w : World} {A : Around} {s : Shared} {h₀ : Heap} {L : Addr} {m : Str → Option Value} {fl : FontL} {FM : FontM} {c : Int} {tc : Tok} {Q E : Value → Shared → Prop}
    (C : Cx w A h₀ L s.heap m) (hd : A.depth ≤ 390) (hf : FontAt w (Gd s.heap) fl FM)
    (ret : ∀ (h' : Heap) (t : Tok) (tk' : Tok), Fr h₀ L h' m → Kept s.heap [] h' → Q (.int (FM.start c) t) { s with heap := h', toks := tk' }) :
    wpAny (model PySem.Challenge.rw_sq0044_01.row.prog w) A (call (.ref 240) [.ref fl.x, .int c tc]) Q E s := by
  refine wpAny_call ?_
  have N0 : News h₀ L s.heap [] := News.nil
  refine Cx.form_ C ?_; intro dp un gd env0 outer0 eA9; subst eA9; (try dsimp only at hd); (try dsimp only at hu); k_dflt (refine' enter (binds := [(Str.ofString "self", .ref fl.x), (Str.ofString "code", .int c tc)]) ?k1 ?k2 ?k6 ?k7 ?k8 ?k9 ?kB ?_ ?c2 ?c3 ?c4 ?c5; (case k1 => assumption); (case k2 => assumption); (case k6 => k_is); (case k7 => k_is); (case k8 => (first | exact le_up (d := 1) hd rfl | exact le_up (d := 2) hd rfl | (simp only [depth_under_make, depth_under_kw, recursionLimit]; (first | lia | omega)))); (case k9 => first | exact BindsTo.of_eq rfl | exact binds_K (Cx.inK (by assumption)) rfl (by k_is) rfl rfl rfl); (case c5 => decide); (case kB => exact locs rfl); (case c2 => exact rfl); (case c3 => exact rfl); (case c4 => exact rfl)); intro base outer p loose mean mg mb g L' hB1 FG F NB G B X T hh; obtain rfl : env0 :: outer0 = outer := Option.some.inj B.stack; (try dsimp only); (try k_fold)
  have hg : FontAt w (Gd g) fl FM := hf.mono fun a o e => G a o e (by simp)
  have i1 := hg.inst
  have i2 := hg.dict
  have i3 := hg.gchars
  have i4 := hg.gedge
  repeat' (first | (k_unfold; (try dsimp only)) | (dsimp only; k_unfold; (try dsimp only)) | ((fail_if_success (with_reducible show Exists _)); (fail_if_success (with_reducible show LeaveK h₀ L m g _ _ _)); first | walk1 | (dsimp only; (fail_if_success (with_reducible show Exists _)); (fail_if_success (with_reducible show LeaveK h₀ L m g _ _ _)); walk1)))
  all_goals ((try dsimp only); (try k_unfold); (try dsimp only); (with_reducible rename Fr _ _ _ _ => cF); (with_reducible rename News _ _ _ _ => cN); refine leaveK_ cF cN ?_; intro kF kN; (try dsimp only [InitBack]); (try refine ⟨rfl, ?_⟩); (try dsimp only))
  all_goals (have hq := fun t tk => ret _ t tk kF (fun b o e _ => cF.keep b o (G b o e (by simp))))
  · rw [FontM.start_edge (by assumption)] at hq; exact hq _ _
  · rw [FontM.start_none (by assumption) (by assumption)] at hq; exact hq _ _
  · rw [FontM.start_one (by assumption) (by assumption) (by assumption)] at hq; exact hq _ _
  · rw [FontM.start_other (by assumption) (by assumption) (by assumption)] at hq; exact hq _ _
end Mine
theorem Mine.fresh_B5 : True := by w_top off; k_with_none; trivial
namespace Mine
theorem fill_once5 (P : Params) : Mine.kk.heap_1 P = Mine.kk.heap_1 P ∧ PySem.Challenge.rw_sq0044_01 = PySem.Challenge.rw_sq0044_01 := by
  k_fill
  exact ⟨rfl, rfl⟩
theorem ownB5_0 : True := by
  k_with "own k_room" => ((try simp only [depth_under_make, depth_under_kw, depth_in1, depth_deeper, recursionLimit]); (first | lia | omega))
  trivial
theorem lnB5_0 : True := by
  k_with "getAttr ref" => (k_here; k_dflt (refine getAttr_g (by k_asm) (by k_asm) (by assumption) (by assumption) (by assumption) (by k_is) (by k_is) (by k_is) (by k_is) (by k_handed) ?_; k_whole))
  k_with "getMethod ref" => (k_here; k_dflt (refine getMethod_g (by k_asm) (by k_asm) (by assumption) (by assumption) (by assumption) (by k_is) (by k_is) (by k_is) ?_; k_whole))
  k_with "compareOp In int ref" => (k_here; (refine in_chars (by k_asm) (by assumption) ?_))
  k_with "getMethod ref" => (k_here; (refine getMethod_chars (by k_asm) (by assumption) ?_))
  k_with "call builtin:dict.get" => (k_here; (refine get_chars (by k_asm) (by assumption) ?_ ?_); (all_goals intros))
  k_with "subscriptTail" => (k_here; (with_reducible show wpAny _ _ (subscriptTail _ _ (Value.ref _) (Value.int _ _)) _ _ _); k_dflt (refine item_tupleT (by exact TupP.at (Fr.keep (by k_asm)) (by assumption)) (by decide) (by decide) (by rfl) (by rfl) ?_; k_whole))
  trivial
noncomputable def knownOp (o : Int) : Bool := ([0, 1, 2, 3, 5, 6, 7, 11] : List Int).contains o
noncomputable def kernOf (i : Int) : Int := if i = 0 then 7001 else -3000
noncomputable def RowM.told (r : RowM) : Int × Int := if 128 ≤ r.op then (0, kernOf (256 * (r.op - 128) + r.rest)) else ((if knownOp r.op then r.op else 0) + 1, r.rest)
noncomputable def lookFrom (prog : List RowM) (right : Int) : Nat → Nat → Option (Int × Int)
  | 0, _ => none
  | n + 1, p => match prog[p]? with
    | none => none
    | some r => if r.follow = right ∧ r.skip ≤ 128 then some r.told else if r.skip < 128 then lookFrom prog right n (p + r.skip.toNat + 1) else none
noncomputable def FontM.row (F : FontM) (p : Int) : RowM := (F.prog[p.toNat]?).getD ⟨0, 0, 0, 0⟩
noncomputable def FontM.look (F : FontM) (left right : Int) : Option (Int × Int) :=
  if F.start left < 0 ∨ right = 256 then none else
  lookFrom F.prog right F.prog.length (if left ≠ 256 ∧ 128 < (F.row (F.start left)).skip then 256 * (F.row (F.start left)).op + (F.row (F.start left)).rest else F.start left).toNat
structure RowM.OK (r : RowM) (i : Nat) (len : Nat) : Prop where
  skip0 : 0 ≤ r.skip
  skip1 : r.skip ≤ 255
  op0 : 0 ≤ r.op
  op1 : r.op ≤ 255
  rest0 : 0 ≤ r.rest
  rest1 : r.rest ≤ 255
  lead : r.skip > 128 → 256 * r.op + r.rest < len
  kern : r.skip ≤ 128 → 128 ≤ r.op → 256 * (r.op - 128) + r.rest < 2
  next : r.skip < 128 → (i : Int) + r.skip + 1 < len
structure FontM.WF (F : FontM) : Prop where
  start : ∀ c, F.start c < 0 ∨ (0 ≤ F.start c ∧ F.start c < F.prog.length)
  len : F.prog.length < 1000
  rows : ∀ (i : Nat) (r : RowM), F.prog[i]? = some r → r.OK i F.prog.length
section
variable {w : World} {A : Around} {E : Value → Shared → Prop} {s : Shared} {L : Addr} {g : Heap} {m : Str → Option Value} {fl : FontL} {FM : FontM} {k : Int} {t : Tok}
theorem prog_item {Q : Value → Shared → Prop} {value slice : PySem.Expr} (F : Fr g L s.heap m) (x : FontAt w (Gd g) fl FM) (h0 : 0 ≤ k) (h1 : k < FM.prog.length) (hw : FM.prog.length < 1000)
    (h : ∀ a t0 t1 t2 t3, TupP (Gd g) a [.int (FM.row k).skip t0, .int (FM.row k).follow t1, .int (FM.row k).op t2, .int (FM.row k).rest t3] → Q (.ref a) s)
    (hs : subscripted slice false (.ref fl.tp) (.int k t) = operate [.ref fl.tp, .int k t] (getItem (.ref fl.tp) (.int k t)) := by with_unfolding_all rfl)
    (hg : ∀ r, letTemporaryGo value (.ref fl.tp) r = pure () := by intro _; rfl) :
    wpAny (model PySem.Challenge.rw_sq0044_01.row.prog w) A (subscriptTail value slice (.ref fl.tp) (.int k t)) Q E s := by
  have hlt : k.toNat < FM.prog.length := by (first | lia | omega)
  have e : FM.prog[k.toNat]? = some FM.prog[k.toNat] := by simp [hlt]
  obtain ⟨a, ha, t0, t1, t2, t3, q⟩ := x.rowAt _ _ e
  have er : FM.row k = FM.prog[k.toNat] := by unfold FontM.row; rw [e]; rfl
  rw [← er] at q
  exact item_tupleT (x.prog.at F.keep) (by (first | lia | omega)) (by (first | lia | omega)) (seqIndex_of h0 (by rw [x.rowLen]; exact h1)) ha (h a t0 t1 t2 t3 q) hs
theorem kern_item {Q : Value → Shared → Prop} {value slice : PySem.Expr} (F : Fr g L s.heap m) (x : FontAt w (Gd g) fl FM) (h0 : 0 ≤ k) (h1 : k < 2)
    (h : ∀ t', Q (.int (kernOf k) t') s)
    (hs : subscripted slice false (.ref fl.tk) (.int k t) = operate [.ref fl.tk, .int k t] (getItem (.ref fl.tk) (.int k t)) := by with_unfolding_all rfl) :
    wpAny (model PySem.Challenge.rw_sq0044_01.row.prog w) A (subscriptTail value slice (.ref fl.tk) (.int k t)) Q E s := by
  have h2 : k = 0 ∨ k = 1 := by (first | lia | omega)
  rcases h2 with rfl | rfl
  · exact item_tupleT (x.kerns.at F.keep) (by decide) (by decide) rfl rfl (h _) hs
  · exact item_tupleT (x.kerns.at F.keep) (by decide) (by decide) rfl rfl (h _) hs
end
theorem lnB5_1 : True := by
  k_with "subscriptTail" => (k_here; (with_reducible show wpAny _ _ (subscriptTail _ _ (Value.ref (FontL.tk _)) (Value.int _ _)) _ _ _); k_dflt (refine kern_item (by k_asm) (by assumption) (by first | (first | lia | omega) | (have ok' := RowM.OK.kern (by assumption) (by (first | lia | omega)) (by (first | lia | omega)); (first | lia | omega))) (by first | (first | lia | omega) | (have ok' := RowM.OK.kern (by assumption) (by (first | lia | omega)) (by (first | lia | omega)); (first | lia | omega))) ?_ (by with_unfolding_all rfl)); intros)
  k_with "subscriptTail" => (k_here; (with_reducible show wpAny _ _ (subscriptTail _ _ (Value.ref (FontL.tp _)) (Value.int _ _)) _ _ _); k_dflt (refine prog_item (by k_asm) (by assumption) (by (first | lia | omega)) (by (first | lia | omega)) (by (first | lia | omega)) ?_ (by with_unfolding_all rfl) (by (intro _; with_unfolding_all rfl))); intros)
  trivial
theorem FontM.row_at {F : FontM} {p : Int} (h0 : 0 ≤ p) (h1 : p < F.prog.length) : F.prog[p.toNat]? = some (F.row p) := by
  have e : F.prog[p.toNat]? = some F.prog[p.toNat] := List.getElem?_eq_getElem (by (first | lia | omega))
  unfold FontM.row; rw [e]; rfl
theorem FontM.row_ok {F : FontM} (hw : F.WF) {p : Int} (h0 : 0 ≤ p) (h1 : p < F.prog.length) : (F.row p).OK p.toNat F.prog.length := hw.rows _ _ (F.row_at h0 h1)
theorem look_lead {F : FontM} {l r : Int} (hw : F.WF) (n : ¬ F.start l < 0) (hr : r ≠ 256) (hl : l ≠ 256) (hs : 128 < (F.row (F.start l)).skip) :
    0 ≤ 256 * (F.row (F.start l)).op + (F.row (F.start l)).rest ∧ 256 * (F.row (F.start l)).op + (F.row (F.start l)).rest < F.prog.length ∧ F.look l r = lookFrom F.prog r F.prog.length (256 * (F.row (F.start l)).op + (F.row (F.start l)).rest).toNat := by
  have h := hw.start l
  have ok := F.row_ok hw (p := F.start l) (by (first | lia | omega)) (by (first | lia | omega))
  refine ⟨by have := ok.op0; have := ok.rest0; (first | lia | omega), ok.lead hs, ?_⟩
  unfold FontM.look
  rw [if_neg (by (first | lia | omega)), if_pos ⟨hl, hs⟩]
theorem look_plain {F : FontM} {l r : Int} (hw : F.WF) (n : ¬ F.start l < 0) (hr : r ≠ 256) (hl : ¬ (l ≠ 256 ∧ 128 < (F.row (F.start l)).skip)) :
    0 ≤ F.start l ∧ F.start l < F.prog.length ∧ F.look l r = lookFrom F.prog r F.prog.length (F.start l).toNat := by
  have h := hw.start l
  refine ⟨by (first | lia | omega), by (first | lia | omega), ?_⟩
  unfold FontM.look
  rw [if_neg (by (first | lia | omega)), if_neg hl]
theorem look_hit {F : FontM} {l r p : Int} {n : Nat} (q0 : 0 ≤ p) (q1 : p < F.prog.length) (q3 : F.prog.length + 1 ≤ n + p) (ql : F.look l r = lookFrom F.prog r (n - 1) p.toNat) (h1 : (F.row p).follow = r) (h2 : (F.row p).skip ≤ 128) :
    F.look l r = some (F.row p).told := by
  obtain ⟨k, rfl⟩ : ∃ k, n = k + 2 := ⟨n - 2, by (first | lia | omega)⟩
  rw [ql]
  show lookFrom F.prog r (k + 1) p.toNat = _
  unfold lookFrom
  rw [F.row_at q0 q1]
  exact if_pos ⟨h1, h2⟩
theorem look_on {F : FontM} {l r p : Int} {n : Nat} (hw : F.WF) (q0 : 0 ≤ p) (q1 : p < F.prog.length) (q3 : F.prog.length + 1 ≤ n + p) (ql : F.look l r = lookFrom F.prog r (n - 1) p.toNat) (h : ¬ ((F.row p).follow = r ∧ (F.row p).skip ≤ 128)) :
    (decide ((F.row p).skip < 128) = true ∧ 0 ≤ p + (F.row p).skip + 1 ∧ p + (F.row p).skip + 1 < F.prog.length ∧ 1 ≤ n - 1 ∧ F.prog.length + 1 ≤ (n - 1 : Nat) + (p + (F.row p).skip + 1) ∧ F.look l r = lookFrom F.prog r (n - 1 - 1) (p + (F.row p).skip + 1).toNat) ∨
    (decide ((F.row p).skip < 128) = false ∧ F.look l r = none) := by
  obtain ⟨k, rfl⟩ : ∃ k, n = k + 2 := ⟨n - 2, by (first | lia | omega)⟩
  have ok := F.row_ok hw q0 q1
  have e : F.look l r = if (F.row p).skip < 128 then lookFrom F.prog r k (p.toNat + (F.row p).skip.toNat + 1) else none := by
    rw [ql]
    show lookFrom F.prog r (k + 1) p.toNat = _
    rw [lookFrom, F.row_at q0 q1]
    exact if_neg h
  have o0 := ok.skip0
  by_cases hs : (F.row p).skip < 128
  · have o1 := ok.next hs
    refine .inl ⟨decide_eq_true hs, by (first | lia | omega), by (first | lia | omega), by (first | lia | omega), by (first | lia | omega), ?_⟩
    rw [e, if_pos hs]
    congr 1
    (first | lia | omega)
  · exact .inr ⟨decide_eq_false hs, by rw [e, if_neg hs]⟩
theorem told_kern {r : RowM} (h : 128 ≤ r.op) : r.told = (0, kernOf (256 * (r.op - 128) + r.rest)) := if_pos h
theorem told_known {r : RowM} (h : ¬ 128 ≤ r.op) (k : knownOp r.op = true) : r.told = (r.op + 1, r.rest) := by unfold RowM.told; rw [if_neg h, if_pos k]
theorem told_other {r : RowM} (h : ¬ 128 ≤ r.op) (k : knownOp r.op = false) : r.told = (0 + 1, r.rest) := by unfold RowM.told; rw [if_neg h, k]; rfl
theorem in_ints {prog : Program} {w : World} {A : Around} {E : Value → Shared → Prop} {s : Shared} {l : Addr} {op : Int} {t : Tok} {Q : Value → Shared → Prop} {items : List (Int × Tok)}
    (ht : s.heap.IsTuple l (items.map fun p => Value.int p.1 p.2).toArray) (h : Q (.bool ((items.map (·.1)).contains op)) s) : wpAny (model prog w) A (compareOp .In (.int op t) (.ref l)) Q E s := by
  have e : ((items.map fun p => Value.int p.1 p.2).toArray.any fun v => match v with | .int i _ => i == op | _ => false) = (items.map (·.1)).contains op := by
    rw [List.any_toArray, List.any_map, List.contains_eq_any_beq, List.any_map]
    congr 1
    funext p
    exact Bool.beq_comm
  exact PySem.SeqAt.in_tupleAt (fun v => match v with | .int i _ => i == op | _ => false) ht (fun y hy => by
    have hy' : y ∈ items.map fun p => Value.int p.1 p.2 := by simpa using hy
    obtain ⟨p, _, rfl⟩ := List.mem_map.mp hy'
    exact PySem.SeqAt.EqAt.int_int _ _ _ _) (e ▸ h)
theorem in_known {w : World} {A : Around} {E : Value → Shared → Prop} {s : Shared} {op : Int} {t : Tok} {Q : Value → Shared → Prop} (X : (Mine.kk.heap_1 w.params).In s.heap) (h : Q (.bool (knownOp op)) s) :
    wpAny (model PySem.Challenge.rw_sq0044_01.row.prog w) A (compareOp .In (.int op t) (.ref 392)) Q E s := by
  have e := X 392 _ (by k_dflt k_is)
  exact in_ints (items := [(0, _), (1, _), (2, _), (3, _), (5, _), (6, _), (7, _), (11, _)]) ⟨_, e, rfl, _, rfl⟩ h
theorem lnB5_2 : True := by
  k_with "compareOp In int ref" => (k_here; (with_reducible show wpAny _ _ (compareOp _ (Value.int _ _) (Value.ref 392)) _ _ _); (refine' in_known (Frag.In.keeps (by k_asm) (Fr.keep (by k_asm))) ?_))
  k_with "eval Name" => (k_here; (fail_if_success (with_reducible show wpAny _ _ (eval (Expr.Name _ _) (envOfC _ _ _ _ _)) _ _ _)); (fail_if_success (with_reducible show wpAny _ _ (eval (Expr.Name _ _) (compEnvC _ _ _ _)) _ _ _)); k_dflt (refine ld (by k_asm) (by first | exact rfl | assumption) ?_; k_whole))
  trivial
theorem look_spec {w : World} {A : Around} {s : Shared} {h₀ : Heap} {L : Addr} {m : Str → Option Value} {fl : FontL} {FM : FontM} {l r : Int} {tl tr : Tok} {Q E : Value → Shared → Prop}
    (C : Cx w A h₀ L s.heap m) (hd : A.depth ≤ 380) (hf : FontAt w (Gd s.heap) fl FM) (hw : FM.WF)
    (retN : ∀ (h' : Heap) (tk' : Tok), FM.look l r = none → Fr h₀ L h' m → Kept s.heap [] h' → Q .none { s with heap := h', toks := tk' })
    (retS : ∀ (a b : Int) (q : Addr) (t1 t2 : Tok) (h' : Heap) (tk' : Tok), FM.look l r = some (a, b) → s.heap.get? q = none → Fr h₀ L h' m → News h₀ L h' [(q, tupO [.int a t1, .int b t2])] → Kept s.heap [] h' → Q (.ref q) { s with heap := h', toks := tk' }) :
    wpAny (model PySem.Challenge.rw_sq0044_01.row.prog w) A (call (.ref 399) [.ref fl.x, .int l tl, .int r tr]) Q E s := by
  refine wpAny_call ?_
  have N0 : News h₀ L s.heap [] := News.nil
  refine Cx.form_ C ?_; intro dp un gd env0 outer0 eA9; subst eA9; (try dsimp only at hd); (try dsimp only at hu); k_dflt (refine' enter (binds := [(Str.ofString "font", .ref fl.x), (Str.ofString "left", .int l tl), (Str.ofString "right", .int r tr)]) ?k1 ?k2 ?k6 ?k7 ?k8 ?k9 ?kB ?_ ?c2 ?c3 ?c4 ?c5; (case k1 => assumption); (case k2 => assumption); (case k6 => k_is); (case k7 => k_is); (case k8 => (first | exact le_up (d := 1) hd rfl | exact le_up (d := 2) hd rfl | (simp only [depth_under_make, depth_under_kw, recursionLimit]; (first | lia | omega)))); (case k9 => first | exact BindsTo.of_eq rfl | exact binds_K (Cx.inK (by assumption)) rfl (by k_is) rfl rfl rfl); (case c5 => decide); (case kB => exact locs rfl); (case c2 => exact rfl); (case c3 => exact rfl); (case c4 => exact rfl)); intro base outer p loose mean mg mb g L' hB1 FG F NB G B X T hh; obtain rfl : env0 :: outer0 = outer := Option.some.inj B.stack; (try dsimp only); (try k_fold)
  have hg : FontAt w (Gd g) fl FM := hf.mono fun a o e => G a o e (by simp)
  have i1 := hg.inst
  have i2 := hg.dict
  have i3 := hg.gprog
  have i4 := hg.gkerns
  have i5 := hg.nstarts
  have w1 := hw.start l
  have w2 := hw.len
  k_with "call ref" => (refine starts_spec (Cx.deeper (by k_asm) (by k_asm) (by k_asm) (by k_asm) (by k_asm) rfl) (by first | exact le_up (d := 1) hd rfl | (simp only [depth_deeper]; (first | lia | omega))) (hg.mono fun a o e => Fr.keep (by k_asm) _ _ e) ?_; intro hw1 t1 tkw Fw Kw; have Nw := news_keep0 (by k_asm) Kw; (try k_sweep))
  repeat' ((fail_if_success (with_reducible show wpAny _ _ (exec (Stmt.If _ _ _ _) _) _ _ _)); first | (k_unfold; (try dsimp only)) | (dsimp only; k_unfold; (try dsimp only)) | ((fail_if_success (with_reducible show Exists _)); (fail_if_success (with_reducible show LeaveK h₀ L m g _ _ _)); first | walk1 | (dsimp only; (fail_if_success (with_reducible show Exists _)); (fail_if_success (with_reducible show LeaveK h₀ L m g _ _ _)); walk1)))
  walk1
  repeat' ((fail_if_success (with_reducible show wpAny _ _ (exec (Stmt.If _ _ _ _) _) _ _ _)); first | (k_unfold; (try dsimp only)) | (dsimp only; k_unfold; (try dsimp only)) | ((fail_if_success (with_reducible show Exists _)); (fail_if_success (with_reducible show LeaveK h₀ L m g _ _ _)); first | walk1 | (dsimp only; (fail_if_success (with_reducible show Exists _)); (fail_if_success (with_reducible show LeaveK h₀ L m g _ _ _)); walk1)))
  · ((try dsimp only); (try k_unfold); (try dsimp only); (with_reducible rename Fr _ _ _ _ => cF); (with_reducible rename News _ _ _ _ => cN); refine leaveK_ cF cN ?_; intro kF kN; (try dsimp only [InitBack]); (try refine ⟨rfl, ?_⟩); (try dsimp only))
    exact retN _ _ (by unfold FontM.look; rw [if_pos (.inl (by assumption))]) kF (fun b o e _ => cF.keep b o (G b o e (by simp)))
  · ((try dsimp only); (try k_unfold); (try dsimp only); (with_reducible rename Fr _ _ _ _ => cF); (with_reducible rename News _ _ _ _ => cN); refine leaveK_ cF cN ?_; intro kF kN; (try dsimp only [InitBack]); (try refine ⟨rfl, ?_⟩); (try dsimp only))
    exact retN _ _ (by unfold FontM.look; rw [if_pos (.inr (by assumption))]) kF (fun b o e _ => cF.keep b o (G b o e (by simp)))
  refine cutC (fun P : Flow → Shared → Prop => ∀ h' tk' p m₁, Fr g L' h' m₁ → News g L' h' [] → m₁ (Str.ofString "font") = some (.ref fl.x) → m₁ (Str.ofString "right") = some (.int r tr) → ∀ t, m₁ (Str.ofString "place") = some (.int p t) → m₁ (Str.ofString "program") = some (.ref fl.tp) →
    0 ≤ p → p < FM.prog.length → FM.look l r = lookFrom FM.prog r FM.prog.length p.toNat → P .next { s with heap := h', toks := tk' }) ?_ ?_
  · repeat' (first | (k_unfold; (try dsimp only)) | (dsimp only; k_unfold; (try dsimp only)) | ((fail_if_success (with_reducible show Exists _)); (fail_if_success (with_reducible show LeaveK h₀ L m g _ _ _)); first | walk1 | (dsimp only; (fail_if_success (with_reducible show Exists _)); (fail_if_success (with_reducible show LeaveK h₀ L m g _ _ _)); walk1)))
    · (with_reducible rename Fr _ _ _ _ => F7); (with_reducible rename News _ _ _ _ => N7); rename_i kJ; have q3 := look_lead (r := r) hw (by assumption) (by assumption) (by assumption) (by assumption); exact kJ _ _ _ _ F7 N7 rfl rfl _ rfl rfl q3.1 q3.2.1 q3.2.2
    · (with_reducible rename Fr _ _ _ _ => F7); (with_reducible rename News _ _ _ _ => N7); rename_i kJ; have q3 := look_plain (r := r) hw (by assumption) (by assumption) (fun h => absurd h.2 (by assumption)); exact kJ _ _ _ _ F7 N7 rfl rfl _ rfl rfl q3.1 q3.2.1 q3.2.2
    · (with_reducible rename Fr _ _ _ _ => F7); (with_reducible rename News _ _ _ _ => N7); rename_i kJ; have q3 := look_plain (r := r) hw (by assumption) (by assumption) (fun h => absurd (by assumption) h.1); exact kJ _ _ _ _ F7 N7 rfl rfl _ rfl rfl q3.1 q3.2.1 q3.2.2
  intro h' tk' p m₁ F5 N5 n1 n2 tp' n3 n4 p0 p1 pl
  (try dsimp only)
  repeat' ((fail_if_success (with_reducible show wpAny _ _ (exec (Stmt.While _ _ _ _) _) _ _ _)); first | (k_unfold; (try dsimp only)) | (dsimp only; k_unfold; (try dsimp only)) | ((fail_if_success (with_reducible show Exists _)); (fail_if_success (with_reducible show LeaveK h₀ L m g _ _ _)); first | walk1 | (dsimp only; (fail_if_success (with_reducible show Exists _)); (fail_if_success (with_reducible show LeaveK h₀ L m g _ _ _)); walk1)))
  (with_reducible rename Fr _ _ _ _ => F6)
  (with_reducible rename News _ _ _ _ => N6)
  refine While_inv2 (n₀ := FM.prog.length + 1) (fun n m₂ nw => nw = [] ∧ m₂ (Str.ofString "font") = some (.ref fl.x) ∧ m₂ (Str.ofString "right") = some (.int r tr) ∧ m₂ (Str.ofString "program") = some (.ref fl.tp) ∧ ∃ p t gb, m₂ (Str.ofString "place") = some (.int p t) ∧ m₂ (Str.ofString "going") = some (.bool gb) ∧
    ((gb = true ∧ 0 ≤ p ∧ p < FM.prog.length ∧ 1 ≤ n ∧ FM.prog.length + 1 ≤ n + p ∧ FM.look l r = lookFrom FM.prog r (n - 1) p.toNat) ∨ (gb = false ∧ FM.look l r = none))) F6 N6 ⟨rfl, n1, n2, n4, p, tp', true, n3, rfl, .inl ⟨rfl, p0, p1, by (first | lia | omega), by (first | lia | omega), by simpa using pl⟩⟩ ?_ ?_
  · rintro n m₂ nw hA tkA FA NA ⟨rfl, a1, a2, a3, pp, tpp, gb, a4, a5, hcase⟩
    (try clear F5); (try clear N5); (try clear F6); (try clear N6); clear n1 n2 n3 n4
    rcases hcase with ⟨rfl, q0, q1, q2, q3, ql⟩ | ⟨rfl, ql⟩
    · have ok := FM.row_ok hw q0 q1
      have o1 := ok.op0
      have o2 := ok.op1
      have o3 := ok.rest0
      have o4 := ok.rest1
      repeat' (first | (k_unfold; (try dsimp only)) | (dsimp only; k_unfold; (try dsimp only)) | ((fail_if_success (with_reducible show Exists _)); (fail_if_success (with_reducible show LeaveK h₀ L m g _ _ _)); first | walk1 | (dsimp only; (fail_if_success (with_reducible show Exists _)); (fail_if_success (with_reducible show LeaveK h₀ L m g _ _ _)); walk1)))
      · unfold WhileStep2
        ((try dsimp only); (try k_unfold); (try dsimp only); (with_reducible rename Fr _ _ _ _ => cF); (with_reducible rename News _ _ _ _ => cN); refine leaveK_ cF cN ?_; intro kF kN; (try dsimp only [InitBack]); (try refine ⟨rfl, ?_⟩); (try dsimp only))
        exact retS _ _ _ _ _ _ _ ((look_hit q0 q1 q3 ql (by assumption) (by assumption)).trans (congrArg some (told_kern (by assumption)))) (fresh_g G (cN.fresh (.head _)) (by simp)) kF kN (fun b o e _ => cF.keep b o (G b o e (by simp)))
      · unfold WhileStep2
        ((try dsimp only); (try k_unfold); (try dsimp only); (with_reducible rename Fr _ _ _ _ => cF); (with_reducible rename News _ _ _ _ => cN); refine leaveK_ cF cN ?_; intro kF kN; (try dsimp only [InitBack]); (try refine ⟨rfl, ?_⟩); (try dsimp only))
        exact retS _ _ _ _ _ _ _ ((look_hit q0 q1 q3 ql (by assumption) (by assumption)).trans (congrArg some (told_known (by assumption) (by assumption)))) (fresh_g G (cN.fresh (.head _)) (by simp)) kF kN (fun b o e _ => cF.keep b o (G b o e (by simp)))
      · unfold WhileStep2
        ((try dsimp only); (try k_unfold); (try dsimp only); (with_reducible rename Fr _ _ _ _ => cF); (with_reducible rename News _ _ _ _ => cN); refine leaveK_ cF cN ?_; intro kF kN; (try dsimp only [InitBack]); (try refine ⟨rfl, ?_⟩); (try dsimp only))
        exact retS _ _ _ _ _ _ _ ((look_hit q0 q1 q3 ql (by assumption) (by assumption)).trans (congrArg some (told_other (by assumption) (by assumption)))) (fresh_g G (cN.fresh (.head _)) (by simp)) kF kN (fun b o e _ => cF.keep b o (G b o e (by simp)))
      · unfold WhileStep2
        (with_reducible rename Fr _ _ _ _ => F7); (with_reducible rename News _ _ _ _ => N7)
        exact ⟨_, _, _, _, n - 1, rfl, F7, N7, by (first | lia | omega), rfl, a1, a2, a3, _, _, _, rfl, rfl, look_on hw q0 q1 q3 ql (fun h => absurd h.2 (by assumption))⟩
      · unfold WhileStep2
        (with_reducible rename Fr _ _ _ _ => F7); (with_reducible rename News _ _ _ _ => N7)
        exact ⟨_, _, _, _, n - 1, rfl, F7, N7, by (first | lia | omega), rfl, a1, a2, a3, _, _, _, rfl, rfl, look_on hw q0 q1 q3 ql (fun h => absurd h.1 (by assumption))⟩
    · repeat' (first | (k_unfold; (try dsimp only)) | (dsimp only; k_unfold; (try dsimp only)) | ((fail_if_success (with_reducible show Exists _)); (fail_if_success (with_reducible show LeaveK h₀ L m g _ _ _)); first | walk1 | (dsimp only; (fail_if_success (with_reducible show Exists _)); (fail_if_success (with_reducible show LeaveK h₀ L m g _ _ _)); walk1)))
      ((try dsimp only); (try k_unfold); (try dsimp only); (with_reducible rename Fr _ _ _ _ => cF); (with_reducible rename News _ _ _ _ => cN); refine leaveK_ cF cN ?_; intro kF kN; (try dsimp only [InitBack]); (try refine ⟨rfl, ?_⟩); (try dsimp only))
      exact retN _ _ ql kF (fun b o e _ => cF.keep b o (G b o e (by simp)))
  · exact PassesOwn.leaving
end Mine
theorem Mine.fresh_B6 : True := by w_top off; k_with_none; trivial
namespace Mine
theorem fill_once6 (P : Params) : Mine.kk.heap_1 P = Mine.kk.heap_1 P ∧ PySem.Challenge.rw_sq0044_01 = PySem.Challenge.rw_sq0044_01 := by
  k_fill
  exact ⟨rfl, rfl⟩
theorem lnB6_0 : True := by
  k_with "execs cons" => (k_here; (with_reducible refine PySem.wpAny_execs_cons ?_); (try dsimp only); k_fold)
  k_with "execs cons" => (k_here; (with_reducible refine toks_gen ?_); intro _)
  k_with "eval Call" => (k_here; (with_reducible show wpAny _ _ (eval (Expr.Call (Expr.Name _ _) _ [] _) (envOf _ _ _ _ _)) _ _ _); k_dflt (refine call_named (by k_asm) (by k_asm) (by k_asm) (by k_is) (by k_is) (by (repeat' (first | exact ArgsV.nil | refine' ArgsV.loc (by first | exact rfl | assumption) rfl (by decide) ?_ | refine' ArgsV.int ?_ | refine' ArgsV.bool ?_ | refine' ArgsV.none ?_)); done) ?_))
  k_with "my sub" => first | exact List.forall_mem_nil _ | (refine' List.forall_mem_cons.mpr ⟨?_, ?_⟩; (· k_mem); (· k_extra "my sub")) | (intro q hq; repeat (first | exact hq | refine List.Mem.tail _ ?_))
  k_with "call type:tuple" => (k_here; (with_reducible show wpAny _ _ (call (Value.type _) [Value.ref _]) _ _ _); k_dflt (refine tuple_list_M (by k_asm) (by k_asm) (by k_mem) (by (first | lia | omega)) ?_); intro _ _ _ _ lz9; (try k_lt lz9); (try k_sweep))
  k_with "call ref" => ((fail_if_success (k_extra "svB60")); (k_here; k_dflt (k_extra "my call B60")))
  trivial
theorem ownB6_0 : True := by
  k_with "own k_ne" => (refine neN ?_; (try dsimp only); first | (with_reducible assumption) | (refine Ne.symm ?_; with_reducible assumption))
  trivial
end Mine
open Mine
local macro_rules | `(tactic| k_ne) => `(tactic| k_extra "own k_ne")
namespace Mine
theorem ownB6_1 : True := by
  k_with "own k_room" => ((try simp only [depth_under_make, depth_under_kw, depth_in1, depth_deeper, recursionLimit]); (first | lia | omega))
  trivial
theorem lnB6_1 : True := by
  k_with "getAttr ref" => (k_here; k_dflt (refine getAttr_g (by k_asm) (by k_asm) (by assumption) (by assumption) (by assumption) (by k_is) (by k_is) (by k_is) (by k_is) (by k_handed) ?_; k_whole))
  k_with "getMethod ref" => (k_here; k_dflt (refine getMethod_g (by k_asm) (by k_asm) (by assumption) (by assumption) (by assumption) (by k_is) (by k_is) (by k_is) ?_; k_whole))
  k_with "compareOp In int ref" => (k_here; (refine in_chars (by k_asm) (by assumption) ?_))
  k_with "getMethod ref" => (k_here; (refine getMethod_chars (by k_asm) (by assumption) ?_))
  k_with "call builtin:dict.get" => (k_here; (refine get_chars (by k_asm) (by assumption) ?_ ?_); (all_goals intros))
  k_with "subscriptTail" => (k_here; (with_reducible show wpAny _ _ (subscriptTail _ _ (Value.ref _) (Value.int _ _)) _ _ _); k_dflt (refine item_tupleT (by exact TupP.at (Fr.keep (by k_asm)) (by assumption)) (by decide) (by decide) (by rfl) (by rfl) ?_; k_whole))
  trivial
theorem lnB6_2 : True := by
  k_with "subscriptTail" => (k_here; (with_reducible show wpAny _ _ (subscriptTail _ _ (Value.ref (FontL.tk _)) (Value.int _ _)) _ _ _); k_dflt (refine kern_item (by k_asm) (by assumption) (by first | (first | lia | omega) | (have ok' := RowM.OK.kern (by assumption) (by (first | lia | omega)) (by (first | lia | omega)); (first | lia | omega))) (by first | (first | lia | omega) | (have ok' := RowM.OK.kern (by assumption) (by (first | lia | omega)) (by (first | lia | omega)); (first | lia | omega))) ?_ (by with_unfolding_all rfl)); intros)
  k_with "subscriptTail" => (k_here; (with_reducible show wpAny _ _ (subscriptTail _ _ (Value.ref (FontL.tp _)) (Value.int _ _)) _ _ _); k_dflt (refine prog_item (by k_asm) (by assumption) (by (first | lia | omega)) (by (first | lia | omega)) (by (first | lia | omega)) ?_ (by with_unfolding_all rfl) (by (intro _; with_unfolding_all rfl))); intros)
  k_with "compareOp In int ref" => (k_here; (with_reducible show wpAny _ _ (compareOp _ (Value.int _ _) (Value.ref 392)) _ _ _); (refine' in_known (Frag.In.keeps (by k_asm) (Fr.keep (by k_asm))) ?_))
  k_with "eval Name" => (k_here; (fail_if_success (with_reducible show wpAny _ _ (eval (Expr.Name _ _) (envOfC _ _ _ _ _)) _ _ _)); (fail_if_success (with_reducible show wpAny _ _ (eval (Expr.Name _ _) (compEnvC _ _ _ _)) _ _ _)); k_dflt (refine ld (by k_asm) (by first | exact rfl | assumption) ?_; k_whole))
  trivial
structure Item where
  code : Int
  parts : List Int
  made : Bool
inductive NodeP where
  | char (c : Int)
  | lig (c : Int) (parts : List Int) (l r : Bool)
  | kern (k : Int)
structure WordS where
  now : Option Item
  wait : List Item
  edge : Int
  found : List NodeP
  hl : Bool
  hr : Bool
  go : Bool
noncomputable def OctI (i : Int) : Prop := 0 ≤ i ∧ i ≤ 255
structure Item.OK (it : Item) : Prop where
  code : OctI it.code
  parts : ∀ i ∈ it.parts, OctI i
  few : it.parts.length ≤ 100
/-- ints, whatever their tokens -/
noncomputable def IntsV (vs : List Value) (ns : List Int) : Prop := vs.length = ns.length ∧ ∀ (i : Nat) (n : Int), ns[i]? = some n → ∃ t, vs[i]? = some (.int n t)
theorem IntsV.nil : IntsV [] [] := ⟨rfl, fun _ _ h => by simp at h⟩
theorem IntsV.oct {vs : List Value} {ns : List Int} (x : IntsV vs ns) (h : ∀ i ∈ ns, OctI i) : ∀ v ∈ vs, Oct v := fun v hv => by
  obtain ⟨i, hi, rfl⟩ := List.mem_iff_getElem.mp hv
  have hi' : i < ns.length := by rw [← x.1]; exact hi
  obtain ⟨t, ht⟩ := x.2 i ns[i] (by simp [hi'])
  rw [List.getElem?_eq_getElem hi] at ht
  have o := h ns[i] (List.getElem_mem hi')
  exact ⟨ns[i], t, Option.some.inj ht, o.1, o.2⟩
theorem IntsV.append {vs vs' : List Value} {ns ns' : List Int} (x : IntsV vs ns) (y : IntsV vs' ns') : IntsV (vs ++ vs') (ns ++ ns') := by
  refine ⟨by rw [List.length_append, List.length_append, x.1, y.1], fun i n h => ?_⟩
  by_cases hi : i < ns.length
  · rw [List.getElem?_append_left hi] at h
    rw [List.getElem?_append_left (by rw [x.1]; exact hi)]
    exact x.2 i n h
  · rw [List.getElem?_append_right (by (first | lia | omega))] at h
    rw [List.getElem?_append_right (by rw [x.1]; (first | lia | omega)), x.1]
    exact y.2 _ n h
theorem IntsV.one (n : Int) (t : Tok) : IntsV [.int n t] [n] := ⟨rfl, fun i m h => by
  cases i with
  | zero => simp at h; subst h; exact ⟨t, rfl⟩
  | succ i => simp at h⟩
structure ItemAt (P : Addr → Obj → Prop) (v : Value) (it : Item) : Prop where
  ok : it.OK
  at_ : ∃ a b tc pv, v = .ref a ∧ P a (tupO [.int it.code tc, .ref b, .bool it.made]) ∧ P b (tupO pv) ∧ IntsV pv it.parts
theorem ItemAt.mono {P P' : Addr → Obj → Prop} {v : Value} {it : Item} (k : ∀ a o, P a o → P' a o) (x : ItemAt P v it) : ItemAt P' v it :=
  ⟨x.ok, x.at_.imp fun _ => Exists.imp fun _ => Exists.imp fun _ => Exists.imp fun _ => And.imp_right (And.imp (k _ _) (And.imp_left (k _ _)))⟩
noncomputable def NodeAt (w : World) (P : Addr → Obj → Prop) (vf : Value) (v : Value) : NodeP → Prop
  | .char c => ∃ a d t1 t2 t, v = .ref a ∧ P a (instObj 315 d) ∧ P d (charD w t1 t2 vf (.int c t))
  | .lig c parts l r => ∃ a d b t1 t2 t3 t4 t5 t pv, v = .ref a ∧ P a (instObj 335 d) ∧ P d (ligD w t1 t2 t3 t4 t5 vf (.int c t) (.ref b) (.bool l) (.bool r)) ∧ P b (tupO pv) ∧ IntsV pv parts
  | .kern k => ∃ a d t1 t2 t t', v = .ref a ∧ P a (instObj 356 d) ∧ P d (kernD w t1 t2 (.int k t) (.int 0 t'))
theorem NodeAt.mono {w : World} {P P' : Addr → Obj → Prop} {vf v : Value} {n : NodeP} (k : ∀ a o, P a o → P' a o) (x : NodeAt w P vf v n) : NodeAt w P' vf v n := by
  cases n with
  | char c => exact Exists.imp (fun _ => Exists.imp fun _ => Exists.imp fun _ => Exists.imp fun _ => Exists.imp fun _ => And.imp_right (And.imp (k _ _) (k _ _))) x
  | lig c p l r => exact Exists.imp (fun _ => Exists.imp fun _ => Exists.imp fun _ => Exists.imp fun _ => Exists.imp fun _ => Exists.imp fun _ => Exists.imp fun _ => Exists.imp fun _ => Exists.imp fun _ => Exists.imp fun _ => And.imp_right (And.imp (k _ _) (And.imp (k _ _) (And.imp_left (k _ _))))) x
  | kern c => exact Exists.imp (fun _ => Exists.imp fun _ => Exists.imp fun _ => Exists.imp fun _ => Exists.imp fun _ => Exists.imp fun _ => And.imp_right (And.imp (k _ _) (k _ _))) x
/-- values and what they stand for, one by one -/
inductive All2 {α : Type} (R : Value → α → Prop) : List Value → List α → Prop
  | nil : All2 R [] []
  | cons {v a vs as} : R v a → All2 R vs as → All2 R (v :: vs) (a :: as)
theorem All2.mono {α : Type} {R R' : Value → α → Prop} (k : ∀ v a, R v a → R' v a) {vs : List Value} {as : List α} (x : All2 R vs as) : All2 R' vs as := by
  induction x with
  | nil => exact .nil
  | cons h _ ih => exact .cons (k _ _ h) ih
theorem All2.snoc {α : Type} {R : Value → α → Prop} {v : Value} {a : α} {vs : List Value} {as : List α} (x : All2 R vs as) (h : R v a) : All2 R (vs ++ [v]) (as ++ [a]) := by
  induction x with
  | nil => exact .cons h .nil
  | cons h _ ih => exact .cons h ih
theorem All2.append {α : Type} {R : Value → α → Prop} {vs' : List Value} {as' : List α} (y : All2 R vs' as') {vs : List Value} {as : List α} (x : All2 R vs as) : All2 R (vs ++ vs') (as ++ as') := by
  induction x with
  | nil => exact y
  | cons h _ ih => exact .cons h ih
theorem All2.length {α : Type} {R : Value → α → Prop} {vs : List Value} {as : List α} (x : All2 R vs as) : vs.length = as.length := by
  induction x with
  | nil => rfl
  | cons _ _ ih => exact congrArg (· + 1) ih
theorem All2.get {α : Type} {R : Value → α → Prop} {vs : List Value} {as : List α} (x : All2 R vs as) : ∀ (i : Nat) (v : Value), vs[i]? = some v → ∃ a, as[i]? = some a ∧ R v a := by
  induction x with
  | nil => exact fun i v h => nomatch h
  | cons h _ ih =>
    intro i v e
    cases i with
    | zero => exact ⟨_, rfl, Option.some.inj e ▸ h⟩
    | succ i => exact ih i v e
structure WT where
  t1 : Tok
  t2 : Tok
  t3 : Tok
  t4 : Tok
  t5 : Tok
  t6 : Tok
  t7 : Tok
  t8 : Tok
/-- the word's dict -/
noncomputable abbrev wordO (w : World) (k : WT) (vf : Value) (wl : Addr) (vnow vedge : Value) (fa : Addr) (hl hr go : Bool) : Obj := dictOf [⟨PyData.keyHash w.params (Str.ofString "font"), .str (Str.ofString "font") k.t1, vf⟩, ⟨PyData.keyHash w.params (Str.ofString "waiting"), .str (Str.ofString "waiting") k.t2, .ref wl⟩,
  ⟨PyData.keyHash w.params (Str.ofString "now"), .str (Str.ofString "now") k.t3, vnow⟩, ⟨PyData.keyHash w.params (Str.ofString "edge"), .str (Str.ofString "edge") k.t4, vedge⟩, ⟨PyData.keyHash w.params (Str.ofString "found"), .str (Str.ofString "found") k.t5, .ref fa⟩,
  ⟨PyData.keyHash w.params (Str.ofString "hit_left"), .str (Str.ofString "hit_left") k.t6, .bool hl⟩, ⟨PyData.keyHash w.params (Str.ofString "hit_right"), .str (Str.ofString "hit_right") k.t7, .bool hr⟩, ⟨PyData.keyHash w.params (Str.ofString "is_going"), .str (Str.ofString "is_going") k.t8, .bool go⟩] 8
/-- where the word stands (does not change) -/
structure WordL where
  x : Addr
  dx : Addr
  wl : Addr
  fa : Addr
  k : WT
  fx : Addr
/-- the values it holds -/
structure WordV where
  wvs : List Value
  nw : Nat
  fvs : List Value
  nf : Nat
  vnow : Value
  te : Tok
noncomputable abbrev wled (w : World) (l : WordL) (v : WordV) (st : WordS) : List (Addr × Obj) := [(l.x, instObj 414 l.dx), (l.dx, wordO w l.k (.ref l.fx) l.wl v.vnow (.int st.edge v.te) l.fa st.hl st.hr st.go), (l.wl, listOf v.wvs.toArray v.nw), (l.fa, listOf v.fvs.toArray v.nf)]
noncomputable abbrev waddr (l : WordL) : List Addr := [l.x, l.dx, l.wl, l.fa]
structure WordL.Apart (l : WordL) (ol : List (Addr × Obj)) : Prop where
  x_dx : @Ne Nat l.x l.dx
  x_wl : @Ne Nat l.x l.wl
  x_fa : @Ne Nat l.x l.fa
  dx_wl : @Ne Nat l.dx l.wl
  dx_fa : @Ne Nat l.dx l.fa
  wl_fa : @Ne Nat l.wl l.fa
  o_x : ∀ p ∈ ol, p.1 ≠ l.x
  o_dx : ∀ p ∈ ol, p.1 ≠ l.dx
  o_wl : ∀ p ∈ ol, p.1 ≠ l.wl
  o_fa : ∀ p ∈ ol, p.1 ≠ l.fa
noncomputable def NowAt (P : Addr → Obj → Prop) (v : Value) : Option Item → Prop
  | none => v = .none
  | some it => ItemAt P v it
structure WordR (w : World) (P : Addr → Obj → Prop) (l : WordL) (v : WordV) (st : WordS) : Prop where
  now : NowAt P v.vnow st.now
  wait : All2 (ItemAt P) v.wvs st.wait.reverse
  found : All2 (NodeAt w P (.ref l.fx)) v.fvs st.found
  few : st.wait.length + st.found.length ≤ 100000
noncomputable def WordS.leave (st : WordS) : WordS := match st.now with
  | none => st
  | some it => if it.made then { st with found := st.found ++ [.lig it.code it.parts st.hl (st.hr && st.wait.isEmpty)], hl := false } else { st with found := st.found ++ [.char it.code] }
noncomputable abbrev MemP (ol : List (Addr × Obj)) : Addr → Obj → Prop := fun a o => (a, o) ∈ ol
end Mine
open Mine
local macro_rules | `(tactic| k_all) => `(tactic| assumption)
namespace Mine
/-- the end of a call of the word's: news first, the word's own, the others -/
noncomputable def WEnd (w : World) (h₀ : Heap) (L : Addr) (m : Str → Option Value) (s : Shared) (l : WordL) (ol : List (Addr × Obj)) (st : WordS) (Q : Value → Shared → Prop) : Prop :=
  ∀ (v' : WordV) (nl : List (Addr × Obj)) (h' : Heap) (tk' : Tok), Fr h₀ L h' m → News h₀ L h' (wled w l v' st ++ (nl ++ ol)) → (∀ p ∈ nl, s.heap.get? p.1 = none) → l.Apart (nl ++ ol) → WordR w (MemP (nl ++ ol)) l v' st → Kept s.heap (waddr l ++ ol.map (·.1)) h' → Q .none { s with heap := h', toks := tk' }
theorem kept_w {w : World} {g h h' : Heap} {l : WordL} {v : WordV} {st : WordS} {ol : List (Addr × Obj)} (G : ∀ b o, h.get? b = some o → b ∉ (wled w l v st ++ ol).map (·.1) → g.get? b = some o) (K : ∀ b o, g.get? b = some o → h'.get? b = some o) : Kept h (waddr l ++ ol.map (·.1)) h' :=
  fun b o e n => K b o (G b o e (by rw [List.map_append]; exact n))
theorem tup_mem {h₀ h : Heap} {L a : Addr} {news ol : List (Addr × Obj)} {vs : List Value} (N : News h₀ L h news) (hm : (a, tupO vs) ∈ ol) (sub : ∀ q, q ∈ ol → q ∈ news) : IsTup h a vs.toArray := ⟨_, (N _ (sub _ hm)).1, rfl, _, rfl⟩
theorem lnB6_3 : True := by
  k_with "assign Tuple" => (k_here; (with_reducible show wpAny _ _ (assign (Expr.Tuple _ _ _) _ (Value.ref _)) _ _ _); k_dflt (refine unpackN_ (by k_asm) (by k_asm) (by exact tup_mem (by k_asm) (by assumption) (by intro q hq; repeat (first | exact hq | refine List.Mem.tail _ ?_))) (by exact rfl) (by exact rfl) (by exact rfl) ?_); intro _ _ _; (try k_sweep))
  trivial
theorem allNe_mem {q : Addr} : ∀ {ol : List (Addr × Obj)}, TLg.AllNe q ol → ∀ p ∈ ol, p.1 ≠ q
  | [], _, _, h => nomatch h
  | _ :: _, x, p, h => by
    rcases List.mem_cons.mp h with rfl | h
    · exact x.1
    · exact allNe_mem x.2 p h
theorem fresh_w {w : World} {g h : Heap} {l : WordL} {v : WordV} {st : WordS} {ol : List (Addr × Obj)} {q : Addr} (G : ∀ b o, h.get? b = some o → b ∉ (wled w l v st ++ ol).map (·.1) → g.get? b = some o) (hq : g.get? q = none)
    (n : @Ne Nat l.x q ∧ @Ne Nat l.dx q ∧ @Ne Nat l.wl q ∧ @Ne Nat l.fa q ∧ TLg.AllNe q ol) : h.get? q = none := fresh_g G hq fun hm => by
  obtain ⟨n1, n2, n3, n4, n5⟩ := n
  rw [List.map_append] at hm
  rcases List.mem_append.mp hm with hm | hm
  · simp only [List.map_cons, List.map_nil, List.mem_cons, List.not_mem_nil, or_false] at hm
    rcases hm with e | e | e | e
    · exact n1 e.symm
    · exact n2 e.symm
    · exact n3 e.symm
    · exact n4 e.symm
  · obtain ⟨p, hp, e⟩ := List.mem_map.mp hm
    exact allNe_mem n5 p hp e
theorem WordL.Apart.more {l : WordL} {ol : List (Addr × Obj)} {q : Addr} {o : Obj} (D : l.Apart ol) (n : @Ne Nat l.x q ∧ @Ne Nat l.dx q ∧ @Ne Nat l.wl q ∧ @Ne Nat l.fa q ∧ TLg.AllNe q ol) : l.Apart ((q, o) :: ol) :=
  ⟨D.x_dx, D.x_wl, D.x_fa, D.dx_wl, D.dx_fa, D.wl_fa, List.forall_mem_cons.mpr ⟨Ne.symm n.1, D.o_x⟩, List.forall_mem_cons.mpr ⟨Ne.symm n.2.1, D.o_dx⟩, List.forall_mem_cons.mpr ⟨Ne.symm n.2.2.1, D.o_wl⟩, List.forall_mem_cons.mpr ⟨Ne.symm n.2.2.2.1, D.o_fa⟩⟩
theorem NowAt.mono {P P' : Addr → Obj → Prop} {v : Value} {o : Option Item} (k : ∀ a o, P a o → P' a o) (x : NowAt P v o) : NowAt P' v o := by
  cases o with
  | none => exact x
  | some it => exact ItemAt.mono k x
theorem WordR.mono {w : World} {P P' : Addr → Obj → Prop} {l : WordL} {v : WordV} {st : WordS} (k : ∀ a o, P a o → P' a o) (x : WordR w P l v st) : WordR w P' l v st :=
  ⟨x.now.mono k, x.wait.mono fun _ _ h => h.mono k, x.found.mono fun _ _ h => h.mono k, x.few⟩
theorem WordR.more {w : World} {ol : List (Addr × Obj)} {l : WordL} {v : WordV} {st : WordS} (x : WordR w (MemP ol) l v st) (nl : List (Addr × Obj)) : WordR w (MemP (nl ++ ol)) l v st := x.mono fun _ _ h => List.mem_append_right _ h
theorem WordR.snoc {w : World} {P : Addr → Obj → Prop} {l : WordL} {v : WordV} {n : Option Item} {wx : List Item} {ed ed' : Int} {fx : List NodeP} {hl hr go hl' hr' go' : Bool} {x : Value} {y : NodeP} {nf : Nat} {te : Tok} (R : WordR w P l v ⟨n, wx, ed, fx, hl, hr, go⟩)
    (h : NodeAt w P (.ref l.fx) x y) (hfew : wx.length + fx.length ≤ 90000) : WordR w P l ⟨v.wvs, v.nw, v.fvs ++ [x], nf, v.vnow, te⟩ ⟨n, wx, ed', fx ++ [y], hl', hr', go'⟩ :=
  ⟨R.now, R.wait, R.found.snoc h, by simp only [List.length_append, List.length_cons, List.length_nil]; (first | lia | omega)⟩
theorem leave_none {w : World} {A : Around} {s : Shared} {h₀ : Heap} {L : Addr} {m : Str → Option Value} {l : WordL} {v : WordV} {wx : List Item} {ed : Int} {fx : List NodeP} {hl hr go : Bool} {ol : List (Addr × Obj)} {Q E : Value → Shared → Prop}
    (C : Cx w A h₀ L s.heap m) (hd : A.depth ≤ 350) (N : News h₀ L s.heap (wled w l v ⟨none, wx, ed, fx, hl, hr, go⟩ ++ ol)) (D : l.Apart ol) (R : WordR w (MemP ol) l v ⟨none, wx, ed, fx, hl, hr, go⟩)
    (ret : WEnd w h₀ L m s l ol ⟨none, wx, ed, fx, hl, hr, go⟩ Q) :
    wpAny (model PySem.Challenge.rw_sq0044_01.row.prog w) A (call (.ref 425) [.ref l.x]) Q E s := by
  have e0 : v.vnow = .none := R.now
  refine wpAny_call ?_
  refine Cx.form_ C ?_; intro dp un gd env0 outer0 eA9; subst eA9; (try dsimp only at hd); (try dsimp only at hu); k_dflt (refine' enter (binds := [(Str.ofString "word", .ref l.x)]) ?k1 ?k2 ?k6 ?k7 ?k8 ?k9 ?kB ?_ ?c2 ?c3 ?c4 ?c5; (case k1 => assumption); (case k2 => assumption); (case k6 => k_is); (case k7 => k_is); (case k8 => (first | exact le_up (d := 1) hd rfl | exact le_up (d := 2) hd rfl | (simp only [depth_under_make, depth_under_kw, recursionLimit]; (first | lia | omega)))); (case k9 => first | exact BindsTo.of_eq rfl | exact binds_K (Cx.inK (by assumption)) rfl (by k_is) rfl rfl rfl); (case c5 => decide); (case kB => exact locs rfl); (case c2 => exact rfl); (case c3 => exact rfl); (case c4 => exact rfl)); intro base outer p loose mean mg mb g L' hB1 FG F NB G B X T hh; obtain rfl : env0 :: outer0 = outer := Option.some.inj B.stack; (try dsimp only); (try k_fold)
  dsimp only [List.cons_append, List.nil_append] at NB
  rw [e0] at NB
  repeat' (first | (k_unfold; (try dsimp only)) | (dsimp only; k_unfold; (try dsimp only)) | ((fail_if_success (with_reducible show Exists _)); (fail_if_success (with_reducible show LeaveK h₀ L m g _ _ _)); first | walk1 | (dsimp only; (fail_if_success (with_reducible show Exists _)); (fail_if_success (with_reducible show LeaveK h₀ L m g _ _ _)); walk1)))
  ((try dsimp only); (try k_unfold); (try dsimp only); (with_reducible rename Fr _ _ _ _ => cF); (with_reducible rename News _ _ _ _ => cN); refine leaveK_ cF cN ?_; intro kF kN; (try dsimp only [InitBack]); (try refine ⟨rfl, ?_⟩); (try dsimp only))
  rw [← e0] at kN
  exact ret v [] _ _ kF kN (fun _ h => nomatch h) D R (kept_w G cF.keep)
theorem leave_char {w : World} {A : Around} {s : Shared} {h₀ : Heap} {L : Addr} {m : Str → Option Value} {l : WordL} {v : WordV} {c : Int} {ps : List Int} {wx : List Item} {ed : Int} {fx : List NodeP} {hl hr go : Bool} {ol : List (Addr × Obj)} {Q E : Value → Shared → Prop}
    (C : Cx w A h₀ L s.heap m) (hd : A.depth ≤ 350) (N : News h₀ L s.heap (wled w l v ⟨some ⟨c, ps, false⟩, wx, ed, fx, hl, hr, go⟩ ++ ol)) (D : l.Apart ol) (R : WordR w (MemP ol) l v ⟨some ⟨c, ps, false⟩, wx, ed, fx, hl, hr, go⟩) (hfew : wx.length + fx.length ≤ 90000)
    (ret : WEnd w h₀ L m s l ol ⟨some ⟨c, ps, false⟩, wx, ed, fx ++ [.char c], hl, hr, go⟩ Q) :
    wpAny (model PySem.Challenge.rw_sq0044_01.row.prog w) A (call (.ref 425) [.ref l.x]) Q E s := by
  obtain ⟨ok, a, b, tc, pv, e0, m1, m2, iv⟩ := id R.now
  have r2 := R.found.length
  dsimp only [MemP] at m1 m2 iv r2
  obtain ⟨d1, d2, d3, d4, d5, d6, d7, d8, d9, d10⟩ := id D
  refine wpAny_call ?_
  refine Cx.form_ C ?_; intro dp un gd env0 outer0 eA9; subst eA9; (try dsimp only at hd); (try dsimp only at hu); k_dflt (refine' enter (binds := [(Str.ofString "word", .ref l.x)]) ?k1 ?k2 ?k6 ?k7 ?k8 ?k9 ?kB ?_ ?c2 ?c3 ?c4 ?c5; (case k1 => assumption); (case k2 => assumption); (case k6 => k_is); (case k7 => k_is); (case k8 => (first | exact le_up (d := 1) hd rfl | exact le_up (d := 2) hd rfl | (simp only [depth_under_make, depth_under_kw, recursionLimit]; (first | lia | omega)))); (case k9 => first | exact BindsTo.of_eq rfl | exact binds_K (Cx.inK (by assumption)) rfl (by k_is) rfl rfl rfl); (case c5 => decide); (case kB => exact locs rfl); (case c2 => exact rfl); (case c3 => exact rfl); (case c4 => exact rfl)); intro base outer p loose mean mg mb g L' hB1 FG F NB G B X T hh; obtain rfl : env0 :: outer0 = outer := Option.some.inj B.stack; (try dsimp only); (try k_fold)
  dsimp only [List.cons_append, List.nil_append] at NB
  rw [e0] at NB
  k_with "my call B60" => (refine char_spec (Cx.deeper (by k_asm) (by k_asm) (by k_asm) (by k_asm) (by k_asm) rfl) (by first | exact le_up (d := 1) hd rfl | (simp only [depth_deeper]; (first | lia | omega))) ok.code.1 ok.code.2 ?_; intro xc dc tc1 tc2 hw1 tkw fx1 fd1 lt1 Fw Nw1 Kw; have Nw := news_app Nw1 (news_keep0 (by k_asm) Kw); (try dsimp only [List.cons_append, List.nil_append] at Nw); have hne := TLgL.allNe_of (news_none (by k_asm) fx1); have hne2 := TLgL.allNe_of (news_none (by k_asm) fd1); (try simp only [TLg.AllNe, List.cons_append, List.nil_append] at hne hne2); obtain ⟨ne1, ne2, ne3, ne4, ne5⟩ := id hne; obtain ⟨me1, me2, me3, me4, me5⟩ := id hne2; (try k_sweep))
  repeat' (first | (k_unfold; (try dsimp only)) | (dsimp only; k_unfold; (try dsimp only)) | ((fail_if_success (with_reducible show Exists _)); (fail_if_success (with_reducible show LeaveK h₀ L m g _ _ _)); first | walk1 | (dsimp only; (fail_if_success (with_reducible show Exists _)); (fail_if_success (with_reducible show LeaveK h₀ L m g _ _ _)); walk1)))
  ((try dsimp only); (try k_unfold); (try dsimp only); (with_reducible rename Fr _ _ _ _ => cF); (with_reducible rename News _ _ _ _ => cN); refine leaveK_ cF cN ?_; intro kF kN; (try dsimp only [InitBack]); (try refine ⟨rfl, ?_⟩); (try dsimp only))
  rw [← e0, List.push_toArray] at kN
  refine ret { v with fvs := v.fvs ++ [.ref xc], nf := v.nf + 1 } [(xc, instObj 315 dc), (dc, charD w tc1 tc2 (.ref l.fx) (.int c tc))] _ _ kF (news_sub kN (by k_extra "my sub")) ?_ ?_ ?_ (kept_w G cF.keep)
  · exact List.forall_mem_cons.mpr ⟨fresh_w G (cN.fresh (.head _)) hne, List.forall_mem_cons.mpr ⟨fresh_w G (cN.fresh (.tail _ (.head _))) hne2, fun _ h => nomatch h⟩⟩
  · exact WordL.Apart.more (D.more hne2) ⟨hne.1, hne.2.1, hne.2.2.1, hne.2.2.2.1, (Ne.symm (Nat.ne_of_gt lt1) : @Ne Nat dc xc), hne.2.2.2.2⟩
  · have R' := R.mono (P' := MemP ([(xc, instObj 315 dc), (dc, charD w tc1 tc2 (.ref l.fx) (.int c tc))] ++ ol)) fun a o h => List.mem_append_right _ h
    exact ⟨R'.now, R'.wait, R'.found.snoc ⟨xc, dc, tc1, tc2, tc, rfl, .head _, .tail _ (.head _)⟩, by simp only [List.length_append, List.length_cons, List.length_nil]; (first | lia | omega)⟩
theorem eq_nil_list {prog : Program} {w : World} {A : Around} {E : Value → Shared → Prop} {s : Shared} {l b : Addr} {items : List Value} {Q : Value → Shared → Prop} (hl : s.heap.IsList l items.toArray) (hb : s.heap.IsList b #[]) (hu : A.units < cLine)
    (h : Q (.bool items.isEmpty) s) : wpAny (model prog w) A (compareOp .Eq (.ref l) (.ref b)) Q E s := by
  cases items with
  | nil => exact PySem.SeqAt.eq_listAt (e := fun _ => true) hl hb rfl hu (fun j h1 _ => absurd h1 (by simp)) (by simpa using h)
  | cons x r => exact PySem.SeqAt.eq_list_lengthsAt hl hb (by simp) hu h
theorem isEmpty_all2 {α : Type} {R : Value → α → Prop} {vs : List Value} {as : List α} (x : All2 R vs as.reverse) : vs.isEmpty = as.isEmpty := by
  have := x.length
  rw [List.length_reverse] at this
  cases vs <;> cases as <;> simp_all
theorem lnB6_4 : True := by
  k_with "compareOp Eq ref ref" => (k_here; k_dflt (refine eq_nil_list (by exact News.isList (by k_asm) (by k_mem)) (by exact News.isList (by k_asm) (by k_mem)) (by (have hcL9 := cLine_is; (simp only [units_deeper] at *); (first | lia | omega))) ?_))
  trivial
theorem leave_lig {w : World} {A : Around} {s : Shared} {h₀ : Heap} {L : Addr} {m : Str → Option Value} {l : WordL} {v : WordV} {c : Int} {ps : List Int} {wx : List Item} {ed : Int} {fx : List NodeP} {hl hr go : Bool} {ol : List (Addr × Obj)} {Q E : Value → Shared → Prop}
    (C : Cx w A h₀ L s.heap m) (hd : A.depth ≤ 350) (hu : A.units ≤ 2000) (N : News h₀ L s.heap (wled w l v ⟨some ⟨c, ps, true⟩, wx, ed, fx, hl, hr, go⟩ ++ ol)) (D : l.Apart ol) (R : WordR w (MemP ol) l v ⟨some ⟨c, ps, true⟩, wx, ed, fx, hl, hr, go⟩) (hfew : wx.length + fx.length ≤ 90000)
    (ret : WEnd w h₀ L m s l ol ⟨some ⟨c, ps, true⟩, wx, ed, fx ++ [.lig c ps hl (hr && wx.isEmpty)], false, hr, go⟩ Q) :
    wpAny (model PySem.Challenge.rw_sq0044_01.row.prog w) A (call (.ref 425) [.ref l.x]) Q E s := by
  obtain ⟨ok, a, b, tc, pv, e0, m1, m2, iv⟩ := id R.now
  have r2 := R.found.length
  have r3 := isEmpty_all2 R.wait
  dsimp only [MemP] at m1 m2 iv r2 r3
  obtain ⟨d1, d2, d3, d4, d5, d6, d7, d8, d9, d10⟩ := id D
  have i1 := iv.oct ok.parts
  have i2 : pv.length ≤ 1000 := by have := iv.1; have := ok.few; dsimp only at this; (first | lia | omega)
  refine wpAny_call ?_
  cases hr
  all_goals (
    refine Cx.form_ C ?_; intro dp un gd env0 outer0 eA9; subst eA9; (try dsimp only at hd); (try dsimp only at hu); k_dflt (refine' enter (binds := [(Str.ofString "word", .ref l.x)]) ?k1 ?k2 ?k6 ?k7 ?k8 ?k9 ?kB ?_ ?c2 ?c3 ?c4 ?c5; (case k1 => assumption); (case k2 => assumption); (case k6 => k_is); (case k7 => k_is); (case k8 => (first | exact le_up (d := 1) hd rfl | exact le_up (d := 2) hd rfl | (simp only [depth_under_make, depth_under_kw, recursionLimit]; (first | lia | omega)))); (case k9 => first | exact BindsTo.of_eq rfl | exact binds_K (Cx.inK (by assumption)) rfl (by k_is) rfl rfl rfl); (case c5 => decide); (case kB => exact locs rfl); (case c2 => exact rfl); (case c3 => exact rfl); (case c4 => exact rfl)); intro base outer p loose mean mg mb g L' hB1 FG F NB G B X T hh; obtain rfl : env0 :: outer0 = outer := Option.some.inj B.stack; (try dsimp only); (try k_fold)
    dsimp only [List.cons_append, List.nil_append] at NB
    rw [e0] at NB
    k_with "my call B60" => (refine lig_spec (Cx.deeper (by k_asm) (by k_asm) (by k_asm) (by k_asm) (by k_asm) rfl) (by first | exact le_up (d := 1) hd rfl | (simp only [depth_deeper]; (first | lia | omega))) ok.code.1 ok.code.2 (tup_mem (by k_asm) m2 (by intro q hq; repeat (first | exact hq | refine List.Mem.tail _ ?_))) i1 i2 ?_; intro xc dc tq tc1 tc2 tc3 tc4 tc5 hw1 tkw fx1 fd1 fq1 lt1 lt2 lt3 Fw Nw1 Kw; have Nw := news_app Nw1 (news_keep0 (by k_asm) Kw); (try dsimp only [List.cons_append, List.nil_append] at Nw); have hne := TLgL.allNe_of (news_none (by k_asm) fx1); have hne2 := TLgL.allNe_of (news_none (by k_asm) fd1); have hne3 := TLgL.allNe_of (news_none (by k_asm) fq1); (try simp only [TLg.AllNe, List.cons_append, List.nil_append] at hne hne2 hne3); obtain ⟨ne1, ne2, ne3, ne4, ne5⟩ := id hne; obtain ⟨me1, me2, me3, me4, me5⟩ := id hne2; obtain ⟨oe1, oe2, oe3, oe4, oe5⟩ := id hne3; (try k_sweep))
    repeat' (first | (k_unfold; (try dsimp only)) | (dsimp only; k_unfold; (try dsimp only)) | ((fail_if_success (with_reducible show Exists _)); (fail_if_success (with_reducible show LeaveK h₀ L m g _ _ _)); first | walk1 | (dsimp only; (fail_if_success (with_reducible show Exists _)); (fail_if_success (with_reducible show LeaveK h₀ L m g _ _ _)); walk1))))
  all_goals (
    ((try dsimp only); (try k_unfold); (try dsimp only); (with_reducible rename Fr _ _ _ _ => cF); (with_reducible rename News _ _ _ _ => cN); refine leaveK_ cF cN ?_; intro kF kN; (try dsimp only [InitBack]); (try refine ⟨rfl, ?_⟩); (try dsimp only))
    (try rw [r3] at kN)
    rw [← e0, List.push_toArray] at kN)
  all_goals (
    have p1 : @Ne Nat l.x xc ∧ @Ne Nat l.dx xc ∧ @Ne Nat l.wl xc ∧ @Ne Nat l.fa xc ∧ TLg.AllNe xc ol := by first | exact hne | exact hne.2
    have p2 : @Ne Nat l.x dc ∧ @Ne Nat l.dx dc ∧ @Ne Nat l.wl dc ∧ @Ne Nat l.fa dc ∧ TLg.AllNe dc ol := by first | exact hne2 | exact hne2.2
    have p3 : @Ne Nat l.x tq ∧ @Ne Nat l.dx tq ∧ @Ne Nat l.wl tq ∧ @Ne Nat l.fa tq ∧ TLg.AllNe tq ol := by first | exact hne3 | exact hne3.2
    refine ret { v with fvs := v.fvs ++ [.ref xc], nf := v.nf + 1 } [(xc, instObj 335 dc), (dc, ligD w tc1 tc2 tc3 tc4 tc5 (.ref l.fx) (.int c tc) (.ref tq) (.bool hl) (.bool _)), (tq, tupO pv)] _ _ kF (news_sub kN (by k_extra "my sub")) ?_ ?_ ?_ (kept_w G cF.keep)
    · exact List.forall_mem_cons.mpr ⟨fresh_w G (cN.fresh (.head _)) p1, List.forall_mem_cons.mpr ⟨fresh_w G (cN.fresh (.tail _ (.head _))) p2, List.forall_mem_cons.mpr ⟨fresh_w G (cN.fresh (.tail _ (.tail _ (.head _)))) p3, fun _ h => nomatch h⟩⟩⟩
    · exact WordL.Apart.more (WordL.Apart.more (D.more p3) ⟨p2.1, p2.2.1, p2.2.2.1, p2.2.2.2.1, lt3, p2.2.2.2.2⟩) ⟨p1.1, p1.2.1, p1.2.2.1, p1.2.2.2.1, (Nat.ne_of_lt lt1 : @Ne Nat dc xc), lt2, p1.2.2.2.2⟩
    · exact WordR.snoc (R.more [_, _, _]) ⟨xc, dc, tq, tc1, tc2, tc3, tc4, tc5, tc, pv, rfl, .head _, .tail _ (.head _), .tail _ (.tail _ (.head _)), iv⟩ hfew)
end Mine
theorem Mine.fresh_B7 : True := by w_top off; k_with_none; trivial
namespace Mine
theorem fill_once7 (P : Params) : Mine.kk.heap_1 P = Mine.kk.heap_1 P ∧ PySem.Challenge.rw_sq0044_01 = PySem.Challenge.rw_sq0044_01 := by
  k_fill
  exact ⟨rfl, rfl⟩
theorem lnB7_0 : True := by
  k_with "execs cons" => (k_here; (with_reducible refine PySem.wpAny_execs_cons ?_); (try dsimp only); k_fold)
  k_with "execs cons" => (k_here; (with_reducible refine toks_gen ?_); intro _)
  k_with "eval Call" => (k_here; (with_reducible show wpAny _ _ (eval (Expr.Call (Expr.Name _ _) _ [] _) (envOf _ _ _ _ _)) _ _ _); k_dflt (refine call_named (by k_asm) (by k_asm) (by k_asm) (by k_is) (by k_is) (by (repeat' (first | exact ArgsV.nil | refine' ArgsV.loc (by first | exact rfl | assumption) rfl (by decide) ?_ | refine' ArgsV.int ?_ | refine' ArgsV.bool ?_ | refine' ArgsV.none ?_)); done) ?_))
  k_with "my sub" => first | exact List.forall_mem_nil _ | (refine' List.forall_mem_cons.mpr ⟨?_, ?_⟩; (· k_mem); (· k_extra "my sub")) | (intro q hq; repeat (first | exact hq | refine List.Mem.tail _ ?_))
  k_with "call type:tuple" => (k_here; (with_reducible show wpAny _ _ (call (Value.type _) [Value.ref _]) _ _ _); k_dflt (refine tuple_list_M (by k_asm) (by k_asm) (by k_mem) (by (first | lia | omega)) ?_); intro _ _ _ _ lz9; (try k_lt lz9); (try k_sweep))
  k_with "call ref" => ((fail_if_success (k_extra "svB70")); (k_here; k_dflt (k_extra "my call B70")))
  trivial
theorem ownB7_0 : True := by
  k_with "own k_ne" => (refine neN ?_; (try dsimp only); first | (with_reducible assumption) | (refine Ne.symm ?_; with_reducible assumption))
  trivial
theorem ownB7_1 : True := by
  k_with "own k_room" => ((try simp only [depth_under_make, depth_under_kw, depth_in1, depth_deeper, recursionLimit]); (first | lia | omega))
  trivial
theorem lnB7_1 : True := by
  k_with "getAttr ref" => (k_here; k_dflt (refine getAttr_g (by k_asm) (by k_asm) (by assumption) (by assumption) (by assumption) (by k_is) (by k_is) (by k_is) (by k_is) (by k_handed) ?_; k_whole))
  k_with "getMethod ref" => (k_here; k_dflt (refine getMethod_g (by k_asm) (by k_asm) (by assumption) (by assumption) (by assumption) (by k_is) (by k_is) (by k_is) ?_; k_whole))
  k_with "compareOp In int ref" => (k_here; (refine in_chars (by k_asm) (by assumption) ?_))
  k_with "getMethod ref" => (k_here; (refine getMethod_chars (by k_asm) (by assumption) ?_))
  k_with "call builtin:dict.get" => (k_here; (refine get_chars (by k_asm) (by assumption) ?_ ?_); (all_goals intros))
  k_with "subscriptTail" => (k_here; (with_reducible show wpAny _ _ (subscriptTail _ _ (Value.ref _) (Value.int _ _)) _ _ _); k_dflt (refine item_tupleT (by exact TupP.at (Fr.keep (by k_asm)) (by assumption)) (by decide) (by decide) (by rfl) (by rfl) ?_; k_whole))
  trivial
theorem lnB7_2 : True := by
  k_with "subscriptTail" => (k_here; (with_reducible show wpAny _ _ (subscriptTail _ _ (Value.ref (FontL.tk _)) (Value.int _ _)) _ _ _); k_dflt (refine kern_item (by k_asm) (by assumption) (by first | (first | lia | omega) | (have ok' := RowM.OK.kern (by assumption) (by (first | lia | omega)) (by (first | lia | omega)); (first | lia | omega))) (by first | (first | lia | omega) | (have ok' := RowM.OK.kern (by assumption) (by (first | lia | omega)) (by (first | lia | omega)); (first | lia | omega))) ?_ (by with_unfolding_all rfl)); intros)
  k_with "subscriptTail" => (k_here; (with_reducible show wpAny _ _ (subscriptTail _ _ (Value.ref (FontL.tp _)) (Value.int _ _)) _ _ _); k_dflt (refine prog_item (by k_asm) (by assumption) (by (first | lia | omega)) (by (first | lia | omega)) (by (first | lia | omega)) ?_ (by with_unfolding_all rfl) (by (intro _; with_unfolding_all rfl))); intros)
  k_with "compareOp In int ref" => (k_here; (with_reducible show wpAny _ _ (compareOp _ (Value.int _ _) (Value.ref 392)) _ _ _); (refine' in_known (Frag.In.keeps (by k_asm) (Fr.keep (by k_asm))) ?_))
  k_with "eval Name" => (k_here; (fail_if_success (with_reducible show wpAny _ _ (eval (Expr.Name _ _) (envOfC _ _ _ _ _)) _ _ _)); (fail_if_success (with_reducible show wpAny _ _ (eval (Expr.Name _ _) (compEnvC _ _ _ _)) _ _ _)); k_dflt (refine ld (by k_asm) (by first | exact rfl | assumption) ?_; k_whole))
  trivial
theorem lnB7_3 : True := by
  k_with "assign Tuple" => (k_here; (with_reducible show wpAny _ _ (assign (Expr.Tuple _ _ _) _ (Value.ref _)) _ _ _); k_dflt (refine unpackN_ (by k_asm) (by k_asm) (by exact tup_mem (by k_asm) (by assumption) (by intro q hq; repeat (first | exact hq | refine List.Mem.tail _ ?_))) (by exact rfl) (by exact rfl) (by exact rfl) ?_); intro _ _ _; (try k_sweep))
  k_with "compareOp Eq ref ref" => (k_here; k_dflt (refine eq_nil_list (by exact News.isList (by k_asm) (by k_mem)) (by exact News.isList (by k_asm) (by k_mem)) (by (have hcL9 := cLine_is; (simp only [units_deeper] at *); (first | lia | omega))) ?_))
  trivial
theorem eq_snoc_list {prog : Program} {w : World} {A : Around} {E : Value → Shared → Prop} {s : Shared} {l b : Addr} {items : List Value} {x : Value} {Q : Value → Shared → Prop} (hl : s.heap.IsList l (items ++ [x]).toArray) (hb : s.heap.IsList b #[]) (hu : A.units < cLine)
    (h : Q (.bool false) s) : wpAny (model prog w) A (compareOp .Eq (.ref l) (.ref b)) Q E s := eq_nil_list hl hb hu (by rw [show (items ++ [x]).isEmpty = false by simp]; exact h)
theorem lnB7_4 : True := by
  k_with "compareOp Eq ref ref" => (k_here; k_dflt (refine eq_snoc_list (by exact News.isList (by k_asm) (by k_mem)) (by exact News.isList (by k_asm) (by k_mem)) (by (have hcL9 := cLine_is; (simp only [units_deeper] at *); (first | lia | omega))) ?_))
  k_with "call builtin:list.pop" => (k_here; k_dflt (refine pop_in (by k_asm) (by k_asm) (by k_upd) (by exact kpa_last _ _) (by (show (List.length (_ ++ _)) ≤ _; rw [List.length_append, sizeLine_eq]; simp only [List.length_cons, List.length_nil]; (first | lia | omega))) ?_); (intro _ _ _); (try k_sweep))
  trivial
theorem leave_spec {w : World} {A : Around} {s : Shared} {h₀ : Heap} {L : Addr} {m : Str → Option Value} {l : WordL} {v : WordV} {st : WordS} {ol : List (Addr × Obj)} {Q E : Value → Shared → Prop}
    (C : Cx w A h₀ L s.heap m) (hd : A.depth ≤ 350) (hu : A.units ≤ 2000) (N : News h₀ L s.heap (wled w l v st ++ ol)) (D : l.Apart ol) (R : WordR w (MemP ol) l v st) (hfew : st.wait.length + st.found.length ≤ 90000)
    (ret : WEnd w h₀ L m s l ol st.leave Q) : wpAny (model PySem.Challenge.rw_sq0044_01.row.prog w) A (call (.ref 425) [.ref l.x]) Q E s := by
  obtain ⟨nx, wx, ed, fx, hl, hr, go⟩ := st
  cases nx with
  | none => exact leave_none C hd N D R ret
  | some it =>
    obtain ⟨c, ps, made⟩ := it
    cases made with
    | false => exact leave_char C hd N D R hfew ret
    | true => exact leave_lig C hd hu N D R hfew ret
noncomputable def WordS.pass (st : WordS) : WordS := match st.leave.wait with
  | [] => { st.leave with go := false }
  | it :: r => { st.leave with now := some it, wait := r }
theorem All2.unsnoc {α : Type} {R : Value → α → Prop} : ∀ {vs : List Value} {as : List α} {a : α}, All2 R vs (as ++ [a]) → ∃ vs0 x, vs = vs0 ++ [x] ∧ All2 R vs0 as ∧ R x a := by
  intro vs as
  induction as generalizing vs with
  | nil =>
    intro a h
    cases h with
    | cons h r => cases r; exact ⟨[], _, rfl, .nil, h⟩
  | cons b as ih =>
    intro a h
    cases h with
    | cons h r =>
      obtain ⟨vs0, x, e, r', q⟩ := ih r
      exact ⟨_ :: vs0, x, by rw [e]; rfl, .cons h r', q⟩
theorem pass_nil {st : WordS} {n : Option Item} {ed : Int} {fx : List NodeP} {hl hr go : Bool} (e : st.leave = ⟨n, [], ed, fx, hl, hr, go⟩) : st.pass = ⟨n, [], ed, fx, hl, hr, false⟩ := by unfold WordS.pass; rw [e]
theorem pass_cons {st : WordS} {n : Option Item} {it : Item} {r : List Item} {ed : Int} {fx : List NodeP} {hl hr go : Bool} (e : st.leave = ⟨n, it :: r, ed, fx, hl, hr, go⟩) : st.pass = ⟨some it, r, ed, fx, hl, hr, go⟩ := by unfold WordS.pass; rw [e]
theorem fresh_nl {g h hb : Heap} {L : Addr} {led nl : List (Addr × Obj)} (G : ∀ b o, h.get? b = some o → b ∉ led.map (·.1) → g.get? b = some o) (Nb : News g L hb led)
    (N' : ∀ p ∈ nl, g.get? p.1 = none) (fr : ∀ p ∈ nl, hb.get? p.1 = none) : ∀ p ∈ nl, h.get? p.1 = none := fun p hp => fresh_g G (N' p hp) fun hm => by
  obtain ⟨q, hq, e⟩ := List.mem_map.mp hm
  have := (Nb q hq).1
  rw [e, fr p hp] at this; cases this
theorem pass_spec {w : World} {A : Around} {s : Shared} {h₀ : Heap} {L : Addr} {m : Str → Option Value} {l : WordL} {v : WordV} {st : WordS} {ol : List (Addr × Obj)} {Q E : Value → Shared → Prop}
    (C : Cx w A h₀ L s.heap m) (hd : A.depth ≤ 340) (hu : A.units ≤ 1900) (N : News h₀ L s.heap (wled w l v st ++ ol)) (D : l.Apart ol) (R : WordR w (MemP ol) l v st) (hfew : st.wait.length + st.found.length ≤ 90000)
    (ret : WEnd w h₀ L m s l ol st.pass Q) : wpAny (model PySem.Challenge.rw_sq0044_01.row.prog w) A (call (.ref 432) [.ref l.x]) Q E s := by
  refine wpAny_call ?_
  refine Cx.form_ C ?_; intro dp un gd env0 outer0 eA9; subst eA9; (try dsimp only at hd); (try dsimp only at hu); k_dflt (refine' enter (binds := [(Str.ofString "word", .ref l.x)]) ?k1 ?k2 ?k6 ?k7 ?k8 ?k9 ?kB ?_ ?c2 ?c3 ?c4 ?c5; (case k1 => assumption); (case k2 => assumption); (case k6 => k_is); (case k7 => k_is); (case k8 => (first | exact le_up (d := 1) hd rfl | exact le_up (d := 2) hd rfl | (simp only [depth_under_make, depth_under_kw, recursionLimit]; (first | lia | omega)))); (case k9 => first | exact BindsTo.of_eq rfl | exact binds_K (Cx.inK (by assumption)) rfl (by k_is) rfl rfl rfl); (case c5 => decide); (case kB => exact locs rfl); (case c2 => exact rfl); (case c3 => exact rfl); (case c4 => exact rfl)); intro base outer p loose mean mg mb g L' hB1 FG F NB G B X T hh; obtain rfl : env0 :: outer0 = outer := Option.some.inj B.stack; (try dsimp only); (try k_fold)
  k_with "svB70" => skip
  k_with "call ref" => ((fail_if_success (k_extra "svB71")); (k_here; k_dflt (k_extra "my call B71")))
  k_with "my call B71" => (refine leave_spec (Cx.deeper (by k_asm) (by k_asm) (by k_asm) (by k_asm) (by k_asm) rfl) (by first | exact le_up (d := 1) hd rfl | (simp only [depth_deeper]; (first | lia | omega))) (by first | exact le_up (d := 3) hu rfl | (simp only [units_deeper]; (first | lia | omega))) (by k_asm) D R hfew ?_; intro v' nl hw1 tkw Fw Nw fr D' R' Kw; clear F)
  repeat' ((fail_if_success (with_reducible show wpAny _ _ (exec (Stmt.If _ _ _ _) _) _ _ _)); first | (k_unfold; (try dsimp only)) | (dsimp only; k_unfold; (try dsimp only)) | ((fail_if_success (with_reducible show Exists _)); (fail_if_success (with_reducible show LeaveK h₀ L m g _ _ _)); first | walk1 | (dsimp only; (fail_if_success (with_reducible show Exists _)); (fail_if_success (with_reducible show LeaveK h₀ L m g _ _ _)); walk1)))
  obtain ⟨d1, d2, d3, d4, d5, d6, d7, d8, d9, d10⟩ := id D'
  have fr' := fresh_nl G NB (fun p hp => (Nw p (List.mem_append_right _ (List.mem_append_left _ hp))).2.2) fr
  clear fr Kw
  generalize hst : st.leave = st1 at Nw R'
  obtain ⟨n1, w1, ed1, f1, hl1, hr1, go1⟩ := st1
  obtain ⟨wvs1, nw1, fvs1, nf1, vnow1, te1⟩ := v'
  obtain ⟨R1, R2, R3, R4⟩ := id R'
  (try dsimp only at Nw R1 R2 R3 R4)
  cases w1 with
  | nil =>
    cases R2
    (try dsimp only [List.cons_append, List.nil_append] at Nw)
    repeat' (first | (k_unfold; (try dsimp only)) | (dsimp only; k_unfold; (try dsimp only)) | ((fail_if_success (with_reducible show Exists _)); (fail_if_success (with_reducible show LeaveK h₀ L m g _ _ _)); first | walk1 | (dsimp only; (fail_if_success (with_reducible show Exists _)); (fail_if_success (with_reducible show LeaveK h₀ L m g _ _ _)); walk1)))
    ((try dsimp only); (try k_unfold); (try dsimp only); (with_reducible rename Fr _ _ _ _ => cF); (with_reducible rename News _ _ _ _ => cN); refine leaveK_ cF cN ?_; intro kF kN; (try dsimp only [InitBack]); (try refine ⟨rfl, ?_⟩); (try dsimp only))
    rw [pass_nil hst] at ret
    exact ret ⟨[], nw1, fvs1, nf1, vnow1, te1⟩ nl _ _ kF (news_sub kN (by k_extra "my sub")) fr' D' ⟨R1, .nil, R3, R4⟩ (kept_w G cF.keep)
  | cons it r =>
    rw [List.reverse_cons] at R2
    obtain ⟨vs0, x, rfl, W', I'⟩ := All2.unsnoc R2
    obtain ⟨iok, a, b, tc, pv, rfl, m1, m2, iv⟩ := id I'
    (try dsimp only [List.cons_append, List.nil_append] at Nw)
    have q1 := W'.length
    rw [List.length_reverse] at q1
    simp only [List.length_cons] at R4
    repeat' (first | (k_unfold; (try dsimp only)) | (dsimp only; k_unfold; (try dsimp only)) | ((fail_if_success (with_reducible show Exists _)); (fail_if_success (with_reducible show LeaveK h₀ L m g _ _ _)); first | walk1 | (dsimp only; (fail_if_success (with_reducible show Exists _)); (fail_if_success (with_reducible show LeaveK h₀ L m g _ _ _)); walk1)))
    ((try dsimp only); (try k_unfold); (try dsimp only); (with_reducible rename Fr _ _ _ _ => cF); (with_reducible rename News _ _ _ _ => cN); refine leaveK_ cF cN ?_; intro kF kN; (try dsimp only [InitBack]); (try refine ⟨rfl, ?_⟩); (try dsimp only))
    rw [pass_cons hst] at ret
    exact ret ⟨vs0, nw1 + 1, fvs1, nf1, .ref a, te1⟩ nl _ _ kF (news_sub kN (by k_extra "my sub")) fr' D' ⟨I', W', R3, by dsimp only; (first | lia | omega)⟩ (kept_w G cF.keep)
end Mine
theorem Mine.fresh_B8 : True := by w_top off; k_with_none; trivial
namespace Mine
theorem fill_once8 (P : Params) : Mine.kk.heap_1 P = Mine.kk.heap_1 P ∧ PySem.Challenge.rw_sq0044_01 = PySem.Challenge.rw_sq0044_01 := by
  k_fill
  exact ⟨rfl, rfl⟩
theorem lnB8_0 : True := by
  k_with "execs cons" => (k_here; (with_reducible refine PySem.wpAny_execs_cons ?_); (try dsimp only); k_fold)
  k_with "execs cons" => (k_here; (with_reducible refine toks_gen ?_); intro _)
  k_with "eval Call" => (k_here; (with_reducible show wpAny _ _ (eval (Expr.Call (Expr.Name _ _) _ [] _) (envOf _ _ _ _ _)) _ _ _); k_dflt (refine call_named (by k_asm) (by k_asm) (by k_asm) (by k_is) (by k_is) (by (repeat' (first | exact ArgsV.nil | refine' ArgsV.loc (by first | exact rfl | assumption) rfl (by decide) ?_ | refine' ArgsV.int ?_ | refine' ArgsV.bool ?_ | refine' ArgsV.none ?_)); done) ?_))
  k_with "my sub" => first | exact List.forall_mem_nil _ | (refine' List.forall_mem_cons.mpr ⟨?_, ?_⟩; (· k_mem); (· k_extra "my sub")) | (intro q hq; repeat (first | exact hq | refine List.Mem.tail _ ?_))
  k_with "call type:tuple" => (k_here; (with_reducible show wpAny _ _ (call (Value.type _) [Value.ref _]) _ _ _); k_dflt (refine tuple_list_M (by k_asm) (by k_asm) (by k_mem) (by (first | lia | omega)) ?_); intro _ _ _ _ lz9; (try k_lt lz9); (try k_sweep))
  k_with "call ref" => ((fail_if_success (k_extra "svB80")); (k_here; k_dflt (k_extra "my call B80")))
  trivial
theorem ownB8_0 : True := by
  k_with "own k_ne" => (refine neN ?_; (try dsimp only); first | (with_reducible assumption) | (refine Ne.symm ?_; with_reducible assumption))
  trivial
theorem ownB8_1 : True := by
  k_with "own k_room" => ((try simp only [depth_under_make, depth_under_kw, depth_in1, depth_deeper, recursionLimit]); (first | lia | omega))
  trivial
theorem lnB8_1 : True := by
  k_with "getAttr ref" => (k_here; k_dflt (refine getAttr_g (by k_asm) (by k_asm) (by assumption) (by assumption) (by assumption) (by k_is) (by k_is) (by k_is) (by k_is) (by k_handed) ?_; k_whole))
  k_with "getMethod ref" => (k_here; k_dflt (refine getMethod_g (by k_asm) (by k_asm) (by assumption) (by assumption) (by assumption) (by k_is) (by k_is) (by k_is) ?_; k_whole))
  k_with "compareOp In int ref" => (k_here; (refine in_chars (by k_asm) (by assumption) ?_))
  k_with "getMethod ref" => (k_here; (refine getMethod_chars (by k_asm) (by assumption) ?_))
  k_with "call builtin:dict.get" => (k_here; (refine get_chars (by k_asm) (by assumption) ?_ ?_); (all_goals intros))
  k_with "subscriptTail" => (k_here; (with_reducible show wpAny _ _ (subscriptTail _ _ (Value.ref _) (Value.int _ _)) _ _ _); k_dflt (refine item_tupleT (by exact TupP.at (Fr.keep (by k_asm)) (by assumption)) (by decide) (by decide) (by rfl) (by rfl) ?_; k_whole))
  trivial
theorem lnB8_2 : True := by
  k_with "subscriptTail" => (k_here; (with_reducible show wpAny _ _ (subscriptTail _ _ (Value.ref (FontL.tk _)) (Value.int _ _)) _ _ _); k_dflt (refine kern_item (by k_asm) (by assumption) (by first | (first | lia | omega) | (have ok' := RowM.OK.kern (by assumption) (by (first | lia | omega)) (by (first | lia | omega)); (first | lia | omega))) (by first | (first | lia | omega) | (have ok' := RowM.OK.kern (by assumption) (by (first | lia | omega)) (by (first | lia | omega)); (first | lia | omega))) ?_ (by with_unfolding_all rfl)); intros)
  k_with "subscriptTail" => (k_here; (with_reducible show wpAny _ _ (subscriptTail _ _ (Value.ref (FontL.tp _)) (Value.int _ _)) _ _ _); k_dflt (refine prog_item (by k_asm) (by assumption) (by (first | lia | omega)) (by (first | lia | omega)) (by (first | lia | omega)) ?_ (by with_unfolding_all rfl) (by (intro _; with_unfolding_all rfl))); intros)
  k_with "compareOp In int ref" => (k_here; (with_reducible show wpAny _ _ (compareOp _ (Value.int _ _) (Value.ref 392)) _ _ _); (refine' in_known (Frag.In.keeps (by k_asm) (Fr.keep (by k_asm))) ?_))
  k_with "eval Name" => (k_here; (fail_if_success (with_reducible show wpAny _ _ (eval (Expr.Name _ _) (envOfC _ _ _ _ _)) _ _ _)); (fail_if_success (with_reducible show wpAny _ _ (eval (Expr.Name _ _) (compEnvC _ _ _ _)) _ _ _)); k_dflt (refine ld (by k_asm) (by first | exact rfl | assumption) ?_; k_whole))
  trivial
theorem lnB8_3 : True := by
  k_with "assign Tuple" => (k_here; (with_reducible show wpAny _ _ (assign (Expr.Tuple _ _ _) _ (Value.ref _)) _ _ _); k_dflt (refine unpackN_ (by k_asm) (by k_asm) (by exact tup_mem (by k_asm) (by assumption) (by intro q hq; repeat (first | exact hq | refine List.Mem.tail _ ?_))) (by exact rfl) (by exact rfl) (by exact rfl) ?_); intro _ _ _; (try k_sweep))
  k_with "compareOp Eq ref ref" => (k_here; k_dflt (refine eq_nil_list (by exact News.isList (by k_asm) (by k_mem)) (by exact News.isList (by k_asm) (by k_mem)) (by (have hcL9 := cLine_is; (simp only [units_deeper] at *); (first | lia | omega))) ?_))
  trivial
theorem lnB8_4 : True := by
  k_with "compareOp Eq ref ref" => (k_here; k_dflt (refine eq_snoc_list (by exact News.isList (by k_asm) (by k_mem)) (by exact News.isList (by k_asm) (by k_mem)) (by (have hcL9 := cLine_is; (simp only [units_deeper] at *); (first | lia | omega))) ?_))
  k_with "call builtin:list.pop" => (k_here; k_dflt (refine pop_in (by k_asm) (by k_asm) (by k_upd) (by exact kpa_last _ _) (by (show (List.length (_ ++ _)) ≤ _; rw [List.length_append, sizeLine_eq]; simp only [List.length_cons, List.length_nil]; (first | lia | omega))) ?_); (intro _ _ _); (try k_sweep))
  trivial
section
variable {prog : Program} {w : World} {A : Around} {E : Value → Shared → Prop} {s : Shared} {h₀ : Heap} {env : Env} {x : Str} {body : List Stmt} {Q : Flow → Shared → Prop} {m : Str → Option Value} {news : List (Addr × Obj)}
/-- the end of a loop's turn -/
noncomputable def TurnEnd (h₀ : Heap) (L I : Addr) (oI : Obj) (J : (Str → Option Value) → List (Addr × Obj) → Prop) (s : Shared) (Q : Flow → Shared → Prop) (f : Flow) (s₂ : Shared) : Prop :=
  match f with
  | .ret v => Q (.ret v) s₂
  | .brk => Q .next s₂
  | _ => ∃ h' tk' m' nw, s₂ = { s with heap := h', toks := tk' } ∧ Fr h₀ L h' m' ∧ News h₀ L h' ((I, oI) :: nw) ∧ (∀ p ∈ nw, p.1 ≠ I) ∧ J m' nw
theorem loop_in {I : Addr} {fp : List Addr} {n : Nat} {P : Nat → Value → Prop} {St : Nat → Heap → Prop} (W : Walks prog w A I fp [I] n P St) (hfp : ∀ b ∈ fp, b = I ∨ ∃ o, h₀.get? b = some o) (hIo : ∀ i h, St i h → ∃ o, h.get? I = some o)
    (hI₀ : h₀.get? I = none) (hLf : env.locals ∉ fp) (hst : St 0 s.heap) (F : Fr h₀ env.locals s.heap m) (N : News h₀ env.locals s.heap news) (hnI : ∀ p ∈ news, p.1 ≠ I) (J : Nat → (Str → Option Value) → List (Addr × Obj) → Prop) (h0 : J 0 m news)
    (turn : ∀ i v m₁ nw h tk oI, i < n → P i v → J i m₁ nw → (∀ p ∈ nw, p.1 ≠ I) → Fr h₀ env.locals h (fun y => if y = x then some v else m₁ y) → News h₀ env.locals h ((I, oI) :: nw) →
      wpAny (model prog w) A (execs body env) (TurnEnd h₀ env.locals I oI (J (i + 1)) { s with heap := h, toks := tk } Q) E { s with heap := h, toks := tk })
    (done : ∀ h' tk m' nw, Fr h₀ env.locals h' m' → News h₀ env.locals h' nw → J n m' nw → Q .next { s with heap := h', toks := tk }) :
    LoopAtV prog w A h₀ env x body Q E (.ref I) s := by
  refine ⟨I, fp, [I], n, P, St, m, news, J, rfl, W, hLf, (fun b hb => by rw [List.mem_singleton.mp hb]; exact hI₀), (fun p hp hI => hnI p hp (List.mem_singleton.mp hI)), hst, F, N, h0, ?_, ?_⟩
  · rintro i v m₁ news₁ s₁ own ⟨h, tk, rfl⟩ hi hP hJ hoff hsub hown hall hst1 F₁ N₁
    obtain ⟨oI, hoI⟩ := hIo _ _ hst1
    have hmem : (I, oI) ∈ own := hall I (W.sub _ (.head _)) hI₀ oI hoI
    have hone : ∀ p ∈ own, p = (I, oI) := fun p hp => by
      have e1 : p.1 = I := by
        rcases hfp p.1 (hsub p hp) with e | ⟨o, e⟩
        · exact e
        · have := (N₁ p (List.mem_append_left _ hp)).2.2
          rw [e] at this; cases this
      have e2 := hown p hp
      rw [e1] at e2
      have e3 := hoI.symm.trans e2
      obtain ⟨p1, p2⟩ := p
      cases e1; cases e3; rfl
    refine wpAny_mono (turn i v m₁ news₁ h tk oI hi hP hJ (fun p hp q => hoff p hp (by rw [q]; exact .head _)) F₁ (fun p hp => ?_)) (fun f s₂ q => ?_) fun _ _ e => e
    · rcases List.mem_cons.mp hp with rfl | hp
      · exact N₁ _ (List.mem_append_left _ hmem)
      · exact N₁ _ (List.mem_append_right _ hp)
    · have fin : (∃ h' tk' m' nw, s₂ = { s with heap := h', toks := tk' } ∧ Fr h₀ env.locals h' m' ∧ News h₀ env.locals h' ((I, oI) :: nw) ∧ (∀ p ∈ nw, p.1 ≠ I) ∧ J (i + 1) m' nw) → LoopStepU h₀ env.locals [I] own (J (i + 1)) { s with heap := h, toks := tk } .next s₂ := by
        rintro ⟨h', tk', m', nw, rfl, F', N', off, hj⟩
        refine ⟨rfl, h', tk', m', nw, rfl, F', fun p hp => ?_, fun p hp hI => off p hp (List.mem_singleton.mp hI), hj⟩
        rcases List.mem_append.mp hp with hp | hp
        · rw [hone p hp]; exact N' _ (.head _)
        · exact N' _ (.tail _ hp)
      cases f with
      | ret v => exact .ret q
      | brk => exact .brk q
      | next => exact .next (fin q)
      | cont => exact .cont (fin q)
  · intro h' tk m' nw F' N' _ hJ
    exact done h' tk m' nw F' N' hJ
/-- for x in range(a, b), its object at hand -/
theorem iter_range_J {r : Addr} {a b : Int} {t u v : Tok} {n : Nat} (hh : A.handled = none) (F : Fr h₀ env.locals s.heap m) (N : News h₀ env.locals s.heap news) (hr : IsRange s.heap r a b 1 t u v) (hsm : Builtin.Range.small a b 1 = true) (hn : Builtin.Range.rangeSize a b 1 = ((n : Nat) : Int))
    (J : Nat → (Str → Option Value) → List (Addr × Obj) → Prop) (h0 : J 0 m news)
    (turn : ∀ i t' m₁ nw h tk I oI, i < n → J i m₁ nw → (∀ p ∈ nw, p.1 ≠ I) → Fr h₀ env.locals h (fun y => if y = x then some (.int (a + (i : Int)) t') else m₁ y) → News h₀ env.locals h ((I, oI) :: nw) →
      wpAny (model prog w) A (execs body env) (TurnEnd h₀ env.locals I oI (J (i + 1)) { s with heap := h, toks := tk } Q) E { s with heap := h, toks := tk })
    (done : ∀ h' tk m' nw, Fr h₀ env.locals h' m' → News h₀ env.locals h' nw → J n m' nw → Q .next { s with heap := h', toks := tk }) :
    wpAny (model prog w) A (pyIter (.ref r)) (fun it s₂ => LoopAtV prog w A h₀ env x body Q E it s₂) E s := by
  refine wpAny_pyIter_range hr hsm ?_
  have up : ∀ o b o', s.heap.get? b = some o' → (s.heap.push o).get? b = some o' := fun o b o' e => Heap.get?_push_of_some _ e
  refine loop_in (LCg.range_walks hh a n) (fun b hb => .inl (List.mem_singleton.mp hb)) (fun i h st => ⟨_, st⟩) (next_is_new F) (fun hm => by rw [List.mem_singleton.mp hm] at F; exact absurd F.ns.lt (Nat.lt_irrefl _)) ?_ (F.keeps (up _)) (N.grown (up _)) (fun p hp => Nat.ne_of_lt (Heap.lt_size (N p hp).1)) J h0 ?_ done
  · show IsRangeIter _ _ _ _ _
    rw [hn]; simpa using Heap.get?_push_size _ rfl
  · rintro i v m₁ nw h tk oI hi ⟨t', rfl⟩ hJ hne F' N'
    exact turn i t' m₁ nw h tk _ oI hi hJ hne F' N'
/-- for x in a list that stays -/
theorem iter_list_J {l : Addr} {vs : List Value} (hh : A.handled = none) (F : Fr h₀ env.locals s.heap m) (N : News h₀ env.locals s.heap news) (hl : h₀.IsList l vs.toArray)
    (J : Nat → (Str → Option Value) → List (Addr × Obj) → Prop) (h0 : J 0 m news)
    (turn : ∀ i v m₁ nw h tk I oI, vs[i]? = some v → J i m₁ nw → (∀ p ∈ nw, p.1 ≠ I) → Fr h₀ env.locals h (fun y => if y = x then some v else m₁ y) → News h₀ env.locals h ((I, oI) :: nw) →
      wpAny (model prog w) A (execs body env) (TurnEnd h₀ env.locals I oI (J (i + 1)) { s with heap := h, toks := tk } Q) E { s with heap := h, toks := tk })
    (done : ∀ h' tk m' nw, Fr h₀ env.locals h' m' → News h₀ env.locals h' nw → J vs.length m' nw → Q .next { s with heap := h', toks := tk }) :
    wpAny (model prog w) A (pyIter (.ref l)) (fun it s₂ => LoopAtV prog w A h₀ env x body Q E it s₂) E s := by
  have hls : s.heap.IsList l vs.toArray := hl.at fun o e => F.keep l o e
  obtain ⟨ol, hol, _⟩ := id hl
  have hlt : l < h₀.objs.size := Heap.lt_size hol
  have hne : l ≠ s.heap.objs.size := Nat.ne_of_lt (Nat.lt_trans (Nat.lt_of_lt_of_le hlt F.above) F.ns.lt)
  refine wpAny_pyIter_list hls ?_
  have up : ∀ o b o', s.heap.get? b = some o' → (s.heap.push o).get? b = some o' := fun o b o' e => Heap.get?_push_of_some _ e
  refine loop_in (Walks.list hh s.heap.objs.size l hne vs.toArray) (fun b hb => ?_) (fun i h st => by obtain ⟨o, e, _⟩ := st.1; exact ⟨o, e⟩) (next_is_new F) (fun hm => ?_) ⟨⟨_, Heap.get?_push_size _ rfl, rfl, rfl⟩, hls.at fun o e => up _ _ _ e⟩ (F.keeps (up _)) (N.grown (up _)) (fun p hp => Nat.ne_of_lt (Heap.lt_size (N p hp).1)) J h0 ?_ (by simpa using done)
  · rcases List.mem_cons.mp hb with e | hb
    · exact .inl e
    · exact .inr ⟨ol, by rw [List.mem_singleton.mp hb]; exact hol⟩
  · rcases List.mem_cons.mp hm with e | hm
    · exact absurd F.ns.lt (e ▸ Nat.lt_irrefl _)
    · exact absurd (Nat.lt_of_lt_of_le hlt F.above) ((List.mem_singleton.mp hm) ▸ Nat.lt_irrefl _)
  · rintro i v m₁ nw h tk oI hi hP hJ hne F' N'
    exact turn i v m₁ nw h tk _ oI (by simpa using hP) hJ hne F' N'
/-- for x in a tuple that stays -/
theorem iter_tuple_J {l : Addr} {vs : List Value} (hh : A.handled = none) (F : Fr h₀ env.locals s.heap m) (N : News h₀ env.locals s.heap news) (hl : h₀.IsTuple l vs.toArray)
    (J : Nat → (Str → Option Value) → List (Addr × Obj) → Prop) (h0 : J 0 m news)
    (turn : ∀ i v m₁ nw h tk I oI, vs[i]? = some v → J i m₁ nw → (∀ p ∈ nw, p.1 ≠ I) → Fr h₀ env.locals h (fun y => if y = x then some v else m₁ y) → News h₀ env.locals h ((I, oI) :: nw) →
      wpAny (model prog w) A (execs body env) (TurnEnd h₀ env.locals I oI (J (i + 1)) { s with heap := h, toks := tk } Q) E { s with heap := h, toks := tk })
    (done : ∀ h' tk m' nw, Fr h₀ env.locals h' m' → News h₀ env.locals h' nw → J vs.length m' nw → Q .next { s with heap := h', toks := tk }) :
    wpAny (model prog w) A (pyIter (.ref l)) (fun it s₂ => LoopAtV prog w A h₀ env x body Q E it s₂) E s := by
  have hls : s.heap.IsTuple l vs.toArray := hl.at fun o e => F.keep l o e
  obtain ⟨ol, hol, _⟩ := id hl
  have hlt : l < h₀.objs.size := Heap.lt_size hol
  have hne : l ≠ s.heap.objs.size := Nat.ne_of_lt (Nat.lt_trans (Nat.lt_of_lt_of_le hlt F.above) F.ns.lt)
  refine wpAny_pyIter_tuple hls ?_
  have up : ∀ o b o', s.heap.get? b = some o' → (s.heap.push o).get? b = some o' := fun o b o' e => Heap.get?_push_of_some _ e
  refine loop_in (Walks.tuple hh s.heap.objs.size l hne vs.toArray) (fun b hb => ?_) (fun i h st => by obtain ⟨o, e, _⟩ := st.1; exact ⟨o, e⟩) (next_is_new F) (fun hm => ?_) ⟨⟨_, Heap.get?_push_size _ rfl, rfl, rfl⟩, hls.at fun o e => up _ _ _ e⟩ (F.keeps (up _)) (N.grown (up _)) (fun p hp => Nat.ne_of_lt (Heap.lt_size (N p hp).1)) J h0 ?_ (by simpa using done)
  · rcases List.mem_cons.mp hb with e | hb
    · exact .inl e
    · exact .inr ⟨ol, by rw [List.mem_singleton.mp hb]; exact hol⟩
  · rcases List.mem_cons.mp hm with e | hm
    · exact absurd F.ns.lt (e ▸ Nat.lt_irrefl _)
    · exact absurd (Nat.lt_of_lt_of_le hlt F.above) ((List.mem_singleton.mp hm) ▸ Nat.lt_irrefl _)
  · rintro i v m₁ nw h tk oI hi hP hJ hne F' N'
    exact turn i v m₁ nw h tk _ oI (by simpa using hP) hJ hne F' N'
/-- the same, what stands between the turns said by its conclusion -/
theorem iter_range_C {r : Addr} {a b : Int} {t u v : Tok} {n : Nat} (hh : A.handled = none) (F : Fr h₀ env.locals s.heap m) (N : News h₀ env.locals s.heap news) (hr : IsRange s.heap r a b 1 t u v) (hsm : Builtin.Range.small a b 1 = true) (hn : Builtin.Range.rangeSize a b 1 = ((n : Nat) : Int))
    (J : Nat → ((Str → Option Value) → List (Addr × Obj) → Prop) → Prop) (h0 : ∀ P, J 0 P → P m news)
    (turn : ∀ i t' h tk I oI, i < n → J i fun m₁ nw => (∀ p ∈ nw, p.1 ≠ I) → Fr h₀ env.locals h (fun y => if y = x then some (.int (a + (i : Int)) t') else m₁ y) → News h₀ env.locals h ((I, oI) :: nw) →
      wpAny (model prog w) A (execs body env) (TurnEnd h₀ env.locals I oI (fun m' nw => ∀ P, J (i + 1) P → P m' nw) { s with heap := h, toks := tk } Q) E { s with heap := h, toks := tk })
    (done : ∀ h' tk, J n fun m' nw => Fr h₀ env.locals h' m' → News h₀ env.locals h' nw → Q .next { s with heap := h', toks := tk }) :
    wpAny (model prog w) A (pyIter (.ref r)) (fun it s₂ => LoopAtV prog w A h₀ env x body Q E it s₂) E s :=
  iter_range_J hh F N hr hsm hn (fun i m' nw => ∀ P, J i P → P m' nw) h0 (fun i t' _ _ h tk I oI hi hJ => hJ _ (turn i t' h tk I oI hi)) fun h' tk _ _ F' N' hJ => hJ _ (done h' tk) F' N'
theorem iter_list_C {l : Addr} {vs : List Value} (hh : A.handled = none) (F : Fr h₀ env.locals s.heap m) (N : News h₀ env.locals s.heap news) (hl : h₀.IsList l vs.toArray)
    (J : Nat → ((Str → Option Value) → List (Addr × Obj) → Prop) → Prop) (h0 : ∀ P, J 0 P → P m news)
    (turn : ∀ i v h tk I oI, vs[i]? = some v → J i fun m₁ nw => (∀ p ∈ nw, p.1 ≠ I) → Fr h₀ env.locals h (fun y => if y = x then some v else m₁ y) → News h₀ env.locals h ((I, oI) :: nw) →
      wpAny (model prog w) A (execs body env) (TurnEnd h₀ env.locals I oI (fun m' nw => ∀ P, J (i + 1) P → P m' nw) { s with heap := h, toks := tk } Q) E { s with heap := h, toks := tk })
    (done : ∀ h' tk, J vs.length fun m' nw => Fr h₀ env.locals h' m' → News h₀ env.locals h' nw → Q .next { s with heap := h', toks := tk }) :
    wpAny (model prog w) A (pyIter (.ref l)) (fun it s₂ => LoopAtV prog w A h₀ env x body Q E it s₂) E s :=
  iter_list_J hh F N hl (fun i m' nw => ∀ P, J i P → P m' nw) h0 (fun i v _ _ h tk I oI hi hJ => hJ _ (turn i v h tk I oI hi)) fun h' tk _ _ F' N' hJ => hJ _ (done h' tk) F' N'
end
end Mine
theorem Mine.fresh_B9 : True := by w_top off; k_with_none; trivial
namespace Mine
theorem fill_once9 (P : Params) : Mine.kk.heap_1 P = Mine.kk.heap_1 P ∧ PySem.Challenge.rw_sq0044_01 = PySem.Challenge.rw_sq0044_01 := by
  k_fill
  exact ⟨rfl, rfl⟩
theorem lnB9_0 : True := by
  k_with "execs cons" => (k_here; (with_reducible refine PySem.wpAny_execs_cons ?_); (try dsimp only); k_fold)
  k_with "execs cons" => (k_here; (with_reducible refine toks_gen ?_); intro _)
  k_with "eval Call" => (k_here; (with_reducible show wpAny _ _ (eval (Expr.Call (Expr.Name _ _) _ [] _) (envOf _ _ _ _ _)) _ _ _); k_dflt (refine call_named (by k_asm) (by k_asm) (by k_asm) (by k_is) (by k_is) (by (repeat' (first | exact ArgsV.nil | refine' ArgsV.loc (by first | exact rfl | assumption) rfl (by decide) ?_ | refine' ArgsV.int ?_ | refine' ArgsV.bool ?_ | refine' ArgsV.none ?_)); done) ?_))
  k_with "my sub" => first | exact List.forall_mem_nil _ | (refine' List.forall_mem_cons.mpr ⟨?_, ?_⟩; (· k_mem); (· k_extra "my sub")) | (intro q hq; repeat (first | exact hq | refine List.Mem.tail _ ?_))
  k_with "call type:tuple" => (k_here; (with_reducible show wpAny _ _ (call (Value.type _) [Value.ref _]) _ _ _); k_dflt (refine tuple_list_M (by k_asm) (by k_asm) (by k_mem) (by (first | lia | omega)) ?_); intro _ _ _ _ lz9; (try k_lt lz9); (try k_sweep))
  k_with "call ref" => ((fail_if_success (k_extra "svB90")); (k_here; k_dflt (k_extra "my call B90")))
  trivial
theorem ownB9_0 : True := by
  k_with "own k_ne" => (refine neN ?_; (try dsimp only); first | (with_reducible assumption) | (refine Ne.symm ?_; with_reducible assumption))
  trivial
theorem ownB9_1 : True := by
  k_with "own k_room" => ((try simp only [depth_under_make, depth_under_kw, depth_in1, depth_deeper, recursionLimit]); (first | lia | omega))
  trivial
theorem lnB9_1 : True := by
  k_with "getAttr ref" => (k_here; k_dflt (refine getAttr_g (by k_asm) (by k_asm) (by assumption) (by assumption) (by assumption) (by k_is) (by k_is) (by k_is) (by k_is) (by k_handed) ?_; k_whole))
  k_with "getMethod ref" => (k_here; k_dflt (refine getMethod_g (by k_asm) (by k_asm) (by assumption) (by assumption) (by assumption) (by k_is) (by k_is) (by k_is) ?_; k_whole))
  k_with "compareOp In int ref" => (k_here; (refine in_chars (by k_asm) (by assumption) ?_))
  k_with "getMethod ref" => (k_here; (refine getMethod_chars (by k_asm) (by assumption) ?_))
  k_with "call builtin:dict.get" => (k_here; (refine get_chars (by k_asm) (by assumption) ?_ ?_); (all_goals intros))
  k_with "subscriptTail" => (k_here; (with_reducible show wpAny _ _ (subscriptTail _ _ (Value.ref _) (Value.int _ _)) _ _ _); k_dflt (refine item_tupleT (by exact TupP.at (Fr.keep (by k_asm)) (by assumption)) (by decide) (by decide) (by rfl) (by rfl) ?_; k_whole))
  trivial
theorem lnB9_2 : True := by
  k_with "subscriptTail" => (k_here; (with_reducible show wpAny _ _ (subscriptTail _ _ (Value.ref (FontL.tk _)) (Value.int _ _)) _ _ _); k_dflt (refine kern_item (by k_asm) (by assumption) (by first | (first | lia | omega) | (have ok' := RowM.OK.kern (by assumption) (by (first | lia | omega)) (by (first | lia | omega)); (first | lia | omega))) (by first | (first | lia | omega) | (have ok' := RowM.OK.kern (by assumption) (by (first | lia | omega)) (by (first | lia | omega)); (first | lia | omega))) ?_ (by with_unfolding_all rfl)); intros)
  k_with "subscriptTail" => (k_here; (with_reducible show wpAny _ _ (subscriptTail _ _ (Value.ref (FontL.tp _)) (Value.int _ _)) _ _ _); k_dflt (refine prog_item (by k_asm) (by assumption) (by (first | lia | omega)) (by (first | lia | omega)) (by (first | lia | omega)) ?_ (by with_unfolding_all rfl) (by (intro _; with_unfolding_all rfl))); intros)
  k_with "compareOp In int ref" => (k_here; (with_reducible show wpAny _ _ (compareOp _ (Value.int _ _) (Value.ref 392)) _ _ _); (refine' in_known (Frag.In.keeps (by k_asm) (Fr.keep (by k_asm))) ?_))
  k_with "eval Name" => (k_here; (fail_if_success (with_reducible show wpAny _ _ (eval (Expr.Name _ _) (envOfC _ _ _ _ _)) _ _ _)); (fail_if_success (with_reducible show wpAny _ _ (eval (Expr.Name _ _) (compEnvC _ _ _ _)) _ _ _)); k_dflt (refine ld (by k_asm) (by first | exact rfl | assumption) ?_; k_whole))
  trivial
theorem lnB9_3 : True := by
  k_with "assign Tuple" => (k_here; (with_reducible show wpAny _ _ (assign (Expr.Tuple _ _ _) _ (Value.ref _)) _ _ _); k_dflt (refine unpackN_ (by k_asm) (by k_asm) (by exact tup_mem (by k_asm) (by assumption) (by intro q hq; repeat (first | exact hq | refine List.Mem.tail _ ?_))) (by exact rfl) (by exact rfl) (by exact rfl) ?_); intro _ _ _; (try k_sweep))
  k_with "compareOp Eq ref ref" => (k_here; k_dflt (refine eq_nil_list (by exact News.isList (by k_asm) (by k_mem)) (by exact News.isList (by k_asm) (by k_mem)) (by (have hcL9 := cLine_is; (simp only [units_deeper] at *); (first | lia | omega))) ?_))
  trivial
theorem lnB9_4 : True := by
  k_with "compareOp Eq ref ref" => (k_here; k_dflt (refine eq_snoc_list (by exact News.isList (by k_asm) (by k_mem)) (by exact News.isList (by k_asm) (by k_mem)) (by (have hcL9 := cLine_is; (simp only [units_deeper] at *); (first | lia | omega))) ?_))
  k_with "call builtin:list.pop" => (k_here; k_dflt (refine pop_in (by k_asm) (by k_asm) (by k_upd) (by exact kpa_last _ _) (by (show (List.length (_ ++ _)) ≤ _; rw [List.length_append, sizeLine_eq]; simp only [List.length_cons, List.length_nil]; (first | lia | omega))) ?_); (intro _ _ _); (try k_sweep))
  trivial
noncomputable def kl (op : Int) : Bool := (op.fdiv 2).fmod 2 == 1
noncomputable def kr (op : Int) : Bool := op.fmod 2 == 1
noncomputable def WordS.mark (st : WordS) : WordS := match st.now, st.wait with
  | none, _ => { st with hl := true }
  | some _, [] => { st with hr := true }
  | some _, _ :: _ => st
noncomputable def WordS.parts0 (st : WordS) (k : Bool) : List Int := match st.now with
  | some it => if k then [] else it.parts
  | none => []
structure Taken where
  edge : Int
  parts : List Int
  wait : List Item
noncomputable def WordS.take (st : WordS) (k : Bool) (p0 : List Int) : Taken := if k then ⟨st.edge, p0, st.wait⟩ else match st.wait with
  | [] => ⟨256, p0, []⟩
  | t :: r => ⟨st.edge, p0 ++ t.parts, r⟩
noncomputable def WordS.made (st : WordS) (op c : Int) : WordS :=
  let t := st.take (kr op) (st.parts0 (kl op))
  if kl op then { st.mark with edge := t.edge, wait := ⟨c, t.parts, true⟩ :: t.wait } else { st.mark with edge := t.edge, wait := t.wait, now := some ⟨c, t.parts, true⟩ }
noncomputable def WordS.passes : Nat → WordS → WordS
  | 0, st => st
  | n + 1, st => (WordS.passes n st).pass
noncomputable def WordS.put (st : WordS) (op c : Int) : WordS := WordS.passes (op.fdiv 4).toNat (st.made op c)
noncomputable def loadW : List Item → Nat
  | [] => 0
  | it :: r => it.parts.length + loadW r
noncomputable def WordS.load (st : WordS) : Nat := (match st.now with | some it => it.parts.length | none => 0) + loadW st.wait
theorem add_tup_M {prog : Program} {w : World} {A : Around} {E : Value → Shared → Prop} {s : Shared} {h₀ : Heap} {L t b : Addr} {m : Str → Option Value} {news ol : List (Addr × Obj)} {vs ws : List Value} {Q : Value → Shared → Prop} (F : Fr h₀ L s.heap m) (N : News h₀ L s.heap news)
    (hs : ∀ q, q ∈ ol → q ∈ news) (ht : (t, tupO vs) ∈ ol) (hb : (b, tupO ws) ∈ ol) (hz : vs.length + ws.length ≤ 16384)
    (h : ∀ D nl h', Fr h₀ L h' m → News h₀ L h' (nl ++ news) → (∀ p ∈ nl, s.heap.get? p.1 = none) → (D, tupO (vs ++ ws)) ∈ nl ++ ol → Q (.ref D) { s with heap := h' }) : wpAny (model prog w) A (binaryOp .Add (.ref t) (.ref b)) Q E s := by
  refine add_tuples F N ⟨_, (N _ (hs _ ht)).1, rfl, _, rfl⟩ ⟨_, (N _ (hs _ hb)).1, rfl, _, rfl⟩ (fun e => ?_) (fun _ e => ?_) (fun _ _ h' F' N' => ?_) (by rw [sizeLine_eq]; (first | lia | omega))
  · exact h b [] _ F N (fun _ h => nomatch h) (by rw [e]; exact hb)
  · exact h t [] _ F N (fun _ h => nomatch h) (by rw [e, List.append_nil]; exact ht)
  · exact h _ [(_, _)] h' F' N' (List.forall_mem_cons.mpr ⟨none_of_push (Nat.le_refl _), fun _ h => nomatch h⟩) (.head _)
theorem lnB9_5 : True := by
  k_with "subscriptTail" => (k_here; (with_reducible show wpAny _ _ (subscriptTail _ _ (Value.ref _) (Value.int _ _)) _ _ _); k_dflt (refine item_tupleT (by exact tup_mem (by k_asm) (by assumption) (by intro q hq; repeat (first | exact hq | refine List.Mem.tail _ ?_))) (by decide) (by decide) (by rfl) (by rfl) ?_; k_whole))
  k_with "newTuple" => (k_here; k_dflt (refine kup_newTuple (by k_asm) (by k_asm) ?_ (by (simp [sizeLine_eq]; done))); intro _ _ _ _ _; (try k_sweep))
  trivial
end Mine
open Mine
local macro_rules | `(tactic| k_handed) => `(tactic| assumption)
namespace Mine
theorem NowAt.handed {P : Addr → Obj → Prop} {v : Value} {o : Option Item} (x : NowAt P v o) : handedIn v = true := by
  cases o with
  | none => cases x; rfl
  | some it => obtain ⟨a, b, tc, pv, rfl, _⟩ := x.at_; rfl
theorem sep_of_lt {w : World} {l : WordL} {v : WordV} {st : WordS} {ol : List (Addr × Obj)} {q : Addr} (h : ∀ p ∈ wled w l v st ++ ol, p.1 < q) : @Ne Nat l.x q ∧ @Ne Nat l.dx q ∧ @Ne Nat l.wl q ∧ @Ne Nat l.fa q ∧ TLg.AllNe q ol :=
  ⟨Nat.ne_of_lt (h _ (.head _)), Nat.ne_of_lt (h _ (.tail _ (.head _))), Nat.ne_of_lt (h _ (.tail _ (.tail _ (.head _)))), Nat.ne_of_lt (h _ (.tail _ (.tail _ (.tail _ (.head _))))), TLgL.allNe_of fun p hp => Nat.ne_of_lt (h p (List.mem_append_right _ hp))⟩
/-- the word and its parts after the third statement -/
noncomputable def PartsJ (w : World) (g : Heap) (L' : Addr) (s : Shared) (l : WordL) (ol : List (Addr × Obj)) (v : WordV) (st : WordS) (op c : Int) (top tc : Tok) (P : Flow → Shared → Prop) : Prop :=
  ∀ h' tk' m₁ nl pb pv, Fr g L' h' m₁ → News g L' h' (wled w l v st.mark ++ (nl ++ ol)) → (∀ p ∈ nl, s.heap.get? p.1 = none) → l.Apart (nl ++ ol) → (pb, tupO pv) ∈ nl ++ ol → IntsV pv (st.parts0 (kl op)) → m₁ (Str.ofString "word") = some (.ref l.x) → m₁ (Str.ofString "op") = some (.int op top) → m₁ (Str.ofString "code") = some (.int c tc) → m₁ (Str.ofString "keeps_left") = some (.bool (kl op)) → m₁ (Str.ofString "keeps_right") = some (.bool (kr op)) → m₁ (Str.ofString "parts") = some (.ref pb) → P .next { s with heap := h', toks := tk' }
theorem PartsJ.new {w : World} {g : Heap} {L' : Addr} {s : Shared} {l : WordL} {ol : List (Addr × Obj)} {v : WordV} {st : WordS} {op c : Int} {top tc : Tok} {h' : Heap} {tk' : Tok} {m₁ : Str → Option Value} {q t0 : Addr} {o0 : Obj} (D : l.Apart ol) (G : ∀ b o, s.heap.get? b = some o → b ∉ (wled w l v st ++ ol).map (·.1) → g.get? b = some o)
    (F : Fr g L' h' m₁) (N : News g L' h' ((q, tupO []) :: (t0, o0) :: (wled w l v st.mark ++ ol))) (e : st.parts0 (kl op) = []) (lt : ∀ p ∈ wled w l v st.mark ++ ol, p.1 < q) (e1 : m₁ (Str.ofString "word") = some (.ref l.x)) (e2 : m₁ (Str.ofString "op") = some (.int op top)) (e3 : m₁ (Str.ofString "code") = some (.int c tc)) (e4 : m₁ (Str.ofString "keeps_left") = some (.bool (kl op)))
    (e5 : m₁ (Str.ofString "keeps_right") = some (.bool (kr op))) (e6 : m₁ (Str.ofString "parts") = some (.ref q)) {P : Flow → Shared → Prop} (kJ : PartsJ w g L' s l ol v st op c top tc P) : P .next { s with heap := h', toks := tk' } := by
  have sep := sep_of_lt lt
  refine kJ h' tk' m₁ [(q, tupO [])] q [] F (fun p hp => N p ?_) ?_ (D.more sep) (.head _) (by rw [e]; exact IntsV.nil) e1 e2 e3 e4 e5 e6
  · rcases List.mem_append.mp hp with h | h
    · exact .tail _ (.tail _ (List.mem_append_left _ h))
    · rcases List.mem_cons.mp h with rfl | h
      · exact .head _
      · exact .tail _ (.tail _ (List.mem_append_right _ h))
  · exact List.forall_mem_cons.mpr ⟨fresh_w G (N.fresh (.head _)) sep, fun _ h => nomatch h⟩
theorem PartsJ.old {w : World} {g : Heap} {L' : Addr} {s : Shared} {l : WordL} {ol : List (Addr × Obj)} {v : WordV} {st : WordS} {op c : Int} {top tc : Tok} {h' : Heap} {tk' : Tok} {m₁ : Str → Option Value} {b t0 : Addr} {o0 : Obj} {pv : List Value} (D : l.Apart ol)
    (F : Fr g L' h' m₁) (N : News g L' h' ((t0, o0) :: (wled w l v st.mark ++ ol))) (m2 : (b, tupO pv) ∈ ol) (iv : IntsV pv (st.parts0 (kl op))) (e1 : m₁ (Str.ofString "word") = some (.ref l.x)) (e2 : m₁ (Str.ofString "op") = some (.int op top)) (e3 : m₁ (Str.ofString "code") = some (.int c tc)) (e4 : m₁ (Str.ofString "keeps_left") = some (.bool (kl op)))
    (e5 : m₁ (Str.ofString "keeps_right") = some (.bool (kr op))) (e6 : m₁ (Str.ofString "parts") = some (.ref b)) {P : Flow → Shared → Prop} (kJ : PartsJ w g L' s l ol v st op c top tc P) : P .next { s with heap := h', toks := tk' } :=
  kJ h' tk' m₁ [] b pv F (fun p hp => N p (.tail _ hp)) (fun _ h => (nomatch h)) D m2 iv e1 e2 e3 e4 e5 e6
noncomputable def TakenJ (w : World) (g : Heap) (L' : Addr) (s : Shared) (l : WordL) (ol : List (Addr × Obj)) (st : WordS) (op c : Int) (top tc : Tok) (P : Flow → Shared → Prop) : Prop :=
  ∀ h' tk' m₁ v nl pb pv, Fr g L' h' m₁ → News g L' h' (wled w l v { st.mark with edge := (st.take (kr op) (st.parts0 (kl op))).edge, wait := (st.take (kr op) (st.parts0 (kl op))).wait } ++ (nl ++ ol)) → (∀ p ∈ nl, s.heap.get? p.1 = none) → l.Apart (nl ++ ol) → (pb, tupO pv) ∈ nl ++ ol → IntsV pv (st.take (kr op) (st.parts0 (kl op))).parts → WordR w (MemP (nl ++ ol)) l v { st.mark with edge := (st.take (kr op) (st.parts0 (kl op))).edge, wait := (st.take (kr op) (st.parts0 (kl op))).wait } → m₁ (Str.ofString "word") = some (.ref l.x) → m₁ (Str.ofString "op") = some (.int op top) → m₁ (Str.ofString "code") = some (.int c tc) → m₁ (Str.ofString "keeps_left") = some (.bool (kl op)) → m₁ (Str.ofString "parts") = some (.ref pb) → P .next { s with heap := h', toks := tk' }
theorem mark_eq (st : WordS) : st.mark = ⟨st.now, st.wait, st.edge, st.found, st.mark.hl, st.mark.hr, st.go⟩ := by
  obtain ⟨nx, wx, ed, fx, hl, hr, go⟩ := st
  cases nx <;> cases wx <;> rfl
theorem TakenJ.mk {w : World} {g : Heap} {L' : Addr} {s : Shared} {l : WordL} {ol : List (Addr × Obj)} {st : WordS} {op c : Int} {top tc : Tok} {h' : Heap} {tk' : Tok} {m₁ : Str → Option Value} {v : WordV} {ed2 : Int} {wx2 : List Item} {ps : List Int} {hl2 hr2 : Bool} {nl : List (Addr × Obj)} {pb : Addr} {pv : List Value} (h1 : st.mark.hl = hl2) (h2 : st.mark.hr = hr2)
    (F : Fr g L' h' m₁) (N : News g L' h' (wled w l v ⟨st.now, wx2, ed2, st.found, hl2, hr2, st.go⟩ ++ (nl ++ ol))) (fr : ∀ p ∈ nl, s.heap.get? p.1 = none) (D : l.Apart (nl ++ ol)) (mb : (pb, tupO pv) ∈ nl ++ ol) (iv : IntsV pv ps) (et : st.take (kr op) (st.parts0 (kl op)) = ⟨ed2, ps, wx2⟩)
    (a1 : NowAt (MemP (nl ++ ol)) v.vnow st.now) (a2 : All2 (ItemAt (MemP (nl ++ ol))) v.wvs wx2.reverse) (a3 : All2 (NodeAt w (MemP (nl ++ ol)) (.ref l.fx)) v.fvs st.found) (a4 : wx2.length + st.found.length ≤ 100000)
    (e1 : m₁ (Str.ofString "word") = some (.ref l.x)) (e2 : m₁ (Str.ofString "op") = some (.int op top)) (e3 : m₁ (Str.ofString "code") = some (.int c tc)) (e4 : m₁ (Str.ofString "keeps_left") = some (.bool (kl op))) (e6 : m₁ (Str.ofString "parts") = some (.ref pb)) {P : Flow → Shared → Prop} (kJ : TakenJ w g L' s l ol st op c top tc P) : P .next { s with heap := h', toks := tk' } := by
  have e : ({ st.mark with edge := (st.take (kr op) (st.parts0 (kl op))).edge, wait := (st.take (kr op) (st.parts0 (kl op))).wait } : WordS) = ⟨st.now, wx2, ed2, st.found, hl2, hr2, st.go⟩ := by
    rw [et, mark_eq, h1, h2]
  exact kJ h' tk' m₁ v nl pb pv F (by rw [e]; exact N) fr D mb (by rw [et]; exact iv) (by rw [e]; exact ⟨a1, a2, a3, a4⟩) e1 e2 e3 e4 e6
theorem parts0_le (st : WordS) (k : Bool) : (st.parts0 k).length ≤ st.load := by
  obtain ⟨nx, wx, ed, fx, hl, hr, go⟩ := st
  cases nx <;> cases k <;> simp [WordS.parts0, WordS.load]
theorem apart_app {w : World} {g hb : Heap} {L' : Addr} {l : WordL} {v : WordV} {st : WordS} {ol nl : List (Addr × Obj)} (D : l.Apart ol) (N : News g L' hb (wled w l v st ++ ol)) (fr : ∀ p ∈ nl, hb.get? p.1 = none) : l.Apart (nl ++ ol) := by
  have k : ∀ q ∈ wled w l v st ++ ol, ∀ p ∈ nl, p.1 ≠ q.1 := fun q hq p hp e => by
    have h1 := (N q hq).1
    rw [← e, fr p hp] at h1; cases h1
  have k2 : ∀ (P : Addr × Obj → Prop), (∀ p ∈ nl, P p) → (∀ p ∈ ol, P p) → ∀ p ∈ nl ++ ol, P p := fun P h1 h2 p hp => (List.mem_append.mp hp).elim (h1 p) (h2 p)
  exact ⟨D.x_dx, D.x_wl, D.x_fa, D.dx_wl, D.dx_fa, D.wl_fa, k2 _ (k _ (.head _)) D.o_x, k2 _ (k _ (.tail _ (.head _))) D.o_dx, k2 _ (k _ (.tail _ (.tail _ (.head _)))) D.o_wl, k2 _ (k _ (.tail _ (.tail _ (.tail _ (.head _))))) D.o_fa⟩
theorem fresh_app {w : World} {g h hb : Heap} {L' : Addr} {l : WordL} {v v' : WordV} {st st' : WordS} {ol ol' nl : List (Addr × Obj)} (G : ∀ b o, h.get? b = some o → b ∉ (wled w l v st ++ ol).map (·.1) → g.get? b = some o) (N : News g L' hb (wled w l v' st' ++ ol')) (sub : ∀ q, q ∈ ol → q ∈ ol')
    (fr : ∀ p ∈ nl, hb.get? p.1 = none) (N' : ∀ p ∈ nl, g.get? p.1 = none) : ∀ p ∈ nl, h.get? p.1 = none := fun p hp => fresh_g G (N' p hp) fun hm => by
  have k : ∀ q ∈ wled w l v' st' ++ ol', p.1 ≠ q.1 := fun q hq e => by
    have h1 := (N q hq).1
    rw [← e, fr p hp] at h1; cases h1
  rw [List.map_append] at hm
  rcases List.mem_append.mp hm with hm | hm
  · simp only [List.map_cons, List.map_nil, List.mem_cons, List.not_mem_nil, or_false] at hm
    rcases hm with e | e | e | e
    · exact k _ (.head _) e
    · exact k _ (.tail _ (.head _)) e
    · exact k _ (.tail _ (.tail _ (.head _))) e
    · exact k _ (.tail _ (.tail _ (.tail _ (.head _)))) e
  · obtain ⟨q, hq, e⟩ := List.mem_map.mp hm
    exact k q (List.mem_append_right _ (sub q hq)) e.symm
theorem mem_shift {α : Type} {x : α} {a b c d : List α} (h : x ∈ a ++ ((b ++ c) ++ d)) : x ∈ b ++ (a ++ (c ++ d)) := by
  simp only [List.mem_append] at *
  rcases h with h | (h | h) | h <;> simp [h]
theorem made_eq (st : WordS) (op c : Int) : st.made op c = if kl op then { ({ st.mark with edge := (st.take (kr op) (st.parts0 (kl op))).edge, wait := (st.take (kr op) (st.parts0 (kl op))).wait } : WordS) with wait := ⟨c, (st.take (kr op) (st.parts0 (kl op))).parts, true⟩ :: ({ st.mark with edge := (st.take (kr op) (st.parts0 (kl op))).edge, wait := (st.take (kr op) (st.parts0 (kl op))).wait } : WordS).wait }
    else { ({ st.mark with edge := (st.take (kr op) (st.parts0 (kl op))).edge, wait := (st.take (kr op) (st.parts0 (kl op))).wait } : WordS) with now := some ⟨c, (st.take (kr op) (st.parts0 (kl op))).parts, true⟩ } := rfl
theorem now_ok {P : Addr → Obj → Prop} {v : Value} {o : Option Item} (x : NowAt P v o) : ∀ it, o = some it → it.OK := by
  rintro it rfl
  exact ItemAt.ok x
theorem wait_ok {P : Addr → Obj → Prop} {vs : List Value} {wx : List Item} (x : All2 (ItemAt P) vs wx.reverse) : ∀ it ∈ wx, it.OK := by
  intro it hi
  obtain ⟨i, hi', e⟩ := List.mem_iff_getElem.mp (List.mem_reverse.mpr hi)
  have hl := x.length
  obtain ⟨a, e2, r⟩ := x.get i vs[i] (by simp)
  rw [List.getElem?_eq_getElem hi'] at e2
  rw [← e, Option.some.inj e2]
  exact r.ok
theorem take_ok {st : WordS} (k k' : Bool) (h1 : ∀ it, st.now = some it → it.OK) (h2 : ∀ it ∈ st.wait, it.OK) : (∀ i ∈ (st.take k (st.parts0 k')).parts, OctI i) ∧ (st.take k (st.parts0 k')).parts.length ≤ st.load ∧ (st.take k (st.parts0 k')).wait.length ≤ st.wait.length := by
  obtain ⟨nx, wx, ed, fx, hl, hr, go⟩ := st
  have p0 : ∀ i ∈ (WordS.parts0 ⟨nx, wx, ed, fx, hl, hr, go⟩ k'), OctI i := by
    cases nx with
    | none => intro i h; cases k' <;> simp [WordS.parts0] at h
    | some it =>
      cases k' with
      | true => intro i h; simp [WordS.parts0] at h
      | false => intro i h; exact (h1 it rfl).parts i (by simpa [WordS.parts0] using h)
  have l0 := parts0_le ⟨nx, wx, ed, fx, hl, hr, go⟩ k'
  cases k with
  | true => exact ⟨p0, l0, Nat.le_refl _⟩
  | false =>
    cases wx with
    | nil => exact ⟨p0, l0, Nat.le_refl _⟩
    | cons t r =>
      refine ⟨fun i h => ?_, ?_, Nat.le_succ _⟩
      · rcases List.mem_append.mp h with h | h
        · exact p0 i h
        · exact (h2 t (.head _)).parts i h
      · cases nx <;> cases k' <;> simp [WordS.take, WordS.parts0, WordS.load, loadW] <;> (first | lia | omega)
noncomputable def MadeJ (w : World) (g : Heap) (L' : Addr) (s : Shared) (l : WordL) (ol : List (Addr × Obj)) (st : WordS) (op c : Int) (top : Tok) (P : Flow → Shared → Prop) : Prop :=
  ∀ h' tk' m₁ v nl, Fr g L' h' m₁ → News g L' h' (wled w l v (st.made op c) ++ (nl ++ ol)) → (∀ p ∈ nl, s.heap.get? p.1 = none) → l.Apart (nl ++ ol) → WordR w (MemP (nl ++ ol)) l v (st.made op c) → m₁ (Str.ofString "word") = some (.ref l.x) → m₁ (Str.ofString "op") = some (.int op top) → (st.made op c).wait.length + (st.made op c).found.length ≤ 80001 → P .next { s with heap := h', toks := tk' }
theorem memP_up {q : Addr} {o : Obj} {ol : List (Addr × Obj)} : ∀ a' o', MemP ol a' o' → MemP ((q, o) :: ol) a' o' := fun _ _ h => .tail _ h
noncomputable def PassJ (w : World) (s : Shared) (l : WordL) (ol : List (Addr × Obj)) (st3 : WordS) (k : Nat) (m' : Str → Option Value) (nw : List (Addr × Obj)) : Prop :=
  m' (Str.ofString "word") = some (.ref l.x) ∧ ∃ v nl, nw = wled w l v (WordS.passes k st3) ++ (nl ++ ol) ∧ (∀ p ∈ nl, s.heap.get? p.1 = none) ∧ l.Apart (nl ++ ol) ∧ WordR w (MemP (nl ++ ol)) l v (WordS.passes k st3) ∧ (WordS.passes k st3).wait.length + (WordS.passes k st3).found.length ≤ 80001 + k
theorem pass_len (st : WordS) : st.pass.wait.length + st.pass.found.length ≤ st.wait.length + st.found.length + 1 := by
  obtain ⟨nx, wx, ed, fx, hl, hr, go⟩ := st
  cases nx with
  | none => cases wx <;> simp [WordS.pass, WordS.leave]; (first | lia | omega)
  | some it =>
    obtain ⟨c, ps, made⟩ := it
    cases made <;> cases wx <;> simp [WordS.pass, WordS.leave] <;> (first | lia | omega)
theorem small_few {x : Int} (h : 0 ≤ x) (h' : x ≤ 2) : Builtin.Range.small 0 x 1 = true := by
  rcases (by (first | lia | omega) : x = 0 ∨ x = 1 ∨ x = 2) with rfl | rfl | rfl <;> decide
theorem size_few {x : Int} (h : 0 ≤ x) : Builtin.Range.rangeSize 0 x 1 = ((x.toNat : Nat) : Int) := by
  unfold Builtin.Range.rangeSize
  simp only [show (1 : Int) > 0 by decide, if_true]
  split <;> (first | lia | omega)
theorem apart_one {I : Addr} {oI : Obj} {w : World} {l : WordL} {v : WordV} {st : WordS} {ol : List (Addr × Obj)} (h : ∀ p ∈ wled w l v st ++ ol, p.1 ≠ I) : ∀ p ∈ [(I, oI)], p.1 ∉ waddr l ++ ol.map (·.1) := by
  rintro p hp hm
  rw [List.mem_singleton.mp hp] at hm
  have : (wled w l v st ++ ol).map (·.1) = waddr l ++ ol.map (·.1) := by rw [List.map_append]; rfl
  rw [← this] at hm
  obtain ⟨q, hq, e⟩ := List.mem_map.mp hm
  exact h q hq e
theorem off_w {I : Addr} {w : World} {l : WordL} {v v' : WordV} {st st' : WordS} {ol : List (Addr × Obj)} (h : ∀ p ∈ wled w l v st ++ ol, p.1 ≠ I) : ∀ p ∈ wled w l v' st', p.1 ≠ I := by
  intro p hp
  simp only [List.mem_cons, List.not_mem_nil, or_false] at hp
  rcases hp with rfl | rfl | rfl | rfl
  · exact h _ (.head _)
  · exact h (l.dx, wordO w l.k (.ref l.fx) l.wl v.vnow (.int st.edge v.te) l.fa st.hl st.hr st.go) (.tail _ (.head _))
  · exact h (l.wl, listOf v.wvs.toArray v.nw) (.tail _ (.tail _ (.head _)))
  · exact h (l.fa, listOf v.fvs.toArray v.nf) (.tail _ (.tail _ (.tail _ (.head _))))
theorem put_spec {w : World} {A : Around} {s : Shared} {h₀ : Heap} {L : Addr} {m : Str → Option Value} {l : WordL} {v : WordV} {st : WordS} {ol : List (Addr × Obj)} {op c : Int} {top tc : Tok} {Q E : Value → Shared → Prop}
    (C : Cx w A h₀ L s.heap m) (hd : A.depth ≤ 330) (hu : A.units ≤ 1800) (N : News h₀ L s.heap (wled w l v st ++ ol)) (D : l.Apart ol) (R : WordR w (MemP ol) l v st) (hfew : st.wait.length + st.found.length ≤ 80000)
    (hc0 : 0 ≤ c) (hc1 : c ≤ 255) (hop : 0 ≤ op) (hop1 : op ≤ 11) (hld : st.load ≤ 100)
    (ret : WEnd w h₀ L m s l ol (st.put op c) Q) : wpAny (model PySem.Challenge.rw_sq0044_01.row.prog w) A (call (.ref 439) [.ref l.x, .int op top, .int c tc]) Q E s := by
  obtain ⟨nx, wx, ed, fx, hl, hr, go⟩ := st
  obtain ⟨wvs, nw, fvs, nf, vnow, te⟩ := v
  obtain ⟨d1, d2, d3, d4, d5, d6, d7, d8, d9, d10⟩ := id D
  obtain ⟨R1, R2, R3, R4⟩ := id R
  (try dsimp only at R1 R2 R3 R4 hfew)
  refine wpAny_call ?_
  refine Cx.form_ C ?_; intro dp un gd env0 outer0 eA9; subst eA9; (try dsimp only at hd); (try dsimp only at hu); k_dflt (refine' enter (binds := [(Str.ofString "word", .ref l.x), (Str.ofString "op", .int op top), (Str.ofString "code", .int c tc)]) ?k1 ?k2 ?k6 ?k7 ?k8 ?k9 ?kB ?_ ?c2 ?c3 ?c4 ?c5; (case k1 => assumption); (case k2 => assumption); (case k6 => k_is); (case k7 => k_is); (case k8 => (first | exact le_up (d := 1) hd rfl | exact le_up (d := 2) hd rfl | (simp only [depth_under_make, depth_under_kw, recursionLimit]; (first | lia | omega)))); (case k9 => first | exact BindsTo.of_eq rfl | exact binds_K (Cx.inK (by assumption)) rfl (by k_is) rfl rfl rfl); (case c5 => decide); (case kB => exact locs rfl); (case c2 => exact rfl); (case c3 => exact rfl); (case c4 => exact rfl)); intro base outer p loose mean mg mb g L' hB1 FG F NB G B X T hh; obtain rfl : env0 :: outer0 = outer := Option.some.inj B.stack; (try dsimp only); (try k_fold)
  dsimp only [List.cons_append, List.nil_append] at NB
  have hnd := NowAt.handed R1
  repeat' ((fail_if_success (with_reducible show wpAny _ _ (exec (Stmt.If _ _ _ _) _) _ _ _)); first | (k_unfold; (try dsimp only)) | (dsimp only; k_unfold; (try dsimp only)) | ((fail_if_success (with_reducible show Exists _)); (fail_if_success (with_reducible show LeaveK h₀ L m g _ _ _)); first | walk1 | (dsimp only; (fail_if_success (with_reducible show Exists _)); (fail_if_success (with_reducible show LeaveK h₀ L m g _ _ _)); walk1)))
  refine cutC (fun P : Flow → Shared → Prop => ∀ h' tk' m₁, Fr g L' h' m₁ → News g L' h' (wled w l ⟨wvs, nw, fvs, nf, vnow, te⟩ (WordS.mark ⟨nx, wx, ed, fx, hl, hr, go⟩) ++ ol) → m₁ (Str.ofString "word") = some (.ref l.x) → m₁ (Str.ofString "op") = some (.int op top) →
    m₁ (Str.ofString "code") = some (.int c tc) → m₁ (Str.ofString "now") = some vnow → P .next { s with heap := h', toks := tk' }) ?_ ?_
  · cases nx with
    | none =>
      cases R1
      repeat' (first | (k_unfold; (try dsimp only)) | (dsimp only; k_unfold; (try dsimp only)) | ((fail_if_success (with_reducible show Exists _)); (fail_if_success (with_reducible show LeaveK h₀ L m g _ _ _)); first | walk1 | (dsimp only; (fail_if_success (with_reducible show Exists _)); (fail_if_success (with_reducible show LeaveK h₀ L m g _ _ _)); walk1)))
      (with_reducible rename Fr _ _ _ _ => F7); (with_reducible rename News _ _ _ _ => N7); rename_i kJ; exact kJ _ _ _ F7 (news_sub N7 (by k_extra "my sub")) rfl rfl rfl rfl
    | some it =>
      obtain ⟨iok, a, b, tc', pv, rfl, m1, m2, iv⟩ := id R1
      cases wx with
      | nil =>
        cases R2
        repeat' (first | (k_unfold; (try dsimp only)) | (dsimp only; k_unfold; (try dsimp only)) | ((fail_if_success (with_reducible show Exists _)); (fail_if_success (with_reducible show LeaveK h₀ L m g _ _ _)); first | walk1 | (dsimp only; (fail_if_success (with_reducible show Exists _)); (fail_if_success (with_reducible show LeaveK h₀ L m g _ _ _)); walk1)))
        (with_reducible rename Fr _ _ _ _ => F7); (with_reducible rename News _ _ _ _ => N7); rename_i kJ; exact kJ _ _ _ F7 (news_sub N7 (by k_extra "my sub")) rfl rfl rfl rfl
      | cons it2 r =>
        rw [List.reverse_cons] at R2
        obtain ⟨vs0, x, rfl, W', I'⟩ := All2.unsnoc R2
        repeat' (first | (k_unfold; (try dsimp only)) | (dsimp only; k_unfold; (try dsimp only)) | ((fail_if_success (with_reducible show Exists _)); (fail_if_success (with_reducible show LeaveK h₀ L m g _ _ _)); first | walk1 | (dsimp only; (fail_if_success (with_reducible show Exists _)); (fail_if_success (with_reducible show LeaveK h₀ L m g _ _ _)); walk1)))
        (with_reducible rename Fr _ _ _ _ => F7); (with_reducible rename News _ _ _ _ => N7); rename_i kJ; exact kJ _ _ _ F7 (news_sub N7 (by k_extra "my sub")) rfl rfl rfl rfl
  intro h' tk' m₁ F1 N1 n1 n2 n3 n4
  (try dsimp only)
  repeat' ((fail_if_success (with_reducible show wpAny _ _ (exec (Stmt.Assign _ (Expr.IfExp _ _ _ _) _) _) _ _ _)); first | (k_unfold; (try dsimp only)) | (dsimp only; k_unfold; (try dsimp only)) | ((fail_if_success (with_reducible show Exists _)); (fail_if_success (with_reducible show LeaveK h₀ L m g _ _ _)); first | walk1 | (dsimp only; (fail_if_success (with_reducible show Exists _)); (fail_if_success (with_reducible show LeaveK h₀ L m g _ _ _)); walk1)))
  refine cutC (PartsJ w g L' s l ol ⟨wvs, nw, fvs, nf, vnow, te⟩ ⟨nx, wx, ed, fx, hl, hr, go⟩ op c top tc) ?_ ?_
  · cases nx with
    | none =>
      cases R1
      repeat' (first | (k_unfold; (try dsimp only)) | (dsimp only; k_unfold; (try dsimp only)) | ((fail_if_success (with_reducible show Exists _)); (fail_if_success (with_reducible show LeaveK h₀ L m g _ _ _)); first | walk1 | (dsimp only; (fail_if_success (with_reducible show Exists _)); (fail_if_success (with_reducible show LeaveK h₀ L m g _ _ _)); walk1)))
      (with_reducible rename Fr _ _ _ _ => F7); (with_reducible rename News _ _ _ _ => N7)
      exact PartsJ.new D G F7 N7 rfl (List.forall_mem_cons.mp (by assumption)).2 n1 n2 n3 rfl rfl rfl (by assumption)
    | some it =>
      obtain ⟨iok, a, b, tc', pv, rfl, m1, m2, iv⟩ := id R1
      dsimp only [MemP] at m1 m2
      repeat' (first | (k_unfold; (try dsimp only)) | (dsimp only; k_unfold; (try dsimp only)) | ((fail_if_success (with_reducible show Exists _)); (fail_if_success (with_reducible show LeaveK h₀ L m g _ _ _)); first | walk1 | (dsimp only; (fail_if_success (with_reducible show Exists _)); (fail_if_success (with_reducible show LeaveK h₀ L m g _ _ _)); walk1)))
      all_goals ((with_reducible rename Fr _ _ _ _ => F7); (with_reducible rename News _ _ _ _ => N7))
      · have hk : (op.fdiv 2).fmod 2 = 1 := by assumption
        exact PartsJ.new D G F7 N7 (by simp [WordS.parts0, kl, hk]) (List.forall_mem_cons.mp (by assumption)).2 n1 n2 n3 rfl rfl rfl (by assumption)
      · have hk : (op.fdiv 2).fmod 2 ≠ 1 := by assumption
        exact PartsJ.old (s := s) D F7 N7 m2 (by simpa [WordS.parts0, kl, hk] using iv) n1 n2 n3 rfl rfl rfl (by assumption)
  intro h' tk' m₁ nl pb pv F1 N1 fr1 D1 mb iv n1 n2 n3 n4 n5 n6
  (try dsimp only)
  repeat' ((fail_if_success (with_reducible show wpAny _ _ (exec (Stmt.If _ _ _ _) _) _ _ _)); first | (k_unfold; (try dsimp only)) | (dsimp only; k_unfold; (try dsimp only)) | ((fail_if_success (with_reducible show Exists _)); (fail_if_success (with_reducible show LeaveK h₀ L m g _ _ _)); first | walk1 | (dsimp only; (fail_if_success (with_reducible show Exists _)); (fail_if_success (with_reducible show LeaveK h₀ L m g _ _ _)); walk1)))
  refine cutC (TakenJ w g L' s l ol ⟨nx, wx, ed, fx, hl, hr, go⟩ op c top tc) ?_ ?_
  · have R' := R.more nl
    obtain ⟨d1, d2, d3, d4, d5, d6, d7, d8, d9, d10⟩ := id D1
    obtain ⟨R1', R2', R3', -⟩ := id R'
    clear R1 R2 R3
    rw [mark_eq] at N1
    (try dsimp only at N1 R1' R2' R3')
    generalize hle : (WordS.mark ⟨nx, wx, ed, fx, hl, hr, go⟩).hl = hl2 at N1
    generalize hre : (WordS.mark ⟨nx, wx, ed, fx, hl, hr, go⟩).hr = hr2 at N1
    (try dsimp only [List.cons_append, List.nil_append] at N1)
    cases hk : kr op
    all_goals rw [hk] at n5
    · cases wx with
      | nil =>
        cases R2'
        repeat' (first | (k_unfold; (try dsimp only)) | (dsimp only; k_unfold; (try dsimp only)) | ((fail_if_success (with_reducible show Exists _)); (fail_if_success (with_reducible show LeaveK h₀ L m g _ _ _)); first | walk1 | (dsimp only; (fail_if_success (with_reducible show Exists _)); (fail_if_success (with_reducible show LeaveK h₀ L m g _ _ _)); walk1)))
        (with_reducible rename Fr _ _ _ _ => F7); (with_reducible rename News _ _ _ _ => N7)
        refine TakenJ.mk (s := s) (v := ⟨[], nw, fvs, nf, vnow, _⟩) hle hre F7 (news_sub N7 (by k_extra "my sub")) fr1 D1 mb iv (by rw [hk]; rfl) R1' .nil R3' R4 ?_ ?_ ?_ ?_ ?_ (by assumption) <;> assumption
      | cons it2 r =>
        rw [List.reverse_cons] at R2'
        obtain ⟨vs0, x, rfl, W', I'⟩ := All2.unsnoc R2'
        obtain ⟨iok, a, b, tc', pv2, rfl, m1, m2, iv2⟩ := id I'
        dsimp only [MemP] at m1 m2
        have q1 := W'.length
        rw [List.length_reverse] at q1
        simp only [List.length_cons] at R4
        repeat' (first | (k_unfold; (try dsimp only)) | (dsimp only; k_unfold; (try dsimp only)) | ((fail_if_success (with_reducible show Exists _)); (fail_if_success (with_reducible show LeaveK h₀ L m g _ _ _)); first | walk1 | (dsimp only; (fail_if_success (with_reducible show Exists _)); (fail_if_success (with_reducible show LeaveK h₀ L m g _ _ _)); walk1)))
        (with_reducible rename Fr _ _ _ _ => F7); (with_reducible rename News _ _ _ _ => N7)
        have N8 : News g L' _ (wled w l ⟨vs0, nw + 1, fvs, nf, vnow, te⟩ ⟨nx, r, ed, fx, hl2, hr2, go⟩ ++ (nl ++ ol)) := news_sub N7 (by k_extra "my sub")
        clear N7
        have z1 := parts0_le ⟨nx, it2 :: r, ed, fx, hl, hr, go⟩ (kl op)
        have z2 := iok.few
        refine add_tup_M F7 N8 (fun q hq => List.mem_append_right _ hq) mb m2 (by rw [iv.1, iv2.1]; (first | lia | omega)) ?_
        intro D' nl2 h2 F9 N9 f9 mD
        have N10 : News g L' h2 (wled w l ⟨vs0, nw + 1, fvs, nf, vnow, te⟩ ⟨nx, r, ed, fx, hl2, hr2, go⟩ ++ ((nl2 ++ nl) ++ ol)) := fun p hp => N9 p (mem_shift hp)
        have D2 := apart_app D1 N8 f9
        have fr2 := fresh_app G N8 (fun q hq => List.mem_append_right _ hq) f9 (fun p hp => (N9 p (List.mem_append_left _ hp)).2.2)
        rw [← List.append_assoc] at D2 mD
        clear N8 N9 F7
        (try dsimp only [List.cons_append, List.nil_append] at N10)
        repeat' (first | (k_unfold; (try dsimp only)) | (dsimp only; k_unfold; (try dsimp only)) | ((fail_if_success (with_reducible show Exists _)); (fail_if_success (with_reducible show LeaveK h₀ L m g _ _ _)); first | walk1 | (dsimp only; (fail_if_success (with_reducible show Exists _)); (fail_if_success (with_reducible show LeaveK h₀ L m g _ _ _)); walk1)))
        (with_reducible rename Fr _ _ _ _ => F7); (with_reducible rename News _ _ _ _ => N7)
        refine TakenJ.mk (s := s) (v := ⟨vs0, nw + 1, fvs, nf, vnow, te⟩) (nl := nl2 ++ nl) hle hre F7 (news_sub N7 (by k_extra "my sub")) (fun p hp => (List.mem_append.mp hp).elim (fr2 p) (fr1 p)) D2 mD ?_ (by rw [hk]; rfl) (R1'.mono ?_) (W'.mono fun _ _ h => h.mono ?_) (R3'.mono fun _ _ h => h.mono ?_) (by dsimp only; (first | lia | omega)) n1 n2 n3 n4 rfl (by assumption)
        · exact iv.append iv2
        all_goals (intro a' o' hm; rw [List.append_assoc]; exact List.mem_append_right _ hm)
    · repeat' (first | (k_unfold; (try dsimp only)) | (dsimp only; k_unfold; (try dsimp only)) | ((fail_if_success (with_reducible show Exists _)); (fail_if_success (with_reducible show LeaveK h₀ L m g _ _ _)); first | walk1 | (dsimp only; (fail_if_success (with_reducible show Exists _)); (fail_if_success (with_reducible show LeaveK h₀ L m g _ _ _)); walk1)))
      refine TakenJ.mk (s := s) (v := ⟨wvs, nw, fvs, nf, vnow, te⟩) hle hre F1 N1 fr1 D1 mb iv (by rw [hk]; rfl) R1' R2' R3' R4 n1 n2 n3 n4 n6 (by assumption)
  intro h2 tk2 m₂ v nl pb pv F1 N1 fr1 D1 mb iv R' n1 n2 n3 n4 n6
  have hok := take_ok (st := ⟨nx, wx, ed, fx, hl, hr, go⟩) (kr op) (kl op) (now_ok R1) (wait_ok R2)
  clear R1 R2 R3 R4
  have em := made_eq ⟨nx, wx, ed, fx, hl, hr, go⟩ op c
  generalize hps : (WordS.take ⟨nx, wx, ed, fx, hl, hr, go⟩ (kr op) (WordS.parts0 ⟨nx, wx, ed, fx, hl, hr, go⟩ (kl op))).parts = ps at iv em hok
  generalize hst : ({ WordS.mark ⟨nx, wx, ed, fx, hl, hr, go⟩ with edge := (WordS.take ⟨nx, wx, ed, fx, hl, hr, go⟩ (kr op) (WordS.parts0 ⟨nx, wx, ed, fx, hl, hr, go⟩ (kl op))).edge, wait := (WordS.take ⟨nx, wx, ed, fx, hl, hr, go⟩ (kr op) (WordS.parts0 ⟨nx, wx, ed, fx, hl, hr, go⟩ (kl op))).wait } : WordS) = st2 at N1 R' em
  have hw2 : st2.wait.length + st2.found.length ≤ 80000 := by rw [← hst]; have := hok.2.2; rw [mark_eq]; dsimp only at this ⊢; (first | lia | omega)
  clear hst hps
  obtain ⟨nx2, wx2, ed2, fx2, hl2, hr2, go2⟩ := st2
  obtain ⟨wvs2, nw2, fvs2, nf2, vnow2, te2⟩ := v
  (try dsimp only [List.cons_append, List.nil_append] at N1 hw2 em)
  repeat' ((fail_if_success (with_reducible show wpAny _ _ (exec (Stmt.If _ _ _ _) _) _ _ _)); first | (k_unfold; (try dsimp only)) | (dsimp only; k_unfold; (try dsimp only)) | ((fail_if_success (with_reducible show Exists _)); (fail_if_success (with_reducible show LeaveK h₀ L m g _ _ _)); first | walk1 | (dsimp only; (fail_if_success (with_reducible show Exists _)); (fail_if_success (with_reducible show LeaveK h₀ L m g _ _ _)); walk1)))
  rename_i l7 _ _ _ _
  refine cutC (MadeJ w g L' s l ol ⟨nx, wx, ed, fx, hl, hr, go⟩ op c top) ?_ ?_
  · (with_reducible rename Fr _ _ _ _ => F7); (with_reducible rename News _ _ _ _ => N7)
    have sep := sep_of_lt (w := w) (l := l) (v := ⟨wvs2, nw2, fvs2, nf2, vnow2, te2⟩) (st := ⟨nx2, wx2, ed2, fx2, hl2, hr2, go2⟩) (ol := nl ++ ol) (by assumption)
    have D3 := D1.more (o := tupO [.int c tc, .ref pb, .bool true]) sep
    obtain ⟨p1, p2, p3, p4, p5⟩ := id sep
    have sep2 : @Ne Nat l.x _ ∧ @Ne Nat l.dx _ ∧ @Ne Nat l.wl _ ∧ @Ne Nat l.fa _ ∧ TLg.AllNe _ ol := ⟨sep.1, sep.2.1, sep.2.2.1, sep.2.2.2.1, TLgL.allNe_of fun p hp => allNe_mem sep.2.2.2.2 p (List.mem_append_right _ hp)⟩
    have fr3 := fresh_w G (N7.fresh (.head _)) sep2
    obtain ⟨e1, e2, e3, e4, e5, e6, e7, e8, e9, e10⟩ := id D1
    have iok : Item.OK ⟨c, ps, true⟩ := ⟨⟨hc0, hc1⟩, hok.1, Nat.le_trans hok.2.1 hld⟩
    obtain ⟨R1, R2, R3, R4⟩ := id R'
    have q2 := R2.length
    rw [List.length_reverse] at q2
    (try dsimp only at R1 R2 R3 q2)
    cases hk : kl op
    all_goals (rw [hk] at n4 em; (try simp only [if_true, Bool.false_eq_true, if_false] at em))
    · repeat' (first | (k_unfold; (try dsimp only)) | (dsimp only; k_unfold; (try dsimp only)) | ((fail_if_success (with_reducible show Exists _)); (fail_if_success (with_reducible show LeaveK h₀ L m g _ _ _)); first | walk1 | (dsimp only; (fail_if_success (with_reducible show Exists _)); (fail_if_success (with_reducible show LeaveK h₀ L m g _ _ _)); walk1)))
      (with_reducible rename Fr _ _ _ _ => F8); (with_reducible rename News _ _ _ _ => N8)
      (with_reducible rename MadeJ .. => kJ); refine kJ _ _ _ ⟨wvs2, nw2, fvs2, nf2, .ref _, te2⟩ ((_, tupO [.int c tc, .ref pb, .bool true]) :: nl) F8 (by rw [em]; exact news_sub N8 (by k_extra "my sub")) (List.forall_mem_cons.mpr ⟨fr3, fr1⟩) D3 ?_ n1 n2 (by rw [em]; dsimp only; (first | lia | omega))
      rw [em]
      exact ⟨⟨iok, _, _, tc, pv, rfl, .head _, .tail _ mb, iv⟩, R2.mono fun _ _ h => h.mono memP_up, R3.mono fun _ _ h => h.mono memP_up, by dsimp only; (first | lia | omega)⟩
    · repeat' (first | (k_unfold; (try dsimp only)) | (dsimp only; k_unfold; (try dsimp only)) | ((fail_if_success (with_reducible show Exists _)); (fail_if_success (with_reducible show LeaveK h₀ L m g _ _ _)); first | walk1 | (dsimp only; (fail_if_success (with_reducible show Exists _)); (fail_if_success (with_reducible show LeaveK h₀ L m g _ _ _)); walk1)))
      (with_reducible rename Fr _ _ _ _ => F8); (with_reducible rename News _ _ _ _ => N8)
      rw [List.push_toArray] at N8
      (with_reducible rename MadeJ .. => kJ); refine kJ _ _ _ ⟨wvs2 ++ [.ref _], nw2 + 1, fvs2, nf2, vnow2, te2⟩ ((_, tupO [.int c tc, .ref pb, .bool true]) :: nl) F8 (by rw [em]; exact news_sub N8 (by k_extra "my sub")) (List.forall_mem_cons.mpr ⟨fr3, fr1⟩) D3 ?_ n1 n2 (by rw [em]; simp only [List.length_cons]; (first | lia | omega))
      rw [em]
      refine ⟨R1.mono memP_up, ?_, R3.mono fun _ _ h => h.mono memP_up, by simp only [List.length_cons]; (first | lia | omega)⟩
      dsimp only
      rw [List.reverse_cons]
      exact (R2.mono fun _ _ h => h.mono memP_up).snoc ⟨iok, _, _, tc, pv, rfl, .head _, .tail _ mb, iv⟩
  intro h3 tk3 m₃ v nl3 F1 N1 fr1 D1 R' n1 n2 hw3
  (try dsimp only)
  generalize hst : WordS.made ⟨nx, wx, ed, fx, hl, hr, go⟩ op c = st3 at N1 R' hw3
  repeat' ((fail_if_success (with_reducible show wpAny _ _ (exec (Stmt.For _ _ _ _ _) _) _ _ _)); first | (k_unfold; (try dsimp only)) | (dsimp only; k_unfold; (try dsimp only)) | ((fail_if_success (with_reducible show Exists _)); (fail_if_success (with_reducible show LeaveK h₀ L m g _ _ _)); first | walk1 | (dsimp only; (fail_if_success (with_reducible show Exists _)); (fail_if_success (with_reducible show LeaveK h₀ L m g _ _ _)); walk1)))
  refine For_invV g (by rfl) (by rfl) ?_
  repeat' ((fail_if_success (with_reducible show wpAny _ _ (pyIter _) _ _ _)); first | (k_unfold; (try dsimp only)) | (dsimp only; k_unfold; (try dsimp only)) | ((fail_if_success (with_reducible show Exists _)); (fail_if_success (with_reducible show LeaveK h₀ L m g _ _ _)); first | walk1 | (dsimp only; (fail_if_success (with_reducible show Exists _)); (fail_if_success (with_reducible show LeaveK h₀ L m g _ _ _)); walk1)))
  have hn4 : 0 ≤ op.fdiv 4 ∧ op.fdiv 4 ≤ 2 := by rw [Int.fdiv_eq_ediv_of_nonneg _ (by decide)]; (first | lia | omega)
  refine iter_range_J (n := (op.fdiv 4).toNat) hh (by k_asm) (by k_asm) (by k_asm) (small_few hn4.1 hn4.2) (size_few hn4.1) (PassJ w s l ol st3) ⟨n1, v, nl3, rfl, fr1, D1, R', hw3⟩ ?_ ?_
  · intro i t' m₄ nw4 h4 tk4 I oI hi hJ hne F4 N4
    obtain ⟨n1, v, nl4, rfl, fr4, D4, R4, hw4⟩ := hJ
    have NW : News g L' h4 (wled w l v (WordS.passes i st3) ++ (nl4 ++ ol)) := fun p hp => N4 p (.tail _ hp)
    have NI : News g L' h4 [(I, oI)] := fun p hp => by rcases List.mem_cons.mp hp with rfl | hp <;> first | exact N4 _ (.head _) | cases hp
    clear N4
    k_with "svB90" => skip
    k_with "call ref" => ((fail_if_success (k_extra "svB91")); (k_here; k_dflt (k_extra "my call B91")))
    k_with "my call B91" => (refine pass_spec (Cx.deeper (by k_asm) (by k_asm) (by k_asm) (by k_asm) (by k_asm) rfl) (by first | exact le_up (d := 1) hd rfl | (simp only [depth_deeper]; (first | lia | omega))) (by first | exact le_up (d := 3) hu rfl | (simp only [units_deeper]; (first | lia | omega))) NW D4 R4 (by (first | lia | omega)) ?_; intro v' nl' hw1 tkw Fw Nw frw D' R5 Kw; have NI2 := news_keep NI Kw (apart_one hne))
    repeat' (first | (k_unfold; (try dsimp only)) | (dsimp only; k_unfold; (try dsimp only)) | ((fail_if_success (with_reducible show Exists _)); (fail_if_success (with_reducible show LeaveK h₀ L m g _ _ _)); first | walk1 | (dsimp only; (fail_if_success (with_reducible show Exists _)); (fail_if_success (with_reducible show LeaveK h₀ L m g _ _ _)); walk1)))
    have fr6 := fresh_app G NW (fun q hq => List.mem_append_right _ hq) frw (fun p hp => (Nw p (List.mem_append_right _ (List.mem_append_left _ hp))).2.2)
    have hI : h4.get? I = some oI := (NI _ (.head _)).1
    have offI : ∀ p ∈ nl', p.1 ≠ I := fun p hp e => by
      have := frw p hp
      rw [e, hI] at this; cases this
    have hlen := pass_len (WordS.passes i st3)
    rw [← List.append_assoc nl'] at Nw D' R5
    refine ⟨_, _, _, wled w l v' (WordS.passes (i + 1) st3) ++ ((nl' ++ nl4) ++ ol), rfl, Fw, fun p hp => ?_, fun p hp => ?_, n1, v', nl' ++ nl4, rfl, fun p hp => (List.mem_append.mp hp).elim (fr6 p) (fr4 p), D', R5, ?_⟩
    · rcases List.mem_cons.mp hp with rfl | hp
      · exact NI2 _ (.head _)
      · exact Nw p hp
    · rcases List.mem_append.mp hp with hp | hp
      · exact off_w (st := WordS.passes i st3) (v := v) hne p hp
      · rcases List.mem_append.mp hp with hp | hp
        · rcases List.mem_append.mp hp with hp | hp
          · exact offI p hp
          · exact hne p (List.mem_append_right _ (List.mem_append_left _ hp))
        · exact hne p (List.mem_append_right _ (List.mem_append_right _ hp))
    · show (WordS.pass _).wait.length + (WordS.pass _).found.length ≤ _
      (first | lia | omega)
  intro h5 tk5 m5 nw5 F5 N5 hJ
  obtain ⟨-, v, nl5, rfl, fr5, D5, R5, hw5⟩ := hJ
  have F55 := F5
  have N55 := N5
  clear F5 N5
  repeat' (first | (k_unfold; (try dsimp only)) | (dsimp only; k_unfold; (try dsimp only)) | ((fail_if_success (with_reducible show Exists _)); (fail_if_success (with_reducible show LeaveK h₀ L m g _ _ _)); first | walk1 | (dsimp only; (fail_if_success (with_reducible show Exists _)); (fail_if_success (with_reducible show LeaveK h₀ L m g _ _ _)); walk1)))
  ((try dsimp only); (try k_unfold); (try dsimp only); (with_reducible rename Fr _ _ _ _ => cF); (with_reducible rename News _ _ _ _ => cN); refine leaveK_ cF cN ?_; intro kF kN; (try dsimp only [InitBack]); (try refine ⟨rfl, ?_⟩); (try dsimp only))
  rw [← hst] at kN R5
  exact ret v nl5 _ _ kF kN fr5 D5 R5 (kept_w G cF.keep)
end Mine
theorem Mine.fresh_B10 : True := by w_top off; k_with_none; trivial
namespace Mine
theorem fill_once10 (P : Params) : Mine.kk.heap_1 P = Mine.kk.heap_1 P ∧ PySem.Challenge.rw_sq0044_01 = PySem.Challenge.rw_sq0044_01 := by
  k_fill
  exact ⟨rfl, rfl⟩
theorem lnB10_0 : True := by
  k_with "execs cons" => (k_here; (with_reducible refine PySem.wpAny_execs_cons ?_); (try dsimp only); k_fold)
  k_with "execs cons" => (k_here; (with_reducible refine toks_gen ?_); intro _)
  k_with "eval Call" => (k_here; (with_reducible show wpAny _ _ (eval (Expr.Call (Expr.Name _ _) _ [] _) (envOf _ _ _ _ _)) _ _ _); k_dflt (refine call_named (by k_asm) (by k_asm) (by k_asm) (by k_is) (by k_is) (by (repeat' (first | exact ArgsV.nil | refine' ArgsV.loc (by first | exact rfl | assumption) rfl (by decide) ?_ | refine' ArgsV.int ?_ | refine' ArgsV.bool ?_ | refine' ArgsV.none ?_)); done) ?_))
  k_with "my sub" => first | exact List.forall_mem_nil _ | (refine' List.forall_mem_cons.mpr ⟨?_, ?_⟩; (· k_mem); (· k_extra "my sub")) | (intro q hq; repeat (first | exact hq | refine List.Mem.tail _ ?_))
  k_with "call type:tuple" => (k_here; (with_reducible show wpAny _ _ (call (Value.type _) [Value.ref _]) _ _ _); k_dflt (refine tuple_list_M (by k_asm) (by k_asm) (by k_mem) (by (first | lia | omega)) ?_); intro _ _ _ _ lz9; (try k_lt lz9); (try k_sweep))
  k_with "call ref" => ((fail_if_success (k_extra "svB100")); (k_here; k_dflt (k_extra "my call B100")))
  trivial
theorem ownB10_0 : True := by
  k_with "own k_ne" => (refine neN ?_; (try dsimp only); first | (with_reducible assumption) | (refine Ne.symm ?_; with_reducible assumption))
  trivial
theorem ownB10_1 : True := by
  k_with "own k_room" => ((try simp only [depth_under_make, depth_under_kw, depth_in1, depth_deeper, recursionLimit]); (first | lia | omega))
  trivial
theorem lnB10_1 : True := by
  k_with "getAttr ref" => (k_here; k_dflt (refine getAttr_g (by k_asm) (by k_asm) (by assumption) (by assumption) (by assumption) (by k_is) (by k_is) (by k_is) (by k_is) (by k_handed) ?_; k_whole))
  k_with "getMethod ref" => (k_here; k_dflt (refine getMethod_g (by k_asm) (by k_asm) (by assumption) (by assumption) (by assumption) (by k_is) (by k_is) (by k_is) ?_; k_whole))
  k_with "compareOp In int ref" => (k_here; (refine in_chars (by k_asm) (by assumption) ?_))
  k_with "getMethod ref" => (k_here; (refine getMethod_chars (by k_asm) (by assumption) ?_))
  k_with "call builtin:dict.get" => (k_here; (refine get_chars (by k_asm) (by assumption) ?_ ?_); (all_goals intros))
  k_with "subscriptTail" => (k_here; (with_reducible show wpAny _ _ (subscriptTail _ _ (Value.ref _) (Value.int _ _)) _ _ _); k_dflt (refine item_tupleT (by exact TupP.at (Fr.keep (by k_asm)) (by assumption)) (by decide) (by decide) (by rfl) (by rfl) ?_; k_whole))
  trivial
theorem lnB10_2 : True := by
  k_with "subscriptTail" => (k_here; (with_reducible show wpAny _ _ (subscriptTail _ _ (Value.ref (FontL.tk _)) (Value.int _ _)) _ _ _); k_dflt (refine kern_item (by k_asm) (by assumption) (by first | (first | lia | omega) | (have ok' := RowM.OK.kern (by assumption) (by (first | lia | omega)) (by (first | lia | omega)); (first | lia | omega))) (by first | (first | lia | omega) | (have ok' := RowM.OK.kern (by assumption) (by (first | lia | omega)) (by (first | lia | omega)); (first | lia | omega))) ?_ (by with_unfolding_all rfl)); intros)
  k_with "subscriptTail" => (k_here; (with_reducible show wpAny _ _ (subscriptTail _ _ (Value.ref (FontL.tp _)) (Value.int _ _)) _ _ _); k_dflt (refine prog_item (by k_asm) (by assumption) (by (first | lia | omega)) (by (first | lia | omega)) (by (first | lia | omega)) ?_ (by with_unfolding_all rfl) (by (intro _; with_unfolding_all rfl))); intros)
  k_with "compareOp In int ref" => (k_here; (with_reducible show wpAny _ _ (compareOp _ (Value.int _ _) (Value.ref 392)) _ _ _); (refine' in_known (Frag.In.keeps (by k_asm) (Fr.keep (by k_asm))) ?_))
  k_with "eval Name" => (k_here; (fail_if_success (with_reducible show wpAny _ _ (eval (Expr.Name _ _) (envOfC _ _ _ _ _)) _ _ _)); (fail_if_success (with_reducible show wpAny _ _ (eval (Expr.Name _ _) (compEnvC _ _ _ _)) _ _ _)); k_dflt (refine ld (by k_asm) (by first | exact rfl | assumption) ?_; k_whole))
  trivial
theorem lnB10_3 : True := by
  k_with "assign Tuple" => (k_here; (with_reducible show wpAny _ _ (assign (Expr.Tuple _ _ _) _ (Value.ref _)) _ _ _); k_dflt (refine unpackN_ (by k_asm) (by k_asm) (by exact tup_mem (by k_asm) (by assumption) (by intro q hq; repeat (first | exact hq | refine List.Mem.tail _ ?_))) (by exact rfl) (by exact rfl) (by exact rfl) ?_); intro _ _ _; (try k_sweep))
  k_with "compareOp Eq ref ref" => (k_here; k_dflt (refine eq_nil_list (by exact News.isList (by k_asm) (by k_mem)) (by exact News.isList (by k_asm) (by k_mem)) (by (have hcL9 := cLine_is; (simp only [units_deeper] at *); (first | lia | omega))) ?_))
  trivial
theorem lnB10_4 : True := by
  k_with "compareOp Eq ref ref" => (k_here; k_dflt (refine eq_snoc_list (by exact News.isList (by k_asm) (by k_mem)) (by exact News.isList (by k_asm) (by k_mem)) (by (have hcL9 := cLine_is; (simp only [units_deeper] at *); (first | lia | omega))) ?_))
  k_with "call builtin:list.pop" => (k_here; k_dflt (refine pop_in (by k_asm) (by k_asm) (by k_upd) (by exact kpa_last _ _) (by (show (List.length (_ ++ _)) ≤ _; rw [List.length_append, sizeLine_eq]; simp only [List.length_cons, List.length_nil]; (first | lia | omega))) ?_); (intro _ _ _); (try k_sweep))
  k_with "subscriptTail" => (k_here; (with_reducible show wpAny _ _ (subscriptTail _ _ (Value.ref _) (Value.int _ _)) _ _ _); k_dflt (refine item_tupleT (by exact tup_mem (by k_asm) (by assumption) (by intro q hq; repeat (first | exact hq | refine List.Mem.tail _ ?_))) (by decide) (by decide) (by rfl) (by rfl) ?_; k_whole))
  k_with "newTuple" => (k_here; k_dflt (refine kup_newTuple (by k_asm) (by k_asm) ?_ (by (simp [sizeLine_eq]; done))); intro _ _ _ _ _; (try k_sweep))
  trivial
theorem fm_congr {α β : Type} {f g : α → Option β} : ∀ {l : List α}, (∀ k ∈ l, f k = g k) → l.filterMap f = l.filterMap g
  | [], _ => rfl
  | a :: r, h => by rw [List.filterMap_cons, List.filterMap_cons, h a (.head _), fm_congr fun k hk => h k (.tail _ hk)]
theorem pick_rev (vs : List Value) : slicePick vs.toArray none none (some (-1)) = vs.reverse.toArray := by
  unfold slicePick
  congr 1
  have e : sliceRange (sliceBounds none none (some (-1)) vs.toArray.size).1 (sliceBounds none none (some (-1)) vs.toArray.size).2.1 (sliceBounds none none (some (-1)) vs.toArray.size).2.2 = (List.range vs.length).map fun k => vs.length - 1 - k := by
    have e1 : sliceBounds none none (some (-1)) vs.toArray.size = ((vs.length : Int) - 1, -1, -1) := rfl
    rw [e1]
    unfold sliceRange
    simp only [show ¬ ((-1 : Int) > 0) by decide, if_false]
    have e2 : (if (vs.length : Int) - 1 > -1 then ((vs.length : Int) - 1 - -1 - -1 - 1) / - -1 else 0).toNat = vs.length := by
      rw [show (- -1 : Int) = 1 by decide, Int.ediv_one]
      split <;> (first | lia | omega)
    rw [e2]
    refine List.map_congr_left fun k hk => ?_
    have := List.mem_range.mp hk
    (first | lia | omega)
  rw [e]
  refine List.ext_getElem? fun i => ?_
  have hs : ((List.range vs.length).map fun k => vs.length - 1 - k).filterMap (vs.toArray[·]?) = (List.range vs.length).map fun k => vs.getD (vs.length - 1 - k) default := by
    have e3 : ∀ k ∈ List.range vs.length, ((vs.toArray[·]?) ∘ fun k => vs.length - 1 - k) k = (some ∘ fun k => vs.getD (vs.length - 1 - k) default) k := fun k hk => by
      have := List.mem_range.mp hk
      have h2 : vs.length - 1 - k < vs.length := by (first | lia | omega)
      simp [h2]
    rw [List.filterMap_map, fm_congr e3, List.filterMap_eq_map]
  rw [hs]
  by_cases hi : i < vs.length
  · have h2 : vs.length - 1 - i < vs.length := by (first | lia | omega)
    rw [List.getElem?_reverse hi]
    simp [hi, h2]
  · rw [List.getElem?_eq_none (by simp; (first | lia | omega)), List.getElem?_eq_none (by simp; (first | lia | omega))]
theorem IntsV.rev {vs : List Value} {ns : List Int} (x : IntsV vs ns) : IntsV vs.reverse ns.reverse := by
  refine ⟨by rw [List.length_reverse, List.length_reverse, x.1], fun i n h => ?_⟩
  by_cases hi : i < ns.length
  · rw [List.getElem?_reverse hi] at h
    rw [List.getElem?_reverse (by rw [x.1]; exact hi), x.1]
    exact x.2 _ n h
  · rw [List.getElem?_eq_none (by simp; (first | lia | omega))] at h; cases h
theorem IntsV.at {vs : List Value} {ns : List Int} (x : IntsV vs ns) {i : Nat} {v : Value} (h : vs[i]? = some v) : ∃ n t, v = .int n t ∧ ns[i]? = some n := by
  obtain ⟨hi, e⟩ := List.getElem?_eq_some_iff.mp h
  have hi' : i < ns.length := by rw [← x.1]; exact hi
  obtain ⟨t, ht⟩ := x.2 i ns[i] (by simp [hi'])
  rw [h] at ht
  exact ⟨ns[i], t, Option.some.inj ht, by simp [hi']⟩
theorem comp_src {prog : Program} {w : World} {A : Around} {h₀ : Heap} {L : Addr} {m : Str → Option Value} {env : Env} {elt : Expr} {x : Str} {scope : Scope} {cl : List (Str × Addr)} {Fin : Shared → List Value → List (Addr × Obj) → Prop} {ax : Addr} {its : Array Value} {rest : List (Addr × Obj)} {s₁ : Shared}
    (hh : A.handled = none) (F : Fr h₀ L s₁.heap m) (N : News h₀ L s₁.heap ((ax, ({ cls := .type "list", data := .seq its } : Obj)) :: rest)) (hsz : its.size ≤ sizeLine)
    (h : ∀ q g, LCg.CompRest prog w A h₀ L m env elt x scope cl { s₁ with heap := g } (LCg.SrcAt h₀ q its) (fun i v => its[i]? = some v) (Fin { s₁ with heap := g }) its.size 0 [] ((q, ({ cls := .type "list", data := .seq its } : Obj)) :: rest)) :
    LCg.CompSrc prog w A h₀ L m env elt x scope cl Fin (.ref ax) s₁ := LCg.CompSrc.ledger hh F N (.head _) hsz (h ax)
noncomputable def itemOf (c : Int) : Item := ⟨c, [c], false⟩
noncomputable def WordS.init (cs : List Int) (left : Bool) (edge : Int) : WordS :=
  if left then ⟨none, cs.map itemOf, edge, [], false, false, true⟩ else ⟨(cs.map itemOf).head?, (cs.map itemOf).tail, edge, [], false, false, true⟩
noncomputable def WordJ (x dx : Addr) (cs : List Int) (base : List (Addr × Obj)) (i : Nat) (ys : List Value) (nw : List (Addr × Obj)) : Prop :=
  ∃ nl, nw = nl ++ base ∧ All2 (ItemAt (MemP nl)) ys ((cs.reverse.take i).map itemOf) ∧ ∀ p ∈ nl, p.1 ≠ x ∧ p.1 ≠ dx
theorem word_turn {h₀ : Heap} {L I Cc D o i x dx q : Addr} {m : Str → Option Value} {s₁ : Shared} {oI oC oD ox odx : Obj} {its : Array Value} {rest : List (Addr × Obj)} {cs : List Int} {k : Nat} {ys : List Value} {nl : List (Addr × Obj)} {h' : Heap} {tk : Nat} {c : Int} {t : Tok}
    (F : Fr h₀ L h' m) (N : News h₀ L h' ((o, tupO [.int c t, .ref i, .bool false]) :: (i, tupO [.int c t]) :: (I, oI) :: (Cc, oC) :: (D, oD) :: (nl ++ ((q, ({ cls := .type "list", data := .seq its } : Obj)) :: rest))))
    (l1 : ∀ p ∈ (I, oI) :: (Cc, oC) :: (D, oD) :: (nl ++ ((q, ({ cls := .type "list", data := .seq its } : Obj)) :: rest)), p.1 < i) (l2 : ∀ p ∈ (i, tupO [.int c t]) :: (I, oI) :: (Cc, oC) :: (D, oD) :: (nl ++ ((q, ({ cls := .type "list", data := .seq its } : Obj)) :: rest)), p.1 < o)
    (off : LCg.Off3 I Cc D (nl ++ ((q, ({ cls := .type "list", data := .seq its } : Obj)) :: rest))) (nx : ∀ p ∈ nl, p.1 ≠ x ∧ p.1 ≠ dx) (a2 : All2 (ItemAt (MemP nl)) ys ((cs.reverse.take k).map itemOf)) (hc : cs.reverse[k]? = some c) (oc : OctI c)
    (hm : (x, ox) ∈ ((q, ({ cls := .type "list", data := .seq its } : Obj)) :: rest) ∧ (dx, odx) ∈ ((q, ({ cls := .type "list", data := .seq its } : Obj)) :: rest)) :
    LCg.CompEnd h₀ L m s₁ I oI Cc oC D oD (LCg.SrcAt h₀ q its) (fun y nw' => WordJ x dx cs ((q, ({ cls := .type "list", data := .seq its } : Obj)) :: rest) (k + 1) (ys ++ [y]) nw') (.ref o) { s₁ with heap := h', toks := tk } := by
  have b1 : ∀ p ∈ nl ++ ((q, ({ cls := .type "list", data := .seq its } : Obj)) :: rest), p.1 < i := fun p hp => l1 p (.tail _ (.tail _ (.tail _ hp)))
  have b2 : i < o := l2 _ (.head _)
  have c1 : I < i := l1 _ (.head _)
  have c2 : Cc < i := l1 _ (.tail _ (.head _))
  have c3 : D < i := l1 _ (.tail _ (.tail _ (.head _)))
  have cx : x < i := b1 _ (List.mem_append_right _ hm.1)
  have cdx : dx < i := b1 _ (List.mem_append_right _ hm.2)
  have g : ∀ {a : Addr}, a < i → i ≠ a := fun h => Ne.symm (Nat.ne_of_lt h)
  have g2 : ∀ {a : Addr}, a < i → o ≠ a := fun h => Ne.symm (Nat.ne_of_lt (Nat.lt_trans h b2))
  refine LCg.CompEnd.intro F N ((o, tupO [.int c t, .ref i, .bool false]) :: (i, tupO [.int c t]) :: (nl ++ ((q, ({ cls := .type "list", data := .seq its } : Obj)) :: rest))) (fun p hp => ?_) ⟨⟨g2 c1, g2 c2, g2 c3⟩, ⟨g c1, g c2, g c3⟩, off⟩ (.inr ⟨_, .tail _ (.tail _ (List.mem_append_right _ (.head _))), rfl, _, rfl⟩) ⟨(o, tupO [.int c t, .ref i, .bool false]) :: (i, tupO [.int c t]) :: nl, rfl, ?_, ?_⟩
  · rcases List.mem_cons.mp hp with rfl | hp
    · exact .tail _ (.tail _ (.head _))
    rcases List.mem_cons.mp hp with rfl | hp
    · exact .tail _ (.tail _ (.tail _ (.head _)))
    rcases List.mem_cons.mp hp with rfl | hp
    · exact .tail _ (.tail _ (.tail _ (.tail _ (.head _))))
    rcases List.mem_cons.mp hp with rfl | hp
    · exact .head _
    rcases List.mem_cons.mp hp with rfl | hp
    · exact .tail _ (.head _)
    · exact .tail _ (.tail _ (.tail _ (.tail _ (.tail _ hp))))
  · rw [List.take_add_one, hc, List.map_append]
    refine (a2.mono fun _ _ h => h.mono fun _ _ hm => .tail _ (.tail _ hm)).snoc ⟨⟨oc, fun j hj => by simp only [itemOf, List.mem_singleton] at hj; rw [hj]; exact oc, by simp [itemOf]⟩, o, i, t, [.int c t], rfl, .head _, .tail _ (.head _), IntsV.one c t⟩
  · refine List.forall_mem_cons.mpr ⟨⟨g2 cx, g2 cdx⟩, List.forall_mem_cons.mpr ⟨⟨g cx, g cdx⟩, nx⟩⟩
theorem off1_mem {D : Addr} : ∀ {l : List (Addr × Obj)}, LCg.Off1 D l → ∀ p ∈ l, @Ne Nat p.1 D
  | [], _, _, h => nomatch h
  | _ :: _, x, p, h => by
    rcases List.mem_cons.mp h with rfl | h
    · exact x.1
    · exact off1_mem x.2 p h
theorem allLt_mem {a : Addr} : ∀ {l : List (Addr × Obj)}, AllLt a l → ∀ p ∈ l, p.1 < a
  | [], _, _, h => nomatch h
  | _ :: _, x, p, h => by
    rcases List.mem_cons.mp h with rfl | h
    · exact x.1
    · exact allLt_mem x.2 p h
theorem word_apart {x dx D fa fx : Addr} {k : WT} {nl : List (Addr × Obj)} (l1 : x < fa ∧ dx < fa ∧ D < fa ∧ AllLt fa nl) (dxx : @Ne Nat dx x) (dD : @Ne Nat D x) (dD2 : @Ne Nat D dx) (nx1 : ∀ p ∈ nl, p.1 ≠ x) (nx2 : ∀ p ∈ nl, p.1 ≠ dx) (nx3 : ∀ p ∈ nl, p.1 ≠ D) : WordL.Apart ⟨x, dx, D, fa, k, fx⟩ nl :=
  ⟨Ne.symm dxx, Ne.symm dD, Nat.ne_of_lt l1.1, Ne.symm dD2, Nat.ne_of_lt l1.2.1, Nat.ne_of_lt l1.2.2.1, nx1, nx2, nx3, fun p hp => Nat.ne_of_lt (allLt_mem l1.2.2.2 p hp)⟩
theorem word_fresh {w : World} {h h2 g hc : Heap} {L' x dx D fa fx : Addr} {k : WT} {v : WordV} {st : WordS} {nl : List (Addr × Obj)} {ox od o1 o2 o3 o4 : Obj} (k2 : ∀ b o, h.get? b = some o → h2.get? b = some o) (G : ∀ b o, h2.get? b = some o → b ∉ ([(x, ox), (dx, od)] : List (Addr × Obj)).map (·.1) → g.get? b = some o)
    (N : News g L' hc ((fa, o1) :: (x, o2) :: (dx, o3) :: (D, o4) :: nl)) (hx : h.get? x = none) (hdx : h.get? dx = none) (dD : @Ne Nat D x) (dD2 : @Ne Nat D dx) (nx1 : ∀ p ∈ nl, p.1 ≠ x) (nx2 : ∀ p ∈ nl, p.1 ≠ dx) (l1 : x < fa ∧ dx < fa ∧ D < fa ∧ AllLt fa nl) :
    ∀ p ∈ wled w ⟨x, dx, D, fa, k, fx⟩ v st ++ nl, h.get? p.1 = none := by
  intro p hp
  rcases List.mem_append.mp hp with hp | hp
  · simp only [List.mem_cons, List.not_mem_nil, or_false] at hp
    rcases hp with rfl | rfl | rfl | rfl
    · exact hx
    · exact hdx
    · exact fresh_made k2 G (N.fresh (.tail _ (.tail _ (.tail _ (.head _))))) dD dD2
    · exact fresh_made k2 G (N.fresh (.head _)) (Ne.symm (Nat.ne_of_lt l1.1)) (Ne.symm (Nat.ne_of_lt l1.2.1))
  · exact fresh_made k2 G (N.fresh (.tail _ (.tail _ (.tail _ (.tail _ hp))))) (nx1 p hp) (nx2 p hp)
theorem word_spec {w : World} {A : Around} {s : Shared} {h₀ : Heap} {L : Addr} {m : Str → Option Value} {fx cl : Addr} {cvs : List Value} {cs : List Int} {left : Bool} {edge : Int} {te : Tok} {Q E : Value → Shared → Prop}
    (C : Cx w A h₀ L s.heap m) (hd : A.depth ≤ 330) (hu : A.units ≤ 1700) (hl : s.heap.IsList cl cvs.toArray) (iv : IntsV cvs cs) (ho : ∀ i ∈ cs, OctI i) (hfew : cs.length ≤ 1000) (hne : left = false → cs ≠ [])
    (ret : ∀ (l : WordL) (v : WordV) (ol : List (Addr × Obj)) (h' : Heap) (tk' : Tok), l.fx = fx → Fr h₀ L h' m → News h₀ L h' (wled w l v (WordS.init cs left edge) ++ ol) → (∀ p ∈ wled w l v (WordS.init cs left edge) ++ ol, s.heap.get? p.1 = none) → l.Apart ol → WordR w (MemP ol) l v (WordS.init cs left edge) → Kept s.heap [] h' → Q (.ref l.x) { s with heap := h', toks := tk' }) :
    wpAny (model PySem.Challenge.rw_sq0044_01.row.prog w) A (call (.ref 414) [.ref fx, .ref cl, .bool left, .int edge te]) Q E s := by
  refine Cx.form_ C ?_; intro dp un gd env0 outer0 eA9; subst eA9; (try dsimp only at hd); (try dsimp only at hu); k_dflt (refine' callC C ?k4 ?k5 ?k6 ?_; (case k4 => k_is); (case k5 => k_is); (case k6 => k_is))
  intro x dx h2 C2 N2 k2 hx hdx l2
  replace l2 := ltN l2
  k_dflt (refine' enter (binds := [(Str.ofString "self", .ref x), (Str.ofString "font", .ref fx), (Str.ofString "codes", .ref cl), (Str.ofString "has_left", .bool left), (Str.ofString "edge", .int edge te)]) ?k1 ?k2 ?k6 ?k7 ?k8 ?k9 ?kB ?_ ?c2 ?c3 ?c4 ?c5; (case k1 => exact C2); (case k2 => exact N2); (case k6 => k_is); (case k7 => k_is); (case k8 => (first | exact le_up (d := 1) hd rfl | exact le_up (d := 2) hd rfl | (simp only [depth_under_make, depth_under_kw, recursionLimit]; (first | lia | omega)))); (case k9 => first | exact BindsTo.of_eq rfl | exact binds_K (Cx.inK (by exact C2)) rfl (by k_is) rfl rfl rfl); (case c5 => decide); (case kB => exact locs rfl); (case c2 => exact rfl); (case c3 => exact rfl); (case c4 => exact rfl)); intro base outer p loose mean mg mb g L' hB1 FG F NB G B X T hh; obtain rfl : env0 :: outer0 = outer := Option.some.inj B.stack; (try dsimp only); (try k_fold)
  have hlg : g.IsList cl cvs.toArray := hl.at fun o e => G _ _ (k2 _ _ e) (fun q => by
    simp only [List.map_cons, List.map_nil, List.mem_cons, List.not_mem_nil, or_false] at q
    rcases q with q | q
    · rw [q, hx] at e; cases e
    · rw [q, hdx] at e; cases e)
  have hsz : cvs.length ≤ 1000 := by rw [iv.1]; exact hfew
  repeat' ((fail_if_success (with_reducible show wpAny _ _ (eval (Expr.ListComp _ _ _ _) _) _ _ _)); first | (k_unfold; (try dsimp only)) | (dsimp only; k_unfold; (try dsimp only)) | ((fail_if_success (with_reducible show Exists _)); (fail_if_success (with_reducible show LeaveK h₀ L m g _ _ _)); first | walk1 | (dsimp only; (fail_if_success (with_reducible show Exists _)); (fail_if_success (with_reducible show LeaveK h₀ L m g _ _ _)); walk1)))
  (with_reducible rename Fr _ _ _ _ => F1)
  refine LCg.ListComp_U F1 (cl := []) rfl (by decide) rfl (by decide) rfl ?_
  repeat' ((fail_if_success (with_reducible show wpAny _ _ (LCg.CompSrc _ _ _ _ _ _ _ _ _ _ _ _ _ _) _ _ _)); first | (k_unfold; (try dsimp only)) | (dsimp only; k_unfold; (try dsimp only)) | ((fail_if_success (with_reducible show Exists _)); (fail_if_success (with_reducible show LeaveK h₀ L m g _ _ _)); first | walk1 | (dsimp only; (fail_if_success (with_reducible show Exists _)); (fail_if_success (with_reducible show LeaveK h₀ L m g _ _ _)); walk1)))
  (with_reducible rename News _ _ _ _ => N1)
  (with_reducible rename Fr _ _ _ _ => F2)
  refine comp_src hh F2 N1 (by rw [pick_rev]; simp [sizeLine_eq]; (first | lia | omega)) fun q g2 => ?_
  rw [pick_rev]
  clear F1 F2 N1
  refine comp_inv (WordJ x dx cs [(q, _), (x, _), (dx, _)]) ?_ ?_ ⟨[], rfl, .nil, fun _ h => nomatch h⟩
  · rintro i ys nw ⟨nl, rfl, a2, nx⟩ v I oI Cc oC D m₂ hA1 tkA E' hP hC hx' FA NA off hneI
    have hP' : cvs.reverse[i]? = some v := by simpa using hP
    obtain ⟨cn, ct, rfl, hcn⟩ := iv.rev.at hP'
    repeat' (first | (k_unfold; (try dsimp only)) | (dsimp only; k_unfold; (try dsimp only)) | ((fail_if_success (with_reducible show Exists _)); (fail_if_success (with_reducible show LeaveK h₀ L m g _ _ _)); first | walk1 | (dsimp only; (fail_if_success (with_reducible show Exists _)); (fail_if_success (with_reducible show LeaveK h₀ L m g _ _ _)); walk1)))
    (with_reducible rename Fr _ _ _ _ => F7); (with_reducible rename News _ _ _ _ => N7)
    exact word_turn F7 N7 (by assumption) (by assumption) off nx a2 hcn (ho cn (List.mem_reverse.mp (List.mem_of_getElem? hcn))) ⟨List.Mem.tail _ (.head _), .tail _ (.tail _ (.head _))⟩
  · rintro ys nw ⟨nl, rfl, a2, nx⟩ D hA2 tk2 F2 N2 o2
    have e1 : (cs.reverse.take cvs.reverse.toArray.size).map itemOf = (cs.map itemOf).reverse := by
      rw [List.size_toArray, List.length_reverse, iv.1, ← List.length_reverse, List.take_length, List.map_reverse]
    rw [e1] at a2
    have hyl := a2.length
    rw [List.length_reverse, List.length_map] at hyl
    have off := off1_mem o2
    have dD : @Ne Nat D x := Ne.symm (off (x, _) (List.mem_append_right _ (.tail _ (.head _))))
    have dD2 : @Ne Nat D dx := Ne.symm (off (dx, _) (List.mem_append_right _ (.tail _ (.tail _ (.head _)))))
    have nx1 : ∀ p ∈ nl, p.1 ≠ x := fun p hp => (nx p hp).1
    have nx2 : ∀ p ∈ nl, p.1 ≠ dx := fun p hp => (nx p hp).2
    have nx3 : ∀ p ∈ nl, p.1 ≠ D := fun p hp => off p (List.mem_append_left _ hp)
    have dxx : @Ne Nat dx x := Nat.ne_of_lt l2
    have N3 := news_sub N2 (b := (x, _) :: (dx, _) :: (D, LCg.lst ys) :: nl) (fun p hp => by
      rcases List.mem_cons.mp hp with rfl | hp
      · exact .tail _ (List.mem_append_right _ (.tail _ (.head _)))
      rcases List.mem_cons.mp hp with rfl | hp
      · exact .tail _ (List.mem_append_right _ (.tail _ (.tail _ (.head _))))
      rcases List.mem_cons.mp hp with rfl | hp
      · exact .head _
      · exact .tail _ (List.mem_append_left _ hp))
    clear N2 o2 off
    cases left with
    | true =>
      repeat' (first | (k_unfold; (try dsimp only)) | (dsimp only; k_unfold; (try dsimp only)) | ((fail_if_success (with_reducible show Exists _)); (fail_if_success (with_reducible show LeaveK h₀ L m g _ _ _)); first | walk1 | (dsimp only; (fail_if_success (with_reducible show Exists _)); (fail_if_success (with_reducible show LeaveK h₀ L m g _ _ _)); walk1)))
      ((try dsimp only); (try k_unfold); (try dsimp only); (with_reducible rename Fr _ _ _ _ => cF); (with_reducible rename News _ _ _ _ => cN); refine leaveK_ cF cN ?_; intro kF kN; (try dsimp only [InitBack]); (try refine ⟨rfl, ?_⟩); (try dsimp only))
      refine ret ⟨x, dx, D, _, ⟨_, _, _, _, _, _, _, _⟩, fx⟩ ⟨ys, _, [], 0, .none, te⟩ nl _ _ rfl kF (news_sub kN (by k_extra "my sub")) (word_fresh k2 G cN hx hdx dD dD2 nx1 nx2 (by assumption)) (word_apart (by assumption) dxx dD dD2 nx1 nx2 nx3) ⟨rfl, a2, .nil, ?_⟩ (kept_made k2 hx hdx G cF.keep)
      simp [WordS.init]; (first | lia | omega)
    | false =>
      obtain ⟨c0, r, rfl⟩ := List.exists_cons_of_ne_nil (hne rfl)
      rw [List.map_cons, List.reverse_cons] at a2
      obtain ⟨ys0, v0, rfl, W', I'⟩ := All2.unsnoc a2
      have hy0 : ys0.length ≤ 1000 := by simp only [List.length_append, List.length_cons, List.length_nil] at hyl hfew; (first | lia | omega)
      repeat' (first | (k_unfold; (try dsimp only)) | (dsimp only; k_unfold; (try dsimp only)) | ((fail_if_success (with_reducible show Exists _)); (fail_if_success (with_reducible show LeaveK h₀ L m g _ _ _)); first | walk1 | (dsimp only; (fail_if_success (with_reducible show Exists _)); (fail_if_success (with_reducible show LeaveK h₀ L m g _ _ _)); walk1)))
      ((try dsimp only); (try k_unfold); (try dsimp only); (with_reducible rename Fr _ _ _ _ => cF); (with_reducible rename News _ _ _ _ => cN); refine leaveK_ cF cN ?_; intro kF kN; (try dsimp only [InitBack]); (try refine ⟨rfl, ?_⟩); (try dsimp only))
      refine ret ⟨x, dx, D, _, ⟨_, _, _, _, _, _, _, _⟩, fx⟩ ⟨ys0, _, [], 0, v0, te⟩ nl _ _ rfl kF (news_sub kN (by k_extra "my sub")) (word_fresh k2 G cN hx hdx dD dD2 nx1 nx2 (by assumption)) (word_apart (by assumption) dxx dD dD2 nx1 nx2 nx3) ⟨I', W', .nil, ?_⟩ (kept_made k2 hx hdx G cF.keep)
      simp only [List.length_cons] at hfew
      simp [WordS.init]; (first | lia | omega)
end Mine
theorem Mine.fresh_B11 : True := by w_top off; k_with_none; trivial
namespace Mine
theorem fill_once11 (P : Params) : Mine.kk.heap_1 P = Mine.kk.heap_1 P ∧ PySem.Challenge.rw_sq0044_01 = PySem.Challenge.rw_sq0044_01 := by
  k_fill
  exact ⟨rfl, rfl⟩
noncomputable def WordS.left (st : WordS) : Int := match st.now with | none => 256 | some it => it.code
noncomputable def WordS.right (st : WordS) : Int := match st.wait with | [] => st.edge | it :: _ => it.code
noncomputable def WordS.addKern (st : WordS) (k : Int) : WordS := { st with found := st.found ++ [.kern k] }
/-- what a word with so many steps left becomes (none: TooMuch) -/
inductive Runs (F : FontM) : Nat → WordS → Option (List NodeP) → Prop
  | done {n : Nat} {st : WordS} : st.go = false → Runs F n st (some st.found)
  | pass {n : Nat} {st : WordS} {r : Option (List NodeP)} : st.go = true → F.look st.left st.right = none → Runs F n st.pass r → Runs F n st r
  | kern {n : Nat} {st : WordS} {k : Int} {r : Option (List NodeP)} : st.go = true → F.look st.left st.right = some (0, k) → Runs F n (st.pass.addKern k) r → Runs F n st r
  | over {st : WordS} {a c : Int} : st.go = true → F.look st.left st.right = some (a, c) → a ≠ 0 → Runs F 0 st none
  | lig {n : Nat} {st : WordS} {a c : Int} {r : Option (List NodeP)} : st.go = true → F.look st.left st.right = some (a, c) → a ≠ 0 → Runs F n (st.put (a - 1) c) r → Runs F (n + 1) st r
noncomputable def NodesR (F : FontM) (cs : List Int) (left : Bool) (edge : Int) (r : Option (List NodeP)) : Prop :=
  (cs = [] ∧ r = some []) ∨ (cs ≠ [] ∧ Runs F (20 * (cs.length + 1)) (WordS.init cs (left && decide (0 ≤ F.start 256)) edge) r)
noncomputable def WordS.room (st : WordS) : Nat := st.wait.length + (if st.go then 1 else 0)
noncomputable def mu (k : Nat) (st : WordS) : Nat := 2 * k + st.room
theorem leave_wait (st : WordS) : st.leave.wait = st.wait ∧ st.leave.go = st.go ∧ st.leave.now = st.now ∧ st.leave.edge = st.edge := by
  obtain ⟨nx, wx, ed, fx, hl, hr, go⟩ := st
  cases nx with
  | none => exact ⟨rfl, rfl, rfl, rfl⟩
  | some it => obtain ⟨c, ps, made⟩ := it; cases made <;> exact ⟨rfl, rfl, rfl, rfl⟩
theorem pass_room (st : WordS) : st.pass.room ≤ st.room ∧ (st.go = true → st.pass.room < st.room) := by
  obtain ⟨h1, h2, h3, h4⟩ := leave_wait st
  unfold WordS.pass WordS.room
  split
  · rename_i e
    rw [h1] at e
    simp only [h1, e, List.length_nil]
    cases st.go <;> simp
  · rename_i it r e
    rw [h1] at e
    simp only [h2, e, List.length_cons]
    cases st.go <;> simp
theorem passes_room (n : Nat) (st : WordS) : (WordS.passes n st).room ≤ st.room := by
  induction n with
  | zero => exact Nat.le_refl _
  | succ n ih => exact Nat.le_trans (pass_room _).1 ih
theorem made_room (st : WordS) (op c : Int) : (st.made op c).room ≤ st.room + 1 := by
  obtain ⟨nx, wx, ed, fx, hl, hr, go⟩ := st
  cases nx <;> cases wx <;> cases hk : kl op <;> cases hk2 : kr op <;> simp [WordS.made, WordS.room, WordS.take, WordS.mark, hk, hk2] <;> (first | lia | omega)
theorem put_room (st : WordS) (op c : Int) : (st.put op c).room ≤ st.room + 1 := Nat.le_trans (passes_room _ _) (made_room _ _ _)
theorem passes_len (n : Nat) (st : WordS) : (WordS.passes n st).wait.length + (WordS.passes n st).found.length ≤ st.wait.length + st.found.length + n := by
  induction n with
  | zero => exact Nat.le_refl _
  | succ n ih => have := pass_len (WordS.passes n st); show (WordS.pass _).wait.length + (WordS.pass _).found.length ≤ _; (first | lia | omega)
theorem made_len (st : WordS) (op c : Int) : (st.made op c).wait.length + (st.made op c).found.length ≤ st.wait.length + st.found.length + 1 := by
  obtain ⟨nx, wx, ed, fx, hl, hr, go⟩ := st
  cases nx <;> cases wx <;> cases hk : kl op <;> cases hk2 : kr op <;> simp [WordS.made, WordS.take, WordS.mark, hk, hk2] <;> (first | lia | omega)
theorem put_len (st : WordS) (op c : Int) (h0 : 0 ≤ op) (h1 : op ≤ 11) : (st.put op c).wait.length + (st.put op c).found.length ≤ st.wait.length + st.found.length + 3 := by
  have := passes_len (op.fdiv 4).toNat (st.made op c)
  have := made_len st op c
  have : (op.fdiv 4).toNat ≤ 2 := by rw [Int.fdiv_eq_ediv_of_nonneg _ (by decide)]; (first | lia | omega)
  unfold WordS.put
  (first | lia | omega)
theorem pass_load (st : WordS) : st.pass.load ≤ st.load := by
  obtain ⟨nx, wx, ed, fx, hl, hr, go⟩ := st
  cases nx with
  | none => cases wx <;> simp [WordS.pass, WordS.leave, WordS.load, loadW]
  | some it => obtain ⟨c, ps, made⟩ := it; cases made <;> cases wx <;> simp [WordS.pass, WordS.leave, WordS.load, loadW] <;> (first | lia | omega)
theorem passes_load (n : Nat) (st : WordS) : (WordS.passes n st).load ≤ st.load := by
  induction n with
  | zero => exact Nat.le_refl _
  | succ n ih => exact Nat.le_trans (pass_load _) ih
theorem made_load (st : WordS) (op c : Int) : (st.made op c).load ≤ st.load := by
  obtain ⟨nx, wx, ed, fx, hl, hr, go⟩ := st
  cases nx <;> cases wx <;> cases hk : kl op <;> cases hk2 : kr op <;> simp [WordS.made, WordS.take, WordS.mark, WordS.load, WordS.parts0, loadW, hk, hk2] <;> (first | lia | omega)
theorem put_load (st : WordS) (op c : Int) : (st.put op c).load ≤ st.load := Nat.le_trans (passes_load _ _) (made_load _ _ _)
theorem lookFrom_ok {F : FontM} (W : F.WF) {right a b : Int} : ∀ (n p : Nat), lookFrom F.prog right n p = some (a, b) → (a = 0 ∧ -3000 ≤ b ∧ b ≤ 7001) ∨ (1 ≤ a ∧ a ≤ 12 ∧ OctI b)
  | 0, _, h => by cases h
  | n + 1, p, h => by
    unfold lookFrom at h
    split at h
    · cases h
    · rename_i r e
      have ok := W.rows p r e
      split at h
      · unfold RowM.told at h
        split at h
        · cases h
          left
          refine ⟨rfl, ?_⟩
          unfold kernOf
          split <;> decide
        · cases h
          right
          refine ⟨?_, ?_, ok.rest0, ok.rest1⟩
          · split <;> have := ok.op0 <;> (first | lia | omega)
          · split
            · rename_i hk
              unfold knownOp at hk
              simp at hk
              (first | lia | omega)
            · decide
      · split at h
        · exact lookFrom_ok W n _ h
        · cases h
theorem look_ok {F : FontM} (W : F.WF) {left right a b : Int} (h : F.look left right = some (a, b)) : (a = 0 ∧ -3000 ≤ b ∧ b ≤ 7001) ∨ (1 ≤ a ∧ a ≤ 12 ∧ OctI b) := by
  unfold FontM.look at h
  split at h
  · cases h
  · exact lookFrom_ok W _ _ h
theorem init_load (cs : List Int) (left : Bool) (edge : Int) : (WordS.init cs left edge).load = cs.length := by
  have e : ∀ cs : List Int, loadW (cs.map itemOf) = cs.length := fun cs => by
    induction cs with
    | nil => rfl
    | cons c r ih => simp [loadW, itemOf] at ih ⊢; (first | lia | omega)
  cases left with
  | true => simp [WordS.init, WordS.load, e]
  | false =>
    cases cs with
    | nil => rfl
    | cons c r => simp [WordS.init, WordS.load, e, itemOf]; (first | lia | omega)
end Mine
theorem Mine.fresh_B12 : True := by w_top off; k_with_none; trivial
namespace Mine
theorem fill_once12 (P : Params) : Mine.kk.heap_1 P = Mine.kk.heap_1 P ∧ PySem.Challenge.rw_sq0044_01 = PySem.Challenge.rw_sq0044_01 := by
  k_fill
  exact ⟨rfl, rfl⟩
theorem lnB12_0 : True := by
  k_with "execs cons" => (k_here; (with_reducible refine PySem.wpAny_execs_cons ?_); (try dsimp only); k_fold)
  k_with "execs cons" => (k_here; (with_reducible refine toks_gen ?_); intro _)
  k_with "eval Call" => (k_here; (with_reducible show wpAny _ _ (eval (Expr.Call (Expr.Name _ _) _ [] _) (envOf _ _ _ _ _)) _ _ _); k_dflt (refine call_named (by k_asm) (by k_asm) (by k_asm) (by k_is) (by k_is) (by (repeat' (first | exact ArgsV.nil | refine' ArgsV.loc (by first | exact rfl | assumption) rfl (by decide) ?_ | refine' ArgsV.int ?_ | refine' ArgsV.bool ?_ | refine' ArgsV.none ?_)); done) ?_))
  k_with "my sub" => first | exact List.forall_mem_nil _ | (refine' List.forall_mem_cons.mpr ⟨?_, ?_⟩; (· k_mem); (· k_extra "my sub")) | (intro q hq; repeat (first | exact hq | refine List.Mem.tail _ ?_))
  k_with "call type:tuple" => (k_here; (with_reducible show wpAny _ _ (call (Value.type _) [Value.ref _]) _ _ _); k_dflt (refine tuple_list_M (by k_asm) (by k_asm) (by k_mem) (by (first | lia | omega)) ?_); intro _ _ _ _ lz9; (try k_lt lz9); (try k_sweep))
  k_with "call ref" => ((fail_if_success (k_extra "svB120")); (k_here; k_dflt (k_extra "my call B120")))
  trivial
theorem ownB12_0 : True := by
  k_with "own k_ne" => (refine neN ?_; (try dsimp only); first | (with_reducible assumption) | (refine Ne.symm ?_; with_reducible assumption))
  trivial
theorem ownB12_1 : True := by
  k_with "own k_room" => ((try simp only [depth_under_make, depth_under_kw, depth_in1, depth_deeper, recursionLimit]); (first | lia | omega))
  trivial
theorem lnB12_1 : True := by
  k_with "getAttr ref" => (k_here; k_dflt (refine getAttr_g (by k_asm) (by k_asm) (by assumption) (by assumption) (by assumption) (by k_is) (by k_is) (by k_is) (by k_is) (by k_handed) ?_; k_whole))
  k_with "getMethod ref" => (k_here; k_dflt (refine getMethod_g (by k_asm) (by k_asm) (by assumption) (by assumption) (by assumption) (by k_is) (by k_is) (by k_is) ?_; k_whole))
  k_with "compareOp In int ref" => (k_here; (refine in_chars (by k_asm) (by assumption) ?_))
  k_with "getMethod ref" => (k_here; (refine getMethod_chars (by k_asm) (by assumption) ?_))
  k_with "call builtin:dict.get" => (k_here; (refine get_chars (by k_asm) (by assumption) ?_ ?_); (all_goals intros))
  k_with "subscriptTail" => (k_here; (with_reducible show wpAny _ _ (subscriptTail _ _ (Value.ref _) (Value.int _ _)) _ _ _); k_dflt (refine item_tupleT (by exact TupP.at (Fr.keep (by k_asm)) (by assumption)) (by decide) (by decide) (by rfl) (by rfl) ?_; k_whole))
  trivial
theorem lnB12_2 : True := by
  k_with "subscriptTail" => (k_here; (with_reducible show wpAny _ _ (subscriptTail _ _ (Value.ref (FontL.tk _)) (Value.int _ _)) _ _ _); k_dflt (refine kern_item (by k_asm) (by assumption) (by first | (first | lia | omega) | (have ok' := RowM.OK.kern (by assumption) (by (first | lia | omega)) (by (first | lia | omega)); (first | lia | omega))) (by first | (first | lia | omega) | (have ok' := RowM.OK.kern (by assumption) (by (first | lia | omega)) (by (first | lia | omega)); (first | lia | omega))) ?_ (by with_unfolding_all rfl)); intros)
  k_with "subscriptTail" => (k_here; (with_reducible show wpAny _ _ (subscriptTail _ _ (Value.ref (FontL.tp _)) (Value.int _ _)) _ _ _); k_dflt (refine prog_item (by k_asm) (by assumption) (by (first | lia | omega)) (by (first | lia | omega)) (by (first | lia | omega)) ?_ (by with_unfolding_all rfl) (by (intro _; with_unfolding_all rfl))); intros)
  k_with "compareOp In int ref" => (k_here; (with_reducible show wpAny _ _ (compareOp _ (Value.int _ _) (Value.ref 392)) _ _ _); (refine' in_known (Frag.In.keeps (by k_asm) (Fr.keep (by k_asm))) ?_))
  k_with "eval Name" => (k_here; (fail_if_success (with_reducible show wpAny _ _ (eval (Expr.Name _ _) (envOfC _ _ _ _ _)) _ _ _)); (fail_if_success (with_reducible show wpAny _ _ (eval (Expr.Name _ _) (compEnvC _ _ _ _)) _ _ _)); k_dflt (refine ld (by k_asm) (by first | exact rfl | assumption) ?_; k_whole))
  trivial
theorem lnB12_3 : True := by
  k_with "assign Tuple" => (k_here; (with_reducible show wpAny _ _ (assign (Expr.Tuple _ _ _) _ (Value.ref _)) _ _ _); k_dflt (refine unpackN_ (by k_asm) (by k_asm) (by exact tup_mem (by k_asm) (by assumption) (by intro q hq; repeat (first | exact hq | refine List.Mem.tail _ ?_))) (by exact rfl) (by exact rfl) (by exact rfl) ?_); intro _ _ _; (try k_sweep))
  k_with "compareOp Eq ref ref" => (k_here; k_dflt (refine eq_nil_list (by exact News.isList (by k_asm) (by k_mem)) (by exact News.isList (by k_asm) (by k_mem)) (by (have hcL9 := cLine_is; (simp only [units_deeper] at *); (first | lia | omega))) ?_))
  trivial
theorem lnB12_4 : True := by
  k_with "compareOp Eq ref ref" => (k_here; k_dflt (refine eq_snoc_list (by exact News.isList (by k_asm) (by k_mem)) (by exact News.isList (by k_asm) (by k_mem)) (by (have hcL9 := cLine_is; (simp only [units_deeper] at *); (first | lia | omega))) ?_))
  k_with "call builtin:list.pop" => (k_here; k_dflt (refine pop_in (by k_asm) (by k_asm) (by k_upd) (by exact kpa_last _ _) (by (show (List.length (_ ++ _)) ≤ _; rw [List.length_append, sizeLine_eq]; simp only [List.length_cons, List.length_nil]; (first | lia | omega))) ?_); (intro _ _ _); (try k_sweep))
  k_with "subscriptTail" => (k_here; (with_reducible show wpAny _ _ (subscriptTail _ _ (Value.ref _) (Value.int _ _)) _ _ _); k_dflt (refine item_tupleT (by exact tup_mem (by k_asm) (by assumption) (by intro q hq; repeat (first | exact hq | refine List.Mem.tail _ ?_))) (by decide) (by decide) (by rfl) (by rfl) ?_; k_whole))
  k_with "newTuple" => (k_here; k_dflt (refine kup_newTuple (by k_asm) (by k_asm) ?_ (by (simp [sizeLine_eq]; done))); intro _ _ _ _ _; (try k_sweep))
  k_with "compareOp Eq ref ref" => (k_here; k_dflt (refine eq_nil_list (by exact Heap.IsList.at (by assumption) (fun o e => Fr.keep (by k_asm) _ o e)) (by exact News.isList (by k_asm) (by k_mem)) (by (have hcL9 := cLine_is; (simp only [units_deeper] at *); (first | lia | omega))) ?_))
  k_with "call builtin:len" => (k_here; (with_reducible show wpAny _ _ (call (Value.builtin "len") [Value.ref _]) _ _ _); (refine call_len_list (Heap.IsList.at (by assumption) (fun o e => Fr.keep (by k_asm) _ o e)) (by rw [List.size_toArray]; (first | lia | omega)) ?_))
  trivial
/-- TooMuch flies over the frames l, over a heap that kept all of G that is no frame -/
noncomputable def Raised (l : List Env) (G : Heap) (e t : Addr) (vs : List Value) (h' : Heap) : Prop :=
  ∃ B, (∀ b o, G.get? b = some o → b ∉ l.filterMap (·.frame) → B.get? b = some o) ∧ Heap.FlyingW B l e (.ref 100) (.ref t) h' ∧ B.get? t = none ∧ h'.TupAt t vs ∧ G.UpToSlots h'
theorem Raised.of {base g G : Heap} {l : List Env} {e t : Addr} {vs : List Value} {h' : Heap} (R : RaisedS base g l e (.ref 100) t vs [] h') (u : g.UpToSlots h') (k : ∀ b o, G.get? b = some o → g.get? b = some o) : Raised l G e t vs h' := by
  obtain ⟨⟨B, _, hG, _, hfl, hn⟩, ht⟩ := R
  exact ⟨B, fun b o e n => hG b o (k b o e) n, hfl, hn, ht, (Heap.UpToSlots.of_keeps k).trans u⟩
theorem Raised.toS {base G : Heap} {l : List Env} {e t : Addr} {vs : List Value} {h' : Heap} (R : Raised l G e t vs h') (k : ∀ b o, base.get? b = some o → G.get? b = some o) (kf : ∀ b o, base.get? b = some o → b ∉ l.filterMap (·.frame)) : RaisedS base G l e (.ref 100) t vs [] h' ∧ G.UpToSlots h' := by
  obtain ⟨B, hG, hfl, hn, ht, u⟩ := R
  exact ⟨⟨⟨B, fun b o e => hG b o (k b o e) (kf b o e), hG, (fun _ h => nomatch h), hfl, hn⟩, ht⟩, u⟩
noncomputable def MadeWJ (w : World) (g : Heap) (L' : Addr) (s : Shared) (fl : FontL) (cl : Addr) (cs : List Int) (lf : Bool) (edge : Int) (te : Tok) (P : Flow → Shared → Prop) : Prop :=
  ∀ h' tk' m₁ l v ol, l.fx = fl.x → Fr g L' h' m₁ → News g L' h' (wled w l v (WordS.init cs lf edge) ++ ol) → (∀ p ∈ wled w l v (WordS.init cs lf edge) ++ ol, s.heap.get? p.1 = none) → l.Apart ol → WordR w (MemP ol) l v (WordS.init cs lf edge) → m₁ (Str.ofString "font") = some (.ref fl.x) → m₁ (Str.ofString "codes") = some (.ref cl) → m₁ (Str.ofString "word") = some (.ref l.x) → P .next { s with heap := h', toks := tk' }
theorem init_room (cs : List Int) (left : Bool) (edge : Int) : (WordS.init cs left edge).room ≤ cs.length + 1 ∧ (WordS.init cs left edge).wait.length ≤ cs.length ∧ (WordS.init cs left edge).found = [] := by
  cases left <;> simp [WordS.init, WordS.room]
noncomputable def WordLJ (w : World) (s : Shared) (fl : FontL) (l : WordL) (F : FontM) (k0 : Nat) (st0 : WordS) (P : Nat → (Str → Option Value) → List (Addr × Obj) → Prop) : Prop :=
  ∀ m' (k : Nat) (tk : Tok) (v : WordV) (st : WordS) (ol : List (Addr × Obj)), m' (Str.ofString "font") = some (.ref fl.x) → m' (Str.ofString "word") = some (.ref l.x) → m' (Str.ofString "steps") = some (.int (k : Int) tk) → (∀ p ∈ wled w l v st ++ ol, s.heap.get? p.1 = none) → l.Apart ol → WordR w (MemP ol) l v st →
    st.load ≤ 100 → st.wait.length + st.found.length + 3 * mu k st ≤ 20000 → k ≤ 2000 → (∀ r, Runs F k st r → Runs F k0 st0 r) → P (mu k st) m' (wled w l v st ++ ol)
/-- a while, what stands between the turns said by its conclusion -/
theorem While_C {prog : Program} {w : World} {A : Around} {E : Value → Shared → Prop} {s : Shared} {h₀ : Heap} {L : Addr} {env : Env} {Q : Flow → Shared → Prop} {test : Expr} {body : List Stmt} {pos : Pos} {m : Str → Option Value} {news : List (Addr × Obj)} (J : (Nat → (Str → Option Value) → List (Addr × Obj) → Prop) → Prop) {n₀ : Nat}
    (F : Fr h₀ L s.heap m) (N : News h₀ L s.heap news) (hJ : ∀ P, J P → P n₀ m news)
    (turn : ∀ h₁ tk₁, J fun n m₁ news₁ => Fr h₀ L h₁ m₁ → News h₀ L h₁ news₁ →
      wpAny (model prog w) A (isTrue test env (eval test env)) (fun b s₂ =>
        if b = true then wpAny (model prog w) A (execs body env) (WhileStep2 h₀ L s (fun n m nw => ∀ P, J P → P n m nw) Q n) E s₂ else Q .next s₂) E { s with heap := h₁, toks := tk₁ })
    (hE : PassesOwn (model prog w) A env E := by passes_own) :
    wpAny (model prog w) A (exec (.While test body [] pos) env) Q E s :=
  While_inv2 (fun n m nw => ∀ P, J P → P n m nw) F N hJ (fun n m₁ news₁ h₁ tk₁ F₁ N₁ J₁ => J₁ _ (turn h₁ tk₁) F₁ N₁) hE
noncomputable def TurnJ (w : World) (g : Heap) (L' : Addr) (s : Shared) (fl : FontL) (l : WordL) (k : Nat) (v : WordV) (st : WordS) (ol : List (Addr × Obj)) (X : (Str → Option Value) → Prop) (P : Flow → Shared → Prop) : Prop :=
  ∀ h' tk' m₁ tk, Fr g L' h' m₁ → News g L' h' (wled w l v st ++ ol) → m₁ (Str.ofString "font") = some (.ref fl.x) → m₁ (Str.ofString "word") = some (.ref l.x) → m₁ (Str.ofString "steps") = some (.int (k : Int) tk) → X m₁ → P .next { s with heap := h', toks := tk' }
noncomputable def LookJ (w : World) (g : Heap) (L' : Addr) (s : Shared) (fl : FontL) (l : WordL) (k : Nat) (v : WordV) (st : WordS) (ol : List (Addr × Obj)) (F : FontM) (P : Flow → Shared → Prop) : Prop :=
  ∀ h' tk' m₁ tk, Fr g L' h' m₁ → m₁ (Str.ofString "font") = some (.ref fl.x) → m₁ (Str.ofString "word") = some (.ref l.x) → m₁ (Str.ofString "steps") = some (.int (k : Int) tk) → (((F.look st.left st.right = none ∧ News g L' h' (wled w l v st ++ ol) ∧ m₁ (Str.ofString "told") = some .none) ∨ ∃ a b q t1 t2, F.look st.left st.right = some (a, b) ∧ News g L' h' (wled w l v st ++ ((q, tupO [.int a t1, .int b t2]) :: ol)) ∧ s.heap.get? q = none ∧ l.Apart ((q, tupO [.int a t1, .int b t2]) :: ol) ∧ m₁ (Str.ofString "told") = some (.ref q))) → P .next { s with heap := h', toks := tk' }
theorem item_last {prog : Program} {w : World} {A : Around} {E : Value → Shared → Prop} {s : Shared} {value slice : Expr} {l : Addr} {vs : List Value} {u : Tok} {x : Value} {Q : Value → Shared → Prop} (hl : s.heap.IsList l (vs ++ [x]).toArray) (h : Q x s)
    (hs : subscripted slice false (.ref l) (.int (-1) u) = operate [.ref l, .int (-1) u] (getItem (.ref l) (.int (-1) u)) := by with_unfolding_all rfl) :
    wpAny (model prog w) A (subscriptTail value slice (.ref l) (.int (-1) u)) Q E s := by
  have hsz : (vs ++ [x]).toArray.size = vs.length + 1 := by simp
  have hx : (vs ++ [x]).toArray[((-1 : Int) + (vs ++ [x]).toArray.size).toNat]? = some x := by
    rw [hsz]
    have : ((-1 : Int) + ((vs.length + 1 : Nat) : Int)).toNat = vs.length := by (first | lia | omega)
    rw [this]; simp
  exact subscriptTail_builtinR hl.typeIs slot_list_getitem.lookup (wpAny_getItem_list_neg (Q := fun r s' => r = _ ∧ Q r s') hl (by decide) (by rw [hsz]; (first | lia | omega)) (by decide) hx ⟨rfl, h⟩) hs
theorem lnB12_5 : True := by
  k_with "subscriptTail" => (k_here; (with_reducible show wpAny _ _ (subscriptTail _ _ (Value.ref _) (Value.int (-1) _)) _ _ _); k_dflt (refine item_last (by exact News.isList (by k_asm) (by k_mem)) ?_; k_whole))
  trivial
theorem mu_pass (k : Nat) (st : WordS) (h : st.go = true) : mu k st.pass < mu k st := by
  have := (pass_room st).2 h
  unfold mu; (first | lia | omega)
theorem mu_put (k : Nat) (st : WordS) (op c : Int) : mu k (st.put op c) < mu (k + 1) st := by
  have := put_room st op c
  unfold mu; (first | lia | omega)
theorem fresh_turn {w : World} {h : Heap} {l : WordL} {v v' : WordV} {st st' : WordS} {ol nl : List (Addr × Obj)} (fr : ∀ p ∈ wled w l v st ++ ol, h.get? p.1 = none) (frw : ∀ p ∈ nl, h.get? p.1 = none) : ∀ p ∈ wled w l v' st' ++ (nl ++ ol), h.get? p.1 = none := fun p hp => by
  rcases List.mem_append.mp hp with hp | hp
  · rcases List.mem_cons.mp hp with rfl | hp
    · exact fr (l.x, instObj 414 l.dx) (.head _)
    rcases List.mem_cons.mp hp with rfl | hp
    · exact fr (l.dx, wordO w l.k (.ref l.fx) l.wl v.vnow (.int st.edge v.te) l.fa st.hl st.hr st.go) (.tail _ (.head _))
    rcases List.mem_cons.mp hp with rfl | hp
    · exact fr (l.wl, listOf v.wvs.toArray v.nw) (.tail _ (.tail _ (.head _)))
    rcases List.mem_cons.mp hp with rfl | hp
    · exact fr (l.fa, listOf v.fvs.toArray v.nf) (.tail _ (.tail _ (.tail _ (.head _))))
    · cases hp
  · rcases List.mem_append.mp hp with hp | hp
    · exact frw p hp
    · exact fr p (List.mem_append_right _ hp)
theorem turn_end {w : World} {s : Shared} {g h' : Heap} {L' : Addr} {tk' : Tok} {m₅ : Str → Option Value} {fl : FontL} {l : WordL} {F : FontM} {k0 k k' : Nat} {st0 st st' : WordS} {v' : WordV} {ol' : List (Addr × Obj)} {tks : Tok} {Q : Flow → Shared → Prop} {s₀ s₃ : Shared}
    (e : s₃ = { s₀ with heap := h', toks := tk' }) (F1 : Fr g L' h' m₅) (N1 : News g L' h' (wled w l v' st' ++ ol')) (p1 : m₅ (Str.ofString "font") = some (.ref fl.x)) (p2 : m₅ (Str.ofString "word") = some (.ref l.x)) (p3 : m₅ (Str.ofString "steps") = some (.int (k' : Int) tks))
    (fr : ∀ p ∈ wled w l v' st' ++ ol', s.heap.get? p.1 = none) (D : l.Apart ol') (R : WordR w (MemP ol') l v' st') (hmu : mu k' st' < mu k st) (hld : st'.load ≤ 100) (hlen : st.wait.length + st.found.length + 3 * mu k st ≤ 20000) (hl2 : st'.wait.length + st'.found.length ≤ st.wait.length + st.found.length + 3)
    (hk : k' ≤ 2000) (hruns : ∀ r, Runs F k st r → Runs F k0 st0 r) (hstep : ∀ r, Runs F k' st' r → Runs F k st r) :
    WhileStep2 g L' s₀ (fun n m nw => ∀ P, WordLJ w s fl l F k0 st0 P → P n m nw) Q (mu k st) .next s₃ :=
  ⟨h', tk', m₅, _, mu k' st', e, F1, N1, hmu, fun P kJ => kJ m₅ k' tks v' st' ol' p1 p2 p3 fr D R hld (by (first | lia | omega)) hk fun r hr => hruns r (hstep r hr)⟩
theorem ite_no {c : Prop} [Decidable c] {p q : Prop} (h : ¬c) (k : q) : if c then p else q := by rw [if_neg h]; exact k
theorem ite_yes {c : Prop} [Decidable c] {p q : Prop} (h : c) (k : p) : if c then p else q := by rw [if_pos h]; exact k
theorem lnB12_6 : True := by
  k_with "ite" => ((fail_if_success (k_extra "svB120")); (k_here; k_dflt (k_extra "my ite B120")))
  trivial
theorem word_nodes_spec {w : World} {A : Around} {s : Shared} {h₀ : Heap} {L : Addr} {m : Str → Option Value} {fl : FontL} {FM : FontM} {cl : Addr} {cvs : List Value} {cs : List Int} {left : Bool} {edge : Int} {te : Tok} {Q E : Value → Shared → Prop}
    (C : Cx w A h₀ L s.heap m) (hd : A.depth ≤ 320) (hu : A.units ≤ 1600) (hf : FontAt w (Gd s.heap) fl FM) (hw : FM.WF) (hl : s.heap.IsList cl cvs.toArray) (iv : IntsV cvs cs) (ho : ∀ i ∈ cs, OctI i) (hfew : cs.length ≤ 90)
    (ret : ∀ (nodes : List NodeP) (fa : Addr) (fvs : List Value) (nf : Nat) (ol : List (Addr × Obj)) (h' : Heap) (tk' : Tok), NodesR FM cs left edge (some nodes) → Fr h₀ L h' m → News h₀ L h' ((fa, listOf fvs.toArray nf) :: ol) → (∀ p ∈ ((fa, listOf fvs.toArray nf) :: ol), s.heap.get? p.1 = none) → (∀ p ∈ ol, p.1 ≠ fa) → All2 (NodeAt w (MemP ol) (.ref fl.x)) fvs nodes → fvs.length ≤ 20000 → Kept s.heap [] h' → Q (.ref fa) { s with heap := h', toks := tk' })
    (retE : ∀ (l : List Env) (e t : Addr) (vs : List Value) (h' : Heap) (tk' : Tok), NodesR FM cs left edge none → A.frames = some l → Raised l s.heap e t vs h' → E (.ref e) { s with heap := h', toks := tk' }) :
    wpAny (model PySem.Challenge.rw_sq0044_01.row.prog w) A (call (.ref 446) [.ref fl.x, .ref cl, .bool left, .int edge te]) Q E s := by
  refine wpAny_call ?_
  have N0 : News h₀ L s.heap [] := News.nil
  refine Cx.form_ C ?_; intro dp un gd env0 outer0 eA9; subst eA9; (try dsimp only at hd); (try dsimp only at hu); k_dflt (refine' enter (binds := [(Str.ofString "font", .ref fl.x), (Str.ofString "codes", .ref cl), (Str.ofString "left_edge", .bool left), (Str.ofString "edge", .int edge te)]) ?k1 ?k2 ?k6 ?k7 ?k8 ?k9 ?kB ?_ ?c2 ?c3 ?c4 ?c5; (case k1 => assumption); (case k2 => assumption); (case k6 => k_is); (case k7 => k_is); (case k8 => (first | exact le_up (d := 1) hd rfl | exact le_up (d := 2) hd rfl | (simp only [depth_under_make, depth_under_kw, recursionLimit]; (first | lia | omega)))); (case k9 => first | exact BindsTo.of_eq rfl | exact binds_K (Cx.inK (by assumption)) rfl (by k_is) rfl rfl rfl); (case c5 => decide); (case kB => exact locs rfl); (case c2 => exact rfl); (case c3 => exact rfl); (case c4 => exact rfl)); intro base outer p loose mean mg mb g L' hB1 FG F NB G B X T hh; obtain rfl : env0 :: outer0 = outer := Option.some.inj B.stack; (try dsimp only); (try k_fold)
  have hg : FontAt w (Gd g) fl FM := hf.mono fun a o e => G a o e (by simp)
  have i1 := hg.inst
  have i2 := hg.dict
  have i5 := hg.nstarts
  have kg : ∀ b o, s.heap.get? b = some o → g.get? b = some o := fun b o e => G b o e (by simp)
  have hlg : g.IsList cl cvs.toArray := hl.at fun o e => kg _ o e
  cases cs with
  | nil =>
    have : cvs = [] := List.eq_nil_of_length_eq_zero iv.1
    subst this
    repeat' (first | (k_unfold; (try dsimp only)) | (dsimp only; k_unfold; (try dsimp only)) | ((fail_if_success (with_reducible show Exists _)); (fail_if_success (with_reducible show LeaveK h₀ L m g _ _ _)); first | walk1 | (dsimp only; (fail_if_success (with_reducible show Exists _)); (fail_if_success (with_reducible show LeaveK h₀ L m g _ _ _)); walk1)))
    ((try dsimp only); (try k_unfold); (try dsimp only); (with_reducible rename Fr _ _ _ _ => cF); (with_reducible rename News _ _ _ _ => cN); refine leaveK_ cF cN ?_; intro kF kN; (try dsimp only [InitBack]); (try refine ⟨rfl, ?_⟩); (try dsimp only))
    exact ret [] _ [] _ [] _ _ (.inl ⟨rfl, rfl⟩) kF (news_sub kN (by k_extra "my sub")) (List.forall_mem_cons.mpr ⟨fresh_g G (cN.fresh (.head _)) (by simp), fun _ h => nomatch h⟩) (fun _ h => nomatch h) .nil (by decide) (fun b o e _ => cF.keep b o (kg b o e))
  | cons c0 cr =>
    have : ∃ v0 vr, cvs = v0 :: vr := by
      cases cvs with
      | nil => cases iv.1
      | cons v r => exact ⟨v, r, rfl⟩
    obtain ⟨v0, vr, rfl⟩ := this
    k_with "svB120" => skip
    k_with "call ref" => ((fail_if_success (k_extra "svB121")); (k_here; k_dflt (k_extra "my call B121")))
    k_with "ite" => ((fail_if_success (k_extra "svB121")); (k_here; k_dflt (k_extra "my ite B121")))
    k_with "my call B121" => (refine starts_spec (Cx.deeper (by k_asm) (by k_asm) (by k_asm) (by k_asm) (by k_asm) rfl) (by first | exact le_up (d := 1) hd rfl | (simp only [depth_deeper]; (first | lia | omega))) (hg.mono fun a o e => Fr.keep (by k_asm) _ _ e) ?_; intro hw1 tw1 tkw Fw Kw; have Nw := news_keep0 (by k_asm) Kw; (try k_sweep))
    have hK : (v0 :: vr).isEmpty = false := rfl
    generalize hcv : v0 :: vr = cvs at *
    repeat' ((fail_if_success (with_reducible show wpAny _ _ (exec (Stmt.Assign _ (Expr.Call _ _ _ _) _) _) _ _ _)); first | (k_unfold; (try dsimp only)) | (dsimp only; k_unfold; (try dsimp only)) | ((fail_if_success (with_reducible show Exists _)); (fail_if_success (with_reducible show LeaveK h₀ L m g _ _ _)); first | walk1 | (dsimp only; (fail_if_success (with_reducible show Exists _)); (fail_if_success (with_reducible show LeaveK h₀ L m g _ _ _)); walk1)))
    all_goals (first | (exfalso; simp_all; done) | skip)
    refine cutC (MadeWJ w g L' s fl cl (c0 :: cr) (left && decide (0 ≤ FM.start 256)) edge te) ?_ ?_
    · cases left
      all_goals (
        repeat' ((fail_if_success (with_reducible show wpAny _ _ (call (Value.ref 414) _) _ _ _)); first | (k_unfold; (try dsimp only)) | (dsimp only; k_unfold; (try dsimp only)) | ((fail_if_success (with_reducible show Exists _)); (fail_if_success (with_reducible show LeaveK h₀ L m g _ _ _)); first | walk1 | (dsimp only; (fail_if_success (with_reducible show Exists _)); (fail_if_success (with_reducible show LeaveK h₀ L m g _ _ _)); walk1)))
        (with_reducible rename Fr _ _ _ _ => F7)
        refine word_spec (Cx.deeper (by k_asm) (by k_asm) (by k_asm) (by k_asm) (by k_asm) rfl) (by first | exact le_up (d := 1) hd rfl | (simp only [depth_deeper]; (first | lia | omega))) (by first | exact le_up (d := 3) hu rfl | (simp only [units_deeper]; (first | lia | omega))) (Heap.IsList.at hlg fun o e => F7.keep _ o e) iv ho (by (first | lia | omega)) (by intro _; exact List.cons_ne_nil _ _) ?_
        intro l v ol hA tkA efx FA NA frA DA RA KA
        have frB := fun p hp => kts_none (fun b o e => F7.keep b o (kg b o e)) (frA p hp)
        clear KA frA F7
        repeat' (first | (k_unfold; (try dsimp only)) | (dsimp only; k_unfold; (try dsimp only)) | ((fail_if_success (with_reducible show Exists _)); (fail_if_success (with_reducible show LeaveK h₀ L m g _ _ _)); first | walk1 | (dsimp only; (fail_if_success (with_reducible show Exists _)); (fail_if_success (with_reducible show LeaveK h₀ L m g _ _ _)); walk1)))
        (with_reducible rename Fr _ _ _ _ => F8); (with_reducible rename News _ _ _ _ => N8)
        (with_reducible rename MadeWJ .. => kJ); exact kJ _ _ _ l v ol efx F8 N8 frB DA RA rfl rfl rfl)
    intro h' tk' m₁ l v ol efx F1 N1 fr1 D1 R1 n1 n2 n3
    (try dsimp only)
    have hcl : cvs.length = cr.length + 1 := iv.1
    simp only [List.length_cons] at hfew
    repeat' ((fail_if_success (with_reducible show wpAny _ _ (exec (Stmt.While _ _ _ _) _) _ _ _)); first | (k_unfold; (try dsimp only)) | (dsimp only; k_unfold; (try dsimp only)) | ((fail_if_success (with_reducible show Exists _)); (fail_if_success (with_reducible show LeaveK h₀ L m g _ _ _)); first | walk1 | (dsimp only; (fail_if_success (with_reducible show Exists _)); (fail_if_success (with_reducible show LeaveK h₀ L m g _ _ _)); walk1)))
    (with_reducible rename Fr _ _ _ _ => F8); (with_reducible rename News _ _ _ _ => N8)
    have hsz : (20 * ((cvs.toArray.size : Int) + 1)) = ((20 * (cr.length + 2) : Nat) : Int) := by rw [List.size_toArray, hcl]; (first | lia | omega)
    rw [hsz] at F8
    have hini := init_load (c0 :: cr) (left && decide (0 ≤ FM.start 256)) edge
    have hroom := init_room (c0 :: cr) (left && decide (0 ≤ FM.start 256)) edge
    simp only [List.length_cons] at hini hroom
    refine While_C (WordLJ w s fl l FM (20 * (cr.length + 2)) (WordS.init (c0 :: cr) (left && decide (0 ≤ FM.start 256)) edge)) F8 (news_sub N8 (b := wled w l v (WordS.init (c0 :: cr) (left && decide (0 ≤ FM.start 256)) edge) ++ ol) (fun p hp => by assumption)) (fun P kJ => kJ _ _ _ v _ ol n1 n3 rfl fr1 D1 R1 (by (first | lia | omega)) ?_ (by (first | lia | omega)) fun _ h => h) ?_
    · unfold mu
      rw [hroom.2.2]
      simp only [List.length_nil]
      (first | lia | omega)
    (try clear F8); (try clear N8); (try clear N1); (try clear F1)
    intro hA tkA
    intro m₂ k tk v st ol e1 e2 e3 fr D R hld hlen hk hruns F1 N1
    obtain ⟨d1, d2, d3, d4, d5, d6, d7, d8, d9, d10⟩ := id D
    obtain ⟨nx, wx, ed, fx, hl2, hr2, go⟩ := st
    obtain ⟨wvs, nw, fvs, nf, vnow, te2⟩ := v
    (try dsimp only [List.cons_append, List.nil_append] at N1)
    have hnd := NowAt.handed R.now
    cases go with
    | false =>
      repeat' (first | (k_unfold; (try dsimp only)) | (dsimp only; k_unfold; (try dsimp only)) | ((fail_if_success (with_reducible show Exists _)); (fail_if_success (with_reducible show LeaveK h₀ L m g _ _ _)); first | walk1 | (dsimp only; (fail_if_success (with_reducible show Exists _)); (fail_if_success (with_reducible show LeaveK h₀ L m g _ _ _)); walk1)))
      ((try dsimp only); (try k_unfold); (try dsimp only); (with_reducible rename Fr _ _ _ _ => cF); (with_reducible rename News _ _ _ _ => cN); refine leaveK_ cF cN ?_; intro kF kN; (try dsimp only [InitBack]); (try refine ⟨rfl, ?_⟩); (try dsimp only))
      exact ret fx l.fa fvs nf ((l.x, instObj 414 l.dx) :: (l.dx, wordO w l.k (.ref l.fx) l.wl vnow (.int ed te2) l.fa hl2 hr2 false) :: (l.wl, listOf wvs.toArray nw) :: ol) _ _ (.inr ⟨List.cons_ne_nil _ _, hruns _ (.done rfl)⟩) kF (news_sub kN (by k_extra "my sub")) (fun p hp => fr p ((by k_extra "my sub" : ∀ p ∈ _, p ∈ _) p hp)) (List.forall_mem_cons.mpr ⟨d3, List.forall_mem_cons.mpr ⟨d5, List.forall_mem_cons.mpr ⟨d6, d10⟩⟩⟩) (by rw [← efx]; exact R.found.mono fun _ _ h => h.mono fun _ _ h => .tail _ (.tail _ (.tail _ h))) (by have := R.found.length; dsimp only at this hlen; (first | lia | omega)) (fun b o e _ => cF.keep b o (kg b o e))
    | true =>
      repeat' ((fail_if_success (with_reducible show wpAny _ _ (exec (Stmt.Assign _ (Expr.IfExp _ _ _ _) _) _) _ _ _)); first | (k_unfold; (try dsimp only)) | (dsimp only; k_unfold; (try dsimp only)) | ((fail_if_success (with_reducible show Exists _)); (fail_if_success (with_reducible show LeaveK h₀ L m g _ _ _)); first | walk1 | (dsimp only; (fail_if_success (with_reducible show Exists _)); (fail_if_success (with_reducible show LeaveK h₀ L m g _ _ _)); walk1)))
      refine cutC (TurnJ w g L' s fl l k ⟨wvs, nw, fvs, nf, vnow, te2⟩ ⟨nx, wx, ed, fx, hl2, hr2, true⟩ ol (fun m => ∃ t, m (Str.ofString "left") = some (.int (WordS.left ⟨nx, wx, ed, fx, hl2, hr2, true⟩) t))) ?_ ?_
      · cases nx with
        | none =>
          obtain rfl : vnow = .none := R.now
          repeat' (first | (k_unfold; (try dsimp only)) | (dsimp only; k_unfold; (try dsimp only)) | ((fail_if_success (with_reducible show Exists _)); (fail_if_success (with_reducible show LeaveK h₀ L m g _ _ _)); first | walk1 | (dsimp only; (fail_if_success (with_reducible show Exists _)); (fail_if_success (with_reducible show LeaveK h₀ L m g _ _ _)); walk1)))
          (with_reducible rename Fr _ _ _ _ => F8); (with_reducible rename News _ _ _ _ => N8)
          (with_reducible rename TurnJ .. => kJ); exact kJ _ _ _ _ F8 (news_sub N8 (by k_extra "my sub")) e1 e2 e3 ⟨_, rfl⟩
        | some it =>
          obtain ⟨iok, a, b, tc, pv, rfl, m1, m2, iv2⟩ := R.now
          repeat' (first | (k_unfold; (try dsimp only)) | (dsimp only; k_unfold; (try dsimp only)) | ((fail_if_success (with_reducible show Exists _)); (fail_if_success (with_reducible show LeaveK h₀ L m g _ _ _)); first | walk1 | (dsimp only; (fail_if_success (with_reducible show Exists _)); (fail_if_success (with_reducible show LeaveK h₀ L m g _ _ _)); walk1)))
          (with_reducible rename Fr _ _ _ _ => F8); (with_reducible rename News _ _ _ _ => N8)
          (with_reducible rename TurnJ .. => kJ); exact kJ _ _ _ _ F8 (news_sub N8 (by k_extra "my sub")) e1 e2 e3 ⟨_, rfl⟩
      intro hC tkC m₃ tk3 F2 N2 n1 n2 n3 hx4
      obtain ⟨tl, n4⟩ := hx4
      (try dsimp only)
      clear e1 e2 e3
      repeat' ((fail_if_success (with_reducible show wpAny _ _ (exec (Stmt.Assign _ (Expr.IfExp _ _ _ _) _) _) _ _ _)); first | (k_unfold; (try dsimp only)) | (dsimp only; k_unfold; (try dsimp only)) | ((fail_if_success (with_reducible show Exists _)); (fail_if_success (with_reducible show LeaveK h₀ L m g _ _ _)); first | walk1 | (dsimp only; (fail_if_success (with_reducible show Exists _)); (fail_if_success (with_reducible show LeaveK h₀ L m g _ _ _)); walk1)))
      refine cutC (TurnJ w g L' s fl l k ⟨wvs, nw, fvs, nf, vnow, te2⟩ ⟨nx, wx, ed, fx, hl2, hr2, true⟩ ol (fun m => ∃ t t', m (Str.ofString "left") = some (.int (WordS.left ⟨nx, wx, ed, fx, hl2, hr2, true⟩) t) ∧ m (Str.ofString "right") = some (.int (WordS.right ⟨nx, wx, ed, fx, hl2, hr2, true⟩) t'))) ?_ ?_
      · (try dsimp only [List.cons_append, List.nil_append] at N2)
        cases wx with
        | nil =>
          cases R.wait
          repeat' (first | (k_unfold; (try dsimp only)) | (dsimp only; k_unfold; (try dsimp only)) | ((fail_if_success (with_reducible show Exists _)); (fail_if_success (with_reducible show LeaveK h₀ L m g _ _ _)); first | walk1 | (dsimp only; (fail_if_success (with_reducible show Exists _)); (fail_if_success (with_reducible show LeaveK h₀ L m g _ _ _)); walk1)))
          (with_reducible rename Fr _ _ _ _ => F8); (with_reducible rename News _ _ _ _ => N8)
          (with_reducible rename TurnJ .. => kJ); exact kJ _ _ _ _ F8 (news_sub N8 (by k_extra "my sub")) n1 n2 n3 ⟨_, _, n4, rfl⟩
        | cons it r =>
          have R2 := R.wait
          dsimp only at R2
          rw [List.reverse_cons] at R2
          obtain ⟨vs0, x, rfl, W', I'⟩ := All2.unsnoc R2
          obtain ⟨iok, a, b, tc, pv, rfl, m1, m2, iv2⟩ := id I'
          repeat' (first | (k_unfold; (try dsimp only)) | (dsimp only; k_unfold; (try dsimp only)) | ((fail_if_success (with_reducible show Exists _)); (fail_if_success (with_reducible show LeaveK h₀ L m g _ _ _)); first | walk1 | (dsimp only; (fail_if_success (with_reducible show Exists _)); (fail_if_success (with_reducible show LeaveK h₀ L m g _ _ _)); walk1)))
          (with_reducible rename Fr _ _ _ _ => F8); (with_reducible rename News _ _ _ _ => N8)
          (with_reducible rename TurnJ .. => kJ); exact kJ _ _ _ _ F8 (news_sub N8 (by k_extra "my sub")) n1 n2 n3 ⟨_, _, n4, rfl⟩
      intro hD tkD m₄ tk4 F3 N3 o1 o2 o3 hx4
      obtain ⟨tl2, tr2, o4, o5⟩ := hx4
      (try dsimp only)
      clear n1 n2 n3 n4
      repeat' ((fail_if_success (with_reducible show wpAny _ _ (exec (Stmt.Assign _ (Expr.Call _ _ _ _) _) _) _ _ _)); first | (k_unfold; (try dsimp only)) | (dsimp only; k_unfold; (try dsimp only)) | ((fail_if_success (with_reducible show Exists _)); (fail_if_success (with_reducible show LeaveK h₀ L m g _ _ _)); first | walk1 | (dsimp only; (fail_if_success (with_reducible show Exists _)); (fail_if_success (with_reducible show LeaveK h₀ L m g _ _ _)); walk1)))
      refine cutC (LookJ w g L' s fl l k ⟨wvs, nw, fvs, nf, vnow, te2⟩ ⟨nx, wx, ed, fx, hl2, hr2, true⟩ ol FM) ?_ ?_
      · k_with "svB121" => skip
        k_with "call ref" => ((fail_if_success (k_extra "svB122")); (k_here; k_dflt (k_extra "my call B122")))
        k_with "ite" => ((fail_if_success (k_extra "svB122")); (k_here; k_dflt (k_extra "my ite B122")))
        k_with "my call B122" => (refine look_spec (Cx.deeper (by k_asm) (by k_asm) (by k_asm) (by k_asm) (by k_asm) rfl) (by first | exact le_up (d := 1) hd rfl | (simp only [depth_deeper]; (first | lia | omega))) (hg.mono fun a o e => F3.keep a o e) hw ?_ ?_)
        repeat' ((fail_if_success (with_reducible show wpAny _ _ (call (Value.ref 399) _) _ _ _)); first | (k_unfold; (try dsimp only)) | (dsimp only; k_unfold; (try dsimp only)) | ((fail_if_success (with_reducible show Exists _)); (fail_if_success (with_reducible show LeaveK h₀ L m g _ _ _)); first | walk1 | (dsimp only; (fail_if_success (with_reducible show Exists _)); (fail_if_success (with_reducible show LeaveK h₀ L m g _ _ _)); walk1)))
        (with_reducible rename News _ _ _ _ => N8)
        k_extra "my call B122"
        · intro hw1 tkw hk0 Fw Kw
          have Nw := news_keep0 N8 Kw
          clear N8 Kw
          repeat' (first | (k_unfold; (try dsimp only)) | (dsimp only; k_unfold; (try dsimp only)) | ((fail_if_success (with_reducible show Exists _)); (fail_if_success (with_reducible show LeaveK h₀ L m g _ _ _)); first | walk1 | (dsimp only; (fail_if_success (with_reducible show Exists _)); (fail_if_success (with_reducible show LeaveK h₀ L m g _ _ _)); walk1)))
          (with_reducible rename Fr _ _ _ _ => F8); (with_reducible rename News _ _ _ _ => N9)
          (with_reducible rename LookJ .. => kJ); exact kJ _ _ _ _ F8 o1 o2 o3 (.inl ⟨hk0, news_sub N9 (fun p hp => by assumption), rfl⟩)
        · intro a b q t1 t2 hw1 tkw hk0 frq Fw Nw1 Kw
          have Nw := news_app Nw1 (news_keep0 N8 Kw)
          have hne := TLgL.allNe_of (news_none N8 frq)
          (try simp only [TLg.AllNe, List.cons_append, List.nil_append] at hne)
          have frq2 := kts_none (fun b o e => F3.keep b o (kg b o e)) frq
          clear N8 Kw Nw1
          repeat' (first | (k_unfold; (try dsimp only)) | (dsimp only; k_unfold; (try dsimp only)) | ((fail_if_success (with_reducible show Exists _)); (fail_if_success (with_reducible show LeaveK h₀ L m g _ _ _)); first | walk1 | (dsimp only; (fail_if_success (with_reducible show Exists _)); (fail_if_success (with_reducible show LeaveK h₀ L m g _ _ _)); walk1)))
          (with_reducible rename Fr _ _ _ _ => F8); (with_reducible rename News _ _ _ _ => N9)
          (with_reducible rename LookJ .. => kJ); exact kJ _ _ _ _ F8 o1 o2 o3 (.inr ⟨a, b, q, t1, t2, hk0, news_sub N9 (by k_extra "my sub"), frq2, D.more hne, rfl⟩)
      intro hE tkE m₅ tk5 F4 p1 p2 p3 hlk
      (try dsimp only)
      rcases hlk with ⟨hk0, N4, p4⟩ | ⟨a, b, q, t1, t2, hk0, N4, frq, Dq, p4⟩
      · k_with "svB122" => skip
        k_with "call ref" => ((fail_if_success (k_extra "svB123")); (k_here; k_dflt (k_extra "my call B123")))
        k_with "ite" => ((fail_if_success (k_extra "svB123")); (k_here; k_dflt (k_extra "my ite B123")))
        k_with "my call B123" => (refine pass_spec (Cx.deeper (by k_asm) (by k_asm) (by k_asm) (by k_asm) (by k_asm) rfl) (by first | exact le_up (d := 1) hd rfl | (simp only [depth_deeper]; (first | lia | omega))) (by first | exact le_up (d := 3) hu rfl | (simp only [units_deeper]; (first | lia | omega))) (by k_asm) D R (by (first | lia | omega)) ?_; intro v' nl hw1 tkw Fw Nw frw D' R' Kw; have frw2 := fun p hp => kts_none (fun b o e => F4.keep b o (kg b o e)) (frw p hp))
        repeat' (first | (k_unfold; (try dsimp only)) | (dsimp only; k_unfold; (try dsimp only)) | ((fail_if_success (with_reducible show Exists _)); (fail_if_success (with_reducible show LeaveK h₀ L m g _ _ _)); first | walk1 | (dsimp only; (fail_if_success (with_reducible show Exists _)); (fail_if_success (with_reducible show LeaveK h₀ L m g _ _ _)); walk1)))
        exact turn_end (k' := k) rfl Fw Nw p1 p2 p3 (fresh_turn fr frw2) D' R' (mu_pass k _ rfl) (Nat.le_trans (pass_load _) hld) hlen (Nat.le_trans (pass_len _) (by (first | lia | omega))) hk hruns (fun r hr => .pass rfl hk0 hr)
      · have ok := look_ok hw hk0
        obtain ⟨q1, q2, q3, q4, q5, q6, q7, q8, q9, q10⟩ := id Dq
        have Rq := R.more [(q, tupO [.int a t1, .int b t2])]
        (try dsimp only [List.cons_append, List.nil_append] at N4)
        have frQ := fresh_turn (v' := ⟨wvs, nw, fvs, nf, vnow, te2⟩) (st' := ⟨nx, wx, ed, fx, hl2, hr2, true⟩) (nl := [(q, tupO [.int a t1, .int b t2])]) fr (List.forall_mem_cons.mpr ⟨frq, fun _ h => nomatch h⟩)
        have mq : (q, tupO [.int a t1, .int b t2]) ∈ (q, tupO [.int a t1, .int b t2]) :: ol := .head _
        rcases ok with ⟨rfl, hb1, hb2⟩ | ⟨ha1, ha2, hb⟩
        · k_with "svB123" => skip
          k_with "call ref" => ((fail_if_success (k_extra "svB124")); (k_here; k_dflt (k_extra "my call B124")))
          k_with "ite" => ((fail_if_success (k_extra "svB124")); (k_here; k_dflt (k_extra "my ite B124")))
          k_with "my call B124" => (refine pass_spec (Cx.deeper (by k_asm) (by k_asm) (by k_asm) (by k_asm) (by k_asm) rfl) (by first | exact le_up (d := 1) hd rfl | (simp only [depth_deeper]; (first | lia | omega))) (by first | exact le_up (d := 3) hu rfl | (simp only [units_deeper]; (first | lia | omega))) (by (show News _ _ _ (_ :: _ :: _ :: _ :: _ :: ol)); k_asm) Dq Rq (by (first | lia | omega)) ?_; intro v' nl hw1 tkw Fw Nw frw D' R' Kw; have frw2 := fun p hp => kts_none (fun b o e => F4.keep b o (kg b o e)) (frw p hp); generalize hst : WordS.pass _ = st1 at Nw R'; obtain ⟨nx1, wx1, ed1, fx1, hl1, hr1, go1⟩ := st1; obtain ⟨wvs1, nw1, fvs1, nf1, vnow1, te1⟩ := v'; (have hnd1 := NowAt.handed R'.now); (have rl := R'.found.length); (have rf := R'.few); (try dsimp only [List.cons_append, List.nil_append] at Nw rl rf); obtain ⟨z1, z2, z3, z4, z5, z6, z7, z8, z9, z10⟩ := id D'; (have mq2 : (q, tupO [.int 0 t1, .int b t2]) ∈ nl ++ (q, tupO [.int 0 t1, .int b t2]) :: ol := List.mem_append_right _ (.head _)); (try k_sweep))
          k_with "my call B124" => (refine kern_spec (Cx.deeper (by k_asm) (by k_asm) (by k_asm) (by k_asm) (by k_asm) rfl) (by first | exact le_up (d := 1) hd rfl | (simp only [depth_deeper]; (first | lia | omega))) (by (first | lia | omega)) (by (first | lia | omega)) ?_; intro xc dc tc1 tc2 hw2 tkw2 fxc fdc lt1 Fw2 Nw1 Kw2; have fxc2 := kts_none (fun b o e => Fr.keep (by k_asm) b o (kg b o e)) fxc; have fdc2 := kts_none (fun b o e => Fr.keep (by k_asm) b o (kg b o e)) fdc; have Nw2 := news_app Nw1 (news_keep0 (by k_asm) Kw2); (try dsimp only [List.cons_append, List.nil_append] at Nw2); have hne := TLgL.allNe_of (news_none (by k_asm) fxc); have hne2 := TLgL.allNe_of (news_none (by k_asm) fdc); (try simp only [TLg.AllNe, List.cons_append, List.nil_append] at hne hne2); obtain ⟨ne1, ne2, ne3, ne4, ne5⟩ := id hne; obtain ⟨me1, me2, me3, me4, me5⟩ := id hne2; (try k_sweep))
          repeat' (first | (k_unfold; (try dsimp only)) | (dsimp only; k_unfold; (try dsimp only)) | ((fail_if_success (with_reducible show Exists _)); (fail_if_success (with_reducible show LeaveK h₀ L m g _ _ _)); first | walk1 | (dsimp only; (fail_if_success (with_reducible show Exists _)); (fail_if_success (with_reducible show LeaveK h₀ L m g _ _ _)); walk1)))
          (with_reducible rename Fr _ _ _ _ => F8); (with_reducible rename News _ _ _ _ => N8)
          rw [List.push_toArray] at N8
          have mp := mu_pass k ⟨nx, wx, ed, fx, hl2, hr2, true⟩ rfl
          have lp := pass_load ⟨nx, wx, ed, fx, hl2, hr2, true⟩
          have np := pass_len ⟨nx, wx, ed, fx, hl2, hr2, true⟩
          rw [hst] at mp lp np
          refine turn_end (k' := k) (st' := ⟨nx1, wx1, ed1, fx1 ++ [.kern b], hl1, hr1, go1⟩) (v' := ⟨wvs1, nw1, fvs1 ++ [.ref xc], nf1 + 1, vnow1, te1⟩) (ol' := (xc, instObj 356 dc) :: (dc, kernD w tc1 tc2 (.int b t2) (.int 0 _)) :: (nl ++ (q, tupO [.int 0 t1, .int b t2]) :: ol)) rfl F8 (news_sub N8 (by k_extra "my sub")) p1 p2 p3
            (fresh_turn (nl := (xc, _) :: (dc, _) :: nl) frQ (List.forall_mem_cons.mpr ⟨fxc2, List.forall_mem_cons.mpr ⟨fdc2, frw2⟩⟩)) (WordL.Apart.more (D'.more hne2) ⟨hne.1, hne.2.1, hne.2.2.1, hne.2.2.2.1, (Nat.ne_of_lt lt1 : @Ne Nat dc xc), hne.2.2.2.2⟩) ?_ mp (Nat.le_trans lp hld) hlen ?_ hk hruns (fun r hr => .kern rfl hk0 (by rw [hst]; exact hr))
          · have R'' := fun o => R'.more [(xc, instObj 356 dc), (dc, o)]
            exact ⟨(R'' _).now, (R'' _).wait, (R'' _).found.snoc ⟨xc, dc, tc1, tc2, t2, _, rfl, .head _, .tail _ (.head _)⟩, by dsimp only at np hlen; simp only [List.length_append, List.length_cons, List.length_nil]; (first | lia | omega)⟩
          · dsimp only at np ⊢; simp only [List.length_append, List.length_cons, List.length_nil]; (first | lia | omega)
        · cases k with
          | zero =>
            k_with "svB124" => skip
            k_with "call ref" => ((fail_if_success (k_extra "svB125")); (k_here; k_dflt (k_extra "my call B125")))
            k_with "ite" => ((fail_if_success (k_extra "svB125")); (k_here; k_dflt (k_extra "my ite B125")))
            k_with "my ite B125" => (refine split_dec ?_ ?_ <;> intro hz9 <;> first | (exfalso; (first | lia | omega)) | skip)
            repeat' ((fail_if_success (with_reducible show wpAny _ _ (exec (Stmt.Raise _ _ _) _) _ _ _)); first | (k_unfold; (try dsimp only)) | (dsimp only; k_unfold; (try dsimp only)) | ((fail_if_success (with_reducible show Exists _)); (fail_if_success (with_reducible show LeaveK h₀ L m g _ _ _)); first | walk1 | (dsimp only; (fail_if_success (with_reducible show Exists _)); (fail_if_success (with_reducible show LeaveK h₀ L m g _ _ _)); walk1)))
            refine Raise_ex (C := 100) ?hd0 ?_
            case hd0 => rfl
            k_with "my call B125" => (refine ex_spec (Cx.deeper (by k_asm) (by k_asm) (by k_asm) (by k_asm) (by k_asm) rfl) (by first | exact le_up (d := 1) hd rfl | (simp only [depth_deeper]; (first | lia | omega))) ?_; intro e t o hw1 tkw fe1 ft1 ec1 ed1 Fw Nw Kw)
            repeat' (first | (k_unfold; (try dsimp only)) | (dsimp only; k_unfold; (try dsimp only)) | ((fail_if_success (with_reducible show Exists _)); (fail_if_success (with_reducible show LeaveK h₀ L m g _ _ _)); first | walk1 | (dsimp only; (fail_if_success (with_reducible show Exists _)); (fail_if_success (with_reducible show LeaveK h₀ L m g _ _ _)); walk1)))
            refine ⟨e, t, o, rfl, ?_, (Nw _ (.head _)).1, ec1, ed1, ?_⟩
            · obtain ⟨o', ho', nm, qn, N, bs, sn, sub, ab, col, dd, k0, k1, k2, k3, k5, rfl⟩ := ex_obj w.params
              exact ⟨nm, qn, N, bs, sn, sub, ab, col, dd, k0, k1, k2, k3, k5, Fw.keep _ _ (X _ _ ho')⟩
            · refine ex_leave B Fw Nw ec1 ed1 ?_
              intro h' R' u'
              exact retE _ e t _ h' _ (.inr ⟨List.cons_ne_nil _ _, hruns _ (.over rfl hk0 (by (first | lia | omega)))⟩) rfl (Raised.of R' u' kg)
          | succ k =>
            obtain ⟨hb1, hb2⟩ := hb
            k_with "svB125" => skip
            k_with "call ref" => ((fail_if_success (k_extra "svB126")); (k_here; k_dflt (k_extra "my call B126")))
            k_with "ite" => ((fail_if_success (k_extra "svB126")); (k_here; k_dflt (k_extra "my ite B126")))
            k_with "my ite B126" => (refine split_dec ?_ ?_ <;> intro hz9 <;> first | (exfalso; (first | lia | omega)) | skip)
            repeat' ((fail_if_success (with_reducible show wpAny _ _ (call (Value.ref 439) _) _ _ _)); first | (k_unfold; (try dsimp only)) | (dsimp only; k_unfold; (try dsimp only)) | ((fail_if_success (with_reducible show Exists _)); (fail_if_success (with_reducible show LeaveK h₀ L m g _ _ _)); first | walk1 | (dsimp only; (fail_if_success (with_reducible show Exists _)); (fail_if_success (with_reducible show LeaveK h₀ L m g _ _ _)); walk1)))
            (refine put_spec (Cx.deeper (by k_asm) (by k_asm) (by k_asm) (by k_asm) (by k_asm) rfl) (by first | exact le_up (d := 1) hd rfl | (simp only [depth_deeper]; (first | lia | omega))) (by first | exact le_up (d := 3) hu rfl | (simp only [units_deeper]; (first | lia | omega))) (by (show News _ _ _ (_ :: _ :: _ :: _ :: _ :: ol)); k_asm) Dq Rq (by (first | lia | omega)) hb1 hb2 (by (first | lia | omega)) (by (first | lia | omega)) hld ?_; intro v' nl hw1 tkw Fw Nw frw D' R' Kw; have frw2 := fun p hp => kts_none (fun b o e => Fr.keep (by k_asm) b o (kg b o e)) (frw p hp))
            repeat' (first | (k_unfold; (try dsimp only)) | (dsimp only; k_unfold; (try dsimp only)) | ((fail_if_success (with_reducible show Exists _)); (fail_if_success (with_reducible show LeaveK h₀ L m g _ _ _)); first | walk1 | (dsimp only; (fail_if_success (with_reducible show Exists _)); (fail_if_success (with_reducible show LeaveK h₀ L m g _ _ _)); walk1)))
            have hk1 : (((k + 1 : Nat) : Int) - 1) = (k : Int) := by (first | lia | omega)
            exact turn_end (k' := k) rfl Fw Nw p1 p2 (congrArg (fun z => some (Value.int z _)) hk1) (fresh_turn frQ frw2) D' R' (mu_put k _ _ _) (Nat.le_trans (put_load _ _ _) hld) hlen (put_len _ _ _ (by (first | lia | omega)) (by (first | lia | omega))) (by (first | lia | omega)) hruns (fun r hr => .lig rfl hk0 (by (first | lia | omega)) hr)
end Mine
theorem Mine.fresh_B13 : True := by w_top off; k_with_none; trivial
namespace Mine
theorem fill_once13 (P : Params) : Mine.kk.heap_1 P = Mine.kk.heap_1 P ∧ PySem.Challenge.rw_sq0044_01 = PySem.Challenge.rw_sq0044_01 := by
  k_fill
  exact ⟨rfl, rfl⟩
theorem lnB13_0 : True := by
  k_with "execs cons" => (k_here; (with_reducible refine PySem.wpAny_execs_cons ?_); (try dsimp only); k_fold)
  k_with "execs cons" => (k_here; (with_reducible refine toks_gen ?_); intro _)
  k_with "eval Call" => (k_here; (with_reducible show wpAny _ _ (eval (Expr.Call (Expr.Name _ _) _ [] _) (envOf _ _ _ _ _)) _ _ _); k_dflt (refine call_named (by k_asm) (by k_asm) (by k_asm) (by k_is) (by k_is) (by (repeat' (first | exact ArgsV.nil | refine' ArgsV.loc (by first | exact rfl | assumption) rfl (by decide) ?_ | refine' ArgsV.int ?_ | refine' ArgsV.bool ?_ | refine' ArgsV.none ?_)); done) ?_))
  k_with "my sub" => first | exact List.forall_mem_nil _ | (refine' List.forall_mem_cons.mpr ⟨?_, ?_⟩; (· k_mem); (· k_extra "my sub")) | (intro q hq; repeat (first | exact hq | refine List.Mem.tail _ ?_))
  k_with "call type:tuple" => (k_here; (with_reducible show wpAny _ _ (call (Value.type _) [Value.ref _]) _ _ _); k_dflt (refine tuple_list_M (by k_asm) (by k_asm) (by k_mem) (by (first | lia | omega)) ?_); intro _ _ _ _ lz9; (try k_lt lz9); (try k_sweep))
  k_with "call ref" => ((fail_if_success (k_extra "svB130")); (k_here; k_dflt (k_extra "my call B130")))
  trivial
theorem ownB13_0 : True := by
  k_with "own k_ne" => (refine neN ?_; (try dsimp only); first | (with_reducible assumption) | (refine Ne.symm ?_; with_reducible assumption))
  trivial
theorem ownB13_1 : True := by
  k_with "own k_room" => ((try simp only [depth_under_make, depth_under_kw, depth_in1, depth_deeper, recursionLimit]); (first | lia | omega))
  trivial
theorem lnB13_1 : True := by
  k_with "getAttr ref" => (k_here; k_dflt (refine getAttr_g (by k_asm) (by k_asm) (by assumption) (by assumption) (by assumption) (by k_is) (by k_is) (by k_is) (by k_is) (by k_handed) ?_; k_whole))
  k_with "getMethod ref" => (k_here; k_dflt (refine getMethod_g (by k_asm) (by k_asm) (by assumption) (by assumption) (by assumption) (by k_is) (by k_is) (by k_is) ?_; k_whole))
  k_with "compareOp In int ref" => (k_here; (refine in_chars (by k_asm) (by assumption) ?_))
  k_with "getMethod ref" => (k_here; (refine getMethod_chars (by k_asm) (by assumption) ?_))
  k_with "call builtin:dict.get" => (k_here; (refine get_chars (by k_asm) (by assumption) ?_ ?_); (all_goals intros))
  k_with "subscriptTail" => (k_here; (with_reducible show wpAny _ _ (subscriptTail _ _ (Value.ref _) (Value.int _ _)) _ _ _); k_dflt (refine item_tupleT (by exact TupP.at (Fr.keep (by k_asm)) (by assumption)) (by decide) (by decide) (by rfl) (by rfl) ?_; k_whole))
  trivial
theorem lnB13_2 : True := by
  k_with "subscriptTail" => (k_here; (with_reducible show wpAny _ _ (subscriptTail _ _ (Value.ref (FontL.tk _)) (Value.int _ _)) _ _ _); k_dflt (refine kern_item (by k_asm) (by assumption) (by first | (first | lia | omega) | (have ok' := RowM.OK.kern (by assumption) (by (first | lia | omega)) (by (first | lia | omega)); (first | lia | omega))) (by first | (first | lia | omega) | (have ok' := RowM.OK.kern (by assumption) (by (first | lia | omega)) (by (first | lia | omega)); (first | lia | omega))) ?_ (by with_unfolding_all rfl)); intros)
  k_with "subscriptTail" => (k_here; (with_reducible show wpAny _ _ (subscriptTail _ _ (Value.ref (FontL.tp _)) (Value.int _ _)) _ _ _); k_dflt (refine prog_item (by k_asm) (by assumption) (by (first | lia | omega)) (by (first | lia | omega)) (by (first | lia | omega)) ?_ (by with_unfolding_all rfl) (by (intro _; with_unfolding_all rfl))); intros)
  k_with "compareOp In int ref" => (k_here; (with_reducible show wpAny _ _ (compareOp _ (Value.int _ _) (Value.ref 392)) _ _ _); (refine' in_known (Frag.In.keeps (by k_asm) (Fr.keep (by k_asm))) ?_))
  k_with "eval Name" => (k_here; (fail_if_success (with_reducible show wpAny _ _ (eval (Expr.Name _ _) (envOfC _ _ _ _ _)) _ _ _)); (fail_if_success (with_reducible show wpAny _ _ (eval (Expr.Name _ _) (compEnvC _ _ _ _)) _ _ _)); k_dflt (refine ld (by k_asm) (by first | exact rfl | assumption) ?_; k_whole))
  trivial
/-- what run gives for the codes that are left, with a piece begun -/
inductive RunP (F : FontM) (right : Bool) : List Int → List Int → Bool → Option (List NodeP) → Prop
  | nil {pc : List Int} {hl : Bool} {r : Option (List NodeP)} : NodesR F pc hl (if right then F.boundary else 256) r → RunP F right [] pc hl r
  | has {c : Int} {cs pc : List Int} {hl : Bool} {r : Option (List NodeP)} : (F.charOf c).isSome = true → RunP F right cs (pc ++ [c]) hl r → RunP F right (c :: cs) pc hl r
  | over {c : Int} {cs pc : List Int} {hl : Bool} : (F.charOf c).isSome = false → NodesR F pc hl 256 none → RunP F right (c :: cs) pc hl none
  | lack {c : Int} {cs pc : List Int} {hl : Bool} {ns : List NodeP} {r : Option (List NodeP)} : (F.charOf c).isSome = false → NodesR F pc hl 256 (some ns) → RunP F right cs [] true r → RunP F right (c :: cs) pc hl (r.map (ns ++ ·))
section
variable {prog : Program} {w : World} {A : Around} {E : Value → Shared → Prop} {s : Shared} {h₀ h : Heap} {L D b : Addr} {m : Str → Option Value} {rest : List (Addr × Obj)} {vs us : List Value} {n n2 : Nat}
theorem extend_any {Q : Value → Shared → Prop} (F : Fr h₀ L s.heap m) (N : News h₀ L s.heap ((D, listOf vs.toArray n) :: rest)) (hb : (b, listOf us.toArray n2) ∈ rest) (hD : ∀ p ∈ rest, p.1 ≠ D) (hz : vs.length + us.length ≤ 10000000)
    (h : ∀ h' n', Fr h₀ L h' m → News h₀ L h' ((D, listOf (vs ++ us).toArray n') :: rest) → Q .none { s with heap := h' }) : wpAny (model prog w) A (call (.builtin "list.extend") [.ref D, .ref b]) Q E s := by
  have hd : ¬(!vs.toArray.isEmpty && Builtin.List.listTooLong (vs.toArray.size + us.toArray.size)) = true := by
    have : Builtin.List.listTooLong (vs.toArray.size + us.toArray.size) = false := by
      unfold Builtin.List.listTooLong
      rw [decide_eq_false_iff_not, List.size_toArray, List.size_toArray, sizeLine_eq]; (first | lia | omega)
    rw [this]; simp
  cases us with
  | nil => exact kxn_extend F N (.tail _ hb) rfl (.head hD) hd (by simp [sizeLine_eq] at *; (first | lia | omega)) (by simp [sizeLine_eq] at *; (first | lia | omega)) fun h' F' N' => h h' n F' (by simpa using N')
  | cons u us => exact kl_extend F N (.tail _ hb) (l := vs ++ u :: us) rfl (by simp) (.head hD) hd (by simp [sizeLine_eq] at *; (first | lia | omega)) (by simp [sizeLine_eq] at *; (first | lia | omega)) fun h' F' N' => h h' (n + 1) F' N'
end
theorem fresh_ne {h₀ h : Heap} {L : Addr} {a b : List (Addr × Obj)} (N : News h₀ L h a) (fr : ∀ p ∈ b, h.get? p.1 = none) : ∀ p ∈ a, ∀ q ∈ b, @Ne Nat q.1 p.1 := fun p hp q hq e => by
  have h1 := (N p hp).1
  have h2 := fr q hq
  rw [show q.1 = p.1 from e, h1] at h2; cases h2
theorem swap2 {g h : Heap} {L a b : Addr} {o o' : Obj} (N : News g L h [(b, o'), (a, o)]) : News g L h [(a, o), (b, o')] := news_sub N (List.forall_mem_cons.mpr ⟨.tail _ (.head _), List.forall_mem_cons.mpr ⟨.head _, fun _ h => nomatch h⟩⟩)
theorem fresh2 {h : Heap} {a b : Addr} {o o' q q' : Obj} {ol : List (Addr × Obj)} (f : ∀ p ∈ ((a, o) :: (b, q) :: ol), h.get? p.1 = none) : ∀ p ∈ ((a, o') :: (b, q') :: ol), h.get? p.1 = none :=
  List.forall_mem_cons.mpr ⟨f (a, o) (.head _), List.forall_mem_cons.mpr ⟨f (b, q) (.tail _ (.head _)), fun p hp => f p (.tail _ (.tail _ hp))⟩⟩
theorem hne2 {I a b : Addr} {o o' q q' : Obj} {ol : List (Addr × Obj)} (f : ∀ p ∈ ((a, o) :: (b, q) :: ol), p.1 ≠ I) : ∀ p ∈ ((a, o') :: (b, q') :: ol), p.1 ≠ I :=
  List.forall_mem_cons.mpr ⟨f (a, o) (.head _), List.forall_mem_cons.mpr ⟨f (b, q) (.tail _ (.head _)), fun p hp => f p (.tail _ (.tail _ hp))⟩⟩
theorem lnB13_3 : True := by
  k_with "call builtin:list.extend" => ((fail_if_success (k_extra "svB130")); (k_here; (k_extra "my extend B130")))
  trivial
theorem All2.append' {α : Type} {R : Value → α → Prop} {vs vs' : List Value} {as as' : List α} (x : All2 R vs as) (y : All2 R vs' as') : All2 R (vs ++ vs') (as ++ as') := y.append x
theorem base_off {A₀ : Around} {base g h : Heap} {outer : List Env} {L a : Addr} {m : Str → Option Value} {name : Str} {scope : Scope} {cd : Value} (B : Below A₀ base outer g) (F : Fr g L h m) : ∀ b o, base.get? b = some o → b ∉ (envOf name scope L a cd :: outer).filterMap (·.frame) := fun b o e hm => by
  rcases kts_mem hm with rfl | z
  · have := B.stays _ o e
    rw [kts_self F] at this; cases this
  · rw [(B.frames.mem z).1] at e; cases e
noncomputable def RunJ (w : World) (s : Shared) (fl : FontL) (F : FontM) (cl : Addr) (cs : List Int) (left right : Bool) (i : Nat) (P : (Str → Option Value) → List (Addr × Obj) → Prop) : Prop :=
  ∀ m' (hl : Bool) (fa pl : Addr) (fvs pvs : List Value) (nf np : Nat) (ol : List (Addr × Obj)) (ns : List NodeP) (pc : List Int), m' (Str.ofString "font") = some (.ref fl.x) → m' (Str.ofString "right_edge") = some (.bool right) →
    m' (Str.ofString "has_left") = some (.bool hl) → m' (Str.ofString "found") = some (.ref fa) → m' (Str.ofString "piece") = some (.ref pl) →
    (∀ p ∈ (fa, listOf fvs.toArray nf) :: (pl, listOf pvs.toArray np) :: ol, s.heap.get? p.1 = none) → @Ne Nat pl fa → (∀ p ∈ ol, @Ne Nat p.1 fa) → (∀ p ∈ ol, @Ne Nat p.1 pl) →
    All2 (NodeAt w (MemP ol) (.ref fl.x)) fvs ns → IntsV pvs pc → (∀ i ∈ pc, OctI i) → pc.length ≤ i → fvs.length ≤ 20000 * i →
    (∀ r, RunP F right (cs.drop i) pc hl r → RunP F right cs [] left (r.map (ns ++ ·))) → P m' ((fa, listOf fvs.toArray nf) :: (pl, listOf pvs.toArray np) :: ol)
theorem run_spec {w : World} {A : Around} {s : Shared} {h₀ : Heap} {L : Addr} {m : Str → Option Value} {fl : FontL} {FM : FontM} {cl : Addr} {cvs : List Value} {cs : List Int} {left right : Bool} {Q E : Value → Shared → Prop}
    (C : Cx w A h₀ L s.heap m) (hd : A.depth ≤ 315) (hu : A.units ≤ 1500) (hf : FontAt w (Gd s.heap) fl FM) (hw : FM.WF) (hl : s.heap.IsList cl cvs.toArray) (iv : IntsV cvs cs) (ho : ∀ i ∈ cs, OctI i) (hfew : cs.length ≤ 80)
    (ret : ∀ (nodes : List NodeP) (fa : Addr) (fvs : List Value) (nf : Nat) (ol : List (Addr × Obj)) (h' : Heap) (tk' : Tok), RunP FM right cs [] left (some nodes) → Fr h₀ L h' m → News h₀ L h' ((fa, listOf fvs.toArray nf) :: ol) → (∀ p ∈ ((fa, listOf fvs.toArray nf) :: ol), s.heap.get? p.1 = none) → (∀ p ∈ ol, p.1 ≠ fa) → All2 (NodeAt w (MemP ol) (.ref fl.x)) fvs nodes → fvs.length ≤ 2000000 → Kept s.heap [] h' → Q (.ref fa) { s with heap := h', toks := tk' })
    (retE : ∀ (l : List Env) (e t : Addr) (vs : List Value) (h' : Heap) (tk' : Tok), RunP FM right cs [] left none → A.frames = some l → Raised l s.heap e t vs h' → E (.ref e) { s with heap := h', toks := tk' }) :
    wpAny (model PySem.Challenge.rw_sq0044_01.row.prog w) A (call (.ref 454) [.ref fl.x, .ref cl, .bool left, .bool right]) Q E s := by
  refine wpAny_call ?_
  have N0 : News h₀ L s.heap [] := News.nil
  refine Cx.form_ C ?_; intro dp un gd env0 outer0 eA9; subst eA9; (try dsimp only at hd); (try dsimp only at hu); k_dflt (refine' enter (binds := [(Str.ofString "font", .ref fl.x), (Str.ofString "codes", .ref cl), (Str.ofString "left_edge", .bool left), (Str.ofString "right_edge", .bool right)]) ?k1 ?k2 ?k6 ?k7 ?k8 ?k9 ?kB ?_ ?c2 ?c3 ?c4 ?c5; (case k1 => assumption); (case k2 => assumption); (case k6 => k_is); (case k7 => k_is); (case k8 => (first | exact le_up (d := 1) hd rfl | exact le_up (d := 2) hd rfl | (simp only [depth_under_make, depth_under_kw, recursionLimit]; (first | lia | omega)))); (case k9 => first | exact BindsTo.of_eq rfl | exact binds_K (Cx.inK (by assumption)) rfl (by k_is) rfl rfl rfl); (case c5 => decide); (case kB => exact locs rfl); (case c2 => exact rfl); (case c3 => exact rfl); (case c4 => exact rfl)); intro base outer p loose mean mg mb g L' hB1 FG F NB G B X T hh; obtain rfl : env0 :: outer0 = outer := Option.some.inj B.stack; (try dsimp only); (try k_fold)
  have hg : FontAt w (Gd g) fl FM := hf.mono fun a o e => G a o e (by simp)
  have i1 := hg.inst
  have i2 := hg.dict
  have i5 := hg.nhas
  have kg : ∀ b o, s.heap.get? b = some o → g.get? b = some o := fun b o e => G b o e (by simp)
  have hlg : g.IsList cl cvs.toArray := hl.at fun o e => kg _ o e
  k_with "svB130" => skip
  k_with "call ref" => ((fail_if_success (k_extra "svB131")); (k_here; k_dflt (k_extra "my call B131")))
  k_with "call builtin:list.extend" => ((fail_if_success (k_extra "svB131")); (k_here; (k_extra "my extend B131")))
  repeat' ((fail_if_success (with_reducible show wpAny _ _ (exec (Stmt.For _ _ _ _ _) _) _ _ _)); first | (k_unfold; (try dsimp only)) | (dsimp only; k_unfold; (try dsimp only)) | ((fail_if_success (with_reducible show Exists _)); (fail_if_success (with_reducible show LeaveK h₀ L m g _ _ _)); first | walk1 | (dsimp only; (fail_if_success (with_reducible show Exists _)); (fail_if_success (with_reducible show LeaveK h₀ L m g _ _ _)); walk1)))
  refine For_invV g (by rfl) (by rfl) ?_
  repeat' ((fail_if_success (with_reducible show wpAny _ _ (pyIter _) _ _ _)); first | (k_unfold; (try dsimp only)) | (dsimp only; k_unfold; (try dsimp only)) | ((fail_if_success (with_reducible show Exists _)); (fail_if_success (with_reducible show LeaveK h₀ L m g _ _ _)); first | walk1 | (dsimp only; (fail_if_success (with_reducible show Exists _)); (fail_if_success (with_reducible show LeaveK h₀ L m g _ _ _)); walk1)))
  refine iter_list_C hh (by k_asm) (by k_asm) hlg (fun _ P => ∀ m', m' (Str.ofString "font") = some (.ref fl.x) → m' (Str.ofString "codes") = some (.ref cl) → m' (Str.ofString "left_edge") = some (.bool left) → m' (Str.ofString "right_edge") = some (.bool right) → P m' []) (fun P k => k _ rfl rfl rfl rfl) ?_ ?_
  · intro i v h4 tk4 I oI hi m₄ e1 e2 e3 e4 hne F4 N4
    obtain ⟨n, t, rfl, hn⟩ := iv.at hi
    obtain ⟨o1, o2⟩ := ho n (List.mem_of_getElem? hn)
    k_with "svB131" => skip
    k_with "call ref" => ((fail_if_success (k_extra "svB132")); (k_here; k_dflt (k_extra "my call B132")))
    k_with "call builtin:list.extend" => ((fail_if_success (k_extra "svB132")); (k_here; (k_extra "my extend B132")))
    k_with "my ite B132" => (refine split_dec ?_ ?_ <;> intro hz9 <;> first | (exfalso; (first | lia | omega)) | skip)
    k_with "my call B132" => (refine is_whole_spec (Cx.deeper (by k_asm) (by k_asm) (by k_asm) (by k_asm) (by k_asm) rfl) (by first | exact le_up (d := 1) hd rfl | (simp only [depth_deeper]; (first | lia | omega))) ?_; intro hw1 tkw Fw Kw; have Nw := news_keep0 (by k_asm) Kw; (try k_sweep); rw [decide_eq_true o1, decide_eq_true o2])
    repeat' (first | (k_unfold; (try dsimp only)) | (dsimp only; k_unfold; (try dsimp only)) | ((fail_if_success (with_reducible show Exists _)); (fail_if_success (with_reducible show LeaveK h₀ L m g _ _ _)); first | walk1 | (dsimp only; (fail_if_success (with_reducible show Exists _)); (fail_if_success (with_reducible show LeaveK h₀ L m g _ _ _)); walk1)))
    (with_reducible rename Fr _ _ _ _ => F8); (with_reducible rename News _ _ _ _ => N8)
    exact ⟨_, _, _, [], rfl, F8, N8, (fun _ h => nomatch h), fun P k => k _ e1 e2 e3 e4⟩
  · intro h5 tk5 m5 e1 e2 e3 e4 F5 N5
    repeat' ((fail_if_success (with_reducible show wpAny _ _ (exec (Stmt.For _ _ _ _ _) _) _ _ _)); first | (k_unfold; (try dsimp only)) | (dsimp only; k_unfold; (try dsimp only)) | ((fail_if_success (with_reducible show Exists _)); (fail_if_success (with_reducible show LeaveK h₀ L m g _ _ _)); first | walk1 | (dsimp only; (fail_if_success (with_reducible show Exists _)); (fail_if_success (with_reducible show LeaveK h₀ L m g _ _ _)); walk1)))
    refine For_invV g (by rfl) (by rfl) ?_
    repeat' ((fail_if_success (with_reducible show wpAny _ _ (pyIter _) _ _ _)); first | (k_unfold; (try dsimp only)) | (dsimp only; k_unfold; (try dsimp only)) | ((fail_if_success (with_reducible show Exists _)); (fail_if_success (with_reducible show LeaveK h₀ L m g _ _ _)); first | walk1 | (dsimp only; (fail_if_success (with_reducible show Exists _)); (fail_if_success (with_reducible show LeaveK h₀ L m g _ _ _)); walk1)))
    (with_reducible rename Fr _ _ _ _ => F6); (with_reducible rename News _ _ _ _ => N6)
    have N7 := swap2 N6
    refine iter_list_C hh F6 N7 hlg (RunJ w s fl FM cl cs left right) ?_ ?_ ?_
    · exact fun P k => k _ left _ _ [] [] 0 0 [] [] [] e1 e4 rfl rfl rfl (fun p hp => kts_none kg (N7 p hp).2.2) (Ne.symm (Nat.ne_of_lt (by assumption))) (fun _ h => nomatch h) (fun _ h => nomatch h) .nil .nil (fun _ h => nomatch h) (by simp) (by simp) fun r hr => by cases r <;> exact hr
    · intro i v h4 tk4 I oI hi
      intro m₄ hl fa pl fvs pvs nf np ol ns pc e1 e2 e3 e4 e5 fr d1 d2 d3 A2 iv2 ho2 hlen hfl hr hne F4 N4
      obtain ⟨n, t, rfl, hn⟩ := iv.at hi
      have hoct := ho n (List.mem_of_getElem? hn)
      obtain ⟨hil, hie⟩ := List.getElem?_eq_some_iff.mp hn
      rw [List.drop_eq_getElem_cons hil, hie] at hr
      have n1 : @Ne Nat fa I := hne _ (.head _)
      have n2 : @Ne Nat pl I := hne _ (.tail _ (.head _))
      have hpl : pvs.length ≤ 80 := by have := iv2.1; (first | lia | omega)
      cases hx : (FM.charOf n).isSome
      all_goals (
        k_with "svB132" => skip
        k_with "call ref" => ((fail_if_success (k_extra "svB133")); (k_here; k_dflt (k_extra "my call B133")))
        k_with "call builtin:list.extend" => ((fail_if_success (k_extra "svB133")); (k_here; (k_extra "my extend B133")))
        k_with "my call B133" => (refine has_spec (Cx.deeper (by k_asm) (by k_asm) (by k_asm) (by k_asm) (by k_asm) rfl) (by first | exact le_up (d := 1) hd rfl | (simp only [depth_deeper]; (first | lia | omega))) (hg.mono fun a o e => F4.keep a o e) ?_; intro hw1 tkw Fw Kw; have Nw := news_keep0 N4 Kw; (try k_sweep); rw [hx])
        repeat' ((fail_if_success (with_reducible show wpAny _ _ (exec (Stmt.Expr _ _) _) _ _ _)); first | (k_unfold; (try dsimp only)) | (dsimp only; k_unfold; (try dsimp only)) | ((fail_if_success (with_reducible show Exists _)); (fail_if_success (with_reducible show LeaveK h₀ L m g _ _ _)); first | walk1 | (dsimp only; (fail_if_success (with_reducible show Exists _)); (fail_if_success (with_reducible show LeaveK h₀ L m g _ _ _)); walk1))))
      · repeat' ((fail_if_success (with_reducible show wpAny _ _ (call (Value.ref 446) _) _ _ _)); first | (k_unfold; (try dsimp only)) | (dsimp only; k_unfold; (try dsimp only)) | ((fail_if_success (with_reducible show Exists _)); (fail_if_success (with_reducible show LeaveK h₀ L m g _ _ _)); first | walk1 | (dsimp only; (fail_if_success (with_reducible show Exists _)); (fail_if_success (with_reducible show LeaveK h₀ L m g _ _ _)); walk1)))
        (with_reducible rename Fr _ _ _ _ => F7); (with_reducible rename News _ _ _ _ => N7)
        refine word_nodes_spec (Cx.deeper (by k_asm) (by k_asm) (by k_asm) (by k_asm) (by k_asm) rfl) (by first | exact le_up (d := 1) hd rfl | (simp only [depth_deeper]; (first | lia | omega))) (by first | exact le_up (d := 3) hu rfl | (simp only [units_deeper]; (first | lia | omega))) (hg.mono fun a o e => F7.keep a o e) hw (News.isList N7 (by k_mem)) iv2 ho2 (by (first | lia | omega)) ?_ ?_
        · intro nodes fa2 fvs2 nf2 ol2 hB tkB hnr Fw Nw1 fr2 ne2 al2 hlen2 Kw
          have Nw2 := news_app Nw1 (news_keep0 N7 Kw)
          have fz := fresh_ne N7 fr2
          have fr3 : ∀ p ∈ (fa2, listOf fvs2.toArray nf2) :: ol2, s.heap.get? p.1 = none := fun p hp => kts_none (fun b o e => F7.keep b o (kg b o e)) (fr2 p hp)
          have Nw3 : News g L' hB ((fa, listOf fvs.toArray nf) :: ((fa2, listOf fvs2.toArray nf2) :: (ol2 ++ ((I, oI) :: (pl, listOf pvs.toArray np) :: ol)))) := news_sub Nw2 (List.forall_mem_cons.mpr ⟨List.mem_append_right _ (.tail _ (.head _)), fun p hp => by
            rcases List.mem_cons.mp hp with rfl | hp
            · exact .head _
            rcases List.mem_append.mp hp with hp | hp
            · exact .tail _ (List.mem_append_left _ hp)
            · refine List.mem_append_right _ ?_
              rcases List.mem_cons.mp hp with rfl | hp
              · exact .head _
              · exact .tail _ (.tail _ hp)⟩)
          have hD : ∀ p ∈ ((fa2, listOf fvs2.toArray nf2) :: (ol2 ++ ((I, oI) :: (pl, listOf pvs.toArray np) :: ol))), @Ne Nat p.1 fa := List.forall_mem_cons.mpr ⟨fz _ (.tail _ (.head _)) _ (.head _), fun p hp => by
            rcases List.mem_append.mp hp with hp | hp
            · exact fz _ (.tail _ (.head _)) _ (.tail _ hp)
            rcases List.mem_cons.mp hp with rfl | hp
            · exact Ne.symm n1
            rcases List.mem_cons.mp hp with rfl | hp
            · exact d1
            · exact d2 p hp⟩
          have hfit : fvs.length + fvs2.length ≤ 20000 * (i + 1) := by (first | lia | omega)
          have hfit2 : i + 1 ≤ 80 := by (first | lia | omega)
          k_with "my extend B133" => (refine extend_any Fw Nw3 (.head _) hD (by (first | lia | omega)) ?_; intro h3 n3 F3 N3; clear Fw Nw3)
          clear Nw1 Nw2 N7 F7 Kw
          repeat' (first | (k_unfold; (try dsimp only)) | (dsimp only; k_unfold; (try dsimp only)) | ((fail_if_success (with_reducible show Exists _)); (fail_if_success (with_reducible show LeaveK h₀ L m g _ _ _)); first | walk1 | (dsimp only; (fail_if_success (with_reducible show Exists _)); (fail_if_success (with_reducible show LeaveK h₀ L m g _ _ _)); walk1)))
          (with_reducible rename Fr _ _ _ _ => F8); (with_reducible rename News _ _ _ _ => N8)
          obtain ⟨la, lb, lc⟩ := (by assumption : fa < _ ∧ fa2 < _ ∧ AllLt _ _)
          have lc' := allLt_mem lc
          refine ⟨_, _, _, (fa, listOf (fvs ++ fvs2).toArray n3) :: (_, listOf ([] : List Value).toArray 0) :: ((fa2, listOf fvs2.toArray nf2) :: (ol2 ++ ol)), rfl, F8, ?_, ?_, fun P k => k _ true fa _ (fvs ++ fvs2) [] n3 0 _ (ns ++ nodes) [] e1 e2 rfl e4 rfl ?_ (Ne.symm (Nat.ne_of_lt la)) ?_ ?_ ?_ .nil (fun _ h => nomatch h) (by simp) (by rw [List.length_append]; exact hfit) ?_⟩
          · refine news_sub N8 (List.forall_mem_cons.mpr ⟨.tail _ (.tail _ (.tail _ (List.mem_append_right _ (.head _)))), List.forall_mem_cons.mpr ⟨.tail _ (.head _), List.forall_mem_cons.mpr ⟨.head _, List.forall_mem_cons.mpr ⟨.tail _ (.tail _ (.head _)), fun p hp => .tail _ (.tail _ (.tail _ ?_))⟩⟩⟩⟩)
            rcases List.mem_append.mp hp with hp | hp
            · exact List.mem_append_left _ hp
            · exact List.mem_append_right _ (.tail _ (.tail _ hp))
          · refine List.forall_mem_cons.mpr ⟨n1, List.forall_mem_cons.mpr ⟨Ne.symm (Nat.ne_of_lt (lc' (I, oI) (List.mem_append_right _ (.head _)))), List.forall_mem_cons.mpr ⟨fz _ (.head _) _ (.head _), fun p hp => ?_⟩⟩⟩
            rcases List.mem_append.mp hp with hp | hp
            · exact fz _ (.head _) _ (.tail _ hp)
            · exact hne p (.tail _ (.tail _ hp))
          · refine List.forall_mem_cons.mpr ⟨fr (fa, listOf fvs.toArray nf) (.head _), List.forall_mem_cons.mpr ⟨kts_none kg (N8 _ (.head _)).2.2, List.forall_mem_cons.mpr ⟨fr3 _ (.head _), fun p hp => ?_⟩⟩⟩
            rcases List.mem_append.mp hp with hp | hp
            · exact fr3 p (.tail _ hp)
            · exact fr p (.tail _ (.tail _ hp))
          · refine List.forall_mem_cons.mpr ⟨hD _ (.head _), fun p hp => ?_⟩
            rcases List.mem_append.mp hp with hp | hp
            · exact hD p (.tail _ (List.mem_append_left _ hp))
            · exact d2 p hp
          · refine List.forall_mem_cons.mpr ⟨Nat.ne_of_lt lb, fun p hp => ?_⟩
            rcases List.mem_append.mp hp with hp | hp
            · exact Nat.ne_of_lt (lc' p (List.mem_append_left _ hp))
            · exact Nat.ne_of_lt (lc' p (List.mem_append_right _ (.tail _ (.tail _ hp))))
          · exact (al2.mono fun _ _ h => h.mono fun _ _ h => .tail _ (List.mem_append_left _ h)).append (A2.mono fun _ _ h => h.mono fun _ _ h => .tail _ (List.mem_append_right _ h))
          · intro r hrr
            have := hr _ (.lack hx hnr hrr)
            rw [Option.map_map] at this
            simpa only [Function.comp_def, List.append_assoc] using this
        · intro l e t vs h' tk' hnr hfr RR
          obtain rfl := Option.some.inj (hfr.symm.trans (Around.frames_deeper B.stack))
          obtain ⟨RS, us⟩ := RR.toS (base := base) (fun b o e => F7.keep b o (B.stays b o e)) (base_off B F7)
          refine leave_onS B F7 RS us ?_
          intro h'' R2 _ u2
          exact retE _ e t vs h'' _ (hr _ (.over hx hnr)) rfl (Raised.of R2 u2 kg)
      · repeat' (first | (k_unfold; (try dsimp only)) | (dsimp only; k_unfold; (try dsimp only)) | ((fail_if_success (with_reducible show Exists _)); (fail_if_success (with_reducible show LeaveK h₀ L m g _ _ _)); first | walk1 | (dsimp only; (fail_if_success (with_reducible show Exists _)); (fail_if_success (with_reducible show LeaveK h₀ L m g _ _ _)); walk1)))
        (with_reducible rename Fr _ _ _ _ => F8); (with_reducible rename News _ _ _ _ => N8)
        rw [List.push_toArray] at N8
        exact ⟨_, _, _, _, rfl, F8, N8, hne2 hne, fun P k => k _ hl fa pl fvs (pvs ++ [.int n t]) nf (np + 1) ol ns (pc ++ [n]) (by exact e1) (by exact e2) (by exact e3) (by exact e4) (by exact e5) (fresh2 fr) d1 d2 d3 A2 (iv2.append (IntsV.one n t)) (fun i hi => by rcases List.mem_append.mp hi with hi | hi <;> first | exact ho2 i hi | (rw [List.mem_singleton.mp hi]; exact hoct)) (by simp only [List.length_append, List.length_cons, List.length_nil]; (first | lia | omega)) (by (first | lia | omega)) fun r hrr => hr r (.has hx hrr)⟩
    · intro h6 tk6 m6 hl fa pl fvs pvs nf np ol ns pc e1 e2 e3 e4 e5 fr d1 d2 d3 A2 iv2 ho2 hlen hfl hr F6 N6
      rw [show cvs.length = cs.length from iv.1] at hr hlen hfl
      rw [List.drop_length] at hr
      have i6 := hg.gbound
      cases right
      all_goals (
        k_with "svB133" => skip
        k_with "call ref" => ((fail_if_success (k_extra "svB134")); (k_here; k_dflt (k_extra "my call B134")))
        k_with "call builtin:list.extend" => ((fail_if_success (k_extra "svB134")); (k_here; (k_extra "my extend B134")))
        repeat' ((fail_if_success (with_reducible show wpAny _ _ (call (Value.ref 446) _) _ _ _)); first | (k_unfold; (try dsimp only)) | (dsimp only; k_unfold; (try dsimp only)) | ((fail_if_success (with_reducible show Exists _)); (fail_if_success (with_reducible show LeaveK h₀ L m g _ _ _)); first | walk1 | (dsimp only; (fail_if_success (with_reducible show Exists _)); (fail_if_success (with_reducible show LeaveK h₀ L m g _ _ _)); walk1)))
        (with_reducible rename Fr _ _ _ _ => F7); (with_reducible rename News _ _ _ _ => N7)
        refine word_nodes_spec (Cx.deeper (by k_asm) (by k_asm) (by k_asm) (by k_asm) (by k_asm) rfl) (by first | exact le_up (d := 1) hd rfl | (simp only [depth_deeper]; (first | lia | omega))) (by first | exact le_up (d := 3) hu rfl | (simp only [units_deeper]; (first | lia | omega))) (hg.mono fun a o e => F7.keep a o e) hw (News.isList N7 (by k_mem)) iv2 ho2 (by (first | lia | omega)) ?_ ?_
        · intro nodes fa2 fvs2 nf2 ol2 hB tkB hnr Fw Nw1 fr2 ne2 al2 hlen2 Kw
          have Nw2 := news_app Nw1 (news_keep0 N7 Kw)
          have fz := fresh_ne N7 fr2
          have fr3 : ∀ p ∈ (fa2, listOf fvs2.toArray nf2) :: ol2, s.heap.get? p.1 = none := fun p hp => kts_none (fun b o e => F7.keep b o (kg b o e)) (fr2 p hp)
          have Nw3 : News g L' hB ((fa, listOf fvs.toArray nf) :: ((fa2, listOf fvs2.toArray nf2) :: (ol2 ++ ol))) := news_sub Nw2 (List.forall_mem_cons.mpr ⟨List.mem_append_right _ (.head _), fun p hp => by
            rcases List.mem_cons.mp hp with rfl | hp
            · exact .head _
            rcases List.mem_append.mp hp with hp | hp
            · exact .tail _ (List.mem_append_left _ hp)
            · exact List.mem_append_right _ (.tail _ (.tail _ hp))⟩)
          have hD : ∀ p ∈ ((fa2, listOf fvs2.toArray nf2) :: (ol2 ++ ol)), @Ne Nat p.1 fa := List.forall_mem_cons.mpr ⟨fz _ (.head _) _ (.head _), fun p hp => by
            rcases List.mem_append.mp hp with hp | hp
            · exact fz _ (.head _) _ (.tail _ hp)
            · exact d2 p hp⟩
          have hfit : fvs.length + fvs2.length ≤ 20000 * (cs.length + 1) := by (first | lia | omega)
          k_with "my extend B134" => (refine extend_any Fw Nw3 (.head _) hD (by (first | lia | omega)) ?_; intro h3 n3 F3 N3; clear Fw Nw3)
          clear Nw1 Nw2 N7 F7 Kw
          repeat' (first | (k_unfold; (try dsimp only)) | (dsimp only; k_unfold; (try dsimp only)) | ((fail_if_success (with_reducible show Exists _)); (fail_if_success (with_reducible show LeaveK h₀ L m g _ _ _)); first | walk1 | (dsimp only; (fail_if_success (with_reducible show Exists _)); (fail_if_success (with_reducible show LeaveK h₀ L m g _ _ _)); walk1)))
          ((try dsimp only); (try k_unfold); (try dsimp only); (with_reducible rename Fr _ _ _ _ => cF); (with_reducible rename News _ _ _ _ => cN); refine leaveK_ cF cN ?_; intro kF kN; (try dsimp only [InitBack]); (try refine ⟨rfl, ?_⟩); (try dsimp only))
          refine ret (ns ++ nodes) fa (fvs ++ fvs2) n3 ((fa2, listOf fvs2.toArray nf2) :: (ol2 ++ ol)) _ _ (hr _ (.nil hnr)) kF (news_sub kN (fun p hp => by assumption)) ?_ hD ?_ ?_ (fun b o e _ => cF.keep b o (kg b o e))
          · refine List.forall_mem_cons.mpr ⟨fr (fa, listOf fvs.toArray nf) (.head _), List.forall_mem_cons.mpr ⟨fr3 _ (.head _), fun p hp => ?_⟩⟩
            rcases List.mem_append.mp hp with hp | hp
            · exact fr3 p (.tail _ hp)
            · exact fr p (.tail _ (.tail _ hp))
          · exact (A2.mono fun _ _ h => h.mono fun _ _ h => .tail _ (List.mem_append_right _ h)).append' (al2.mono fun _ _ h => h.mono fun _ _ h => .tail _ (List.mem_append_left _ h))
          · rw [List.length_append]; (first | lia | omega)
        · intro l e t vs h' tk' hnr hfr RR
          obtain rfl := Option.some.inj (hfr.symm.trans (Around.frames_deeper B.stack))
          obtain ⟨RS, us⟩ := RR.toS (base := base) (fun b o e => F7.keep b o (B.stays b o e)) (base_off B F7)
          refine leave_onS B F7 RS us ?_
          intro h'' R2 _ u2
          exact retE _ e t vs h'' _ (hr _ (.nil hnr)) rfl (Raised.of R2 u2 kg))
end Mine
theorem Mine.fresh_B14 : True := by w_top off; k_with_none; trivial
namespace Mine
theorem fill_once14 (P : Params) : Mine.kk.heap_1 P = Mine.kk.heap_1 P ∧ PySem.Challenge.rw_sq0044_01 = PySem.Challenge.rw_sq0044_01 := by
  k_fill
  exact ⟨rfl, rfl⟩
theorem lnB14_0 : True := by
  k_with "execs cons" => (k_here; (with_reducible refine PySem.wpAny_execs_cons ?_); (try dsimp only); k_fold)
  k_with "execs cons" => (k_here; (with_reducible refine toks_gen ?_); intro _)
  k_with "eval Call" => (k_here; (with_reducible show wpAny _ _ (eval (Expr.Call (Expr.Name _ _) _ [] _) (envOf _ _ _ _ _)) _ _ _); k_dflt (refine call_named (by k_asm) (by k_asm) (by k_asm) (by k_is) (by k_is) (by (repeat' (first | exact ArgsV.nil | refine' ArgsV.loc (by first | exact rfl | assumption) rfl (by decide) ?_ | refine' ArgsV.int ?_ | refine' ArgsV.bool ?_ | refine' ArgsV.none ?_)); done) ?_))
  k_with "my sub" => first | exact List.forall_mem_nil _ | (refine' List.forall_mem_cons.mpr ⟨?_, ?_⟩; (· k_mem); (· k_extra "my sub")) | (intro q hq; repeat (first | exact hq | refine List.Mem.tail _ ?_))
  k_with "call type:tuple" => (k_here; (with_reducible show wpAny _ _ (call (Value.type _) [Value.ref _]) _ _ _); k_dflt (refine tuple_list_M (by k_asm) (by k_asm) (by k_mem) (by (first | lia | omega)) ?_); intro _ _ _ _ lz9; (try k_lt lz9); (try k_sweep))
  k_with "call ref" => ((fail_if_success (k_extra "svB140")); (k_here; k_dflt (k_extra "my call B140")))
  trivial
theorem ownB14_0 : True := by
  k_with "own k_ne" => (refine neN ?_; (try dsimp only); first | (with_reducible assumption) | (refine Ne.symm ?_; with_reducible assumption))
  trivial
theorem ownB14_1 : True := by
  k_with "own k_room" => ((try simp only [depth_under_make, depth_under_kw, depth_in1, depth_deeper, recursionLimit]); (first | lia | omega))
  trivial
theorem lnB14_1 : True := by
  k_with "getAttr ref" => (k_here; k_dflt (refine getAttr_g (by k_asm) (by k_asm) (by assumption) (by assumption) (by assumption) (by k_is) (by k_is) (by k_is) (by k_is) (by k_handed) ?_; k_whole))
  k_with "getMethod ref" => (k_here; k_dflt (refine getMethod_g (by k_asm) (by k_asm) (by assumption) (by assumption) (by assumption) (by k_is) (by k_is) (by k_is) ?_; k_whole))
  k_with "compareOp In int ref" => (k_here; (refine in_chars (by k_asm) (by assumption) ?_))
  k_with "getMethod ref" => (k_here; (refine getMethod_chars (by k_asm) (by assumption) ?_))
  k_with "call builtin:dict.get" => (k_here; (refine get_chars (by k_asm) (by assumption) ?_ ?_); (all_goals intros))
  k_with "subscriptTail" => (k_here; (with_reducible show wpAny _ _ (subscriptTail _ _ (Value.ref _) (Value.int _ _)) _ _ _); k_dflt (refine item_tupleT (by exact TupP.at (Fr.keep (by k_asm)) (by assumption)) (by decide) (by decide) (by rfl) (by rfl) ?_; k_whole))
  trivial
theorem lnB14_2 : True := by
  k_with "subscriptTail" => (k_here; (with_reducible show wpAny _ _ (subscriptTail _ _ (Value.ref (FontL.tk _)) (Value.int _ _)) _ _ _); k_dflt (refine kern_item (by k_asm) (by assumption) (by first | (first | lia | omega) | (have ok' := RowM.OK.kern (by assumption) (by (first | lia | omega)) (by (first | lia | omega)); (first | lia | omega))) (by first | (first | lia | omega) | (have ok' := RowM.OK.kern (by assumption) (by (first | lia | omega)) (by (first | lia | omega)); (first | lia | omega))) ?_ (by with_unfolding_all rfl)); intros)
  k_with "subscriptTail" => (k_here; (with_reducible show wpAny _ _ (subscriptTail _ _ (Value.ref (FontL.tp _)) (Value.int _ _)) _ _ _); k_dflt (refine prog_item (by k_asm) (by assumption) (by (first | lia | omega)) (by (first | lia | omega)) (by (first | lia | omega)) ?_ (by with_unfolding_all rfl) (by (intro _; with_unfolding_all rfl))); intros)
  k_with "compareOp In int ref" => (k_here; (with_reducible show wpAny _ _ (compareOp _ (Value.int _ _) (Value.ref 392)) _ _ _); (refine' in_known (Frag.In.keeps (by k_asm) (Fr.keep (by k_asm))) ?_))
  k_with "eval Name" => (k_here; (fail_if_success (with_reducible show wpAny _ _ (eval (Expr.Name _ _) (envOfC _ _ _ _ _)) _ _ _)); (fail_if_success (with_reducible show wpAny _ _ (eval (Expr.Name _ _) (compEnvC _ _ _ _)) _ _ _)); k_dflt (refine ld (by k_asm) (by first | exact rfl | assumption) ?_; k_whole))
  trivial
/-- all that is no frame stands as it stood -/
noncomputable def KeptF (fs : List Addr) (h h' : Heap) : Prop := ∀ b o, h.get? b = some o → b ∉ fs → h'.get? b = some o
/-- the place of a call whose frames may be turned -/
noncomputable def CxT (w : World) (A : Around) (fs : List Addr) (h₀ : Heap) (L : Addr) (h : Heap) (m : Str → Option Value) : Prop :=
  ∃ (A₀ : Around) (base : Heap) (outer : List Env) (env : Env) (p : Program) (loose : List Str) (mean : ExcName → Option Value) (mg mb : Str → Option Value),
    Below A₀ base outer h₀ ∧ Fr h₀ L h m ∧ (Mine.kk.heap_1 w.params).In base ∧ Top p loose mean mg mb base ∧ A.frames = some (env :: outer) ∧ env.frame = some L ∧ env.scope.kind = .function ∧ A.handled = none ∧
    KtsDicts (outer.filterMap (·.frame)) h₀ ∧ outer.filterMap (·.frame) = fs
theorem CxT.cx {w : World} {A : Around} {fs : List Addr} {h₀ h : Heap} {L : Addr} {m : Str → Option Value} (C : CxT w A fs h₀ L h m) : Cx w A h₀ L h m := by
  obtain ⟨A₀, base, outer, env, p, loose, mean, mg, mb, B, F, X, T, hA, hf, hke, hh, D, e⟩ := C
  exact ⟨A₀, base, outer, env, p, loose, mean, mg, mb, B, F, X.keeps B.stays, T.keeps B.stays, hA, hf, hke, hh⟩
theorem below_turn {A₀ : Around} {base g g' : Heap} {outer : List Env} {fs : List Addr} (B : Below A₀ base outer g) (T : KtsTurn fs g g') (e : outer.filterMap (·.frame) = fs) : Below A₀ base outer g' :=
  ⟨B.stack, fun b o q => T.other b o (B.stays b o q) (fun hm => by
    rw [← e] at hm
    rw [(B.frames.mem hm).1] at q
    cases q), B.frames.of_keeps fun b o q _ => by
    obtain ⟨sl', hs'⟩ := T.up q
    exact ⟨_, hs', rfl⟩⟩
theorem CxT.deeper {w : World} {A : Around} {fs : List Addr} {g h base : Heap} {outer : List Env} {L f : Addr} {m : Str → Option Value} {qual : Str} {scope : Scope} {cdv : Value} {p : Program} {loose : List Str} {mean : ExcName → Option Value} {mg mb : Str → Option Value}
    (B : Below A base outer g) (F : Fr g L h m) (X : (Mine.kk.heap_1 w.params).In base) (T : Top p loose mean mg mb base) (hh : A.handled = none) (D : KtsDicts (outer.filterMap (·.frame)) g) (e : outer.filterMap (·.frame) = fs) (hk : scope.kind = .function) : CxT w (A.deeper (envOf qual scope L f cdv)) fs g L h m :=
  ⟨A, base, outer, envOf qual scope L f cdv, p, loose, mean, mg, mb, B, F, X, T, Around.frames_deeper B.stack, rfl, hk, hh, D, e⟩
/-- out of a frame whose outer frames may be turned -/
noncomputable def LeaveT (fs : List Addr) (h₀ : Heap) (L : Addr) (m : Str → Option Value) (g : Heap) (R : Result → Shared → Prop) (v : Value) (s' : Shared) : Prop :=
  ∃ g' L' m' news', KtsTurn (L :: fs) g g' ∧ Fr g' L' s'.heap m' ∧ News g' L' s'.heap news' ∧ ∀ h₀', KtsTurn fs h₀ h₀' → Fr h₀' L s'.heap m → News h₀' L s'.heap news' → R (.ok (.ret v)) s'
theorem leaveT_ {fs : List Addr} {h₀ g g' : Heap} {L L' : Addr} {m m' : Str → Option Value} {news' : List (Addr × Obj)} {R : Result → Shared → Prop} {v : Value} {s' : Shared} (T : KtsTurn (L :: fs) g g') (F' : Fr g' L' s'.heap m') (N' : News g' L' s'.heap news')
    (k : ∀ h₀', KtsTurn fs h₀ h₀' → Fr h₀' L s'.heap m → News h₀' L s'.heap news' → R (.ok (.ret v)) s') : LeaveT fs h₀ L m g R v s' := ⟨g', L', m', news', T, F', N', k⟩
theorem enterT {w : World} {A : Around} {s : Shared} {fs : List Addr} {h₀ : Heap} {L : Addr} {m : Str → Option Value} {R : Result → Shared → Prop}
    {name qual : Str} {params : Arguments} {body : List Stmt} {scope : Scope} {dV kV doc pm cdv ct oc : Value} {an od : Option Addr} {osl : Array (Option Value)} {f : Addr} {args : Args} {binds : List (Str × Value)}
    (C : CxT w A fs h₀ L s.heap m)
    (ho : (Mine.kk.heap_1 w.params).lookup f = some ⟨oc, od, .func (fnOf name qual params body scope dV kV doc pm an cdv ct), osl⟩) (hcd : codeIn (Mine.kk.heap_1 w.params) cdv qual = true) (hroom : A.depth < recursionLimit)
    (hbind : BindsTo s (fnOf name qual params body scope dV kV doc pm an cdv ct) args binds) (hloc : ∀ y ∈ binds, scope.names.lookup y.1 = some .local)
    (h : ∀ (base : Heap) (outer : List Env) (p : Program) (loose : List Str) (mean : ExcName → Option Value) (mg mb : Str → Option Value) (L' : Addr) (h₁ : Heap),
      Fr h₀ L s.heap m → Fr s.heap L' h₁ (fun y => binds.reverse.lookup y) → Below A base outer s.heap → (Mine.kk.heap_1 w.params).In s.heap → Top p loose mean mg mb s.heap → A.handled = none →
      (Mine.kk.heap_1 w.params).In base → Top p loose mean mg mb base → KtsDicts (outer.filterMap (·.frame)) s.heap → outer.filterMap (·.frame) = L :: fs →
      wpAny (model PySem.Challenge.rw_sq0044_01.row.prog w) (A.deeper (envOf qual scope L' f cdv)) (execs body (envOf qual scope L' f cdv))
        (fun fl s' => LeaveT fs h₀ L m s.heap R (match fl with | .ret v => v | _ => .none) s')
        (fun e s' => wpAny (model PySem.Challenge.rw_sq0044_01.row.prog w) (A.deeper (envOf qual scope L' f cdv)) (leaving (envOf qual scope L' f cdv) e) (fun _ s'' => R (.error e) s'') (fun e' s'' => R (.error e') s'') s')
        { s with heap := h₁, toks := s.toks + binds.length })
    (hco : scope.isCoroutine = false) (hgen : scope.isGenerator = false) (hk : scope.kind = .function)
    (hcell : ∀ x ∈ scope.names, x.2 ≠ .cell) : codeAny (model PySem.Challenge.rw_sq0044_01.row.prog w) A (.call (.ref f) args) R s := by
  obtain ⟨A₀, base, outer, env, p, loose, mean, mg, mb, B, F, XB, TB, hA, hf, hke, hh, D, rfl⟩ := C
  have X := XB.keeps (fun b o e => F.keep b o (B.stays b o e))
  have T := TB.keeps (fun b o e => F.keep b o (B.stays b o e))
  have B₁ := pushX B F hf hke
  have nL₀ : h₀.get? L = none := kts_self F
  obtain ⟨oL, es, ep, hL, hLd, hLk, hLf⟩ := F.ns
  have hmem : ∀ b, b ∈ (env :: outer).filterMap (·.frame) → b = L ∨ b ∈ outer.filterMap (·.frame) := fun b hb => by
    obtain ⟨env', he, hf'⟩ := List.mem_filterMap.mp hb
    rcases List.mem_cons.mp he with rfl | he
    · exact .inl (Option.some.inj (hf'.symm.trans hf))
    · exact .inr (List.mem_filterMap.mpr ⟨env', he, hf'⟩)
  refine codeAny_call_def (fd := fnOf name qual params body scope dV kV doc pm an cdv ct) (body := body) (binds := binds) hroom (X _ _ ho) rfl T.nolimit (codeRec_of X hcd) rfl hbind hcell hloc (fun h₁ hns hk₁ => ?_) hco hgen hk
  refine wpAny_mono (h base (env :: outer) p loose mean mg mb s.heap.objs.size h₁ F ⟨hns, hk₁, Nat.le_refl _⟩ ⟨hA, B₁.stays, B₁.frames⟩ X T hh XB TB (fun b hb => ?_) (by rw [List.filterMap_cons, hf])) (fun fl s' hl => ?_) fun _ _ y => y
  · rcases hmem b hb with rfl | hb
    · exact ⟨oL, es, ep, hL, hLd⟩
    · obtain ⟨o, es', n', ho', hd'⟩ := D b hb
      exact ⟨o, es', n', F.keep b o ho', hd'⟩
  obtain ⟨g', L', m', news', T', F', N', k⟩ := hl
  obtain ⟨sl, hs⟩ := T'.up hL
  obtain ⟨T₁, S₁⟩ := kts_turn_at (h := s'.heap) (fs := outer.filterMap (·.frame)) (g := h₀)
    (fun b hb => by
      obtain ⟨_, o, ho', _⟩ := B.frames.mem hb
      exact ⟨o, ho'⟩)
    (fun b o e nmem => F'.keep b o (T'.other b o (F.keep b o e) (fun q => by
      rcases List.mem_cons.mp q with z | z
      · rw [z, nL₀] at e
        cases e
      · exact nmem z)))
    (fun b o e hm => by
      obtain ⟨sl', hs'⟩ := T'.up (F.keep b o e)
      exact ⟨sl', F'.keep _ _ hs'⟩)
  refine k _ T₁ ⟨⟨_, es, ep, F'.keep _ _ hs, hLd, hLk, hLf⟩, S₁, by rw [T₁.size]; exact F.above⟩ (fun p hp => ⟨(N' p hp).1, fun q => ?_, ?_⟩)
  · have := (N' p hp).2.2; rw [q, hs] at this; cases this
  · refine T₁.none_ _ ?_
    cases q : h₀.get? p.1 with
    | none => rfl
    | some o =>
      obtain ⟨sl', hs'⟩ := T'.up (F.keep _ _ q)
      have := (N' p hp).2.2
      rw [hs'] at this
      cases this
noncomputable def ResAt (w : World) (fl : FontL) (v : Value) (nw : List (Addr × Obj)) : Option (List NodeP) → Prop
  | none => v = .none
  | some nodes => ∃ fa fvs nf ol, v = .ref fa ∧ nw = (fa, listOf fvs.toArray nf) :: ol ∧ (∀ p ∈ ol, p.1 ≠ fa) ∧ All2 (NodeAt w (MemP ol) (.ref fl.x)) fvs nodes ∧ fvs.length ≤ 2000000
theorem law_run_spec {w : World} {A : Around} {s : Shared} {h₀ : Heap} {L : Addr} {m : Str → Option Value} {fs : List Addr} {fl : FontL} {FM : FontM} {cl : Addr} {cvs : List Value} {cs : List Int} {left right : Bool} {Q E : Value → Shared → Prop}
    (C : CxT w A fs h₀ L s.heap m) (hd : A.depth ≤ 313) (hu : A.units ≤ 1400) (hf : FontAt w (Gd s.heap) fl FM) (hw : FM.WF) (hl : s.heap.IsList cl cvs.toArray) (iv : IntsV cvs cs) (ho : ∀ i ∈ cs, OctI i) (hfew : cs.length ≤ 80)
    (ret : ∀ (r : Option (List NodeP)) (v : Value) (nw : List (Addr × Obj)) (h₀' h' : Heap) (tk' : Tok), RunP FM right cs [] left r → KtsTurn fs h₀ h₀' → Fr h₀' L h' m → News h₀' L h' nw → (∀ p ∈ nw, s.heap.get? p.1 = none) → ResAt w fl v nw r → KeptF (L :: fs) s.heap h' → Q v { s with heap := h', toks := tk' }) :
    wpAny (model PySem.Challenge.rw_sq0044_01.row.prog w) A (call (.ref 496) [.ref fl.x, .ref cl, .bool left, .bool right]) Q E s := by
  refine wpAny_call ?_
  refine Cx.form_ C.cx ?_; intro dp un gd env0 outer0 eA9; subst eA9; (try dsimp only at hd); (try dsimp only at hu); k_dflt (refine' enterT (binds := [(Str.ofString "font", .ref fl.x), (Str.ofString "codes", .ref cl), (Str.ofString "left", .bool left), (Str.ofString "right", .bool right)]) C ?k6 ?k7 ?k8 ?k9 ?kB ?_ ?c2 ?c3 ?c4 ?c5; (case k6 => k_is); (case k7 => k_is); (case k8 => (first | exact le_up (d := 1) hd rfl | exact le_up (d := 2) hd rfl | (simp only [depth_under_make, depth_under_kw, recursionLimit]; (first | lia | omega)))); (case k9 => first | exact BindsTo.of_eq rfl | exact binds_K (Cx.inK C.cx) rfl (by k_is) rfl rfl rfl); (case c5 => decide); (case kB => exact locs rfl); (case c2 => exact rfl); (case c3 => exact rfl); (case c4 => exact rfl)); intro base outer p loose mean mg mb L' hB1 FG F B X T hh XB TB D hfs; obtain rfl : env0 :: outer0 = outer := Option.some.inj B.stack; (try dsimp only); (try k_fold)
  have T0 : KtsTurn (L :: fs) s.heap s.heap := KtsTurn.refl
  have N0 : News s.heap L' hB1 [] := News.nil
  repeat' ((fail_if_success (with_reducible show wpAny _ _ (exec (Stmt.Try _ _ _ _ _) _) _ _ _)); first | (k_unfold; (try dsimp only)) | (dsimp only; k_unfold; (try dsimp only)) | ((fail_if_success (with_reducible show Exists _)); (fail_if_success (with_reducible show LeaveK h₀ L m g _ _ _)); first | walk1 | (dsimp only; (fail_if_success (with_reducible show Exists _)); (fail_if_success (with_reducible show LeaveK h₀ L m g _ _ _)); walk1)))
  refine wpAny_Try_except ?_
  repeat' ((fail_if_success (with_reducible show wpAny _ _ (call (Value.ref 454) _) _ _ _)); first | (k_unfold; (try dsimp only)) | (dsimp only; k_unfold; (try dsimp only)) | ((fail_if_success (with_reducible show Exists _)); (fail_if_success (with_reducible show LeaveK h₀ L m g _ _ _)); first | walk1 | (dsimp only; (fail_if_success (with_reducible show Exists _)); (fail_if_success (with_reducible show LeaveK h₀ L m g _ _ _)); walk1)))
  (with_reducible rename Fr s.heap _ _ _ => F7)
  refine run_spec (Cx.deeper (by k_asm) (by k_asm) (by k_asm) (by k_asm) (by k_asm) rfl) (by first | exact le_up (d := 1) hd rfl | (simp only [depth_deeper]; (first | lia | omega))) (by first | exact le_up (d := 3) hu rfl | (simp only [units_deeper]; (first | lia | omega))) (hf.mono fun a o e => F7.keep a o e) hw (hl.at fun o e => F7.keep _ o e) iv ho hfew ?_ ?_
  · intro nodes fa fvs nf ol hA tkA hr FA NA frA apA alA lenA KA
    repeat' (first | (k_unfold; (try dsimp only)) | (dsimp only; k_unfold; (try dsimp only)) | ((fail_if_success (with_reducible show Exists _)); (fail_if_success (with_reducible show LeaveK h₀ L m g _ _ _)); first | walk1 | (dsimp only; (fail_if_success (with_reducible show Exists _)); (fail_if_success (with_reducible show LeaveK h₀ L m g _ _ _)); walk1)))
    ((try dsimp only); (try k_unfold); (try dsimp only); (with_reducible rename Fr _ _ _ _ => cF); (with_reducible rename News _ _ _ _ => cN); refine leaveT_ ‹KtsTurn _ _ _› cF cN ?_; intro k0 kT kF kN)
    exact ret (some nodes) _ ((fa, listOf fvs.toArray nf) :: ol) k0 _ _ hr kT kF (news_sub kN (fun p hp => by assumption)) (fun p hp => kts_none F7.keep (frA p hp)) ⟨fa, fvs, nf, ol, rfl, rfl, apA, alA, lenA⟩ (fun b o e _ => cF.keep b o e)
  · intro l e t vs hA tkA hr hfr RR
    obtain rfl := Option.some.inj (hfr.symm.trans (Around.frames_deeper B.stack))
    obtain ⟨RS, us⟩ := RR.toS (base := base) (fun b o e => F7.keep b o (B.stays b o e)) (base_off B F7)
    refine caught_SO0 RS F7 B us XB TB D KtsTurn.refl (by k_is) (by kts_isx) ?_
    intro h' g' news₂ T' F' N' G' N'' B' X' TB' D'
    rw [hfs] at T'
    clear F7 N' T0 N0 G'
    repeat' (first | (k_unfold; (try dsimp only)) | (dsimp only; k_unfold; (try dsimp only)) | ((fail_if_success (with_reducible show Exists _)); (fail_if_success (with_reducible show LeaveK h₀ L m g _ _ _)); first | walk1 | (dsimp only; (fail_if_success (with_reducible show Exists _)); (fail_if_success (with_reducible show LeaveK h₀ L m g _ _ _)); walk1)))
    ((try dsimp only); (try k_unfold); (try dsimp only); (with_reducible rename Fr _ _ _ _ => cF); (with_reducible rename News _ _ _ _ => cN); refine leaveT_ ‹KtsTurn _ _ _› cF cN ?_; intro k0 kT kF kN)
    exact ret none _ [] k0 _ _ hr kT kF kN (fun _ h => nomatch h) rfl (fun b o e n => cF.keep b o (T'.other b o e n))
end Mine
theorem Mine.fresh_B15 : True := by w_top off; k_with_none; trivial
namespace Mine
theorem fill_once15 (P : Params) : Mine.kk.heap_1 P = Mine.kk.heap_1 P ∧ PySem.Challenge.rw_sq0044_01 = PySem.Challenge.rw_sq0044_01 := by
  k_fill
  exact ⟨rfl, rfl⟩
theorem getAttr_gc {prog : Program} {w : World} {A : Around} {E : Value → Shared → Prop} {s : Shared} {K : Frag} {x C dx L : Addr} {g : Heap} {m : Str → Option Value} {es : List DictEntry} {n : Nat} {name : Str} {expr : Bool} {Q : Value → Shared → Prop} {a : Value}
    (F : Fr g L s.heap m) (X₀ : K.In g) (hx : g.get? x = some (instObj C dx)) (hdx : g.get? dx = some (dictOf es n)) (hl : getL name es = some none) (hg : plainGet K C name = true) (hh : hasDictIn K C = true)
    (ha : findIn K (.ref C) name = some (some a)) (hn : specialIn K a "__get__" = some none) (hv : handedIn a = true) (hc : copiedNames.contains name = false) (h : Q a { s with toks := s.toks + 1 }) :
    wpAny (model prog w) A (getAttr (.ref x) name expr) Q E s :=
  get_cls F X₀ ⟨F.keep _ _ hx, rfl, rfl, F.keep _ _ hdx⟩ hg hh ha hn hv hc hl h
theorem lnB15_0 : True := by
  k_with "execs cons" => (k_here; (with_reducible refine PySem.wpAny_execs_cons ?_); (try dsimp only); k_fold)
  k_with "execs cons" => (k_here; (with_reducible refine toks_gen ?_); intro _)
  k_with "eval Call" => (k_here; (with_reducible show wpAny _ _ (eval (Expr.Call (Expr.Name _ _) _ [] _) (envOf _ _ _ _ _)) _ _ _); k_dflt (refine call_named (by k_asm) (by k_asm) (by k_asm) (by k_is) (by k_is) (by (repeat' (first | exact ArgsV.nil | refine' ArgsV.loc (by first | exact rfl | assumption) rfl (by decide) ?_ | refine' ArgsV.int ?_ | refine' ArgsV.bool ?_ | refine' ArgsV.none ?_)); done) ?_))
  k_with "my sub" => first | exact List.forall_mem_nil _ | (refine' List.forall_mem_cons.mpr ⟨?_, ?_⟩; (· k_mem); (· k_extra "my sub")) | (intro q hq; repeat (first | exact hq | refine List.Mem.tail _ ?_))
  k_with "call type:tuple" => (k_here; (with_reducible show wpAny _ _ (call (Value.type _) [Value.ref _]) _ _ _); k_dflt (refine tuple_list_M (by k_asm) (by k_asm) (by k_mem) (by (first | lia | omega)) ?_); intro _ _ _ _ lz9; (try k_lt lz9); (try k_sweep))
  k_with "call ref" => ((fail_if_success (k_extra "svB150")); (k_here; k_dflt (k_extra "my call B150")))
  trivial
theorem ownB15_0 : True := by
  k_with "own k_ne" => (refine neN ?_; (try dsimp only); first | (with_reducible assumption) | (refine Ne.symm ?_; with_reducible assumption))
  trivial
theorem ownB15_1 : True := by
  k_with "own k_room" => ((try simp only [depth_under_make, depth_under_kw, depth_in1, depth_deeper, recursionLimit]); (first | lia | omega))
  trivial
theorem lnB15_1 : True := by
  k_with "getAttr ref" => (k_here; k_dflt (refine getAttr_g (by k_asm) (by k_asm) (by assumption) (by assumption) (by assumption) (by k_is) (by k_is) (by k_is) (by k_is) (by k_handed) ?_; k_whole))
  k_with "getMethod ref" => (k_here; k_dflt (refine getMethod_g (by k_asm) (by k_asm) (by assumption) (by assumption) (by assumption) (by k_is) (by k_is) (by k_is) ?_; k_whole))
  k_with "compareOp In int ref" => (k_here; (refine in_chars (by k_asm) (by assumption) ?_))
  k_with "getMethod ref" => (k_here; (refine getMethod_chars (by k_asm) (by assumption) ?_))
  k_with "call builtin:dict.get" => (k_here; (refine get_chars (by k_asm) (by assumption) ?_ ?_); (all_goals intros))
  k_with "subscriptTail" => (k_here; (with_reducible show wpAny _ _ (subscriptTail _ _ (Value.ref _) (Value.int _ _)) _ _ _); k_dflt (refine item_tupleT (by exact TupP.at (Fr.keep (by k_asm)) (by assumption)) (by decide) (by decide) (by rfl) (by rfl) ?_; k_whole))
  trivial
theorem lnB15_2 : True := by
  k_with "subscriptTail" => (k_here; (with_reducible show wpAny _ _ (subscriptTail _ _ (Value.ref (FontL.tk _)) (Value.int _ _)) _ _ _); k_dflt (refine kern_item (by k_asm) (by assumption) (by first | (first | lia | omega) | (have ok' := RowM.OK.kern (by assumption) (by (first | lia | omega)) (by (first | lia | omega)); (first | lia | omega))) (by first | (first | lia | omega) | (have ok' := RowM.OK.kern (by assumption) (by (first | lia | omega)) (by (first | lia | omega)); (first | lia | omega))) ?_ (by with_unfolding_all rfl)); intros)
  k_with "subscriptTail" => (k_here; (with_reducible show wpAny _ _ (subscriptTail _ _ (Value.ref (FontL.tp _)) (Value.int _ _)) _ _ _); k_dflt (refine prog_item (by k_asm) (by assumption) (by (first | lia | omega)) (by (first | lia | omega)) (by (first | lia | omega)) ?_ (by with_unfolding_all rfl) (by (intro _; with_unfolding_all rfl))); intros)
  k_with "compareOp In int ref" => (k_here; (with_reducible show wpAny _ _ (compareOp _ (Value.int _ _) (Value.ref 392)) _ _ _); (refine' in_known (Frag.In.keeps (by k_asm) (Fr.keep (by k_asm))) ?_))
  k_with "eval Name" => (k_here; (fail_if_success (with_reducible show wpAny _ _ (eval (Expr.Name _ _) (envOfC _ _ _ _ _)) _ _ _)); (fail_if_success (with_reducible show wpAny _ _ (eval (Expr.Name _ _) (compEnvC _ _ _ _)) _ _ _)); k_dflt (refine ld (by k_asm) (by first | exact rfl | assumption) ?_; k_whole))
  trivial
theorem lnB15_3 : True := by
  k_with "getAttr ref" => (k_here; k_dflt (refine getAttr_g (by k_asm) (by k_asm) (by assumption) (by assumption) (by first | assumption | k_get) (by k_is) (by k_is) (by k_is) (by k_is) (by k_handed) ?_; k_whole))
  k_with "getAttr ref" => (k_here; (with_reducible show wpAny _ _ (getAttr (Value.ref _) (PySem.Str.ofString "kind") _) _ _ _); k_dflt (refine getAttr_gc (by k_asm) (by k_asm) (by assumption) (by assumption) (by k_get) (by k_is) (by k_is) (by k_is) (by k_is) (by k_handed) (by decide +kernel) ?_; k_whole))
  trivial
noncomputable def bit (b : Bool) : Int := if b then 1 else 0
/-- the tuple that describes a node -/
noncomputable def DescV (P : Addr → Obj → Prop) (vs : List Value) : NodeP → Prop
  | .char c => ∃ t0 t1 t2, vs = [.int 0 t0, .int 1 t1, .int c t2]
  | .lig c parts l r => ∃ t0 t1 t2 b pv t3 t4, vs = [.int 1 t0, .int 1 t1, .int c t2, .ref b, .int (bit l) t3, .int (bit r) t4] ∧ P b (tupO pv) ∧ IntsV pv parts
  | .kern k => ∃ t0 t1 t2, vs = [.int 5 t0, .int k t1, .int 0 t2]
theorem DescV.mono {P P' : Addr → Obj → Prop} {vs : List Value} {n : NodeP} (k : ∀ a o, P a o → P' a o) (x : DescV P vs n) : DescV P' vs n := by
  cases n with
  | char c => exact x
  | lig c p l r => exact Exists.imp (fun _ => Exists.imp fun _ => Exists.imp fun _ => Exists.imp fun _ => Exists.imp fun _ => Exists.imp fun _ => Exists.imp fun _ => And.imp_right (And.imp_left (k _ _))) x
  | kern c => exact x
theorem described_spec {w : World} {A : Around} {s : Shared} {h₀ : Heap} {L : Addr} {m : Str → Option Value} {fl : FontL} {FM : FontM} {v : Value} {n : NodeP} {td : Tok} {P : Addr → Obj → Prop} {Q E : Value → Shared → Prop}
    (C : Cx w A h₀ L s.heap m) (hd : A.depth ≤ 380) (hf : FontAt w (Gd s.heap) fl FM) (kP : ∀ a o, P a o → s.heap.get? a = some o) (hn : NodeAt w P (.ref fl.x) v n)
    (ret : ∀ (q : Addr) (vs : List Value) (h' : Heap) (tk' : Tok), s.heap.get? q = none → Fr h₀ L h' m → News h₀ L h' [(q, tupO vs)] → DescV P vs n → Kept s.heap [] h' → Q (.ref q) { s with heap := h', toks := tk' }) :
    wpAny (model PySem.Challenge.rw_sq0044_01.row.prog w) A (call (.ref 385) [v, .int 0 td]) Q E s := by
  refine wpAny_call ?_
  have N0 : News h₀ L s.heap [] := News.nil
  cases n with
  | char c =>
    obtain ⟨a, d, t1, t2, t, rfl, e1, e2⟩ := hn
    refine Cx.form_ C ?_; intro dp un gd env0 outer0 eA9; subst eA9; (try dsimp only at hd); (try dsimp only at hu); k_dflt (refine' enter (binds := [(Str.ofString "node", .ref a), (Str.ofString "depth", .int 0 td)]) ?k1 ?k2 ?k6 ?k7 ?k8 ?k9 ?kB ?_ ?c2 ?c3 ?c4 ?c5; (case k1 => assumption); (case k2 => assumption); (case k6 => k_is); (case k7 => k_is); (case k8 => (first | exact le_up (d := 1) hd rfl | exact le_up (d := 2) hd rfl | (simp only [depth_under_make, depth_under_kw, recursionLimit]; (first | lia | omega)))); (case k9 => first | exact BindsTo.of_eq rfl | exact binds_K (Cx.inK (by assumption)) rfl (by k_is) rfl rfl rfl); (case c5 => decide); (case kB => exact locs rfl); (case c2 => exact rfl); (case c3 => exact rfl); (case c4 => exact rfl)); intro base outer p loose mean mg mb g L' hB1 FG F NB G B X T hh; obtain rfl : env0 :: outer0 = outer := Option.some.inj B.stack; (try dsimp only); (try k_fold)
    have kg : ∀ b o, s.heap.get? b = some o → g.get? b = some o := fun b o e => G b o e (by simp)
    have hg : FontAt w (Gd g) fl FM := hf.mono kg
    have i1 := hg.inst
    have i2 := hg.dict
    have i3 := hg.gnum
    replace e1 : Gd g a _ := kg _ _ (kP _ _ e1)
    replace e2 : Gd g d _ := kg _ _ (kP _ _ e2)
    repeat' (first | (k_unfold; (try dsimp only)) | (dsimp only; k_unfold; (try dsimp only)) | ((fail_if_success (with_reducible show Exists _)); (fail_if_success (with_reducible show LeaveK h₀ L m g _ _ _)); first | walk1 | (dsimp only; (fail_if_success (with_reducible show Exists _)); (fail_if_success (with_reducible show LeaveK h₀ L m g _ _ _)); walk1)))
    ((try dsimp only); (try k_unfold); (try dsimp only); (with_reducible rename Fr _ _ _ _ => cF); (with_reducible rename News _ _ _ _ => cN); refine leaveK_ cF cN ?_; intro kF kN; (try dsimp only [InitBack]); (try refine ⟨rfl, ?_⟩); (try dsimp only))
    exact ret _ _ _ _ (kts_none kg (cN _ (.head _)).2.2) kF (news_sub kN (by k_extra "my sub")) ⟨_, _, _, rfl⟩ (fun b o e _ => cF.keep b o (kg b o e))
  | lig c ps l r =>
    obtain ⟨a, d, pb, t1, t2, t3, t4, t5, t, pv, rfl, e1, e2, e3, iv⟩ := hn
    refine Cx.form_ C ?_; intro dp un gd env0 outer0 eA9; subst eA9; (try dsimp only at hd); (try dsimp only at hu); k_dflt (refine' enter (binds := [(Str.ofString "node", .ref a), (Str.ofString "depth", .int 0 td)]) ?k1 ?k2 ?k6 ?k7 ?k8 ?k9 ?kB ?_ ?c2 ?c3 ?c4 ?c5; (case k1 => assumption); (case k2 => assumption); (case k6 => k_is); (case k7 => k_is); (case k8 => (first | exact le_up (d := 1) hd rfl | exact le_up (d := 2) hd rfl | (simp only [depth_under_make, depth_under_kw, recursionLimit]; (first | lia | omega)))); (case k9 => first | exact BindsTo.of_eq rfl | exact binds_K (Cx.inK (by assumption)) rfl (by k_is) rfl rfl rfl); (case c5 => decide); (case kB => exact locs rfl); (case c2 => exact rfl); (case c3 => exact rfl); (case c4 => exact rfl)); intro base outer p loose mean mg mb g L' hB1 FG F NB G B X T hh; obtain rfl : env0 :: outer0 = outer := Option.some.inj B.stack; (try dsimp only); (try k_fold)
    have kg : ∀ b o, s.heap.get? b = some o → g.get? b = some o := fun b o e => G b o e (by simp)
    have hg : FontAt w (Gd g) fl FM := hf.mono kg
    have i1 := hg.inst
    have i2 := hg.dict
    have i3 := hg.gnum
    replace e1 : Gd g a _ := kg _ _ (kP _ _ e1)
    replace e2 : Gd g d _ := kg _ _ (kP _ _ e2)
    repeat' ((fail_if_success (with_reducible show wpAny _ _ (eval (Expr.Tuple _ _ _) _) _ _ _)); first | (k_unfold; (try dsimp only)) | (dsimp only; k_unfold; (try dsimp only)) | ((fail_if_success (with_reducible show Exists _)); (fail_if_success (with_reducible show LeaveK h₀ L m g _ _ _)); first | walk1 | (dsimp only; (fail_if_success (with_reducible show Exists _)); (fail_if_success (with_reducible show LeaveK h₀ L m g _ _ _)); walk1)))
    cases l <;> cases r
    all_goals (
      repeat' (first | (k_unfold; (try dsimp only)) | (dsimp only; k_unfold; (try dsimp only)) | ((fail_if_success (with_reducible show Exists _)); (fail_if_success (with_reducible show LeaveK h₀ L m g _ _ _)); first | walk1 | (dsimp only; (fail_if_success (with_reducible show Exists _)); (fail_if_success (with_reducible show LeaveK h₀ L m g _ _ _)); walk1)))
      ((try dsimp only); (try k_unfold); (try dsimp only); (with_reducible rename Fr _ _ _ _ => cF); (with_reducible rename News _ _ _ _ => cN); refine leaveK_ cF cN ?_; intro kF kN; (try dsimp only [InitBack]); (try refine ⟨rfl, ?_⟩); (try dsimp only))
      exact ret _ _ _ _ (kts_none kg (cN _ (.head _)).2.2) kF (news_sub kN (by k_extra "my sub")) ⟨_, _, _, _, pv, _, _, rfl, e3, iv⟩ (fun b o e _ => cF.keep b o (kg b o e)))
  | kern k =>
    obtain ⟨a, d, t1, t2, t, t', rfl, e1, e2⟩ := hn
    refine Cx.form_ C ?_; intro dp un gd env0 outer0 eA9; subst eA9; (try dsimp only at hd); (try dsimp only at hu); k_dflt (refine' enter (binds := [(Str.ofString "node", .ref a), (Str.ofString "depth", .int 0 td)]) ?k1 ?k2 ?k6 ?k7 ?k8 ?k9 ?kB ?_ ?c2 ?c3 ?c4 ?c5; (case k1 => assumption); (case k2 => assumption); (case k6 => k_is); (case k7 => k_is); (case k8 => (first | exact le_up (d := 1) hd rfl | exact le_up (d := 2) hd rfl | (simp only [depth_under_make, depth_under_kw, recursionLimit]; (first | lia | omega)))); (case k9 => first | exact BindsTo.of_eq rfl | exact binds_K (Cx.inK (by assumption)) rfl (by k_is) rfl rfl rfl); (case c5 => decide); (case kB => exact locs rfl); (case c2 => exact rfl); (case c3 => exact rfl); (case c4 => exact rfl)); intro base outer p loose mean mg mb g L' hB1 FG F NB G B X T hh; obtain rfl : env0 :: outer0 = outer := Option.some.inj B.stack; (try dsimp only); (try k_fold)
    have kg : ∀ b o, s.heap.get? b = some o → g.get? b = some o := fun b o e => G b o e (by simp)
    have hg : FontAt w (Gd g) fl FM := hf.mono kg
    have i1 := hg.inst
    have i2 := hg.dict
    have i3 := hg.gnum
    replace e1 : Gd g a _ := kg _ _ (kP _ _ e1)
    replace e2 : Gd g d _ := kg _ _ (kP _ _ e2)
    repeat' (first | (k_unfold; (try dsimp only)) | (dsimp only; k_unfold; (try dsimp only)) | ((fail_if_success (with_reducible show Exists _)); (fail_if_success (with_reducible show LeaveK h₀ L m g _ _ _)); first | walk1 | (dsimp only; (fail_if_success (with_reducible show Exists _)); (fail_if_success (with_reducible show LeaveK h₀ L m g _ _ _)); walk1)))
    ((try dsimp only); (try k_unfold); (try dsimp only); (with_reducible rename Fr _ _ _ _ => cF); (with_reducible rename News _ _ _ _ => cN); refine leaveK_ cF cN ?_; intro kF kN; (try dsimp only [InitBack]); (try refine ⟨rfl, ?_⟩); (try dsimp only))
    exact ret _ _ _ _ (kts_none kg (cN _ (.head _)).2.2) kF (news_sub kN (by k_extra "my sub")) ⟨_, _, _, rfl⟩ (fun b o e _ => cF.keep b o (kg b o e))
end Mine
theorem Mine.fresh_B16 : True := by w_top off; k_with_none; trivial
namespace Mine
theorem fill_once16 (P : Params) : Mine.kk.heap_1 P = Mine.kk.heap_1 P ∧ PySem.Challenge.rw_sq0044_01 = PySem.Challenge.rw_sq0044_01 := by
  k_fill
  exact ⟨rfl, rfl⟩
theorem lnB16_0 : True := by
  k_with "execs cons" => (k_here; (with_reducible refine PySem.wpAny_execs_cons ?_); (try dsimp only); k_fold)
  k_with "execs cons" => (k_here; (with_reducible refine toks_gen ?_); intro _)
  k_with "eval Call" => (k_here; (with_reducible show wpAny _ _ (eval (Expr.Call (Expr.Name _ _) _ [] _) (envOf _ _ _ _ _)) _ _ _); k_dflt (refine call_named (by k_asm) (by k_asm) (by k_asm) (by k_is) (by k_is) (by (repeat' (first | exact ArgsV.nil | refine' ArgsV.loc (by first | exact rfl | assumption) rfl (by decide) ?_ | refine' ArgsV.int ?_ | refine' ArgsV.bool ?_ | refine' ArgsV.none ?_)); done) ?_))
  k_with "my sub" => first | exact List.forall_mem_nil _ | (refine' List.forall_mem_cons.mpr ⟨?_, ?_⟩; (· k_mem); (· k_extra "my sub")) | (intro q hq; repeat (first | exact hq | refine List.Mem.tail _ ?_))
  k_with "call type:tuple" => (k_here; (with_reducible show wpAny _ _ (call (Value.type _) [Value.ref _]) _ _ _); k_dflt (refine tuple_list_M (by k_asm) (by k_asm) (by k_mem) (by (first | lia | omega)) ?_); intro _ _ _ _ lz9; (try k_lt lz9); (try k_sweep))
  k_with "call ref" => ((fail_if_success (k_extra "svB160")); (k_here; k_dflt (k_extra "my call B160")))
  trivial
theorem ownB16_0 : True := by
  k_with "own k_ne" => (refine neN ?_; (try dsimp only); first | (with_reducible assumption) | (refine Ne.symm ?_; with_reducible assumption))
  trivial
theorem lnB16_1 : True := by
  k_with "eval Name" => (k_here; (with_reducible show wpAny _ _ (eval (Expr.Name _ _) (compEnvC _ _ _ _)) _ _ _); k_dflt (refine cell_in (by rfl) (by rfl) (by k_asm) (by rfl) (by (repeat (first | assumption | refine List.Mem.tail _ ?_))) (by assumption) ?_; k_whole))
  trivial
theorem Cx.deeperX {w : World} {A : Around} {g h base : Heap} {outer : List Env} {L : Addr} {m : Str → Option Value} {env : Env} {p : Program} {loose : List Str} {mean : ExcName → Option Value} {mg mb : Str → Option Value}
    (B : Below A base outer g) (F : Fr g L h m) (X : (Mine.kk.heap_1 w.params).In g) (T : Top p loose mean mg mb g) (hh : A.handled = none) (hf : env.frame = some L) (hk : env.scope.kind = .function) : Cx w (A.deeper env) g L h m :=
  ⟨A, base, outer, env, p, loose, mean, mg, mb, B, F, X, T, Around.frames_deeper B.stack, hf, hk, hh⟩
theorem enterC {w : World} {A : Around} {s : Shared} {h₀ : Heap} {L : Addr} {m : Str → Option Value} {foot : List (Addr × Obj)} {R : Result → Shared → Prop}
    {name qual : Str} {params : Arguments} {body : List Stmt} {scope : Scope} {dV kV doc pm cdv ct oc : Value} {an od : Option Addr} {osl : Array (Option Value)} {f : Addr} {args : Args} {binds : List (Str × Value)}
    (C : Cx w A h₀ L s.heap m) (N : News h₀ L s.heap foot)
    (ho : (Mine.kk.heap_1 w.params).lookup f = some ⟨oc, od, .func (fnOf name qual params body scope dV kV doc pm an cdv ct), osl⟩) (hcd : codeIn (Mine.kk.heap_1 w.params) cdv qual = true) (hroom : A.depth < recursionLimit)
    (hbind : BindsTo s (fnOf name qual params body scope dV kV doc pm an cdv ct) args binds) (hkind : (binds.all fun y => scope.names.lookup y.1 == some .local || scope.names.lookup y.1 == some .cell) = true)
    (hnd : ((cellsFrom 0 scope.names []).map (·.1)).Nodup)
    (h : ∀ (base : Heap) (outer : List Env) (p : Program) (loose : List Str) (mean : ExcName → Option Value) (mg mb : Str → Option Value) (g : Heap) (L' : Addr) (h₁ : Heap) (tk : Tok) (cells : List (Addr × Obj)),
      Fr h₀ L g m → Fr g L' h₁ (bindL (envOfC qual scope L' f cdv).kindOf binds fun _ => none) → News g L' h₁ (cells ++ foot) → (∀ b o, s.heap.get? b = some o → b ∉ foot.map (·.1) → g.get? b = some o) →
      Below A base outer g → (Mine.kk.heap_1 w.params).In g → Top p loose mean mg mb g → A.handled = none → CellsAre (bindC (envOfC qual scope L' f cdv).kindOf binds fun _ => none) (cellsFrom (L' + 1) scope.names []) cells →
      wpAny (model PySem.Challenge.rw_sq0044_01.row.prog w) (A.deeper (envOfC qual scope L' f cdv)) (execs body (envOfC qual scope L' f cdv))
        (fun fl s' => LeaveK h₀ L m g R (match fl with | .ret v => v | _ => .none) s')
        (fun e s' => wpAny (model PySem.Challenge.rw_sq0044_01.row.prog w) (A.deeper (envOfC qual scope L' f cdv)) (leaving (envOfC qual scope L' f cdv) e) (fun _ s'' => R (.error e) s'') (fun e' s'' => R (.error e') s'') s')
        { s with heap := h₁, toks := tk })
    (hco : scope.isCoroutine = false) (hgen : scope.isGenerator = false) (hk : scope.kind = .function) : codeAny (model PySem.Challenge.rw_sq0044_01.row.prog w) A (.call (.ref f) args) R s := by
  obtain ⟨A₀, base, outer, env, p, loose, mean, mg, mb, B, F, X, T, hA, hf, hke, hh⟩ := C
  obtain ⟨FG, BG, st, lv⟩ := groundX (R := R) B F N hA hf hke
  refine codeAny_call_function (fd := fnOf name qual params body scope dV kV doc pm an cdv ct) (body := body) hroom ((X.keeps F.keep) _ _ ho) rfl hco hgen rfl (codeRec_of (X.keeps F.keep) hcd) (hbind _ _ _ _ ?_)
  refine wpAny_newFunctionEnv_cells hk (kindsX hkind _) fun env' he s' x => ?_
  subst he
  refine ⟨(T.nolimit.keeps F.keep).keeps x.toInCall.keep, codeAny_func ?_⟩
  obtain ⟨h₁, tk, rfl, _⟩ := x.done
  have hk₁ := x.toInCall.keep
  obtain ⟨cells, NC, Y⟩ := Cl.news (h₀ := s.heap) (Nat.le_refl _) fun n c hm => ⟨x.cell n c (lookup_of_mem_nodup (cellsFrom_names scope.names 0 (s.heap.objs.size + 1) [] [] rfl ▸ hnd) hm), x.above n c hm⟩
  refine wpAny_mono (h base (env :: outer) p loose mean mg mb _ s.heap.objs.size h₁ tk cells FG ⟨x.toInCall.ns, fun b o e => hk₁ b o (of_hideAll _ e), Nat.le_of_eq (hideAll_size _ _)⟩ (fun p hp => ?_) (fun b o e n => hideAll_get _ e n) BG (X.keeps st) (T.keeps st) hh Y) (fun fl s' hl => lv _ _ hl) fun _ _ y => y
  rcases List.mem_append.mp hp with hp | hp
  · refine ⟨(NC p hp).1, (NC p hp).2.1, ?_⟩
    cases q : (hideAll s.heap (foot.map (·.1))).get? p.1 with
    | none => rfl
    | some o => have := of_hideAll _ q; rw [(NC p hp).2.2] at this; cases this
  · exact ⟨hk₁ _ _ (N p hp).1, Nat.ne_of_lt (Heap.lt_size (N p hp).1), hideAll_none _ (List.mem_map_of_mem hp)⟩
noncomputable def DescAt (P : Addr → Obj → Prop) (v : Value) (n : NodeP) : Prop := ∃ a vs, v = .ref a ∧ P a (tupO vs) ∧ DescV P vs n
theorem DescAt.mono {P P' : Addr → Obj → Prop} {v : Value} {n : NodeP} (k : ∀ a o, P a o → P' a o) (x : DescAt P v n) : DescAt P' v n := Exists.imp (fun _ => Exists.imp fun _ => And.imp_right (And.imp (k _ _) fun r => r.mono k)) x
noncomputable def DescJ (g : Heap) (rest : List (Addr × Obj)) (nodes : List NodeP) (i : Nat) (ys : List Value) (nw : List (Addr × Obj)) : Prop :=
  ∃ nl, nw = nl ++ rest ∧ All2 (DescAt fun a o => (a, o) ∈ nl ∨ g.get? a = some o) ys (nodes.take i)
theorem described_list_spec {w : World} {A : Around} {s : Shared} {h₀ : Heap} {L : Addr} {m : Str → Option Value} {fl : FontL} {FM : FontM} {la : Addr} {vs : List Value} {nodes : List NodeP} {Q E : Value → Shared → Prop}
    (C : Cx w A h₀ L s.heap m) (hd : A.depth ≤ 370) (hf : FontAt w (Gd s.heap) fl FM) (hl : s.heap.IsList la vs.toArray) (hn : All2 (NodeAt w (Gd s.heap) (.ref fl.x)) vs nodes) (hfew : vs.length ≤ 10000000)
    (ret : ∀ (q : Addr) (ys : List Value) (ol : List (Addr × Obj)) (h' : Heap) (tk' : Tok), Fr h₀ L h' m → News h₀ L h' ((q, tupO ys) :: ol) → All2 (DescAt (Gd h')) ys nodes → Kept s.heap [] h' → Q (.ref q) { s with heap := h', toks := tk' }) :
    wpAny (model PySem.Challenge.rw_sq0044_01.row.prog w) A (call (.ref 391) [.ref la]) Q E s := by
  refine wpAny_call ?_
  have N0 : News h₀ L s.heap [] := News.nil
  refine Cx.form_ C ?_; intro dp un gd env0 outer0 eA9; subst eA9; (try dsimp only at hd); (try dsimp only at hu); k_dflt (refine' enterC (binds := [(Str.ofString "items", .ref la), (Str.ofString "depth", .int 0 762)]) ?k1 ?k2 ?k6 ?k7 ?k8 ?k9 ?kB ?kD ?_ ?c2 ?c3 ?c4; (case k1 => assumption); (case k2 => assumption); (case k6 => k_is); (case k7 => k_is); (case k8 => (first | exact le_up (d := 1) hd rfl | exact le_up (d := 2) hd rfl | (simp only [depth_under_make, depth_under_kw, recursionLimit]; (first | lia | omega)))); (case k9 => first | exact BindsTo.of_eq rfl | exact binds_K (Cx.inK (by assumption)) rfl (by k_is) rfl rfl rfl); (case kB => exact rfl); (case kD => decide +kernel); (case c2 => exact rfl); (case c3 => exact rfl); (case c4 => exact rfl)); intro base outer p loose mean mg mb g L' hB1 tk1 cells FG F NB G B X T hh Y; obtain rfl : env0 :: outer0 = outer := Option.some.inj B.stack; k_cells Y; (try simp only [List.cons_append, List.nil_append] at NB); (try dsimp only); (try k_fold)
  rename_i oc hcd
  have kg : ∀ b o, s.heap.get? b = some o → g.get? b = some o := fun b o e => G b o e (by simp)
  have hlg : g.IsList la vs.toArray := hl.at fun o e => kg _ o e
  have hdc : oc.data = .cell (some (.int 0 762)) := hcd
  repeat' ((fail_if_success (with_reducible show wpAny _ _ (eval (Expr.ListComp _ _ _ _) _) _ _ _)); first | (k_unfold; (try dsimp only)) | (dsimp only; k_unfold; (try dsimp only)) | ((fail_if_success (with_reducible show Exists _)); (fail_if_success (with_reducible show LeaveK h₀ L m g _ _ _)); first | walk1 | (dsimp only; (fail_if_success (with_reducible show Exists _)); (fail_if_success (with_reducible show LeaveK h₀ L m g _ _ _)); walk1)))
  (with_reducible rename Fr _ _ _ _ => F1)
  refine LCg.ListComp_U F1 (cl := [(Str.ofString "depth", L' + 1)]) rfl (by decide) rfl (by decide) rfl ?_
  repeat' ((fail_if_success (with_reducible show wpAny _ _ (LCg.CompSrc _ _ _ _ _ _ _ _ _ _ _ _ _ _) _ _ _)); first | (k_unfold; (try dsimp only)) | (dsimp only; k_unfold; (try dsimp only)) | ((fail_if_success (with_reducible show Exists _)); (fail_if_success (with_reducible show LeaveK h₀ L m g _ _ _)); first | walk1 | (dsimp only; (fail_if_success (with_reducible show Exists _)); (fail_if_success (with_reducible show LeaveK h₀ L m g _ _ _)); walk1)))
  (with_reducible rename News _ _ _ _ => N1)
  (with_reducible rename Fr _ _ _ _ => F2)
  refine LCg.CompSrc.base hh F2 N1 hlg (by rw [List.size_toArray, sizeLine_eq]; (first | lia | omega)) fun g2 => ?_
  (try clear F1); (try clear F2); (try clear N1)
  refine comp_inv (DescJ g [(L' + 1, oc)] nodes) ?_ ?_ ⟨[], rfl, .nil⟩
  · rintro i ys nw ⟨nl, rfl, a2⟩ v I oI Cc oC D m₂ hA1 tkA E' hP hC hx' FA NA off hneI
    have hP' : vs[i]? = some v := by simpa using hP
    obtain ⟨n, hn1, hn2⟩ := hn.get i v hP'
    have hm1 : (L' + 1, oc) ∈ nl ++ [(L' + 1, oc)] := List.mem_append_right _ (.head _)
    k_with "svB160" => skip
    k_with "call ref" => ((fail_if_success (k_extra "svB161")); (k_here; k_dflt (k_extra "my call B161")))
    k_with "my call B161" => (refine described_spec (Cx.deeperX (by k_asm) FA (by k_asm) (by k_asm) (by k_asm) rfl rfl) (by first | exact le_up (d := 1) hd rfl | (simp only [depth_deeper]; (first | lia | omega))) (hf.mono fun a o e => FA.keep a o (kg a o e)) (fun a o e => FA.keep a o e) (hn2.mono kg) ?_; intro q dvs hw1 tkw fq Fw Nw1 hdv Kw)
    repeat' (first | (k_unfold; (try dsimp only)) | (dsimp only; k_unfold; (try dsimp only)) | ((fail_if_success (with_reducible show Exists _)); (fail_if_success (with_reducible show LeaveK h₀ L m g _ _ _)); first | walk1 | (dsimp only; (fail_if_success (with_reducible show Exists _)); (fail_if_success (with_reducible show LeaveK h₀ L m g _ _ _)); walk1)))
    have Nw2 := news_app Nw1 (news_keep0 NA Kw)
    have fz := news_none NA fq
    refine LCg.CompEnd.intro Fw Nw2 ((q, tupO dvs) :: (nl ++ [(L' + 1, oc)])) (List.forall_mem_cons.mpr ⟨.tail _ (.head _), List.forall_mem_cons.mpr ⟨.tail _ (.tail _ (.head _)), List.forall_mem_cons.mpr ⟨.tail _ (.tail _ (.tail _ (.head _))), List.forall_mem_cons.mpr ⟨.head _, fun p hp => .tail _ (.tail _ (.tail _ (.tail _ hp)))⟩⟩⟩⟩)
      ⟨⟨Ne.symm (fz _ (.head _)), Ne.symm (fz _ (.tail _ (.head _))), Ne.symm (fz _ (.tail _ (.tail _ (.head _))))⟩, off⟩ (.inl hlg) ⟨(q, tupO dvs) :: nl, rfl, ?_⟩
    rw [List.take_add_one, hn1]
    exact (a2.mono fun _ _ h => h.mono fun _ _ h => h.imp (.tail _) id).snoc ⟨q, dvs, rfl, .inl (.head _), hdv.mono fun _ _ h => .inr h⟩
  · rintro ys nw ⟨nl, rfl, a2⟩ D hA2 tk2 F2 N2 o2
    rw [List.size_toArray, hn.length, List.take_length] at a2
    have hyl := a2.length
    have hnl := hn.length
    repeat' (first | (k_unfold; (try dsimp only)) | (dsimp only; k_unfold; (try dsimp only)) | ((fail_if_success (with_reducible show Exists _)); (fail_if_success (with_reducible show LeaveK h₀ L m g _ _ _)); first | walk1 | (dsimp only; (fail_if_success (with_reducible show Exists _)); (fail_if_success (with_reducible show LeaveK h₀ L m g _ _ _)); walk1)))
    ((try dsimp only); (try k_unfold); (try dsimp only); (with_reducible rename Fr _ _ _ _ => cF); (with_reducible rename News _ _ _ _ => cN); refine leaveK_ cF cN ?_; intro kF kN; (try dsimp only [InitBack]); (try refine ⟨rfl, ?_⟩); (try dsimp only))
    exact ret _ ys _ _ _ kF kN (a2.mono fun _ _ h => h.mono fun a o h => h.elim (fun hm => (kN (a, o) (.tail _ (.tail _ (List.mem_append_left _ hm)))).1) (cF.keep _ _)) (fun b o e _ => cF.keep b o (kg b o e))
open PySem.SeqAt in
theorem eqT {A : Around} {s : Shared} {a b : Addr} {vs ws : List Value} (ha : s.heap.IsTuple a vs.toArray) (hb : s.heap.IsTuple b ws.toArray) (hu : A.units < cLine) (hl : vs.length = ws.length)
    (he : ∀ (j : Nat) v w, vs[j]? = some v → ws[j]? = some w → EqAt A.in1 s v w true) : RcAt A s (.ref a) (.ref b) true := by
  have := RcAt.tuples (A := A) (e := fun _ => true) ha hb hu (fun j h1 h2 => he j _ _ (by simp at h1 h2 ⊢; try exact h1) (by simp at h1 h2 ⊢; try exact h2))
  rwa [show ((List.range (min vs.toArray.size ws.toArray.size)).all (fun _ => true) && vs.toArray.size == ws.toArray.size) = true by simp [hl]] at this
open PySem.SeqAt in
theorem eqT' {A : Around} {s : Shared} {a b : Addr} {vs ws : List Value} (ha : s.heap.IsTuple a vs.toArray) (hb : s.heap.IsTuple b ws.toArray) (hu : A.units < cLine) (hl : vs.length = ws.length)
    (he : ∀ (j : Nat) v w, vs[j]? = some v → ws[j]? = some w → EqAt A.in1 s v w true) : EqAt A s (.ref a) (.ref b) true := by
  by_cases hab : a = b
  · subst hab; exact EqAt.same _
  · exact EqAt.of_refs hab (eqT ha hb hu hl he)
open PySem.SeqAt in
theorem eq_int' {A : Around} {s : Shared} {n : Int} {t u : Tok} : EqAt A s (.int n t) (.int n u) true := by
  have := EqAt.int_int (A := A) (s := s) n t n u
  rwa [show (n == n) = true by simp] at this
open PySem.SeqAt in
theorem eq_ints {A : Around} {s : Shared} {vs ws : List Value} {ns : List Int} (x : IntsV vs ns) (y : IntsV ws ns) : ∀ (j : Nat) v w, vs[j]? = some v → ws[j]? = some w → EqAt A s v w true := fun j v w hv hw => by
  obtain ⟨n, t, rfl, hn⟩ := x.at hv
  obtain ⟨n', t', rfl, hn'⟩ := y.at hw
  rw [hn] at hn'; cases hn'
  exact eq_int'
theorem tupO_at {h : Heap} {a : Addr} {vs : List Value} (e : h.get? a = some (tupO vs)) : h.IsTuple a vs.toArray := ⟨_, e, rfl, _, rfl⟩
theorem units_in1' (A : Around) : A.in1.units ≤ A.units + 1 := by
  first | exact Nat.le_refl _ | (unfold Around.in1; simp) | (cases A; simp [Around.in1])
open PySem.SeqAt in
theorem desc_eqAt {A : Around} {s : Shared} {v v' : Value} {n : NodeP} (hu : A.units + 5 < cLine) (x : DescAt (Gd s.heap) v n) (y : DescAt (Gd s.heap) v' n) : EqAt A s v v' true := by
  have u1 := units_in1' A
  obtain ⟨a, vs, rfl, ha, dv⟩ := x
  obtain ⟨b, ws, rfl, hb, dw⟩ := y
  cases n with
  | char c =>
    obtain ⟨t0, t1, t2, rfl⟩ := dv
    obtain ⟨r0, r1, r2, rfl⟩ := dw
    refine eqT' (tupO_at ha) (tupO_at hb) (by (first | lia | omega)) rfl fun j v w hv hw => ?_
    rcases j with _ | _ | _ | j <;> simp at hv hw <;> subst hv hw <;> exact eq_int'
  | kern k =>
    obtain ⟨t0, t1, t2, rfl⟩ := dv
    obtain ⟨r0, r1, r2, rfl⟩ := dw
    refine eqT' (tupO_at ha) (tupO_at hb) (by (first | lia | omega)) rfl fun j v w hv hw => ?_
    rcases j with _ | _ | _ | j <;> simp at hv hw <;> subst hv hw <;> exact eq_int'
  | lig c ps l r =>
    obtain ⟨t0, t1, t2, pb, pv, t3, t4, rfl, p1, i1⟩ := dv
    obtain ⟨r0, r1, r2, qb, qv, r3, r4, rfl, p2, i2⟩ := dw
    refine eqT' (tupO_at ha) (tupO_at hb) (by (first | lia | omega)) rfl fun j v w hv hw => ?_
    rcases j with _ | _ | _ | _ | _ | _ | j <;> simp at hv hw <;> subst hv hw <;> first | exact eq_int' | exact eqT' (tupO_at p1) (tupO_at p2) (by (first | lia | omega)) (by rw [i1.1, i2.1]) (eq_ints i1 i2)
theorem all2_eqAt {A : Around} {s : Shared} : ∀ {vs ws : List Value} {nodes : List NodeP}, A.units + 5 < cLine → All2 (DescAt (Gd s.heap)) vs nodes → All2 (DescAt (Gd s.heap)) ws nodes → ∀ (j : Nat) v w, vs[j]? = some v → ws[j]? = some w → PySem.SeqAt.EqAt A s v w true := by
  intro vs ws nodes hu x y j v w hv hw
  obtain ⟨n, hn, dv⟩ := x.get j v hv
  obtain ⟨n', hn', dw⟩ := y.get j w hw
  rw [hn] at hn'; cases hn'
  exact desc_eqAt hu dv dw
theorem desc_eq {prog : Program} {w : World} {A : Around} {E : Value → Shared → Prop} {s : Shared} {a b : Addr} {ys zs : List Value} {nodes : List NodeP} {Q : Value → Shared → Prop} (ha : s.heap.IsTuple a ys.toArray) (hb : s.heap.IsTuple b zs.toArray)
    (x : All2 (DescAt (Gd s.heap)) ys nodes) (y : All2 (DescAt (Gd s.heap)) zs nodes) (hu : A.units + 10 < cLine) (h : Q (.bool true) s) : wpAny (model prog w) A (compareOp .Eq (.ref a) (.ref b)) Q E s := by
  have u1 := units_in1' A
  exact eqT ha hb (by (first | lia | omega)) (by rw [x.length, y.length]) (all2_eqAt (by (first | lia | omega)) x y) prog w E Q h
end Mine
theorem Mine.fresh_B17 : True := by w_top off; k_with_none; trivial
namespace Mine
theorem fill_once17 (P : Params) : Mine.kk.heap_1 P = Mine.kk.heap_1 P ∧ PySem.Challenge.rw_sq0044_01 = PySem.Challenge.rw_sq0044_01 := by
  k_fill
  exact ⟨rfl, rfl⟩
theorem lnB17_0 : True := by
  k_with "execs cons" => (k_here; (with_reducible refine PySem.wpAny_execs_cons ?_); (try dsimp only); k_fold)
  k_with "execs cons" => (k_here; (with_reducible refine toks_gen ?_); intro _)
  k_with "eval Call" => (k_here; (with_reducible show wpAny _ _ (eval (Expr.Call (Expr.Name _ _) _ [] _) (envOf _ _ _ _ _)) _ _ _); k_dflt (refine call_named (by k_asm) (by k_asm) (by k_asm) (by k_is) (by k_is) (by (repeat' (first | exact ArgsV.nil | refine' ArgsV.loc (by first | exact rfl | assumption) rfl (by decide) ?_ | refine' ArgsV.int ?_ | refine' ArgsV.bool ?_ | refine' ArgsV.none ?_)); done) ?_))
  k_with "my sub" => first | exact List.forall_mem_nil _ | (refine' List.forall_mem_cons.mpr ⟨?_, ?_⟩; (· k_mem); (· k_extra "my sub")) | (intro q hq; repeat (first | exact hq | refine List.Mem.tail _ ?_))
  k_with "call type:tuple" => (k_here; (with_reducible show wpAny _ _ (call (Value.type _) [Value.ref _]) _ _ _); k_dflt (refine tuple_list_M (by k_asm) (by k_asm) (by k_mem) (by (first | lia | omega)) ?_); intro _ _ _ _ lz9; (try k_lt lz9); (try k_sweep))
  k_with "call ref" => ((fail_if_success (k_extra "svB170")); (k_here; k_dflt (k_extra "my call B170")))
  trivial
theorem ownB17_0 : True := by
  k_with "own k_ne" => (refine neN ?_; (try dsimp only); first | (with_reducible assumption) | (refine Ne.symm ?_; with_reducible assumption))
  trivial
theorem ownB17_1 : True := by
  k_with "own k_room" => ((try simp only [depth_under_make, depth_under_kw, depth_in1, depth_deeper, recursionLimit]); (first | lia | omega))
  trivial
theorem lnB17_1 : True := by
  k_with "getAttr ref" => (k_here; k_dflt (refine getAttr_g (by k_asm) (by k_asm) (by assumption) (by assumption) (by assumption) (by k_is) (by k_is) (by k_is) (by k_is) (by k_handed) ?_; k_whole))
  k_with "getMethod ref" => (k_here; k_dflt (refine getMethod_g (by k_asm) (by k_asm) (by assumption) (by assumption) (by assumption) (by k_is) (by k_is) (by k_is) ?_; k_whole))
  k_with "compareOp In int ref" => (k_here; (refine in_chars (by k_asm) (by assumption) ?_))
  k_with "getMethod ref" => (k_here; (refine getMethod_chars (by k_asm) (by assumption) ?_))
  k_with "call builtin:dict.get" => (k_here; (refine get_chars (by k_asm) (by assumption) ?_ ?_); (all_goals intros))
  k_with "subscriptTail" => (k_here; (with_reducible show wpAny _ _ (subscriptTail _ _ (Value.ref _) (Value.int _ _)) _ _ _); k_dflt (refine item_tupleT (by exact TupP.at (Fr.keep (by k_asm)) (by assumption)) (by decide) (by decide) (by rfl) (by rfl) ?_; k_whole))
  trivial
theorem lnB17_2 : True := by
  k_with "subscriptTail" => (k_here; (with_reducible show wpAny _ _ (subscriptTail _ _ (Value.ref (FontL.tk _)) (Value.int _ _)) _ _ _); k_dflt (refine kern_item (by k_asm) (by assumption) (by first | (first | lia | omega) | (have ok' := RowM.OK.kern (by assumption) (by (first | lia | omega)) (by (first | lia | omega)); (first | lia | omega))) (by first | (first | lia | omega) | (have ok' := RowM.OK.kern (by assumption) (by (first | lia | omega)) (by (first | lia | omega)); (first | lia | omega))) ?_ (by with_unfolding_all rfl)); intros)
  k_with "subscriptTail" => (k_here; (with_reducible show wpAny _ _ (subscriptTail _ _ (Value.ref (FontL.tp _)) (Value.int _ _)) _ _ _); k_dflt (refine prog_item (by k_asm) (by assumption) (by (first | lia | omega)) (by (first | lia | omega)) (by (first | lia | omega)) ?_ (by with_unfolding_all rfl) (by (intro _; with_unfolding_all rfl))); intros)
  k_with "compareOp In int ref" => (k_here; (with_reducible show wpAny _ _ (compareOp _ (Value.int _ _) (Value.ref 392)) _ _ _); (refine' in_known (Frag.In.keeps (by k_asm) (Fr.keep (by k_asm))) ?_))
  k_with "eval Name" => (k_here; (fail_if_success (with_reducible show wpAny _ _ (eval (Expr.Name _ _) (envOfC _ _ _ _ _)) _ _ _)); (fail_if_success (with_reducible show wpAny _ _ (eval (Expr.Name _ _) (compEnvC _ _ _ _)) _ _ _)); k_dflt (refine ld (by k_asm) (by first | exact rfl | assumption) ?_; k_whole))
  trivial
theorem lnB17_3 : True := by
  k_with "getAttr ref" => (k_here; k_dflt (refine getAttr_g (by k_asm) (by k_asm) (by assumption) (by assumption) (by first | assumption | k_get) (by k_is) (by k_is) (by k_is) (by k_is) (by k_handed) ?_; k_whole))
  k_with "getAttr ref" => (k_here; (with_reducible show wpAny _ _ (getAttr (Value.ref _) (PySem.Str.ofString "kind") _) _ _ _); k_dflt (refine getAttr_gc (by k_asm) (by k_asm) (by assumption) (by assumption) (by k_get) (by k_is) (by k_is) (by k_is) (by k_is) (by k_handed) (by decide +kernel) ?_; k_whole))
  trivial
/-- a result, in the heap -/
noncomputable def ResIn (w : World) (P : Addr → Obj → Prop) (fl : FontL) (v : Value) : Option (List NodeP) → Prop
  | none => v = .none
  | some nodes => ∃ fa fvs nf, v = .ref fa ∧ P fa (listOf fvs.toArray nf) ∧ All2 (NodeAt w P (.ref fl.x)) fvs nodes ∧ fvs.length ≤ 10000000
theorem ResIn.mono {w : World} {P P' : Addr → Obj → Prop} {fl : FontL} {v : Value} {r : Option (List NodeP)} (k : ∀ a o, P a o → P' a o) (x : ResIn w P fl v r) : ResIn w P' fl v r := by
  cases r with
  | none => exact x
  | some nodes => obtain ⟨fa, fvs, nf, e, h, a, l⟩ := x; exact ⟨fa, fvs, nf, e, k _ _ h, a.mono fun _ _ q => q.mono k, l⟩
theorem listO_at {h : Heap} {a : Addr} {vs : List Value} {n : Nat} (e : h.get? a = some (listOf vs.toArray n)) : h.IsList a vs.toArray := ⟨_, e, rfl, _, rfl⟩
theorem lnB17_4 : True := by
  k_with "compareOp Eq ref ref" => ((fail_if_success (k_extra "svB170")); (k_here; (k_extra "my eq B170")))
  trivial
theorem law_same_spec {w : World} {A : Around} {s : Shared} {h₀ : Heap} {L : Addr} {m : Str → Option Value} {fl : FontL} {FM : FontM} {v1 v2 : Value} {r : Option (List NodeP)} {Q E : Value → Shared → Prop}
    (C : Cx w A h₀ L s.heap m) (hd : A.depth ≤ 360) (hu : A.units ≤ 2000) (hf : FontAt w (Gd s.heap) fl FM) (x1 : ResIn w (Gd s.heap) fl v1 r) (x2 : ResIn w (Gd s.heap) fl v2 r)
    (ret : ∀ (h' : Heap) (tk' : Tok), Fr h₀ L h' m → Kept s.heap [] h' → Q (.bool true) { s with heap := h', toks := tk' }) :
    wpAny (model PySem.Challenge.rw_sq0044_01.row.prog w) A (call (.ref 510) [v1, v2]) Q E s := by
  refine wpAny_call ?_
  have N0 : News h₀ L s.heap [] := News.nil
  cases r with
  | none =>
    obtain rfl : v1 = .none := x1
    obtain rfl : v2 = .none := x2
    refine Cx.form_ C ?_; intro dp un gd env0 outer0 eA9; subst eA9; (try dsimp only at hd); (try dsimp only at hu); k_dflt (refine' enter (binds := [(Str.ofString "one", .none), (Str.ofString "other", .none)]) ?k1 ?k2 ?k6 ?k7 ?k8 ?k9 ?kB ?_ ?c2 ?c3 ?c4 ?c5; (case k1 => assumption); (case k2 => assumption); (case k6 => k_is); (case k7 => k_is); (case k8 => (first | exact le_up (d := 1) hd rfl | exact le_up (d := 2) hd rfl | (simp only [depth_under_make, depth_under_kw, recursionLimit]; (first | lia | omega)))); (case k9 => first | exact BindsTo.of_eq rfl | exact binds_K (Cx.inK (by assumption)) rfl (by k_is) rfl rfl rfl); (case c5 => decide); (case kB => exact locs rfl); (case c2 => exact rfl); (case c3 => exact rfl); (case c4 => exact rfl)); intro base outer p loose mean mg mb g L' hB1 FG F NB G B X T hh; obtain rfl : env0 :: outer0 = outer := Option.some.inj B.stack; (try dsimp only); (try k_fold)
    have kg : ∀ b o, s.heap.get? b = some o → g.get? b = some o := fun b o e => G b o e (by simp)
    repeat' (first | (k_unfold; (try dsimp only)) | (dsimp only; k_unfold; (try dsimp only)) | ((fail_if_success (with_reducible show Exists _)); (fail_if_success (with_reducible show LeaveK h₀ L m g _ _ _)); first | walk1 | (dsimp only; (fail_if_success (with_reducible show Exists _)); (fail_if_success (with_reducible show LeaveK h₀ L m g _ _ _)); walk1)))
    ((try dsimp only); (try k_unfold); (try dsimp only); (with_reducible rename Fr _ _ _ _ => cF); (with_reducible rename News _ _ _ _ => cN); refine leaveK_ cF cN ?_; intro kF kN; (try dsimp only [InitBack]); (try refine ⟨rfl, ?_⟩); (try dsimp only))
    exact ret _ _ kF (fun b o e _ => cF.keep b o (kg b o e))
  | some nodes =>
    obtain ⟨fa, fvs, nf, rfl, h1, a1, l1⟩ := x1
    obtain ⟨fb, gvs, ng, rfl, h2, a2, l2⟩ := x2
    refine Cx.form_ C ?_; intro dp un gd env0 outer0 eA9; subst eA9; (try dsimp only at hd); (try dsimp only at hu); k_dflt (refine' enter (binds := [(Str.ofString "one", .ref fa), (Str.ofString "other", .ref fb)]) ?k1 ?k2 ?k6 ?k7 ?k8 ?k9 ?kB ?_ ?c2 ?c3 ?c4 ?c5; (case k1 => assumption); (case k2 => assumption); (case k6 => k_is); (case k7 => k_is); (case k8 => (first | exact le_up (d := 1) hd rfl | exact le_up (d := 2) hd rfl | (simp only [depth_under_make, depth_under_kw, recursionLimit]; (first | lia | omega)))); (case k9 => first | exact BindsTo.of_eq rfl | exact binds_K (Cx.inK (by assumption)) rfl (by k_is) rfl rfl rfl); (case c5 => decide); (case kB => exact locs rfl); (case c2 => exact rfl); (case c3 => exact rfl); (case c4 => exact rfl)); intro base outer p loose mean mg mb g L' hB1 FG F NB G B X T hh; obtain rfl : env0 :: outer0 = outer := Option.some.inj B.stack; (try dsimp only); (try k_fold)
    have kg : ∀ b o, s.heap.get? b = some o → g.get? b = some o := fun b o e => G b o e (by simp)
    have hcL9 := cLine_is
    k_with "svB170" => skip
    k_with "call ref" => ((fail_if_success (k_extra "svB171")); (k_here; k_dflt (k_extra "my call B171")))
    k_with "compareOp Eq ref ref" => ((fail_if_success (k_extra "svB171")); (k_here; (k_extra "my eq B171")))
    k_with "my call B171" => (refine described_list_spec (la := fa) (Cx.deeper (by k_asm) (by k_asm) (by k_asm) (by k_asm) (by k_asm) rfl) (by first | exact le_up (d := 1) hd rfl | (simp only [depth_deeper]; (first | lia | omega))) (hf.mono fun a o e => Fr.keep (by k_asm) a o (kg a o e)) ((listO_at h1).at fun o e => Fr.keep (by k_asm) _ o (kg _ o e)) (a1.mono fun _ _ h => h.mono fun a o e => Fr.keep (by k_asm) a o (kg a o e)) l1 ?_; intro q ys ol hw1 tkw Fw Nw aw Kw)
    k_with "my call B171" => (refine described_list_spec (la := fb) (Cx.deeper (by k_asm) (by k_asm) (by k_asm) (by k_asm) (by k_asm) rfl) (by first | exact le_up (d := 1) hd rfl | (simp only [depth_deeper]; (first | lia | omega))) (hf.mono fun a o e => Fw.keep a o (kg a o e)) ((listO_at h2).at fun o e => Fw.keep _ o (kg _ o e)) (a2.mono fun _ _ h => h.mono fun a o e => Fw.keep a o (kg a o e)) l2 ?_; intro q2 zs ol2 hw2 tkw2 Fw2 Nw2 aw2 Kw2)
    k_with "my eq B171" => (refine desc_eq (tupO_at (Kw2 _ _ (Nw _ (.head _)).1 (List.not_mem_nil))) (tupO_at (Nw2 _ (.head _)).1) (aw.mono fun _ _ h => h.mono fun a o e => Kw2 a o e (List.not_mem_nil)) aw2 (by (try simp only [units_deeper]); (first | lia | omega)) ?_)
    repeat' (first | (k_unfold; (try dsimp only)) | (dsimp only; k_unfold; (try dsimp only)) | ((fail_if_success (with_reducible show Exists _)); (fail_if_success (with_reducible show LeaveK h₀ L m g _ _ _)); first | walk1 | (dsimp only; (fail_if_success (with_reducible show Exists _)); (fail_if_success (with_reducible show LeaveK h₀ L m g _ _ _)); walk1)))
    ((try dsimp only); (try k_unfold); (try dsimp only); (with_reducible rename Fr _ _ _ _ => cF); (with_reducible rename News _ _ _ _ => cN); refine leaveK_ cF cN ?_; intro kF kN; (try dsimp only [InitBack]); (try refine ⟨rfl, ?_⟩); (try dsimp only))
    exact ret _ _ kF (fun b o e _ => cF.keep b o (kg b o e))
noncomputable def spellN : NodeP → List Int
  | .char c => [c]
  | .lig _ ps _ _ => ps
  | .kern _ => []
noncomputable def spell (ns : List NodeP) : List Int := ns.flatMap spellN
noncomputable def SpellJ (fa : Addr) (nodes : List NodeP) (i : Nat) (m' : Str → Option Value) (nw : List (Addr × Obj)) : Prop :=
  m' (Str.ofString "found") = some (.ref fa) ∧ ∃ vs nf, nw = [(fa, listOf vs.toArray nf)] ∧ IntsV vs (spell (nodes.take i))
theorem spell_take_le (ns : List NodeP) (i : Nat) : (spell (ns.take i)).length ≤ (spell ns).length := by
  conv => rhs; rw [← List.take_append_drop i ns]
  unfold spell
  rw [List.flatMap_append, List.length_append]; (first | lia | omega)
theorem spell_succ {ns : List NodeP} {i : Nat} {n : NodeP} (h : ns[i]? = some n) : spell (ns.take (i + 1)) = spell (ns.take i) ++ spellN n := by
  rw [List.take_add_one, h]; simp [spell]
theorem lnB17_5 : True := by
  k_with "call builtin:list.extend" => ((fail_if_success (k_extra "svB171")); (k_here; (with_reducible rename Fr _ _ _ _ => FX); (with_reducible rename News _ _ _ _ => NX); (k_extra "my extend B171")))
  trivial
theorem law_spelled_spec {w : World} {A : Around} {s : Shared} {h₀ : Heap} {L : Addr} {m : Str → Option Value} {fl : FontL} {la : Addr} {vs : List Value} {nodes : List NodeP} {Q E : Value → Shared → Prop}
    (C : Cx w A h₀ L s.heap m) (hd : A.depth ≤ 370) (hl : s.heap.IsList la vs.toArray) (hn : All2 (NodeAt w (Gd s.heap) (.ref fl.x)) vs nodes) (hfew : (spell nodes).length ≤ 100000)
    (ret : ∀ (q : Addr) (ys : List Value) (n : Nat) (h' : Heap) (tk' : Tok), Fr h₀ L h' m → News h₀ L h' [(q, listOf ys.toArray n)] → s.heap.get? q = none → IntsV ys (spell nodes) → Kept s.heap [] h' → Q (.ref q) { s with heap := h', toks := tk' }) :
    wpAny (model PySem.Challenge.rw_sq0044_01.row.prog w) A (call (.ref 503) [.ref la]) Q E s := by
  refine wpAny_call ?_
  have N0 : News h₀ L s.heap [] := News.nil
  refine Cx.form_ C ?_; intro dp un gd env0 outer0 eA9; subst eA9; (try dsimp only at hd); (try dsimp only at hu); k_dflt (refine' enter (binds := [(Str.ofString "nodes", .ref la)]) ?k1 ?k2 ?k6 ?k7 ?k8 ?k9 ?kB ?_ ?c2 ?c3 ?c4 ?c5; (case k1 => assumption); (case k2 => assumption); (case k6 => k_is); (case k7 => k_is); (case k8 => (first | exact le_up (d := 1) hd rfl | exact le_up (d := 2) hd rfl | (simp only [depth_under_make, depth_under_kw, recursionLimit]; (first | lia | omega)))); (case k9 => first | exact BindsTo.of_eq rfl | exact binds_K (Cx.inK (by assumption)) rfl (by k_is) rfl rfl rfl); (case c5 => decide); (case kB => exact locs rfl); (case c2 => exact rfl); (case c3 => exact rfl); (case c4 => exact rfl)); intro base outer p loose mean mg mb g L' hB1 FG F NB G B X T hh; obtain rfl : env0 :: outer0 = outer := Option.some.inj B.stack; (try dsimp only); (try k_fold)
  have kg : ∀ b o, s.heap.get? b = some o → g.get? b = some o := fun b o e => G b o e (by simp)
  have hlg : g.IsList la vs.toArray := hl.at fun o e => kg _ o e
  repeat' ((fail_if_success (with_reducible show wpAny _ _ (exec (Stmt.For _ _ _ _ _) _) _ _ _)); first | (k_unfold; (try dsimp only)) | (dsimp only; k_unfold; (try dsimp only)) | ((fail_if_success (with_reducible show Exists _)); (fail_if_success (with_reducible show LeaveK h₀ L m g _ _ _)); first | walk1 | (dsimp only; (fail_if_success (with_reducible show Exists _)); (fail_if_success (with_reducible show LeaveK h₀ L m g _ _ _)); walk1)))
  refine For_invV g (by rfl) (by rfl) ?_
  repeat' ((fail_if_success (with_reducible show wpAny _ _ (pyIter _) _ _ _)); first | (k_unfold; (try dsimp only)) | (dsimp only; k_unfold; (try dsimp only)) | ((fail_if_success (with_reducible show Exists _)); (fail_if_success (with_reducible show LeaveK h₀ L m g _ _ _)); first | walk1 | (dsimp only; (fail_if_success (with_reducible show Exists _)); (fail_if_success (with_reducible show LeaveK h₀ L m g _ _ _)); walk1)))
  (with_reducible rename Fr _ _ _ _ => F6); (with_reducible rename News _ _ _ _ => N6)
  refine iter_list_J hh F6 N6 hlg (SpellJ _ nodes) ⟨rfl, [], 0, rfl, IntsV.nil⟩ ?_ ?_
  · rintro i v m₄ nw4 h4 tk4 I oI hi ⟨e1, ys, nf, rfl, iv⟩ hne F4 N4
    obtain ⟨n, hn1, hn2⟩ := hn.get i v hi
    have hfit := spell_take_le nodes (i + 1)
    have hivl := iv.1
    rw [spell_succ hn1, List.length_append] at hfit
    have n1 := hne _ (.head _)
    cases n with
    | char c =>
      obtain ⟨a, d, t1, t2, t, rfl, z1, z2⟩ := hn2
      replace z1 : Gd g a _ := kg _ _ z1
      replace z2 : Gd g d _ := kg _ _ z2
      repeat' ((fail_if_success (with_reducible show wpAny _ _ (call (Value.builtin "list.extend") _) _ _ _)); first | (k_unfold; (try dsimp only)) | (dsimp only; k_unfold; (try dsimp only)) | ((fail_if_success (with_reducible show Exists _)); (fail_if_success (with_reducible show LeaveK h₀ L m g _ _ _)); first | walk1 | (dsimp only; (fail_if_success (with_reducible show Exists _)); (fail_if_success (with_reducible show LeaveK h₀ L m g _ _ _)); walk1)))
      (with_reducible rename Fr _ _ _ _ => F7); (with_reducible rename News _ _ _ _ => N7)
      obtain ⟨la1, la2⟩ := (by assumption : I < _ ∧ _ < _)
      refine extend_any (us := [Value.int c t]) F7 (news_sub N7 (b := [(_, listOf ys.toArray nf), (_, listOf [Value.int c t].toArray 0), (I, oI)]) (by k_extra "my sub")) (.head _) (List.forall_mem_cons.mpr ⟨Ne.symm (Nat.ne_of_lt la2), List.forall_mem_cons.mpr ⟨Ne.symm n1, fun _ h => nomatch h⟩⟩) (by simp only [List.length_cons, List.length_nil]; (first | lia | omega)) (fun h3 n3 F3 N3 => ?_)
      clear F7 N7
      repeat' (first | (k_unfold; (try dsimp only)) | (dsimp only; k_unfold; (try dsimp only)) | ((fail_if_success (with_reducible show Exists _)); (fail_if_success (with_reducible show LeaveK h₀ L m g _ _ _)); first | walk1 | (dsimp only; (fail_if_success (with_reducible show Exists _)); (fail_if_success (with_reducible show LeaveK h₀ L m g _ _ _)); walk1)))
      (with_reducible rename Fr _ _ _ _ => F8); (with_reducible rename News _ _ _ _ => N8)
      exact ⟨_, _, _, [(_, listOf (ys ++ [Value.int c t]).toArray n3)], rfl, F8, news_sub N8 (by k_extra "my sub"), List.forall_mem_cons.mpr ⟨n1, fun _ h => nomatch h⟩, e1, _, _, rfl, by rw [spell_succ hn1]; exact iv.append (IntsV.one c t)⟩
    | lig c ps l r =>
      obtain ⟨a, d, pb, t1, t2, t3, t4, t5, t, pv, rfl, z1, z2, z3, ivp⟩ := hn2
      replace z1 : Gd g a _ := kg _ _ z1
      replace z2 : Gd g d _ := kg _ _ z2
      replace z3 : Gd g pb _ := kg _ _ z3
      repeat' ((fail_if_success (with_reducible show wpAny _ _ (call (Value.type "list") _) _ _ _)); first | (k_unfold; (try dsimp only)) | (dsimp only; k_unfold; (try dsimp only)) | ((fail_if_success (with_reducible show Exists _)); (fail_if_success (with_reducible show LeaveK h₀ L m g _ _ _)); first | walk1 | (dsimp only; (fail_if_success (with_reducible show Exists _)); (fail_if_success (with_reducible show LeaveK h₀ L m g _ _ _)); walk1)))
      (with_reducible rename Fr _ _ _ _ => F7); (with_reducible rename News _ _ _ _ => N7)
      have hpl := ivp.1
      have hsn : (spellN (.lig c ps l r)).length = ps.length := rfl
      rw [hsn] at hfit
      refine list_copyKT F7 N7 (items := pv.toArray) ⟨_, F7.keep _ _ z3, rfl, _, rfl⟩ (fun D c' h' F9 N9 l9 => ?_) (by rw [List.size_toArray, sizeLine_eq]; (first | lia | omega))
      clear F7 N7
      repeat' ((fail_if_success (with_reducible show wpAny _ _ (call (Value.builtin "list.extend") _) _ _ _)); first | (k_unfold; (try dsimp only)) | (dsimp only; k_unfold; (try dsimp only)) | ((fail_if_success (with_reducible show Exists _)); (fail_if_success (with_reducible show LeaveK h₀ L m g _ _ _)); first | walk1 | (dsimp only; (fail_if_success (with_reducible show Exists _)); (fail_if_success (with_reducible show LeaveK h₀ L m g _ _ _)); walk1)))
      refine extend_any (us := pv) F9 (news_sub N9 (b := [(_, listOf ys.toArray nf), (D, listOf pv.toArray c'), (I, oI)]) (by k_extra "my sub")) (.head _) (List.forall_mem_cons.mpr ⟨Ne.symm (Nat.ne_of_lt (l9 _ (.tail _ (.head _)))), List.forall_mem_cons.mpr ⟨Ne.symm n1, fun _ h => nomatch h⟩⟩) (by (first | lia | omega)) (fun h3 n3 F3 N3 => ?_)
      clear F9 N9
      repeat' (first | (k_unfold; (try dsimp only)) | (dsimp only; k_unfold; (try dsimp only)) | ((fail_if_success (with_reducible show Exists _)); (fail_if_success (with_reducible show LeaveK h₀ L m g _ _ _)); first | walk1 | (dsimp only; (fail_if_success (with_reducible show Exists _)); (fail_if_success (with_reducible show LeaveK h₀ L m g _ _ _)); walk1)))
      (with_reducible rename Fr _ _ _ _ => F8); (with_reducible rename News _ _ _ _ => N8)
      exact ⟨_, _, _, [(_, listOf (ys ++ pv).toArray n3)], rfl, F8, news_sub N8 (by k_extra "my sub"), List.forall_mem_cons.mpr ⟨n1, fun _ h => nomatch h⟩, e1, _, _, rfl, by rw [spell_succ hn1]; exact iv.append ivp⟩
    | kern k =>
      obtain ⟨a, d, t1, t2, t, t', rfl, z1, z2⟩ := hn2
      replace z1 : Gd g a _ := kg _ _ z1
      replace z2 : Gd g d _ := kg _ _ z2
      repeat' (first | (k_unfold; (try dsimp only)) | (dsimp only; k_unfold; (try dsimp only)) | ((fail_if_success (with_reducible show Exists _)); (fail_if_success (with_reducible show LeaveK h₀ L m g _ _ _)); first | walk1 | (dsimp only; (fail_if_success (with_reducible show Exists _)); (fail_if_success (with_reducible show LeaveK h₀ L m g _ _ _)); walk1)))
      (with_reducible rename Fr _ _ _ _ => F8); (with_reducible rename News _ _ _ _ => N8)
      exact ⟨_, _, _, [(_, listOf ys.toArray nf)], rfl, F8, news_sub N8 (by k_extra "my sub"), List.forall_mem_cons.mpr ⟨n1, fun _ h => nomatch h⟩, e1, _, _, rfl, by rw [spell_succ hn1]; exact (List.append_nil _).symm ▸ iv⟩
  · rintro h6 tk6 m6 nw6 F6 N6 ⟨e1, ys, nf, rfl, iv⟩
    rw [hn.length, List.take_length] at iv
    repeat' (first | (k_unfold; (try dsimp only)) | (dsimp only; k_unfold; (try dsimp only)) | ((fail_if_success (with_reducible show Exists _)); (fail_if_success (with_reducible show LeaveK h₀ L m g _ _ _)); first | walk1 | (dsimp only; (fail_if_success (with_reducible show Exists _)); (fail_if_success (with_reducible show LeaveK h₀ L m g _ _ _)); walk1)))
    ((try dsimp only); (try k_unfold); (try dsimp only); (with_reducible rename Fr _ _ _ _ => cF); (with_reducible rename News _ _ _ _ => cN); refine leaveK_ cF cN ?_; intro kF kN; (try dsimp only [InitBack]); (try refine ⟨rfl, ?_⟩); (try dsimp only))
    exact ret _ ys _ _ _ kF kN (kts_none kg (cN _ (.head _)).2.2) iv (fun b o e _ => cF.keep b o (kg b o e))
end Mine
theorem Mine.fresh_PL : True := by w_top off; k_with_none; trivial
namespace Mine
/-- what the law's fonts are -/
structure LawFont (F : FontM) (letters : Int) : Prop where
  wf : F.WF
  lo : 2 ≤ letters
  hi : letters ≤ 4
  has : ∀ c, (F.charOf c).isSome = true ↔ (1 ≤ c ∧ c ≤ letters ∨ c = letters + 2)
  plain : F.charOf (letters + 2) = some (0, 0)
  bound : F.boundary = 256 ∨ F.boundary = 1 ∨ F.boundary = 9
  rows : ∀ r ∈ F.prog, r.skip ≤ 128 → (1 ≤ r.follow ∧ r.follow ≤ letters ∨ r.follow = 9)
noncomputable def Lets (letters : Int) (cs : List Int) : Prop := ∀ c ∈ cs, 1 ≤ c ∧ c ≤ letters
theorem Runs.inv {F : FontM} {n : Nat} {st : WordS} {x : Option (List NodeP)} (h : Runs F n st x) : (st.go = false ∧ x = some st.found) ∨ (st.go = true ∧ ((F.look st.left st.right = none ∧ Runs F n st.pass x) ∨ (∃ k, F.look st.left st.right = some (0, k) ∧ Runs F n (st.pass.addKern k) x) ∨
    ∃ a c, F.look st.left st.right = some (a, c) ∧ a ≠ 0 ∧ ((n = 0 ∧ x = none) ∨ ∃ n', n = n' + 1 ∧ Runs F n' (st.put (a - 1) c) x))) := by
  cases h with
  | done g => exact .inl ⟨g, rfl⟩
  | pass g e r => exact .inr ⟨g, .inl ⟨e, r⟩⟩
  | kern g e r => exact .inr ⟨g, .inr (.inl ⟨_, e, r⟩)⟩
  | over g e a => exact .inr ⟨g, .inr (.inr ⟨_, _, e, a, .inl ⟨rfl, rfl⟩⟩)⟩
  | lig g e a r => exact .inr ⟨g, .inr (.inr ⟨_, _, e, a, .inr ⟨_, rfl, r⟩⟩)⟩
theorem Runs.go {F : FontM} {n : Nat} {st : WordS} {x : Option (List NodeP)} (h : Runs F n st x) (g : st.go = true) : (F.look st.left st.right = none ∧ Runs F n st.pass x) ∨ (∃ k, F.look st.left st.right = some (0, k) ∧ Runs F n (st.pass.addKern k) x) ∨
    ∃ a c, F.look st.left st.right = some (a, c) ∧ a ≠ 0 ∧ ((n = 0 ∧ x = none) ∨ ∃ n', n = n' + 1 ∧ Runs F n' (st.put (a - 1) c) x) :=
  h.inv.elim (fun h => Bool.noConfusion (h.1.symm.trans g)) And.right
theorem Runs.atNone {F : FontM} {n : Nat} {st : WordS} {x : Option (List NodeP)} (h : Runs F n st x) (g : st.go = true) (e : F.look st.left st.right = none) : Runs F n st.pass x :=
  (h.go g).elim And.right fun h => h.elim (fun ⟨_, e', _⟩ => Option.noConfusion rfl (heq_of_eq (e.symm.trans e'))) fun ⟨_, _, e', _⟩ => Option.noConfusion rfl (heq_of_eq (e.symm.trans e'))
theorem Runs.atKern {F : FontM} {n : Nat} {st : WordS} {k : Int} {x : Option (List NodeP)} (h : Runs F n st x) (g : st.go = true) (e : F.look st.left st.right = some (0, k)) : Runs F n (st.pass.addKern k) x := by
  rcases h.go g with ⟨e', _⟩ | ⟨k', e', r⟩ | ⟨a, c, e', a0, _⟩
  · exact absurd (e.symm.trans e') nofun
  · exact (Prod.mk.inj (Option.some.inj (e.symm.trans e'))).2 ▸ r
  · exact absurd (Prod.mk.inj (Option.some.inj (e.symm.trans e'))).1.symm a0
theorem Runs.atLig {F : FontM} {n : Nat} {st : WordS} {a c : Int} {x : Option (List NodeP)} (h : Runs F n st x) (g : st.go = true) (e : F.look st.left st.right = some (a, c)) (a0 : a ≠ 0) : (n = 0 ∧ x = none) ∨ ∃ n', n = n' + 1 ∧ Runs F n' (st.put (a - 1) c) x := by
  rcases h.go g with ⟨e', _⟩ | ⟨k', e', r⟩ | ⟨a', c', e', _, r⟩
  · exact absurd (e.symm.trans e') nofun
  · exact absurd (Prod.mk.inj (Option.some.inj (e.symm.trans e'))).1 a0
  · obtain ⟨rfl, rfl⟩ := Prod.mk.inj (Option.some.inj (e.symm.trans e')); exact r
theorem Runs.det {F : FontM} {n : Nat} {st : WordS} {x y : Option (List NodeP)} (h : Runs F n st x) (h' : Runs F n st y) : x = y := by
  induction h with
  | done g => exact h'.inv.elim (fun h => h.2.symm) fun h => Bool.noConfusion (g.symm.trans h.1)
  | pass g e _ ih => exact ih (h'.atNone g e)
  | kern g e _ ih => exact ih (h'.atKern g e)
  | over g e a => exact (h'.atLig g e a).elim (fun h => h.2.symm) fun ⟨_, h, _⟩ => Nat.noConfusion h
  | lig g e a _ ih => exact (h'.atLig g e a).elim (fun h => Nat.noConfusion h.1) fun ⟨_, h, r⟩ => ih (Nat.succ.inj h ▸ r)
theorem NodesR.det {F : FontM} {cs : List Int} {l : Bool} {edge : Int} {x y : Option (List NodeP)} (h : NodesR F cs l edge x) (h' : NodesR F cs l edge y) : x = y := by
  rcases h with ⟨e, rfl⟩ | ⟨e, r⟩ <;> rcases h' with ⟨e', rfl⟩ | ⟨e', r'⟩
  · rfl
  · exact absurd e e'
  · exact absurd e' e
  · exact r.det r'
theorem RunP.endN {F : FontM} {r l : Bool} {pc : List Int} {x : Option (List NodeP)} (h : RunP F r [] pc l x) : NodesR F pc l (if r then F.boundary else 256) x := by
  cases h with | nil a => exact a
theorem RunP.inv {F : FontM} {r l : Bool} {c : Int} {cs pc : List Int} {x : Option (List NodeP)} (h : RunP F r (c :: cs) pc l x) : ((F.charOf c).isSome = true ∧ RunP F r cs (pc ++ [c]) l x) ∨ ((F.charOf c).isSome = false ∧ ((NodesR F pc l 256 none ∧ x = none) ∨ ∃ ns r', NodesR F pc l 256 (some ns) ∧ RunP F r cs [] true r' ∧ x = r'.map (ns ++ ·))) := by
  cases h with
  | has c h => exact .inl ⟨c, h⟩
  | over c a => exact .inr ⟨c, .inl ⟨a, rfl⟩⟩
  | lack c a h => exact .inr ⟨c, .inr ⟨_, _, a, h, rfl⟩⟩
theorem RunP.goes {F : FontM} {r l : Bool} {c : Int} {cs pc : List Int} {x : Option (List NodeP)} (h : RunP F r (c :: cs) pc l x) (e : (F.charOf c).isSome = true) : RunP F r cs (pc ++ [c]) l x :=
  h.inv.elim And.right fun h => Bool.noConfusion (e.symm.trans h.1)
theorem RunP.lacks {F : FontM} {r l : Bool} {c : Int} {cs pc : List Int} {x : Option (List NodeP)} (h : RunP F r (c :: cs) pc l x) (e : (F.charOf c).isSome = false) : (NodesR F pc l 256 none ∧ x = none) ∨ ∃ ns r', NodesR F pc l 256 (some ns) ∧ RunP F r cs [] true r' ∧ x = r'.map (ns ++ ·) :=
  h.inv.elim (fun h => Bool.noConfusion (e.symm.trans h.1)) And.right
theorem RunP.det {F : FontM} {r l : Bool} {cs pc : List Int} {x y : Option (List NodeP)} (h : RunP F r cs pc l x) (h' : RunP F r cs pc l y) : x = y := by
  induction h generalizing y with
  | nil a => exact a.det h'.endN
  | has c _ ih => exact ih (h'.goes c)
  | over c a =>
    rcases h'.lacks c with ⟨_, e⟩ | ⟨_, _, b, _⟩
    · exact e.symm
    · exact Option.noConfusion rfl (heq_of_eq (a.det b))
  | lack c a _ ih =>
    rcases h'.lacks c with ⟨b, _⟩ | ⟨_, _, b, h, e⟩
    · exact Option.noConfusion rfl (heq_of_eq (b.det a))
    · rw [e, ← ih h, Option.some.inj (b.det a)]
theorem RunP.bound {F : FontM} (hb : F.boundary = 256) {r r' l : Bool} {cs pc : List Int} {x : Option (List NodeP)} (h : RunP F r cs pc l x) : RunP F r' cs pc l x := by
  induction h with
  | nil a =>
    refine .nil ?_
    have e : ∀ b : Bool, (if b = true then F.boundary else 256) = 256 := fun b => by cases b <;> simp [hb]
    rw [e] at a ⊢
    exact a
  | has c _ ih => exact .has c ih
  | over c a => exact .over c a
  | lack c a _ ih => exact .lack c a ih
theorem NodesR.left {F : FontM} (hs : F.start 256 = -1) {l l' : Bool} {cs : List Int} {edge : Int} {x : Option (List NodeP)} (h : NodesR F cs l edge x) : NodesR F cs l' edge x := by
  have e : ∀ b : Bool, (b && decide (0 ≤ F.start 256)) = false := fun b => by rw [hs]; simp
  unfold NodesR at h ⊢
  rw [e] at h ⊢
  exact h
theorem RunP.left {F : FontM} (hs : F.start 256 = -1) {r l l' : Bool} {cs pc : List Int} {x : Option (List NodeP)} (h : RunP F r cs pc l x) : RunP F r cs pc l' x := by
  induction h generalizing l' with
  | nil a => exact .nil (a.left hs)
  | has c _ ih => exact .has c ih
  | over c a => exact .over c (a.left hs)
  | lack c a _ ih => exact .lack c (a.left hs) ih
/-- no code lacks: one word -/
theorem RunP.plain {F : FontM} {r l : Bool} {cs pc : List Int} {x : Option (List NodeP)} (h : RunP F r cs pc l x) (hc : ∀ c ∈ cs, (F.charOf c).isSome = true) : NodesR F (pc ++ cs) l (if r then F.boundary else 256) x := by
  induction h with
  | nil a => rw [List.append_nil]; exact a
  | has c _ ih =>
    have := ih fun d hd => hc d (.tail _ hd)
    rwa [List.append_assoc] at this
  | over c => rw [hc _ (.head _)] at c; cases c
  | lack c => rw [hc _ (.head _)] at c; cases c
noncomputable def WordS.madeB (st : WordS) (a b : Bool) (c : Int) : WordS :=
  let t := st.take b (st.parts0 a)
  if a then { st.mark with edge := t.edge, wait := ⟨c, t.parts, true⟩ :: t.wait } else { st.mark with edge := t.edge, wait := t.wait, now := some ⟨c, t.parts, true⟩ }
/-- the letters that stand in a word -/
noncomputable def partsN : Option Item → List Int
  | none => []
  | some it => it.parts
noncomputable def partsW (l : List Item) : List Int := l.flatMap (·.parts)
noncomputable def Item.Plain (it : Item) : Prop := it.made = false → it.parts = [it.code]
structure WordS.Inv (st : WordS) (cs : List Int) : Prop where
  sum : spell st.found ++ (partsN st.now ++ partsW st.wait) = cs
  now : ∀ it, st.now = some it → it.Plain
  wait : ∀ it ∈ st.wait, it.Plain
theorem spell_snoc (ns : List NodeP) (n : NodeP) : spell (ns ++ [n]) = spell ns ++ spellN n := by unfold spell; simp [List.flatMap_append]
theorem leave_spell {st : WordS} (h : ∀ it, st.now = some it → it.Plain) : spell st.leave.found = spell st.found ++ partsN st.now := by
  unfold WordS.leave
  cases e : st.now with
  | none => simp [partsN]
  | some it =>
    cases hm : it.made with
    | true => simp only [hm, if_true, spell_snoc]; rfl
    | false => simp only [hm, Bool.false_eq_true, if_false, spell_snoc, partsN, h it e hm]; rfl
theorem pass_inv {st : WordS} {cs : List Int} (h : st.Inv cs) : (st.pass.go = st.go ∧ st.pass.Inv cs) ∨ (st.pass.go = false ∧ spell st.pass.found = cs) := by
  obtain ⟨h1, h2, h3, h4⟩ := leave_wait st
  have hl := leave_spell h.now
  have hs := h.sum
  unfold WordS.pass
  split
  · rename_i e
    right
    refine ⟨rfl, ?_⟩
    rw [h1] at e
    rw [e] at hs
    rw [hl, ← hs]; simp [partsW]
  · rename_i it r e
    left
    rw [h1] at e
    refine ⟨h2, ?_, ?_, ?_⟩
    · show spell st.leave.found ++ (it.parts ++ partsW r) = cs
      rw [hl, ← hs, e]; simp [partsW]
    · intro it' e'
      cases e'
      exact h.wait it (by rw [e]; exact .head _)
    · intro it' h'
      exact h.wait it' (by rw [e]; exact .tail _ h')
theorem madeB_inv {st : WordS} {cs : List Int} (a b : Bool) (c : Int) (h : st.Inv cs) : (st.madeB a b c).go = st.go ∧ (st.madeB a b c).Inv cs ∧ (a = true → (st.madeB a b c).wait ≠ []) := by
  obtain ⟨nx, wx, ed, fx, hl, hr, go⟩ := st
  obtain ⟨hs, hn, hw⟩ := h
  have hw2 : ∀ it ∈ wx.tail, it.Plain := fun it h => hw it (List.mem_of_mem_tail h)
  cases nx <;> cases wx <;> cases a <;> cases b <;> refine ⟨rfl, ⟨?_, ?_, ?_⟩, ?_⟩
  all_goals first
    | exact hs | exact hn | exact hw | exact hw2
    | exact fun _ => List.cons_ne_nil _ _
    | exact fun h => Bool.noConfusion h
    | exact fun it e => Option.some.inj e ▸ fun h => Bool.noConfusion h
    | exact List.forall_mem_cons.mpr ⟨fun h => Bool.noConfusion h, hw⟩
    | exact List.forall_mem_cons.mpr ⟨fun h => Bool.noConfusion h, hw2⟩
    | exact (congrArg (spell fx ++ ·) (List.append_assoc ..)).trans hs
theorem made_inv {st : WordS} {cs : List Int} (op c : Int) (h : st.Inv cs) : (st.made op c).go = st.go ∧ (st.made op c).Inv cs ∧ (kl op = true → (st.made op c).wait ≠ []) := madeB_inv (kl op) (kr op) c h
theorem told_op {r : RowM} (h : r.told.1 ≠ 0) : knownOp (r.told.1 - 1) = true := by
  unfold RowM.told at h ⊢
  split
  · rename_i e; rw [if_pos e] at h; exact absurd rfl h
  · dsimp only
    split
    · rename_i e; rw [Int.add_sub_cancel]; exact e
    · decide
theorem lookFrom_told {prog : List RowM} {right : Int} : ∀ (n p : Nat) {x : Int × Int}, lookFrom prog right n p = some x → ∃ r ∈ prog, r.follow = right ∧ r.skip ≤ 128 ∧ x = r.told
  | 0, _, _, h => by cases h
  | n + 1, p, x, h => by
    unfold lookFrom at h
    split at h
    · cases h
    · rename_i r e
      split at h
      · rename_i c
        exact ⟨r, List.mem_of_getElem? e, c.1, c.2, (Option.some.inj h).symm⟩
      · split at h
        · exact lookFrom_told n _ h
        · cases h
theorem look_told {F : FontM} {l r : Int} {x : Int × Int} (h : F.look l r = some x) : r ≠ 256 ∧ 0 ≤ F.start l ∧ ∃ w ∈ F.prog, w.follow = r ∧ w.skip ≤ 128 ∧ x = w.told := by
  unfold FontM.look at h
  split at h
  · cases h
  · rename_i c
    exact ⟨fun e => c (.inr e), by (first | lia | omega), lookFrom_told _ _ h⟩
theorem look_op {F : FontM} {l r a c : Int} (h : F.look l r = some (a, c)) (ha : a ≠ 0) : knownOp (a - 1) = true := by
  obtain ⟨_, _, w, _, _, _, e⟩ := look_told h
  have e1 : a = w.told.1 := by rw [← e]
  rw [e1] at ha ⊢
  exact told_op ha
theorem known_cases {op : Int} (h : knownOp op = true) : op = 0 ∨ op = 1 ∨ op = 2 ∨ op = 3 ∨ op = 5 ∨ op = 6 ∨ op = 7 ∨ op = 11 := by
  unfold knownOp at h
  rw [List.contains_eq_mem] at h
  simpa using h
theorem put_inv {st : WordS} {cs : List Int} {op c : Int} (ho : knownOp op = true) (hg : st.go = true) (h : st.Inv cs) : ((st.put op c).go = true ∧ (st.put op c).Inv cs) ∨ ((st.put op c).go = false ∧ spell (st.put op c).found = cs) := by
  obtain ⟨g1, i1, w1⟩ := made_inv op c h
  rw [hg] at g1
  unfold WordS.put
  have one : ∀ {s : WordS}, s.go = true → s.Inv cs → (s.pass.go = true ∧ s.pass.Inv cs) ∨ (s.pass.go = false ∧ spell s.pass.found = cs) := fun {s} a b => by
    rcases pass_inv b with ⟨x, y⟩ | x
    · exact .inl ⟨x.trans a, y⟩
    · exact .inr x
  rcases known_cases ho with rfl | rfl | rfl | rfl | rfl | rfl | rfl | rfl
  · exact .inl ⟨g1, i1⟩
  · exact .inl ⟨g1, i1⟩
  · exact .inl ⟨g1, i1⟩
  · exact .inl ⟨g1, i1⟩
  · exact one g1 i1
  · exact one g1 i1
  · exact one g1 i1
  · show ((st.made 11 c).pass.pass.go = true ∧ _) ∨ _
    rcases pass_inv i1 with ⟨x, y⟩ | ⟨x, _⟩
    · exact one (x.trans g1) y
    · exfalso
      have hw := w1 (by decide)
      unfold WordS.pass at x
      obtain ⟨h1, h2, _⟩ := leave_wait (st.made 11 c)
      split at x
      · rename_i e; rw [h1] at e; exact hw e
      · have x2 : (st.made 11 c).leave.go = false := x
        rw [h2, g1] at x2; cases x2
theorem kern_inv {st : WordS} {cs : List Int} (k : Int) (h : st.Inv cs) : (st.addKern k).Inv cs := ⟨by
  show spell (st.found ++ [.kern k]) ++ _ = cs
  rw [spell_snoc]
  show (spell st.found ++ []) ++ _ = cs
  rw [List.append_nil]; exact h.sum, h.now, h.wait⟩
theorem Runs.spelled {F : FontM} {n : Nat} {st : WordS} {x : Option (List NodeP)} (h : Runs F n st x) : ∀ {ns cs}, x = some ns → (st.go = true → st.Inv cs) → (st.go = false → spell st.found = cs) → spell ns = cs := by
  induction h with
  | done g => intro ns cs e _ h2; cases e; exact h2 g
  | pass g e r ih =>
    intro ns cs ex h1 _
    rcases pass_inv (h1 g) with ⟨x, y⟩ | ⟨x, y⟩
    · exact ih ex (fun _ => y) (fun e => by rw [x.trans g] at e; cases e)
    · exact ih ex (fun e => by rw [x] at e; cases e) (fun _ => y)
  | @kern n st k r' g e r ih =>
    intro ns cs ex h1 _
    rcases pass_inv (h1 g) with ⟨x, y⟩ | ⟨x, y⟩
    · exact ih ex (fun _ => kern_inv k y) (fun e => by rw [show (st.pass.addKern k).go = st.pass.go from rfl, x.trans g] at e; cases e)
    · refine ih ex (fun e => by rw [show (st.pass.addKern k).go = st.pass.go from rfl, x] at e; cases e) (fun _ => ?_)
      show spell (st.pass.found ++ [.kern k]) = cs
      rw [spell_snoc, y]; exact List.append_nil _
  | over => intro ns cs ex; cases ex
  | lig g e a r ih =>
    intro ns cs ex h1 _
    rcases put_inv (c := _) (look_op e a) g (h1 g) with ⟨x, y⟩ | ⟨x, y⟩
    · exact ih ex (fun _ => y) (fun e => by rw [x] at e; cases e)
    · exact ih ex (fun e => by rw [x] at e; cases e) (fun _ => y)
theorem partsW_map (cs : List Int) : partsW (cs.map itemOf) = cs := by
  induction cs with
  | nil => rfl
  | cons c cs ih => show [c] ++ partsW (cs.map itemOf) = c :: cs; rw [ih]; rfl
theorem init_inv {cs : List Int} (hc : cs ≠ []) (l : Bool) (edge : Int) : (WordS.init cs l edge).go = true ∧ (WordS.init cs l edge).Inv cs := by
  have hp : ∀ {cs : List Int}, ∀ it ∈ cs.map itemOf, it.Plain := fun it h => by
    obtain ⟨c, _, rfl⟩ := List.mem_map.mp h
    exact fun _ => rfl
  cases l with
  | true => exact ⟨rfl, ⟨by show [] ++ ([] ++ partsW (cs.map itemOf)) = cs; rw [partsW_map]; rfl, (fun _ e => by cases e), hp⟩⟩
  | false =>
    cases cs with
    | nil => exact absurd rfl hc
    | cons c cs => exact ⟨rfl, ⟨by show [] ++ ([c] ++ partsW (cs.map itemOf)) = _; rw [partsW_map]; rfl, (fun it e => by cases e; exact fun _ => rfl), hp⟩⟩
theorem NodesR.spelled {F : FontM} {cs : List Int} {l : Bool} {edge : Int} {ns : List NodeP} (h : NodesR F cs l edge (some ns)) : spell ns = cs := by
  rcases h with ⟨rfl, e⟩ | ⟨e, r⟩
  · cases e; rfl
  · obtain ⟨g, i⟩ := init_inv e (l && decide (0 ≤ F.start 256)) edge
    exact r.spelled rfl (fun _ => i) (fun x => by rw [g] at x; cases x)
theorem RunP.spell {F : FontM} {r l : Bool} {cs : List Int} {ns : List NodeP} (hc : ∀ c ∈ cs, (F.charOf c).isSome = true) (h : RunP F r cs [] l (some ns)) : spell ns = cs := (h.plain hc).spelled
theorem Runs.more {F : FontM} {n : Nat} {st : WordS} {x : Option (List NodeP)} (h : Runs F n st x) : ∀ {ns}, x = some ns → ∀ k, Runs F (k + n) st (some ns) := by
  induction h with
  | done g => intro ns e k; cases e; exact .done g
  | pass g e _ ih => intro ns ex k; exact .pass g e (ih ex k)
  | kern g e _ ih => intro ns ex k; exact .kern g e (ih ex k)
  | over => intro ns ex; cases ex
  | lig g e a _ ih => intro ns ex k; exact .lig g e a (ih ex k)
/-- the same word with more found ahead -/
noncomputable def WordS.pre (P : List NodeP) (st : WordS) : WordS := { st with found := P ++ st.found }
theorem pre_leave (P : List NodeP) (st : WordS) : (st.pre P).leave = st.leave.pre P := by
  unfold WordS.leave WordS.pre
  cases h : st.now with
  | none => simp [h]
  | some it => cases hm : it.made <;> simp [List.append_assoc, hm]
theorem pre_pass (P : List NodeP) (st : WordS) : (st.pre P).pass = st.pass.pre P := by
  unfold WordS.pass
  rw [pre_leave]
  generalize st.leave = s
  obtain ⟨nx, wx, ed, fx, hl, hr, go⟩ := s
  cases wx <;> rfl
theorem pre_passes (P : List NodeP) : ∀ (n : Nat) (st : WordS), WordS.passes n (st.pre P) = (WordS.passes n st).pre P
  | 0, _ => rfl
  | n + 1, st => by show (WordS.passes n (st.pre P)).pass = _; rw [pre_passes P n st, pre_pass]; rfl
theorem pre_madeB (P : List NodeP) (st : WordS) (a b : Bool) (c : Int) : (st.pre P).madeB a b c = (st.madeB a b c).pre P := by
  obtain ⟨nx, wx, ed, fx, hl, hr, go⟩ := st
  cases nx <;> cases wx <;> cases a <;> cases b <;> rfl
theorem pre_made (P : List NodeP) (st : WordS) (op c : Int) : (st.pre P).made op c = (st.made op c).pre P := pre_madeB P st (kl op) (kr op) c
theorem pre_put (P : List NodeP) (st : WordS) (op c : Int) : (st.pre P).put op c = (st.put op c).pre P := by
  unfold WordS.put
  rw [pre_made, pre_passes]
theorem pre_kern (P : List NodeP) (st : WordS) (k : Int) : (st.pre P).addKern k = (st.addKern k).pre P := by
  unfold WordS.addKern WordS.pre
  simp [List.append_assoc]
theorem Runs.pre {F : FontM} {n : Nat} {st : WordS} {x : Option (List NodeP)} (P : List NodeP) (h : Runs F n st x) : Runs F n (st.pre P) (x.map (P ++ ·)) := by
  induction h with
  | done g => exact .done g
  | pass g e _ ih => exact .pass g e (by rw [pre_pass]; exact ih)
  | kern g e _ ih => exact .kern g e (by rw [pre_pass, pre_kern]; exact ih)
  | over g e a => exact .over g e a
  | lig g e a _ ih => exact .lig g e a (by rw [pre_put]; exact ih)
/-- the part ahead and the whole, step by step -/
structure Sim (E : Int) (tl : List Item) (a w : WordS) : Prop where
  now : w.now = a.now
  wait : w.wait = a.wait ++ tl
  ea : a.edge = 256
  ew : w.edge = E
  found : w.found = a.found
  hl : w.hl = a.hl
  hra : a.hr = false
  hrw : w.hr = false
  goa : a.go = true
  gow : w.go = true
  hit : a.hl = true → (∃ it, a.now = some it ∧ it.made = true) ∨ (a.now = none ∧ ∃ it r, a.wait = it :: r ∧ it.made = true)
theorem sim_pass {E : Int} {tl : List Item} {a w : WordS} {it : Item} {r : List Item} (s : Sim E tl a w) (e : a.wait = it :: r) : Sim E tl a.pass w.pass ∧ a.pass.wait = r := by
  obtain ⟨nx', wx', ed', fx', hl', hr', go'⟩ := a
  obtain ⟨nx, wx, ed, fx, hl, hr, go⟩ := w
  obtain ⟨e1, e2, e3, e4, e5, e6, e7, e8, e9, e10, hit⟩ := s
  dsimp only at *
  subst e1 e2 e3 e4 e5 e6 e7 e8 e9 e10 e
  cases nx with
  | none =>
    refine ⟨⟨rfl, rfl, rfl, rfl, rfl, rfl, rfl, rfl, rfl, rfl, fun h => ?_⟩, rfl⟩
    rcases hit h with ⟨i, h1, _⟩ | ⟨_, i, r', h1, h2⟩
    · cases h1
    · cases h1; exact .inl ⟨it, rfl, h2⟩
  | some i =>
    obtain ⟨c, ps, made⟩ := i
    cases made with
    | true => exact ⟨⟨rfl, rfl, rfl, rfl, rfl, rfl, rfl, rfl, rfl, rfl, fun h => by cases h⟩, rfl⟩
    | false =>
      refine ⟨⟨rfl, rfl, rfl, rfl, rfl, rfl, rfl, rfl, rfl, rfl, fun h => ?_⟩, rfl⟩
      rcases hit h with ⟨i, h1, h2⟩ | ⟨h1, _⟩
      · cases h1; cases h2
      · cases h1
theorem sim_end {E : Int} {t : Item} {tl : List Item} {a w : WordS} (s : Sim E (t :: tl) a w) (e : a.wait = []) : a.pass.go = false ∧ w.pass = ⟨some t, tl, E, a.pass.found, false, false, true⟩ := by
  obtain ⟨nx', wx', ed', fx', hl', hr', go'⟩ := a
  obtain ⟨nx, wx, ed, fx, hl, hr, go⟩ := w
  obtain ⟨e1, e2, e3, e4, e5, e6, e7, e8, e9, e10, hit⟩ := s
  dsimp only at *
  subst e1 e2 e3 e4 e5 e6 e7 e8 e9 e10 e
  have hf : ∀ i : Item, nx = some i → i.made = false → hl = false := fun i h1 h2 => by
    cases hl with
    | false => rfl
    | true =>
      rcases hit rfl with ⟨i', h3, h4⟩ | ⟨_, _, _, h3, _⟩
      · rw [h1] at h3; cases h3; rw [h2] at h4; cases h4
      · cases h3
  cases nx with
  | none =>
    cases hl with
    | false => exact ⟨rfl, rfl⟩
    | true =>
      rcases hit rfl with ⟨i', h3, h4⟩ | ⟨_, _, _, h3, _⟩
      · cases h3
      · cases h3
  | some i =>
    obtain ⟨c, ps, made⟩ := i
    cases made with
    | true => exact ⟨rfl, rfl⟩
    | false => cases hf _ rfl rfl; exact ⟨rfl, rfl⟩
theorem sim_kern {E k : Int} {tl : List Item} {a w : WordS} (s : Sim E tl a w) : Sim E tl (a.addKern k) (w.addKern k) :=
  ⟨s.now, s.wait, s.ea, s.ew, by show _ ++ _ = _ ++ _; rw [s.found], s.hl, s.hra, s.hrw, s.goa, s.gow, s.hit⟩
theorem sim_madeB {E : Int} {tl : List Item} {x w : WordS} {it : Item} {r : List Item} {a b : Bool} {c : Int} (s : Sim E tl x w) (e : x.wait = it :: r) : Sim E tl (x.madeB a b c) (w.madeB a b c) ∧ (a = true ∨ b = true → ∃ i r', (x.madeB a b c).wait = i :: r') ∧ (a = true → b = true → ∃ i j r', (x.madeB a b c).wait = i :: j :: r') := by
  obtain ⟨nx', wx', ed', fx', hl', hr', go'⟩ := x
  obtain ⟨nx, wx, ed, fx, hl, hr, go⟩ := w
  obtain ⟨e1, e2, e3, e4, e5, e6, e7, e8, e9, e10, hit⟩ := s
  dsimp only at *
  subst e1 e2 e3 e4 e5 e6 e7 e8 e9 e10 e
  cases nx <;> cases a <;> cases b <;> refine ⟨⟨rfl, rfl, rfl, rfl, rfl, rfl, rfl, rfl, rfl, rfl, fun h => ?_⟩, fun h => ?_, fun h h' => ?_⟩
  all_goals first
    | exact ⟨_, _, rfl⟩ | exact ⟨_, _, _, rfl⟩
    | exact h.elim (fun h => Bool.noConfusion h) fun h => Bool.noConfusion h
    | exact Bool.noConfusion h | exact Bool.noConfusion h'
    | exact .inl ⟨_, rfl, rfl⟩
    | exact .inr ⟨rfl, _, _, rfl, rfl⟩
    | exact (hit h).elim .inl fun h => Option.noConfusion rfl (heq_of_eq h.1)
theorem sim_made {E : Int} {tl : List Item} {a w : WordS} {it : Item} {r : List Item} {op c : Int} (s : Sim E tl a w) (e : a.wait = it :: r) : Sim E tl (a.made op c) (w.made op c) ∧ (kl op = true ∨ kr op = true → ∃ i r', (a.made op c).wait = i :: r') ∧ (kl op = true → kr op = true → ∃ i j r', (a.made op c).wait = i :: j :: r') := sim_madeB s e
theorem sim_put {E : Int} {tl : List Item} {a w : WordS} {it : Item} {r : List Item} {op c : Int} (s : Sim E tl a w) (e : a.wait = it :: r) (ho : knownOp op = true) : Sim E tl (a.put op c) (w.put op c) := by
  obtain ⟨s1, w1, w2⟩ := sim_made (op := op) (c := c) s e
  rcases known_cases ho with rfl | rfl | rfl | rfl | rfl | rfl | rfl | rfl
  · exact s1
  · exact s1
  · exact s1
  · exact s1
  · obtain ⟨i, r', h⟩ := w1 (.inr (by decide)); exact (sim_pass s1 h).1
  · obtain ⟨i, r', h⟩ := w1 (.inl (by decide)); exact (sim_pass s1 h).1
  · obtain ⟨i, r', h⟩ := w1 (.inl (by decide)); exact (sim_pass s1 h).1
  · obtain ⟨i, j, r', h⟩ := w2 (by decide) (by decide)
    obtain ⟨s2, h2⟩ := sim_pass s1 h
    exact (sim_pass s2 h2).1
theorem look_edge {F : FontM} {l : Int} : F.look l 256 = none := by unfold FontM.look; rw [if_pos (.inr rfl)]
theorem sim_look {F : FontM} {E : Int} {t : Item} {tl : List Item} {a w : WordS} (ht : ∀ l, F.look l t.code = none) (s : Sim E (t :: tl) a w) : F.look w.left w.right = F.look a.left a.right := by
  have hl : w.left = a.left := by unfold WordS.left; rw [s.now]
  rw [hl]
  unfold WordS.right
  rw [s.wait]
  cases h : a.wait with
  | nil => rw [s.ea]; simp only [List.nil_append]; rw [ht, look_edge]
  | cons i r => rfl
theorem sim_some {F : FontM} {E : Int} {tl : List Item} {a w : WordS} {x : Int × Int} (s : Sim E tl a w) (h : F.look a.left a.right = some x) : ∃ it r, a.wait = it :: r := by
  cases e : a.wait with
  | nil =>
    rw [show a.right = a.edge by unfold WordS.right; rw [e], s.ea, look_edge] at h
    cases h
  | cons i r => exact ⟨i, r, rfl⟩
theorem sim_runs {F : FontM} {E : Int} {t : Item} {tl : List Item} {n2 n : Nat} {a : WordS} {x Y : Option (List NodeP)} (ht : ∀ l, F.look l t.code = none) (h : Runs F n a x) :
    ∀ {A : List NodeP} {w : WordS}, x = some A → Sim E (t :: tl) a w → (∀ k, Runs F (n2 + k) ⟨some t, tl, E, A, false, false, true⟩ Y) → Runs F (n2 + n) w Y := by
  induction h with
  | done g => intro A w _ s; rw [s.goa] at g; cases g
  | @pass n st r' g e r ih =>
    intro A w ex s hE
    refine .pass s.gow ((sim_look ht s).trans e) ?_
    cases ew : st.wait with
    | nil =>
      obtain ⟨g2, e2⟩ := sim_end s ew
      cases ex
      cases r.det (.done g2)
      rw [e2]
      exact hE n
    | cons i rr => exact ih ex (sim_pass s ew).1 hE
  | kern g e r ih =>
    intro A w ex s hE
    obtain ⟨i, rr, ew⟩ := sim_some s e
    exact .kern s.gow ((sim_look ht s).trans e) (ih ex (sim_kern (sim_pass s ew).1) hE)
  | over => intro A w ex; cases ex
  | lig g e ha r ih =>
    intro A w ex s hE
    obtain ⟨i, rr, ew⟩ := sim_some s e
    exact .lig s.gow ((sim_look ht s).trans e) ha (ih ex (sim_put s ew (look_op e ha)) hE)
theorem LawFont.quiet {F : FontM} {letters : Int} (LF : LawFont F letters) (l : Int) : F.look l (letters + 2) = none := by
  cases e : F.look l (letters + 2) with
  | none => rfl
  | some x =>
    obtain ⟨_, _, w, hw, h1, h2, _⟩ := look_told e
    have := LF.rows w hw h2
    have := LF.lo
    have := LF.hi
    (first | lia | omega)
theorem LawFont.mute {F : FontM} {letters : Int} (LF : LawFont F letters) (r : Int) : F.look (letters + 2) r = none := by
  have := LF.lo
  have := LF.hi
  unfold FontM.look
  rw [if_pos (.inl (by rw [FontM.start_other (by (first | lia | omega)) LF.plain (by decide)]; decide))]
theorem LawFont.letter {F : FontM} {letters : Int} (LF : LawFont F letters) {cs : List Int} (h : Lets letters cs) : ∀ c ∈ cs, (F.charOf c).isSome = true := fun c hc => (LF.has c).mpr (.inl (h c hc))
theorem run_still {F : FontM} {letters : Int} (LF : LawFont F letters) : RunP F false [letters + 2] [] false (some [.char (letters + 2)]) := by
  refine .has (by rw [LF.plain]; rfl) (.nil (.inr ⟨by simp, ?_⟩))
  exact .pass rfl (LF.mute _) (.done rfl)
theorem init_sim {E : Int} {still : Int} {one rest : List Int} {l : Bool} (h : one ≠ []) : Sim E (itemOf still :: rest.map itemOf) (WordS.init one l 256) (WordS.init (one ++ still :: rest) l E) := by
  cases l with
  | true => exact ⟨rfl, by show (one ++ still :: rest).map itemOf = _; rw [List.map_append]; rfl, rfl, rfl, rfl, rfl, rfl, rfl, rfl, rfl, fun h => by cases h⟩
  | false =>
    cases one with
    | nil => exact absurd rfl h
    | cons c cs => exact ⟨rfl, by show (cs ++ still :: rest).map itemOf = _; rw [List.map_append]; rfl, rfl, rfl, rfl, rfl, rfl, rfl, rfl, rfl, fun h => by cases h⟩
theorem parted_still {F : FontM} {letters : Int} (LF : LawFont F letters) {one other : List Int} (h1 : Lets letters one) (h2 : Lets letters other) {e0 e1 : Bool} {X : Option (List NodeP)} {A B C : List NodeP}
    (hX : RunP F e1 (one ++ [letters + 2] ++ other) [] e0 X) (hA : RunP F false one [] e0 (some A)) (hB : RunP F e1 other [] false (some B)) (hC : RunP F false [letters + 2] [] false (some C)) : X = some (A ++ C ++ B) := by
  cases hC.det (run_still LF)
  have hq : (F.charOf (letters + 2)).isSome = true := by rw [LF.plain]; rfl
  have nX := hX.plain (fun c hc => by
    rcases List.mem_append.mp hc with hc | hc
    · rcases List.mem_append.mp hc with hc | hc
      · exact LF.letter h1 c hc
      · rw [List.mem_singleton.mp hc]; exact hq
    · exact LF.letter h2 c hc)
  have nA := hA.plain (LF.letter h1)
  have nB := hB.plain (LF.letter h2)
  generalize (if e1 = true then F.boundary else 256) = E at nX nB
  rw [List.nil_append, List.append_assoc] at nX
  rw [List.nil_append] at nA nB
  simp only [Bool.false_eq_true, if_false] at nA
  refine nX.det (.inr ⟨by simp, ?_⟩)
  have hEnd : ∀ k, Runs F (20 * (other.length + 1) + k) ⟨some (itemOf (letters + 2)), other.map itemOf, E, A, false, false, true⟩ (some (A ++ [.char (letters + 2)] ++ B)) := fun k => by
    refine .pass rfl (LF.mute _) ?_
    rcases nB with ⟨rfl, e⟩ | ⟨e, r⟩
    · cases e
      rw [List.append_nil]
      exact .done rfl
    · cases other with
      | nil => exact absurd rfl e
      | cons o os =>
        have r2 := (r.more rfl k).pre (A ++ [.char (letters + 2)])
        rw [Nat.add_comm] at r2
        have e3 : (WordS.pre (A ++ [.char (letters + 2)]) (WordS.init (o :: os) (false && decide (0 ≤ F.start 256)) E)) = (⟨some (itemOf (letters + 2)), (o :: os).map itemOf, E, A, false, false, true⟩ : WordS).pass := by
          show (⟨_, _, _, (A ++ [.char (letters + 2)]) ++ [], _, _, _⟩ : WordS) = _
          rw [List.append_nil]; rfl
        rw [← e3]
        exact r2
  have hb : 20 * ((one ++ ([letters + 2] ++ other)).length + 1) = 20 * (other.length + 1) + 20 * (one.length + 1) := by
    simp only [List.length_append, List.length_cons, List.length_nil]; (first | lia | omega)
  rw [hb]
  rcases nA with ⟨rfl, e⟩ | ⟨e, r⟩
  · cases e
    cases hl : (e0 && decide (0 ≤ F.start 256)) with
    | false => exact hEnd _
    | true => exact .pass rfl (LF.quiet _) (hEnd _)
  · exact sim_runs (t := itemOf (letters + 2)) LF.quiet r rfl (init_sim e) hEnd
theorem RunP.at_lack {F : FontM} {r l : Bool} {c : Int} {other cs pc : List Int} {x : Option (List NodeP)} (hl : (F.charOf c).isSome = false) (h : RunP F r cs pc l x) {one : List Int} (e : cs = one ++ c :: other) (ho : ∀ c ∈ one, (F.charOf c).isSome = true) :
    ∃ a, NodesR F (pc ++ one) l 256 a ∧ ((a = none ∧ x = none) ∨ ∃ ns r', a = some ns ∧ RunP F r other [] true r' ∧ x = r'.map (ns ++ ·)) := by
  subst e
  induction one generalizing pc with
  | nil =>
    rw [List.append_nil]
    rcases RunP.lacks h hl with ⟨n, e⟩ | ⟨ns, r', n, rr, e⟩
    · exact ⟨_, n, .inl ⟨rfl, e⟩⟩
    · exact ⟨_, n, .inr ⟨_, _, rfl, rr, e⟩⟩
  | cons d one ih =>
    have := ih (fun c h => ho c (.tail _ h)) (RunP.goes h (ho _ (.head _)))
    rwa [List.append_assoc] at this
theorem parted_lack {F : FontM} {letters : Int} (LF : LawFont F letters) {one other : List Int} (h1 : Lets letters one) (h2 : Lets letters other) {e0 e1 : Bool} {X A B : Option (List NodeP)}
    (hX : RunP F e1 (one ++ [letters + 1] ++ other) [] e0 X) (hA : RunP F false one [] e0 A) (hB : RunP F e1 other [] true B) : X = match A, B with | some a, some b => some (a ++ b) | _, _ => none := by
  have hl : (F.charOf (letters + 1)).isSome = false := by
    cases e : (F.charOf (letters + 1)).isSome with
    | false => rfl
    | true => have := (LF.has _).mp e; (first | lia | omega)
  have nA := hA.plain (LF.letter h1)
  rw [List.append_assoc] at hX
  obtain ⟨a, n, k⟩ := hX.at_lack hl rfl (LF.letter h1)
  cases n.det nA
  rcases k with ⟨rfl, rfl⟩ | ⟨ns, r', rfl, hr, rfl⟩
  · rfl
  · cases hr.det hB
    cases B <;> rfl
end Mine
theorem Mine.fresh_B18 : True := by w_top off; k_with_none; trivial
namespace Mine
theorem fill_once18 (P : Params) : Mine.kk.heap_1 P = Mine.kk.heap_1 P ∧ PySem.Challenge.rw_sq0044_01 = PySem.Challenge.rw_sq0044_01 := by
  k_fill
  exact ⟨rfl, rfl⟩
theorem lnB18_0 : True := by
  k_with "execs cons" => (k_here; (with_reducible refine PySem.wpAny_execs_cons ?_); (try dsimp only); k_fold)
  k_with "execs cons" => (k_here; (with_reducible refine toks_gen ?_); intro _)
  k_with "eval Call" => (k_here; (with_reducible show wpAny _ _ (eval (Expr.Call (Expr.Name _ _) _ [] _) (envOf _ _ _ _ _)) _ _ _); k_dflt (refine call_named (by k_asm) (by k_asm) (by k_asm) (by k_is) (by k_is) (by (repeat' (first | exact ArgsV.nil | refine' ArgsV.loc (by first | exact rfl | assumption) rfl (by decide) ?_ | refine' ArgsV.int ?_ | refine' ArgsV.bool ?_ | refine' ArgsV.none ?_)); done) ?_))
  k_with "my sub" => first | exact List.forall_mem_nil _ | (refine' List.forall_mem_cons.mpr ⟨?_, ?_⟩; (· k_mem); (· k_extra "my sub")) | (intro q hq; repeat (first | exact hq | refine List.Mem.tail _ ?_))
  k_with "call type:tuple" => (k_here; (with_reducible show wpAny _ _ (call (Value.type _) [Value.ref _]) _ _ _); k_dflt (refine tuple_list_M (by k_asm) (by k_asm) (by k_mem) (by (first | lia | omega)) ?_); intro _ _ _ _ lz9; (try k_lt lz9); (try k_sweep))
  k_with "call ref" => ((fail_if_success (k_extra "svB180")); (k_here; k_dflt (k_extra "my call B180")))
  trivial
theorem ownB18_0 : True := by
  k_with "own k_ne" => (refine neN ?_; (try dsimp only); first | (with_reducible assumption) | (refine Ne.symm ?_; with_reducible assumption))
  trivial
theorem ownB18_1 : True := by
  k_with "own k_room" => ((try simp only [depth_under_make, depth_under_kw, depth_in1, depth_deeper, recursionLimit]); (first | lia | omega))
  trivial
theorem lnB18_1 : True := by
  k_with "getAttr ref" => (k_here; k_dflt (refine getAttr_g (by k_asm) (by k_asm) (by assumption) (by assumption) (by assumption) (by k_is) (by k_is) (by k_is) (by k_is) (by k_handed) ?_; k_whole))
  k_with "getMethod ref" => (k_here; k_dflt (refine getMethod_g (by k_asm) (by k_asm) (by assumption) (by assumption) (by assumption) (by k_is) (by k_is) (by k_is) ?_; k_whole))
  k_with "compareOp In int ref" => (k_here; (refine in_chars (by k_asm) (by assumption) ?_))
  k_with "getMethod ref" => (k_here; (refine getMethod_chars (by k_asm) (by assumption) ?_))
  k_with "call builtin:dict.get" => (k_here; (refine get_chars (by k_asm) (by assumption) ?_ ?_); (all_goals intros))
  k_with "subscriptTail" => (k_here; (with_reducible show wpAny _ _ (subscriptTail _ _ (Value.ref _) (Value.int _ _)) _ _ _); k_dflt (refine item_tupleT (by exact TupP.at (Fr.keep (by k_asm)) (by assumption)) (by decide) (by decide) (by rfl) (by rfl) ?_; k_whole))
  trivial
theorem lnB18_2 : True := by
  k_with "subscriptTail" => (k_here; (with_reducible show wpAny _ _ (subscriptTail _ _ (Value.ref (FontL.tk _)) (Value.int _ _)) _ _ _); k_dflt (refine kern_item (by k_asm) (by assumption) (by first | (first | lia | omega) | (have ok' := RowM.OK.kern (by assumption) (by (first | lia | omega)) (by (first | lia | omega)); (first | lia | omega))) (by first | (first | lia | omega) | (have ok' := RowM.OK.kern (by assumption) (by (first | lia | omega)) (by (first | lia | omega)); (first | lia | omega))) ?_ (by with_unfolding_all rfl)); intros)
  k_with "subscriptTail" => (k_here; (with_reducible show wpAny _ _ (subscriptTail _ _ (Value.ref (FontL.tp _)) (Value.int _ _)) _ _ _); k_dflt (refine prog_item (by k_asm) (by assumption) (by (first | lia | omega)) (by (first | lia | omega)) (by (first | lia | omega)) ?_ (by with_unfolding_all rfl) (by (intro _; with_unfolding_all rfl))); intros)
  k_with "compareOp In int ref" => (k_here; (with_reducible show wpAny _ _ (compareOp _ (Value.int _ _) (Value.ref 392)) _ _ _); (refine' in_known (Frag.In.keeps (by k_asm) (Fr.keep (by k_asm))) ?_))
  k_with "eval Name" => (k_here; (fail_if_success (with_reducible show wpAny _ _ (eval (Expr.Name _ _) (envOfC _ _ _ _ _)) _ _ _)); (fail_if_success (with_reducible show wpAny _ _ (eval (Expr.Name _ _) (compEnvC _ _ _ _)) _ _ _)); k_dflt (refine ld (by k_asm) (by first | exact rfl | assumption) ?_; k_whole))
  trivial
theorem lnB18_3 : True := by
  k_with "getAttr ref" => (k_here; k_dflt (refine getAttr_g (by k_asm) (by k_asm) (by assumption) (by assumption) (by first | assumption | k_get) (by k_is) (by k_is) (by k_is) (by k_is) (by k_handed) ?_; k_whole))
  k_with "getAttr ref" => (k_here; (with_reducible show wpAny _ _ (getAttr (Value.ref _) (PySem.Str.ofString "kind") _) _ _ _); k_dflt (refine getAttr_gc (by k_asm) (by k_asm) (by assumption) (by assumption) (by k_get) (by k_is) (by k_is) (by k_is) (by k_is) (by k_handed) (by decide +kernel) ?_; k_whole))
  trivial
/-- in the heap, and no frame's object -/
noncomputable def GdF (fs : List Addr) (h : Heap) : Addr → Obj → Prop := fun a o => h.get? a = some o ∧ a ∉ fs
theorem KeptF.gd {fs : List Addr} {h h' : Heap} (k : KeptF fs h h') : ∀ a o, GdF fs h a o → h'.get? a = some o := fun a o x => k a o x.1 x.2
theorem turn_gd {fs : List Addr} {h h' : Heap} (k : KtsTurn fs h h') : ∀ a o, GdF fs h a o → h'.get? a = some o := fun a o x => k.other a o x.1 x.2
theorem fs_in {A₀ : Around} {base g : Heap} {outer : List Env} {fs : List Addr} (B : Below A₀ base outer g) (e : outer.filterMap (·.frame) = fs) : ∀ b ∈ fs, ∃ o, g.get? b = some o := fun b hb => by
  rw [← e] at hb
  obtain ⟨_, o, ho, _⟩ := B.frames.mem hb
  exact ⟨o, ho⟩
theorem news_off {g h : Heap} {L : Addr} {fs : List Addr} {news : List (Addr × Obj)} (N : News g L h news) (hfs : ∀ b ∈ fs, ∃ o, g.get? b = some o) : ∀ p ∈ news, p.1 ∉ L :: fs := fun p hp hm => by
  rcases List.mem_cons.mp hm with e | hm
  · exact (N p hp).2.1 e
  · obtain ⟨o, ho⟩ := hfs _ hm
    rw [(N p hp).2.2] at ho; cases ho
/-- a ledger outlives a turn -/
theorem news_turn {g g' h h' : Heap} {L : Addr} {fs : List Addr} {news : List (Addr × Obj)} (N : News g L h news) (T : KtsTurn fs g g') (K : KeptF (L :: fs) h h') (hfs : ∀ b ∈ fs, ∃ o, g.get? b = some o) : News g' L h' news := fun p hp =>
  ⟨K _ _ (N p hp).1 (news_off N hfs p hp), (N p hp).2.1, T.none_ _ (N p hp).2.2⟩
theorem ne_ints {prog : Program} {w : World} {A : Around} {E : Value → Shared → Prop} {s : Shared} {a b : Addr} {vs ws : List Value} {ns : List Int} {Q : Value → Shared → Prop} (ha : s.heap.IsList a vs.toArray) (hb : s.heap.IsList b ws.toArray)
    (x : IntsV vs ns) (y : IntsV ws ns) (hu : A.units + 10 < cLine) (h : Q (.bool false) s) : wpAny (model prog w) A (compareOp .NotEq (.ref a) (.ref b)) Q E s := by
  refine cmp_ofNotEq ?_
  have := PySem.SeqAt.RcNeAt.lists (A := A) (e := fun _ => true) ha hb (by rw [List.size_toArray, List.size_toArray, x.1, y.1]) (by (first | lia | omega)) (fun j h1 h2 => eq_ints x y j _ _ (by simp at h1 h2 ⊢) (by simp at h1 h2 ⊢))
  refine this prog w E Q ?_
  rw [show (!(List.range vs.toArray.size).all fun _ => true) = false by simp]
  exact h
theorem ResAt.toIn {w : World} {g h : Heap} {L : Addr} {fl : FontL} {v : Value} {nw : List (Addr × Obj)} {r : Option (List NodeP)} (x : ResAt w fl v nw r) (N : News g L h nw) : ResIn w (Gd h) fl v r := by
  cases r with
  | none => exact x
  | some nodes =>
    obtain ⟨fa, fvs, nf, ol, e, rfl, _, a, l⟩ := x
    exact ⟨fa, fvs, nf, e, (N _ (.head _)).1, a.mono fun _ _ q => q.mono fun a o hm => (N (a, o) (.tail _ hm)).1, by (first | lia | omega)⟩
theorem turned_ {w : World} {A₀ : Around} {base g g' : Heap} {outer : List Env} {fs : List Addr} {p : Program} {loose : List Str} {mean : ExcName → Option Value} {mg mb : Str → Option Value} (B : Below A₀ base outer g) (T : KtsTurn fs g g') (e : outer.filterMap (·.frame) = fs)
    (XB : (Mine.kk.heap_1 w.params).In base) (TB : Top p loose mean mg mb base) (D : KtsDicts (outer.filterMap (·.frame)) g) {G : Prop}
    (k : Below A₀ base outer g' → (Mine.kk.heap_1 w.params).In g' → Top p loose mean mg mb g' → KtsDicts (outer.filterMap (·.frame)) g' → (∀ b ∈ fs, ∃ o, g'.get? b = some o) → G) : G :=
  have B1 := below_turn B T e
  k B1 (XB.keeps B1.stays) (TB.keeps B1.stays) (D.turn (e.symm ▸ T)) (fs_in B1 e)
theorem lnB18_4 : True := by
  k_with "ite" => ((fail_if_success (k_extra "svB180")); (k_here; k_dflt (k_extra "my ite B180")))
  k_with "compareOp NotEq ref ref" => ((fail_if_success (k_extra "svB180")); (k_here; (k_extra "my ne B180")))
  trivial
noncomputable def AloneJ (w : World) (g : Heap) (L' : Addr) (fs : List Addr) (s : Shared) (fl : FontL) (la ea : Addr) (v : Value) (nw : List (Addr × Obj)) (P : Flow → Shared → Prop) : Prop :=
  ∀ g' h' tk' m', KtsTurn fs g g' → Fr g' L' h' m' → News g' L' h' nw → m' (Str.ofString "font") = some (.ref fl.x) → m' (Str.ofString "one") = some (.ref la) → m' (Str.ofString "edges") = some (.ref ea) → m' (Str.ofString "nodes") = some v → P .next { s with heap := h', toks := tk' }
theorem law_alone_spec {w : World} {A : Around} {s : Shared} {h₀ : Heap} {L : Addr} {m : Str → Option Value} {fs : List Addr} {fl : FontL} {FM : FontM} {letters : Int} {la ea : Addr} {cvs : List Value} {cs : List Int} {nc : Nat} {e0 e1 : Bool} {Q E : Value → Shared → Prop}
    (C : CxT w A fs h₀ L s.heap m) (hd : A.depth ≤ 310) (hu : A.units ≤ 1000) (hf : FontAt w (GdF (L :: fs) s.heap) fl FM) (LF : LawFont FM letters) (hl : GdF (L :: fs) s.heap la (listOf cvs.toArray nc)) (iv : IntsV cvs cs) (ho : Lets letters cs) (hfew : cs.length ≤ 3)
    (he : GdF (L :: fs) s.heap ea (tupO [.bool e0, .bool e1]))
    (ret : ∀ (q : Addr) (b : Bool) (h₀' h' : Heap) (tk' : Tok), KtsTurn fs h₀ h₀' → Fr h₀' L h' m → News h₀' L h' [(q, tupO [.bool true, .bool b])] → KeptF (L :: fs) s.heap h' → Q (.ref q) { s with heap := h', toks := tk' }) :
    wpAny (model PySem.Challenge.rw_sq0044_01.row.prog w) A (call (.ref 517) [.ref fl.x, .ref la, .ref ea]) Q E s := by
  refine wpAny_call ?_
  refine Cx.form_ C.cx ?_; intro dp un gd env0 outer0 eA9; subst eA9; (try dsimp only at hd); (try dsimp only at hu); k_dflt (refine' enterT (binds := [(Str.ofString "font", .ref fl.x), (Str.ofString "one", .ref la), (Str.ofString "edges", .ref ea)]) C ?k6 ?k7 ?k8 ?k9 ?kB ?_ ?c2 ?c3 ?c4 ?c5; (case k6 => k_is); (case k7 => k_is); (case k8 => (first | exact le_up (d := 1) hd rfl | exact le_up (d := 2) hd rfl | (simp only [depth_under_make, depth_under_kw, recursionLimit]; (first | lia | omega)))); (case k9 => first | exact BindsTo.of_eq rfl | exact binds_K (Cx.inK C.cx) rfl (by k_is) rfl rfl rfl); (case c5 => decide); (case kB => exact locs rfl); (case c2 => exact rfl); (case c3 => exact rfl); (case c4 => exact rfl)); intro base outer p loose mean mg mb L' hB1 FG F B X T hh XB TB D hfs; obtain rfl : env0 :: outer0 = outer := Option.some.inj B.stack; (try dsimp only); (try k_fold)
  have T0 : KtsTurn (L :: fs) s.heap s.heap := KtsTurn.refl
  have N0 : News s.heap L' hB1 [] := News.nil
  have tp : TupP (fun a o => s.heap.get? a = some o) ea [.bool e0, .bool e1] := ⟨_, he.1, rfl, _, rfl⟩
  have hoct : ∀ i ∈ cs, OctI i := fun i hi => by have := ho i hi; have := LF.hi; exact ⟨by (first | lia | omega), by (first | lia | omega)⟩
  k_with "svB180" => skip
  k_with "call ref" => ((fail_if_success (k_extra "svB181")); (k_here; k_dflt (k_extra "my call B181")))
  k_with "ite" => ((fail_if_success (k_extra "svB181")); (k_here; k_dflt (k_extra "my ite B181")))
  k_with "compareOp NotEq ref ref" => ((fail_if_success (k_extra "svB181")); (k_here; (k_extra "my ne B181")))
  repeat' ((fail_if_success (with_reducible show wpAny _ _ (call (Value.ref 496) _) _ _ _)); first | (k_unfold; (try dsimp only)) | (dsimp only; k_unfold; (try dsimp only)) | ((fail_if_success (with_reducible show Exists _)); (fail_if_success (with_reducible show LeaveK h₀ L m g _ _ _)); first | walk1 | (dsimp only; (fail_if_success (with_reducible show Exists _)); (fail_if_success (with_reducible show LeaveK h₀ L m g _ _ _)); walk1)))
  (with_reducible rename Fr s.heap _ _ _ => F7)
  refine law_run_spec (CxT.deeper B F7 XB TB hh D hfs rfl) (by first | exact le_up (d := 1) hd rfl | (simp only [depth_deeper]; (first | lia | omega))) (by first | exact le_up (d := 3) hu rfl | (simp only [units_deeper]; (first | lia | omega))) (hf.mono fun a o e => F7.keep a o e.1) LF.wf ((listO_at hl.1).at fun o e => F7.keep _ o e) iv hoct (by (first | lia | omega)) ?_
  intro r v nw g1 h1 tk1 hr1 T1 F1 N1 fr1 x1 K1
  refine turned_ B T1 hfs XB TB D fun B1 X1 Tp1 D1 hin1 => ?_
  have kg := turn_gd T1
  clear T0 N0 F7 tp
  cases r with
  | none =>
    obtain rfl : v = .none := x1
    repeat' (first | (k_unfold; (try dsimp only)) | (dsimp only; k_unfold; (try dsimp only)) | ((fail_if_success (with_reducible show Exists _)); (fail_if_success (with_reducible show LeaveK h₀ L m g _ _ _)); first | walk1 | (dsimp only; (fail_if_success (with_reducible show Exists _)); (fail_if_success (with_reducible show LeaveK h₀ L m g _ _ _)); walk1)))
    ((try dsimp only); (try k_unfold); (try dsimp only); (with_reducible rename Fr _ _ _ _ => cF); (with_reducible rename News _ _ _ _ => cN); refine leaveT_ ‹KtsTurn _ _ _› cF cN ?_; intro k0 kT kF kN)
    exact ret _ false k0 _ _ kT kF (news_sub kN (by k_extra "my sub")) (fun b o e n => cF.keep b o (T1.other b o e n))
  | some nodes =>
    have hsp := hr1.spell (fun c hc => (LF.has c).mpr (.inl (ho c hc)))
    have R1 := x1.toIn N1
    obtain ⟨fa, fvs, nf, ol, rfl, rfl, ap, al, ln⟩ := x1
    repeat' ((fail_if_success (with_reducible show wpAny _ _ (call (Value.ref 503) _) _ _ _)); first | (k_unfold; (try dsimp only)) | (dsimp only; k_unfold; (try dsimp only)) | ((fail_if_success (with_reducible show Exists _)); (fail_if_success (with_reducible show LeaveK h₀ L m g _ _ _)); first | walk1 | (dsimp only; (fail_if_success (with_reducible show Exists _)); (fail_if_success (with_reducible show LeaveK h₀ L m g _ _ _)); walk1)))
    (with_reducible rename Fr g1 _ _ _ => F2); (with_reducible rename News g1 _ _ _ => N2)
    refine law_spelled_spec (Cx.deeper B1 F2 X1 Tp1 hh rfl) (by first | exact le_up (d := 1) hd rfl | (simp only [depth_deeper]; (first | lia | omega))) (listO_at (N2 _ (.head _)).1) (al.mono fun _ _ q => q.mono fun a o hm => (N2 (a, o) (.tail _ hm)).1) (by rw [hsp]; (first | lia | omega)) ?_
    intro q ys n hw1 tkw Fw Nw1 frq ivq Kw
    have Nw := news_app Nw1 (news_keep0 N2 Kw)
    rw [hsp] at ivq
    clear Nw1 N2 F2
    repeat' ((fail_if_success (with_reducible show wpAny _ _ (compareOp CmpOp.NotEq _ _) _ _ _)); first | (k_unfold; (try dsimp only)) | (dsimp only; k_unfold; (try dsimp only)) | ((fail_if_success (with_reducible show Exists _)); (fail_if_success (with_reducible show LeaveK h₀ L m g _ _ _)); first | walk1 | (dsimp only; (fail_if_success (with_reducible show Exists _)); (fail_if_success (with_reducible show LeaveK h₀ L m g _ _ _)); walk1)))
    (refine ne_ints (listO_at (Nw _ (.head _)).1) ((listO_at hl.1).at fun o e => Fw.keep _ o (kg _ o ⟨e, hl.2⟩)) ivq iv (by (try simp only [units_deeper]); (have hcL9 := cLine_is); (first | lia | omega)) ?_)
    repeat' ((fail_if_success (with_reducible show wpAny _ _ (exec (Stmt.If (Expr.BoolOp _ _ _) _ _ _) _) _ _ _)); first | (k_unfold; (try dsimp only)) | (dsimp only; k_unfold; (try dsimp only)) | ((fail_if_success (with_reducible show Exists _)); (fail_if_success (with_reducible show LeaveK h₀ L m g _ _ _)); first | walk1 | (dsimp only; (fail_if_success (with_reducible show Exists _)); (fail_if_success (with_reducible show LeaveK h₀ L m g _ _ _)); walk1)))
    have hg1 := hf.mono (turn_gd T1)
    have i1 := hg1.inst
    have i2 := hg1.dict
    have i6 := hg1.gbound
    have i7 := hg1.nstarts
    have tp1 : TupP (fun a o => g1.get? a = some o) ea [.bool e0, .bool e1] := ⟨_, turn_gd T1 _ _ he, rfl, _, rfl⟩
    refine cutC (AloneJ w s.heap L' (L :: fs) s fl la ea (.ref fa) ((fa, listOf fvs.toArray nf) :: ol)) ?_ ?_
    · (with_reducible rename News g1 _ _ _ => NS)
      have NS2 := news_sub NS (b := (fa, listOf fvs.toArray nf) :: ol) (fun p hp => by first | exact hp | exact .tail _ hp)
      clear NS
      by_cases hb : FM.boundary = 256
      all_goals (
        k_with "svB181" => skip
        k_with "call ref" => ((fail_if_success (k_extra "svB182")); (k_here; k_dflt (k_extra "my call B182")))
        k_with "ite" => ((fail_if_success (k_extra "svB182")); (k_here; k_dflt (k_extra "my ite B182")))
        k_with "compareOp NotEq ref ref" => ((fail_if_success (k_extra "svB182")); (k_here; (k_extra "my ne B182")))
        k_with "my ite B182" => (refine split_dec ?_ ?_ <;> intro hz9 <;> first | (exfalso; (first | lia | omega)) | skip)
        k_with "my call B182" => (refine starts_spec (Cx.deeper B1 (by k_asm) X1 Tp1 hh rfl) (by first | exact le_up (d := 1) hd rfl | (simp only [depth_deeper]; (first | lia | omega))) (hg1.mono fun a o e => Fr.keep (by k_asm) _ _ e) ?_; intro hw1 tw1 tkw Fw Kw; have Nw := news_keep0 (by k_asm) Kw; (try k_sweep))
        repeat' ((fail_if_success (with_reducible show wpAny _ _ (call (Value.ref 496) _) _ _ _)); first | (k_unfold; (try dsimp only)) | (dsimp only; k_unfold; (try dsimp only)) | ((fail_if_success (with_reducible show Exists _)); (fail_if_success (with_reducible show LeaveK h₀ L m g _ _ _)); first | walk1 | (dsimp only; (fail_if_success (with_reducible show Exists _)); (fail_if_success (with_reducible show LeaveK h₀ L m g _ _ _)); walk1))))
      · (with_reducible rename Fr g1 _ _ _ => F2); (with_reducible rename News g1 _ _ _ => N2)
        refine law_run_spec (CxT.deeper B1 F2 XB TB hh D1 hfs rfl) (by first | exact le_up (d := 1) hd rfl | (simp only [depth_deeper]; (first | lia | omega))) (by first | exact le_up (d := 3) hu rfl | (simp only [units_deeper]; (first | lia | omega))) (hg1.mono fun a o e => F2.keep a o e) LF.wf ((listO_at (turn_gd T1 _ _ hl)).at fun o e => F2.keep _ o e) iv hoct (by (first | lia | omega)) ?_
        intro r2 v2 nw2 g2 h2 tk2 hr2 T2 F3 N3 fr3 x2 K2
        refine turned_ B1 T2 hfs XB TB D1 fun B2 X2 Tp2 D2 hin2 => ?_
        have N4 := news_turn N2 T2 K2 hin1
        obtain rfl := RunP.det (RunP.bound hb hr1) hr2
        have T12 := T1.trans T2
        have hg9 := hf.mono (turn_gd T12)
        clear N2 F2
        repeat' ((fail_if_success (with_reducible show wpAny _ _ (call (Value.ref 510) _) _ _ _)); first | (k_unfold; (try dsimp only)) | (dsimp only; k_unfold; (try dsimp only)) | ((fail_if_success (with_reducible show Exists _)); (fail_if_success (with_reducible show LeaveK h₀ L m g _ _ _)); first | walk1 | (dsimp only; (fail_if_success (with_reducible show Exists _)); (fail_if_success (with_reducible show LeaveK h₀ L m g _ _ _)); walk1)))
        refine law_same_spec (r := some nodes) (Cx.deeper B2 F3 X2 Tp2 hh rfl) (by first | exact le_up (d := 1) hd rfl | (simp only [depth_deeper]; (first | lia | omega))) (by first | exact le_up (d := 3) hu rfl | (simp only [units_deeper]; (first | lia | omega))) (hg9.mono fun a o e => F3.keep a o e) ⟨fa, fvs, nf, rfl, (N4 _ (.head _)).1, al.mono fun _ _ q => q.mono fun a o hm => (N4 (a, o) (.tail _ hm)).1, by (first | lia | omega)⟩ (x2.toIn N3) ?_
        intro h5 tk5 F6 K6
        have N6 := news_keep0 N4 K6
        clear N4 N3 F3 K6 i1 i2 i6 i7 tp1 hg1
        repeat' (first | (k_unfold; (try dsimp only)) | (dsimp only; k_unfold; (try dsimp only)) | ((fail_if_success (with_reducible show Exists _)); (fail_if_success (with_reducible show LeaveK h₀ L m g _ _ _)); first | walk1 | (dsimp only; (fail_if_success (with_reducible show Exists _)); (fail_if_success (with_reducible show LeaveK h₀ L m g _ _ _)); walk1)))
        (with_reducible rename Fr _ _ _ _ => F8); (with_reducible rename News _ _ _ _ => N8)
        (with_reducible rename AloneJ .. => kJ); exact kJ _ _ _ _ T12 F8 (news_sub N8 (fun p hp => by assumption)) (by first | rfl | assumption) (by first | rfl | assumption) (by first | rfl | assumption) (by first | rfl | assumption)
      · (with_reducible rename Fr g1 _ _ _ => F2); (with_reducible rename News g1 _ _ _ => N2)
        (with_reducible rename AloneJ .. => kJ); exact kJ g1 _ _ _ T1 F2 (news_sub N2 (fun p hp => by assumption)) (by first | rfl | assumption) (by first | rfl | assumption) (by first | rfl | assumption) (by first | rfl | assumption)
    intro g3 h3 tk3 m3 T3 F3 N3 n1 n2 n3 n4
    (try dsimp only)
    clear hg1 i1 i2 i6 i7 tp1 R1 B1 X1 Tp1 D1 K1 T1 kg hin1 Kw Fw Nw
    refine turned_ B T3 hfs XB TB D fun B3 X3 Tp3 D3 hin3 => ?_
    repeat' ((fail_if_success (with_reducible show wpAny _ _ (exec (Stmt.If (Expr.BoolOp _ _ _) _ _ _) _) _ _ _)); first | (k_unfold; (try dsimp only)) | (dsimp only; k_unfold; (try dsimp only)) | ((fail_if_success (with_reducible show Exists _)); (fail_if_success (with_reducible show LeaveK h₀ L m g _ _ _)); first | walk1 | (dsimp only; (fail_if_success (with_reducible show Exists _)); (fail_if_success (with_reducible show LeaveK h₀ L m g _ _ _)); walk1)))
    have hg2 := hf.mono (turn_gd T3)
    have i1 := hg2.inst
    have i2 := hg2.dict
    have i6 := hg2.gbound
    have i7 := hg2.nstarts
    have tp2 : TupP (fun a o => g3.get? a = some o) ea [.bool e0, .bool e1] := ⟨_, turn_gd T3 _ _ he, rfl, _, rfl⟩
    refine cutC (AloneJ w s.heap L' (L :: fs) s fl la ea (.ref fa) ((fa, listOf fvs.toArray nf) :: ol)) ?_ ?_
    · (with_reducible rename News g3 _ _ _ => NS)
      have NS2 := news_sub NS (b := (fa, listOf fvs.toArray nf) :: ol) (fun p hp => by first | exact hp | exact .tail _ hp)
      clear NS
      by_cases hb : FM.start 256 = -1
      all_goals (
        k_with "svB182" => skip
        k_with "call ref" => ((fail_if_success (k_extra "svB183")); (k_here; k_dflt (k_extra "my call B183")))
        k_with "ite" => ((fail_if_success (k_extra "svB183")); (k_here; k_dflt (k_extra "my ite B183")))
        k_with "compareOp NotEq ref ref" => ((fail_if_success (k_extra "svB183")); (k_here; (k_extra "my ne B183")))
        k_with "my ite B183" => (refine split_dec ?_ ?_ <;> intro hz9 <;> first | (exfalso; (first | lia | omega)) | skip)
        k_with "my call B183" => (refine starts_spec (Cx.deeper B3 (by k_asm) X3 Tp3 hh rfl) (by first | exact le_up (d := 1) hd rfl | (simp only [depth_deeper]; (first | lia | omega))) (hg2.mono fun a o e => Fr.keep (by k_asm) _ _ e) ?_; intro hw1 tw1 tkw Fw Kw; have Nw := news_keep0 (by k_asm) Kw; (try k_sweep))
        repeat' ((fail_if_success (with_reducible show wpAny _ _ (call (Value.ref 496) _) _ _ _)); first | (k_unfold; (try dsimp only)) | (dsimp only; k_unfold; (try dsimp only)) | ((fail_if_success (with_reducible show Exists _)); (fail_if_success (with_reducible show LeaveK h₀ L m g _ _ _)); first | walk1 | (dsimp only; (fail_if_success (with_reducible show Exists _)); (fail_if_success (with_reducible show LeaveK h₀ L m g _ _ _)); walk1))))
      · (with_reducible rename Fr g3 _ _ _ => F2); (with_reducible rename News g3 _ _ _ => N2)
        refine law_run_spec (CxT.deeper B3 F2 XB TB hh D3 hfs rfl) (by first | exact le_up (d := 1) hd rfl | (simp only [depth_deeper]; (first | lia | omega))) (by first | exact le_up (d := 3) hu rfl | (simp only [units_deeper]; (first | lia | omega))) (hg2.mono fun a o e => F2.keep a o e) LF.wf ((listO_at (turn_gd T3 _ _ hl)).at fun o e => F2.keep _ o e) iv hoct (by (first | lia | omega)) ?_
        intro r2 v2 nw2 g2 h2 tk2 hr2 T2 F3 N3 fr3 x2 K2
        refine turned_ B3 T2 hfs XB TB D3 fun B2 X2 Tp2 D2 hin2 => ?_
        have N4 := news_turn N2 T2 K2 hin3
        obtain rfl := RunP.det (RunP.left hb hr1) hr2
        have T12 := T3.trans T2
        have hg9 := hf.mono (turn_gd T12)
        clear N2 F2
        repeat' ((fail_if_success (with_reducible show wpAny _ _ (call (Value.ref 510) _) _ _ _)); first | (k_unfold; (try dsimp only)) | (dsimp only; k_unfold; (try dsimp only)) | ((fail_if_success (with_reducible show Exists _)); (fail_if_success (with_reducible show LeaveK h₀ L m g _ _ _)); first | walk1 | (dsimp only; (fail_if_success (with_reducible show Exists _)); (fail_if_success (with_reducible show LeaveK h₀ L m g _ _ _)); walk1)))
        refine law_same_spec (r := some nodes) (Cx.deeper B2 F3 X2 Tp2 hh rfl) (by first | exact le_up (d := 1) hd rfl | (simp only [depth_deeper]; (first | lia | omega))) (by first | exact le_up (d := 3) hu rfl | (simp only [units_deeper]; (first | lia | omega))) (hg9.mono fun a o e => F3.keep a o e) ⟨fa, fvs, nf, rfl, (N4 _ (.head _)).1, al.mono fun _ _ q => q.mono fun a o hm => (N4 (a, o) (.tail _ hm)).1, by (first | lia | omega)⟩ (x2.toIn N3) ?_
        intro h5 tk5 F6 K6
        have N6 := news_keep0 N4 K6
        clear N4 N3 F3 K6 i1 i2 i6 i7 tp2 hg2
        repeat' (first | (k_unfold; (try dsimp only)) | (dsimp only; k_unfold; (try dsimp only)) | ((fail_if_success (with_reducible show Exists _)); (fail_if_success (with_reducible show LeaveK h₀ L m g _ _ _)); first | walk1 | (dsimp only; (fail_if_success (with_reducible show Exists _)); (fail_if_success (with_reducible show LeaveK h₀ L m g _ _ _)); walk1)))
        (with_reducible rename Fr _ _ _ _ => F8); (with_reducible rename News _ _ _ _ => N8)
        (with_reducible rename AloneJ .. => kJ); exact kJ _ _ _ _ T12 F8 (news_sub N8 (fun p hp => by assumption)) (by first | rfl | assumption) (by first | rfl | assumption) (by first | rfl | assumption) (by first | rfl | assumption)
      · (with_reducible rename Fr g3 _ _ _ => F2); (with_reducible rename News g3 _ _ _ => N2)
        (with_reducible rename AloneJ .. => kJ); exact kJ g3 _ _ _ T3 F2 (news_sub N2 (fun p hp => by assumption)) (by first | rfl | assumption) (by first | rfl | assumption) (by first | rfl | assumption) (by first | rfl | assumption)
    intro g4 h4 tk4 m4 T4 F4 N4 n1 n2 n3 n4
    (try dsimp only)
    clear hg2 i1 i2 i6 i7 tp2 B3 X3 Tp3 D3 T3 hin3
    refine turned_ B T4 hfs XB TB D fun B4 X4 Tp4 D4 hin4 => ?_
    repeat' (first | (k_unfold; (try dsimp only)) | (dsimp only; k_unfold; (try dsimp only)) | ((fail_if_success (with_reducible show Exists _)); (fail_if_success (with_reducible show LeaveK h₀ L m g _ _ _)); first | walk1 | (dsimp only; (fail_if_success (with_reducible show Exists _)); (fail_if_success (with_reducible show LeaveK h₀ L m g _ _ _)); walk1)))
    ((try dsimp only); (try k_unfold); (try dsimp only); (with_reducible rename Fr _ _ _ _ => cF); (with_reducible rename News _ _ _ _ => cN); refine leaveT_ ‹KtsTurn _ _ _› cF cN ?_; intro k0 kT kF kN)
    exact ret _ true k0 _ _ kT kF (news_sub kN (by k_extra "my sub")) (fun b o e n => cF.keep b o (T4.other b o e n))
end Mine
theorem Mine.fresh_B19 : True := by w_top off; k_with_none; trivial
namespace Mine
theorem fill_once19 (P : Params) : Mine.kk.heap_1 P = Mine.kk.heap_1 P ∧ PySem.Challenge.rw_sq0044_01 = PySem.Challenge.rw_sq0044_01 := by
  k_fill
  exact ⟨rfl, rfl⟩
theorem lnB19_0 : True := by
  k_with "execs cons" => (k_here; (with_reducible refine PySem.wpAny_execs_cons ?_); (try dsimp only); k_fold)
  k_with "execs cons" => (k_here; (with_reducible refine toks_gen ?_); intro _)
  k_with "eval Call" => (k_here; (with_reducible show wpAny _ _ (eval (Expr.Call (Expr.Name _ _) _ [] _) (envOf _ _ _ _ _)) _ _ _); k_dflt (refine call_named (by k_asm) (by k_asm) (by k_asm) (by k_is) (by k_is) (by (repeat' (first | exact ArgsV.nil | refine' ArgsV.loc (by first | exact rfl | assumption) rfl (by decide) ?_ | refine' ArgsV.int ?_ | refine' ArgsV.bool ?_ | refine' ArgsV.none ?_)); done) ?_))
  k_with "my sub" => first | exact List.forall_mem_nil _ | (refine' List.forall_mem_cons.mpr ⟨?_, ?_⟩; (· k_mem); (· k_extra "my sub")) | (intro q hq; repeat (first | exact hq | refine List.Mem.tail _ ?_))
  k_with "call type:tuple" => (k_here; (with_reducible show wpAny _ _ (call (Value.type _) [Value.ref _]) _ _ _); k_dflt (refine tuple_list_M (by k_asm) (by k_asm) (by k_mem) (by (first | lia | omega)) ?_); intro _ _ _ _ lz9; (try k_lt lz9); (try k_sweep))
  k_with "call ref" => ((fail_if_success (k_extra "svB190")); (k_here; k_dflt (k_extra "my call B190")))
  trivial
theorem ownB19_0 : True := by
  k_with "own k_ne" => (refine neN ?_; (try dsimp only); first | (with_reducible assumption) | (refine Ne.symm ?_; with_reducible assumption))
  trivial
theorem ownB19_1 : True := by
  k_with "own k_room" => ((try simp only [depth_under_make, depth_under_kw, depth_in1, depth_deeper, recursionLimit]); (first | lia | omega))
  trivial
theorem lnB19_1 : True := by
  k_with "getAttr ref" => (k_here; k_dflt (refine getAttr_g (by k_asm) (by k_asm) (by assumption) (by assumption) (by assumption) (by k_is) (by k_is) (by k_is) (by k_is) (by k_handed) ?_; k_whole))
  k_with "getMethod ref" => (k_here; k_dflt (refine getMethod_g (by k_asm) (by k_asm) (by assumption) (by assumption) (by assumption) (by k_is) (by k_is) (by k_is) ?_; k_whole))
  k_with "compareOp In int ref" => (k_here; (refine in_chars (by k_asm) (by assumption) ?_))
  k_with "getMethod ref" => (k_here; (refine getMethod_chars (by k_asm) (by assumption) ?_))
  k_with "call builtin:dict.get" => (k_here; (refine get_chars (by k_asm) (by assumption) ?_ ?_); (all_goals intros))
  k_with "subscriptTail" => (k_here; (with_reducible show wpAny _ _ (subscriptTail _ _ (Value.ref _) (Value.int _ _)) _ _ _); k_dflt (refine item_tupleT (by exact TupP.at (Fr.keep (by k_asm)) (by assumption)) (by decide) (by decide) (by rfl) (by rfl) ?_; k_whole))
  trivial
theorem lnB19_2 : True := by
  k_with "subscriptTail" => (k_here; (with_reducible show wpAny _ _ (subscriptTail _ _ (Value.ref (FontL.tk _)) (Value.int _ _)) _ _ _); k_dflt (refine kern_item (by k_asm) (by assumption) (by first | (first | lia | omega) | (have ok' := RowM.OK.kern (by assumption) (by (first | lia | omega)) (by (first | lia | omega)); (first | lia | omega))) (by first | (first | lia | omega) | (have ok' := RowM.OK.kern (by assumption) (by (first | lia | omega)) (by (first | lia | omega)); (first | lia | omega))) ?_ (by with_unfolding_all rfl)); intros)
  k_with "subscriptTail" => (k_here; (with_reducible show wpAny _ _ (subscriptTail _ _ (Value.ref (FontL.tp _)) (Value.int _ _)) _ _ _); k_dflt (refine prog_item (by k_asm) (by assumption) (by (first | lia | omega)) (by (first | lia | omega)) (by (first | lia | omega)) ?_ (by with_unfolding_all rfl) (by (intro _; with_unfolding_all rfl))); intros)
  k_with "compareOp In int ref" => (k_here; (with_reducible show wpAny _ _ (compareOp _ (Value.int _ _) (Value.ref 392)) _ _ _); (refine' in_known (Frag.In.keeps (by k_asm) (Fr.keep (by k_asm))) ?_))
  k_with "eval Name" => (k_here; (fail_if_success (with_reducible show wpAny _ _ (eval (Expr.Name _ _) (envOfC _ _ _ _ _)) _ _ _)); (fail_if_success (with_reducible show wpAny _ _ (eval (Expr.Name _ _) (compEnvC _ _ _ _)) _ _ _)); k_dflt (refine ld (by k_asm) (by first | exact rfl | assumption) ?_; k_whole))
  trivial
theorem lnB19_3 : True := by
  k_with "getAttr ref" => (k_here; k_dflt (refine getAttr_g (by k_asm) (by k_asm) (by assumption) (by assumption) (by first | assumption | k_get) (by k_is) (by k_is) (by k_is) (by k_is) (by k_handed) ?_; k_whole))
  k_with "getAttr ref" => (k_here; (with_reducible show wpAny _ _ (getAttr (Value.ref _) (PySem.Str.ofString "kind") _) _ _ _); k_dflt (refine getAttr_gc (by k_asm) (by k_asm) (by assumption) (by assumption) (by k_get) (by k_is) (by k_is) (by k_is) (by k_is) (by k_handed) (by decide +kernel) ?_; k_whole))
  trivial
noncomputable def PJ (g : Heap) (L' : Addr) (fs : List Addr) (s : Shared) (nw : List (Addr × Obj)) (X : (Str → Option Value) → Prop → Prop) (P : Flow → Shared → Prop) : Prop :=
  ∀ g' h' tk' m', KtsTurn fs g g' → Fr g' L' h' m' → News g' L' h' nw → X m' (P .next { s with heap := h', toks := tk' })
noncomputable def PX (fl : FontL) (la lb ea : Addr) (letters : Int) (m' : Str → Option Value) (G : Prop) : Prop :=
  m' (Str.ofString "font") = some (.ref fl.x) → m' (Str.ofString "one") = some (.ref la) → m' (Str.ofString "other") = some (.ref lb) → m' (Str.ofString "edges") = some (.ref ea) → ∀ t, m' (Str.ofString "still") = some (.int (letters + 2) t) → ∀ t, m' (Str.ofString "lacking") = some (.int (letters + 1) t) → G
noncomputable def DueJ (w : World) (g : Heap) (L' : Addr) (s : Shared) (fl : FontL) (led : List (Addr × Obj)) (v5 v2 : Value) (r5 : Option (List NodeP)) (P : Flow → Shared → Prop) : Prop :=
  ∀ h' tk' m' nwd vd, Fr g L' h' m' → News g L' h' (nwd ++ led) → m' (Str.ofString "parted") = some v5 → m' (Str.ofString "behind") = some v2 → m' (Str.ofString "due") = some vd → ResIn w (MemP (nwd ++ led)) fl vd r5 → P .next { s with heap := h', toks := tk' }
theorem list_add {prog : Program} {w : World} {A : Around} {E : Value → Shared → Prop} {s : Shared} {h₀ : Heap} {L a b : Addr} {m : Str → Option Value} {news : List (Addr × Obj)} {vs ws : List Value} {Q : Value → Shared → Prop} (F : Fr h₀ L s.heap m) (N : News h₀ L s.heap news) (ha : s.heap.IsList a vs.toArray) (hb : s.heap.IsList b ws.toArray)
    (hz : vs.length + ws.length ≤ 16000000) (h : ∀ D h', Fr h₀ L h' m → News h₀ L h' ((D, listOf (vs ++ ws).toArray 0) :: news) → (∀ p ∈ news, p.1 < D) → Q (.ref D) { s with heap := h' }) : wpAny (model prog w) A (binaryOp .Add (.ref a) (.ref b)) Q E s :=
  kmk_add_lit F N ha hb rfl h (by simp only [sizeLine_eq]; (first | lia | omega))
theorem law_parted_spec {w : World} {A : Around} {s : Shared} {h₀ : Heap} {L : Addr} {m : Str → Option Value} {fs : List Addr} {fl : FontL} {FM : FontM} {letters : Int} {la lb ea : Addr} {vs ws : List Value} {one other : List Int} {n1 n2 : Nat} {e0 e1 : Bool} {tl : Tok} {Q E : Value → Shared → Prop}
    (C : CxT w A fs h₀ L s.heap m) (hd : A.depth ≤ 310) (hu : A.units ≤ 1000) (hf : FontAt w (GdF (L :: fs) s.heap) fl FM) (LF : LawFont FM letters) (hl1 : GdF (L :: fs) s.heap la (listOf vs.toArray n1)) (iv1 : IntsV vs one) (ho1 : Lets letters one) (hf1 : one.length ≤ 3)
    (hl2 : GdF (L :: fs) s.heap lb (listOf ws.toArray n2)) (iv2 : IntsV ws other) (ho2 : Lets letters other) (hf2 : other.length ≤ 3) (he : GdF (L :: fs) s.heap ea (tupO [.bool e0, .bool e1]))
    (ret : ∀ (q : Addr) (b : Bool) (h₀' h' : Heap) (tk' : Tok), KtsTurn fs h₀ h₀' → Fr h₀' L h' m → News h₀' L h' [(q, tupO [.bool true, .bool b])] → KeptF (L :: fs) s.heap h' → Q (.ref q) { s with heap := h', toks := tk' }) :
    wpAny (model PySem.Challenge.rw_sq0044_01.row.prog w) A (call (.ref 524) [.ref fl.x, .ref la, .ref lb, .int letters tl, .ref ea]) Q E s := by
  refine wpAny_call ?_
  refine Cx.form_ C.cx ?_; intro dp un gd env0 outer0 eA9; subst eA9; (try dsimp only at hd); (try dsimp only at hu); k_dflt (refine' enterT (binds := [(Str.ofString "font", .ref fl.x), (Str.ofString "one", .ref la), (Str.ofString "other", .ref lb), (Str.ofString "letters", .int letters tl), (Str.ofString "edges", .ref ea)]) C ?k6 ?k7 ?k8 ?k9 ?kB ?_ ?c2 ?c3 ?c4 ?c5; (case k6 => k_is); (case k7 => k_is); (case k8 => (first | exact le_up (d := 1) hd rfl | exact le_up (d := 2) hd rfl | (simp only [depth_under_make, depth_under_kw, recursionLimit]; (first | lia | omega)))); (case k9 => first | exact BindsTo.of_eq rfl | exact binds_K (Cx.inK C.cx) rfl (by k_is) rfl rfl rfl); (case c5 => decide); (case kB => exact locs rfl); (case c2 => exact rfl); (case c3 => exact rfl); (case c4 => exact rfl)); intro base outer p loose mean mg mb L' hB1 FG F B X T hh XB TB D hfs; obtain rfl : env0 :: outer0 = outer := Option.some.inj B.stack; (try dsimp only); (try k_fold)
  have T0 : KtsTurn (L :: fs) s.heap s.heap := KtsTurn.refl
  have N0 : News s.heap L' hB1 [] := News.nil
  have tp : TupP (fun a o => s.heap.get? a = some o) ea [.bool e0, .bool e1] := ⟨_, he.1, rfl, _, rfl⟩
  have hLo := LF.lo
  have hHi := LF.hi
  have hoct : ∀ {cs}, Lets letters cs → ∀ i ∈ cs, OctI i := fun ho i hi => by have := ho i hi; exact ⟨by (first | lia | omega), by (first | lia | omega)⟩
  k_with "svB190" => skip
  k_with "call ref" => ((fail_if_success (k_extra "svB191")); (k_here; k_dflt (k_extra "my call B191")))
  repeat' ((fail_if_success (with_reducible show wpAny _ _ (call (Value.ref 496) _) _ _ _)); first | (k_unfold; (try dsimp only)) | (dsimp only; k_unfold; (try dsimp only)) | ((fail_if_success (with_reducible show Exists _)); (fail_if_success (with_reducible show LeaveK h₀ L m g _ _ _)); first | walk1 | (dsimp only; (fail_if_success (with_reducible show Exists _)); (fail_if_success (with_reducible show LeaveK h₀ L m g _ _ _)); walk1)))
  (with_reducible rename Fr s.heap _ _ _ => F7)
  refine law_run_spec (CxT.deeper B F7 XB TB hh D hfs rfl) (by first | exact le_up (d := 1) hd rfl | (simp only [depth_deeper]; (first | lia | omega))) (by first | exact le_up (d := 3) hu rfl | (simp only [units_deeper]; (first | lia | omega))) (hf.mono fun a o e => F7.keep a o e.1) LF.wf ((listO_at hl1.1).at fun o e => F7.keep _ o e) iv1 (hoct ho1) (by (first | lia | omega)) ?_
  intro r1 v1 nw1 g1 h1 tk1 hr1 T1 F1 N1 fr1 x1 K1
  refine turned_ B T1 hfs XB TB D fun B1 X1 Tp1 D1 hin1 => ?_
  (try clear T0); (try clear N0); (try clear F7); (try clear tp)
  have tp : TupP (fun a o => g1.get? a = some o) ea [.bool e0, .bool e1] := ⟨_, turn_gd T1 _ _ he, rfl, _, rfl⟩
  repeat' ((fail_if_success (with_reducible show wpAny _ _ (call (Value.ref 496) _) _ _ _)); first | (k_unfold; (try dsimp only)) | (dsimp only; k_unfold; (try dsimp only)) | ((fail_if_success (with_reducible show Exists _)); (fail_if_success (with_reducible show LeaveK h₀ L m g _ _ _)); first | walk1 | (dsimp only; (fail_if_success (with_reducible show Exists _)); (fail_if_success (with_reducible show LeaveK h₀ L m g _ _ _)); walk1)))
  (with_reducible rename Fr g1 _ _ _ => F7)
  (with_reducible rename News g1 _ _ _ => N7)
  refine law_run_spec (CxT.deeper B1 F7 XB TB hh D1 hfs rfl) (by first | exact le_up (d := 1) hd rfl | (simp only [depth_deeper]; (first | lia | omega))) (by first | exact le_up (d := 3) hu rfl | (simp only [units_deeper]; (first | lia | omega))) (hf.mono fun a o e => F7.keep a o (turn_gd T1 _ _ e)) LF.wf ((listO_at (turn_gd T1 _ _ hl2)).at fun o e => F7.keep _ o e) iv2 (hoct ho2) (by (first | lia | omega)) ?_
  intro r2 v2 nw2 g2 h2 tk2 hr2 T2 F2 N2 fr2 x2 K2
  refine turned_ B1 T2 hfs XB TB D1 fun B2 X2 Tp2 DD2 hin2 => ?_
  have N3 := news_turn N7 T2 K2 hin1
  have N4 := news_app N3 N2
  have T12 := T1.trans T2
  have R1 := x1.toIn N3
  have R2 := x2.toIn N2
  (try clear F7); (try clear N7); (try clear N3); (try clear N2); (try clear K1); (try clear K2); (try clear fr1); (try clear fr2); (try clear tp)
  clear B1 X1 Tp1 D1 hin1 T1 T2
  have tp : TupP (fun a o => g2.get? a = some o) ea [.bool e0, .bool e1] := ⟨_, turn_gd T12 _ _ he, rfl, _, rfl⟩
  repeat' ((fail_if_success (with_reducible show wpAny _ _ (exec (Stmt.If _ _ _ _) _) _ _ _)); first | (k_unfold; (try dsimp only)) | (dsimp only; k_unfold; (try dsimp only)) | ((fail_if_success (with_reducible show Exists _)); (fail_if_success (with_reducible show LeaveK h₀ L m g _ _ _)); first | walk1 | (dsimp only; (fail_if_success (with_reducible show Exists _)); (fail_if_success (with_reducible show LeaveK h₀ L m g _ _ _)); walk1)))
  refine cutC (PJ s.heap L' (L :: fs) s (nw1 ++ nw2) (fun m' G => PX fl la lb ea letters m' (m' (Str.ofString "ahead") = some v1 → m' (Str.ofString "behind") = some v2 → G))) ?_ ?_
  · (with_reducible rename Fr g2 _ _ _ => F7); (with_reducible rename News g2 _ _ _ => N7)
    replace N7 := news_sub N7 (b := nw1 ++ nw2) (fun p hp => by first | exact hp | exact .tail _ hp)
    cases r1 with
    | none =>
      obtain rfl : v1 = .none := x1
      repeat' (first | (k_unfold; (try dsimp only)) | (dsimp only; k_unfold; (try dsimp only)) | ((fail_if_success (with_reducible show Exists _)); (fail_if_success (with_reducible show LeaveK h₀ L m g _ _ _)); first | walk1 | (dsimp only; (fail_if_success (with_reducible show Exists _)); (fail_if_success (with_reducible show LeaveK h₀ L m g _ _ _)); walk1)))
      (with_reducible rename Fr g2 _ _ _ => F8); (with_reducible rename News g2 _ _ _ => N8)
      (with_reducible rename PJ .. => kJ); exact kJ g2 _ _ _ T12 F8 (news_sub N8 (fun p hp => by assumption)) rfl rfl rfl rfl _ rfl _ rfl rfl rfl
    | some A1 =>
      cases r2 with
      | none =>
        obtain rfl : v2 = .none := x2
        obtain ⟨fa1, av1, an1, aol1, rfl, rfl, ap1, al1, ln1⟩ := x1
        repeat' (first | (k_unfold; (try dsimp only)) | (dsimp only; k_unfold; (try dsimp only)) | ((fail_if_success (with_reducible show Exists _)); (fail_if_success (with_reducible show LeaveK h₀ L m g _ _ _)); first | walk1 | (dsimp only; (fail_if_success (with_reducible show Exists _)); (fail_if_success (with_reducible show LeaveK h₀ L m g _ _ _)); walk1)))
        (with_reducible rename Fr g2 _ _ _ => F8); (with_reducible rename News g2 _ _ _ => N8)
        (with_reducible rename PJ .. => kJ); exact kJ g2 _ _ _ T12 F8 (news_sub N8 (fun p hp => by assumption)) rfl rfl rfl rfl _ rfl _ rfl rfl rfl
      | some A2 =>
        have q1 := R1
        obtain ⟨fa1, av1, an1, aol1, rfl, rfl, ap1, al1, ln1⟩ := x1
        obtain ⟨fa2, av2, an2, aol2, rfl, rfl, ap2, al2, ln2⟩ := x2
        have hoX : ∀ i ∈ one ++ [letters + 2] ++ other, OctI i := fun i hi => by
          rcases List.mem_append.mp hi with hi | hi
          · rcases List.mem_append.mp hi with hi | hi
            · exact hoct ho1 i hi
            · rw [List.mem_singleton.mp hi]; exact ⟨by (first | lia | omega), by (first | lia | omega)⟩
          · exact hoct ho2 i hi
        have hcX : ∀ c ∈ one ++ [letters + 2] ++ other, (FM.charOf c).isSome = true := fun c hc => by
          rcases List.mem_append.mp hc with hc | hc
          · rcases List.mem_append.mp hc with hc | hc
            · exact (LF.has c).mpr (.inl (ho1 c hc))
            · rw [List.mem_singleton.mp hc]; exact (LF.has _).mpr (.inr rfl)
          · exact (LF.has c).mpr (.inl (ho2 c hc))
        have hlX : (one ++ [letters + 2] ++ other).length ≤ 7 := by simp only [List.length_append, List.length_cons, List.length_nil]; (first | lia | omega)
        have hv1 := iv1.1
        have hv2 := iv2.1
        repeat' ((fail_if_success (with_reducible show wpAny _ _ (binaryOp _ (Value.ref _) (Value.ref _)) _ _ _)); first | (k_unfold; (try dsimp only)) | (dsimp only; k_unfold; (try dsimp only)) | ((fail_if_success (with_reducible show Exists _)); (fail_if_success (with_reducible show LeaveK h₀ L m g _ _ _)); first | walk1 | (dsimp only; (fail_if_success (with_reducible show Exists _)); (fail_if_success (with_reducible show LeaveK h₀ L m g _ _ _)); walk1)))
        (with_reducible rename Fr g2 _ _ _ => F8); (with_reducible rename News g2 _ _ _ => N8)
        refine list_add F8 N8 ((listO_at (turn_gd T12 _ _ hl1)).at fun o e => F8.keep _ o e) (listO_at (vs := [Value.int (letters + 2) _]) (N8 _ (.head _)).1) (by simp only [List.length_cons, List.length_nil]; (first | lia | omega)) ?_
        intro D1 hX1 F9 N9 l9
        clear F8 N8
        repeat' ((fail_if_success (with_reducible show wpAny _ _ (binaryOp _ (Value.ref _) (Value.ref _)) _ _ _)); first | (k_unfold; (try dsimp only)) | (dsimp only; k_unfold; (try dsimp only)) | ((fail_if_success (with_reducible show Exists _)); (fail_if_success (with_reducible show LeaveK h₀ L m g _ _ _)); first | walk1 | (dsimp only; (fail_if_success (with_reducible show Exists _)); (fail_if_success (with_reducible show LeaveK h₀ L m g _ _ _)); walk1)))
        refine list_add F9 N9 (listO_at (N9 _ (.head _)).1) ((listO_at (turn_gd T12 _ _ hl2)).at fun o e => F9.keep _ o e) (by simp only [List.length_append, List.length_cons, List.length_nil]; (first | lia | omega)) ?_
        intro D2 hX2 F10 N10 l10
        clear F9 N9
        repeat' ((fail_if_success (with_reducible show wpAny _ _ (call (Value.ref 496) _) _ _ _)); first | (k_unfold; (try dsimp only)) | (dsimp only; k_unfold; (try dsimp only)) | ((fail_if_success (with_reducible show Exists _)); (fail_if_success (with_reducible show LeaveK h₀ L m g _ _ _)); first | walk1 | (dsimp only; (fail_if_success (with_reducible show Exists _)); (fail_if_success (with_reducible show LeaveK h₀ L m g _ _ _)); walk1)))
        refine law_run_spec (CxT.deeper B2 F10 XB TB hh DD2 hfs rfl) (by first | exact le_up (d := 1) hd rfl | (simp only [depth_deeper]; (first | lia | omega))) (by first | exact le_up (d := 3) hu rfl | (simp only [units_deeper]; (first | lia | omega))) (hf.mono fun a o e => F10.keep a o (turn_gd T12 _ _ e)) LF.wf (listO_at (N10 _ (.head _)).1) ((iv1.append (IntsV.one _ _)).append iv2) hoX (by (first | lia | omega)) ?_
        intro rw vw nww g3 h3 tk3 hrw T3 F11 N11 frw xw K3
        obtain rfl := parted_still LF ho1 ho2 hrw hr1 hr2 (run_still LF)
        have hsp := hrw.spell hcX
        refine turned_ B2 T3 hfs XB TB DD2 fun B3 X3 Tp3 D3 hin3 => ?_
        have N12 := news_turn N10 T3 K3 hin2
        obtain ⟨fw, wv, wn, wol, rfl, rfl, wp, wl, wln⟩ := xw
        have N13 := news_app N11 N12
        have T123 := T12.trans T3
        clear N10 F10 N11 N12 K3 frw
        repeat' ((fail_if_success (with_reducible show wpAny _ _ (call (Value.ref 503) _) _ _ _)); first | (k_unfold; (try dsimp only)) | (dsimp only; k_unfold; (try dsimp only)) | ((fail_if_success (with_reducible show Exists _)); (fail_if_success (with_reducible show LeaveK h₀ L m g _ _ _)); first | walk1 | (dsimp only; (fail_if_success (with_reducible show Exists _)); (fail_if_success (with_reducible show LeaveK h₀ L m g _ _ _)); walk1)))
        (with_reducible rename Fr g3 _ _ _ => F14); (with_reducible rename News g3 _ _ _ => N14)
        have mfw : (fw, listOf wv.toArray wn) ∈ (((fw, listOf wv.toArray wn) :: wol) ++ (((fa1, listOf av1.toArray an1) :: aol1) ++ ((fa2, listOf av2.toArray an2) :: aol2))) := List.mem_append_left _ (.head _)
        have mf1 : (fa1, listOf av1.toArray an1) ∈ (((fw, listOf wv.toArray wn) :: wol) ++ (((fa1, listOf av1.toArray an1) :: aol1) ++ ((fa2, listOf av2.toArray an2) :: aol2))) := List.mem_append_right _ (List.mem_append_left _ (.head _))
        have mf2 : (fa2, listOf av2.toArray an2) ∈ (((fw, listOf wv.toArray wn) :: wol) ++ (((fa1, listOf av1.toArray an1) :: aol1) ++ ((fa2, listOf av2.toArray an2) :: aol2))) := List.mem_append_right _ (List.mem_append_right _ (.head _))
        have sw : ∀ p ∈ wol, p ∈ (((fw, listOf wv.toArray wn) :: wol) ++ (((fa1, listOf av1.toArray an1) :: aol1) ++ ((fa2, listOf av2.toArray an2) :: aol2))) := fun p hp => List.mem_append_left _ (.tail _ hp)
        have s1 : ∀ p ∈ aol1, p ∈ (((fw, listOf wv.toArray wn) :: wol) ++ (((fa1, listOf av1.toArray an1) :: aol1) ++ ((fa2, listOf av2.toArray an2) :: aol2))) := fun p hp => List.mem_append_right _ (List.mem_append_left _ (.tail _ hp))
        have s2 : ∀ p ∈ aol2, p ∈ (((fw, listOf wv.toArray wn) :: wol) ++ (((fa1, listOf av1.toArray an1) :: aol1) ++ ((fa2, listOf av2.toArray an2) :: aol2))) := fun p hp => List.mem_append_right _ (List.mem_append_right _ (.tail _ hp))
        have sL : ∀ p ∈ ((fa1, listOf av1.toArray an1) :: aol1) ++ ((fa2, listOf av2.toArray an2) :: aol2), p ∈ (((fw, listOf wv.toArray wn) :: wol) ++ (((fa1, listOf av1.toArray an1) :: aol1) ++ ((fa2, listOf av2.toArray an2) :: aol2))) := fun p hp => List.mem_append_right _ hp
        replace N14 := news_sub N14 (b := (((fw, listOf wv.toArray wn) :: wol) ++ (((fa1, listOf av1.toArray an1) :: aol1) ++ ((fa2, listOf av2.toArray an2) :: aol2)))) (fun p hp => by
          rcases List.mem_append.mp hp with hp | hp
          · exact List.mem_append_left _ hp
          · exact List.mem_append_right _ (.tail _ (.tail _ (.tail _ hp))))
        generalize hled : (((fw, listOf wv.toArray wn) :: wol) ++ (((fa1, listOf av1.toArray an1) :: aol1) ++ ((fa2, listOf av2.toArray an2) :: aol2))) = led at *
        refine law_spelled_spec (Cx.deeper B3 F14 X3 Tp3 hh rfl) (by first | exact le_up (d := 1) hd rfl | (simp only [depth_deeper]; (first | lia | omega))) (listO_at (N14 _ mfw).1) (wl.mono fun _ _ q => q.mono fun a o hm => (N14 (a, o) (sw _ hm)).1) (by rw [hsp]; (first | lia | omega)) ?_
        intro q ys n hw1 tkw Fw Nw1 frq ivq Kw
        have N15 := news_app Nw1 (news_keep0 N14 Kw)
        rw [hsp] at ivq
        (try clear N14); (try clear F14); (try clear Nw1); (try clear Kw); (try clear N13); (try clear F11)
        repeat' ((fail_if_success (with_reducible show wpAny _ _ (binaryOp _ (Value.ref _) (Value.ref _)) _ _ _)); first | (k_unfold; (try dsimp only)) | (dsimp only; k_unfold; (try dsimp only)) | ((fail_if_success (with_reducible show Exists _)); (fail_if_success (with_reducible show LeaveK h₀ L m g _ _ _)); first | walk1 | (dsimp only; (fail_if_success (with_reducible show Exists _)); (fail_if_success (with_reducible show LeaveK h₀ L m g _ _ _)); walk1)))
        (with_reducible rename Fr g3 _ _ _ => F16); (with_reducible rename News g3 _ _ _ => N16)
        refine list_add F16 N16 ((listO_at (turn_gd T123 _ _ hl1)).at fun o e => F16.keep _ o e) (listO_at (vs := [Value.int (letters + 2) _]) (N16 _ (.head _)).1) (by simp only [List.length_cons, List.length_nil]; (first | lia | omega)) ?_
        intro D3' hX3 F17 N17 l17
        (try clear F16); (try clear N16); (try clear N15); (try clear Fw)
        repeat' ((fail_if_success (with_reducible show wpAny _ _ (binaryOp _ (Value.ref _) (Value.ref _)) _ _ _)); first | (k_unfold; (try dsimp only)) | (dsimp only; k_unfold; (try dsimp only)) | ((fail_if_success (with_reducible show Exists _)); (fail_if_success (with_reducible show LeaveK h₀ L m g _ _ _)); first | walk1 | (dsimp only; (fail_if_success (with_reducible show Exists _)); (fail_if_success (with_reducible show LeaveK h₀ L m g _ _ _)); walk1)))
        refine list_add F17 N17 (listO_at (N17 _ (.head _)).1) ((listO_at (turn_gd T123 _ _ hl2)).at fun o e => F17.keep _ o e) (by simp only [List.length_append, List.length_cons, List.length_nil]; (first | lia | omega)) ?_
        intro D4 hX4 F18 N18 l18
        clear F17 N17
        repeat' ((fail_if_success (with_reducible show wpAny _ _ (compareOp CmpOp.NotEq _ _) _ _ _)); first | (k_unfold; (try dsimp only)) | (dsimp only; k_unfold; (try dsimp only)) | ((fail_if_success (with_reducible show Exists _)); (fail_if_success (with_reducible show LeaveK h₀ L m g _ _ _)); first | walk1 | (dsimp only; (fail_if_success (with_reducible show Exists _)); (fail_if_success (with_reducible show LeaveK h₀ L m g _ _ _)); walk1)))
        refine ne_ints (listO_at (N18 _ (.tail _ (.tail _ (.tail _ (.head _))))).1) (listO_at (N18 _ (.head _)).1) ivq ((iv1.append (IntsV.one _ _)).append iv2) (by (try simp only [units_deeper]); (have hcL9 := cLine_is); (first | lia | omega)) ?_
        replace N18 := news_sub N18 (b := led) (fun p hp => .tail _ (.tail _ (.tail _ (.tail _ hp))))
        repeat' ((fail_if_success (with_reducible show wpAny _ _ (call (Value.ref 454) _) _ _ _)); first | (k_unfold; (try dsimp only)) | (dsimp only; k_unfold; (try dsimp only)) | ((fail_if_success (with_reducible show Exists _)); (fail_if_success (with_reducible show LeaveK h₀ L m g _ _ _)); first | walk1 | (dsimp only; (fail_if_success (with_reducible show Exists _)); (fail_if_success (with_reducible show LeaveK h₀ L m g _ _ _)); walk1)))
        (with_reducible rename Fr g3 _ _ _ => F19); (with_reducible rename News g3 _ _ _ => N19)
        refine run_spec (Cx.deeper B3 F19 X3 Tp3 hh rfl) (by first | exact le_up (d := 1) hd rfl | (simp only [depth_deeper]; (first | lia | omega))) (by first | exact le_up (d := 3) hu rfl | (simp only [units_deeper]; (first | lia | omega))) (hf.mono fun a o e => F19.keep a o (turn_gd T123 _ _ e)) LF.wf (listO_at (vs := [Value.int (letters + 2) _]) (N19 _ (.head _)).1) (IntsV.one _ _) (fun i hi => by rw [List.mem_singleton.mp hi]; exact ⟨by (first | lia | omega), by (first | lia | omega)⟩) (by simp) ?_ ?_
        · intro rn rf rv rnf rol hR tkR hrr FR NR frR apR alR lnR KR
          obtain rfl := Option.some.inj (RunP.det hrr (run_still LF))
          have N20 := news_app NR (news_keep0 (news_sub N19 (b := led) (fun p hp => .tail _ hp)) KR)
          (try clear F18); (try clear N18); (try clear F19); (try clear N19); (try clear NR); (try clear KR)
          repeat' ((fail_if_success (with_reducible show wpAny _ _ (binaryOp _ (Value.ref _) (Value.ref _)) _ _ _)); first | (k_unfold; (try dsimp only)) | (dsimp only; k_unfold; (try dsimp only)) | ((fail_if_success (with_reducible show Exists _)); (fail_if_success (with_reducible show LeaveK h₀ L m g _ _ _)); first | walk1 | (dsimp only; (fail_if_success (with_reducible show Exists _)); (fail_if_success (with_reducible show LeaveK h₀ L m g _ _ _)); walk1)))
          refine list_add FR N20 (listO_at (N20 _ (List.mem_append_right _ mf1)).1) (listO_at (N20 _ (.head _)).1) (by (first | lia | omega)) ?_
          intro D5 hX5 F21 N21 l21
          (try clear FR); (try clear N20)
          repeat' ((fail_if_success (with_reducible show wpAny _ _ (binaryOp _ (Value.ref _) (Value.ref _)) _ _ _)); first | (k_unfold; (try dsimp only)) | (dsimp only; k_unfold; (try dsimp only)) | ((fail_if_success (with_reducible show Exists _)); (fail_if_success (with_reducible show LeaveK h₀ L m g _ _ _)); first | walk1 | (dsimp only; (fail_if_success (with_reducible show Exists _)); (fail_if_success (with_reducible show LeaveK h₀ L m g _ _ _)); walk1)))
          refine list_add F21 N21 (listO_at (N21 _ (.head _)).1) (listO_at (N21 _ (.tail _ (List.mem_append_right _ mf2))).1) (by simp only [List.length_append]; (first | lia | omega)) ?_
          intro D6 hX6 F22 N22 l22
          (try clear F21); (try clear N21)
          repeat' ((fail_if_success (with_reducible show wpAny _ _ (call (Value.ref 510) _) _ _ _)); first | (k_unfold; (try dsimp only)) | (dsimp only; k_unfold; (try dsimp only)) | ((fail_if_success (with_reducible show Exists _)); (fail_if_success (with_reducible show LeaveK h₀ L m g _ _ _)); first | walk1 | (dsimp only; (fail_if_success (with_reducible show Exists _)); (fail_if_success (with_reducible show LeaveK h₀ L m g _ _ _)); walk1)))
          refine law_same_spec (r := some (A1 ++ [.char (letters + 2)] ++ A2)) (Cx.deeper B3 F22 X3 Tp3 hh rfl) (by first | exact le_up (d := 1) hd rfl | (simp only [depth_deeper]; (first | lia | omega))) (by first | exact le_up (d := 3) hu rfl | (simp only [units_deeper]; (first | lia | omega))) (hf.mono fun a o e => F22.keep a o (turn_gd T123 _ _ e)) ⟨fw, wv, wn, rfl, (N22 _ (.tail _ (.tail _ (List.mem_append_right _ mfw)))).1, wl.mono fun _ _ q => q.mono fun a o hm => (N22 (a, o) (.tail _ (.tail _ (List.mem_append_right _ (sw _ hm))))).1, by (first | lia | omega)⟩
            ⟨D6, _, 0, rfl, (N22 _ (.head _)).1, ((al1.mono fun _ _ q => q.mono fun a o hm => (N22 (a, o) (.tail _ (.tail _ (List.mem_append_right _ (s1 _ hm))))).1).append' (alR.mono fun _ _ q => q.mono fun a o hm => (N22 (a, o) (.tail _ (.tail _ (List.mem_append_left _ (.tail _ hm))))).1)).append' (al2.mono fun _ _ q => q.mono fun a o hm => (N22 (a, o) (.tail _ (.tail _ (List.mem_append_right _ (s2 _ hm))))).1), by simp only [List.length_append]; (first | lia | omega)⟩ ?_
          intro h5 tk5 F23 K23
          have N23 := news_keep0 (news_sub N22 (b := led) (fun p hp => .tail _ (.tail _ (List.mem_append_right _ hp)))) K23
          (try clear F22); (try clear N22); (try clear K23)
          repeat' (first | (k_unfold; (try dsimp only)) | (dsimp only; k_unfold; (try dsimp only)) | ((fail_if_success (with_reducible show Exists _)); (fail_if_success (with_reducible show LeaveK h₀ L m g _ _ _)); first | walk1 | (dsimp only; (fail_if_success (with_reducible show Exists _)); (fail_if_success (with_reducible show LeaveK h₀ L m g _ _ _)); walk1)))
          (with_reducible rename Fr g3 _ _ _ => F24); (with_reducible rename News g3 _ _ _ => N24)
          (with_reducible rename PJ .. => kJ); exact kJ g3 _ _ _ T123 F24 (news_sub N24 sL) rfl rfl rfl rfl _ rfl _ rfl rfl rfl
        · intro l e t vs h' tk' hnr
          exact nomatch RunP.det (run_still LF) hnr
  intro g4 h4 tk4 m4 T4 F4 N4' p1 p2 p3 p4 ts p5 tla p6 n1 n2
  (try dsimp only)
  (try clear N4); (try clear F2); clear B2 X2 Tp2 DD2 hin2 T12 R1 R2 tp
  refine turned_ B T4 hfs XB TB D fun B4 X4 Tp4 D4 hin4 => ?_
  have tp : TupP (fun a o => g4.get? a = some o) ea [.bool e0, .bool e1] := ⟨_, turn_gd T4 _ _ he, rfl, _, rfl⟩
  have hv1 := iv1.1
  have hv2 := iv2.1
  repeat' ((fail_if_success (with_reducible show wpAny _ _ (call (Value.ref 496) _) _ _ _)); first | (k_unfold; (try dsimp only)) | (dsimp only; k_unfold; (try dsimp only)) | ((fail_if_success (with_reducible show Exists _)); (fail_if_success (with_reducible show LeaveK h₀ L m g _ _ _)); first | walk1 | (dsimp only; (fail_if_success (with_reducible show Exists _)); (fail_if_success (with_reducible show LeaveK h₀ L m g _ _ _)); walk1)))
  (with_reducible rename Fr g4 _ _ _ => F7); (with_reducible rename News g4 _ _ _ => N7)
  refine law_run_spec (CxT.deeper B4 F7 XB TB hh D4 hfs rfl) (by first | exact le_up (d := 1) hd rfl | (simp only [depth_deeper]; (first | lia | omega))) (by first | exact le_up (d := 3) hu rfl | (simp only [units_deeper]; (first | lia | omega))) (hf.mono fun a o e => F7.keep a o (turn_gd T4 _ _ e)) LF.wf ((listO_at (turn_gd T4 _ _ hl2)).at fun o e => F7.keep _ o e) iv2 (hoct ho2) (by (first | lia | omega)) ?_
  intro r4 v4 nw4 g5 h5 tk5 hr4 T5 F5 N5 fr5 x4 K5
  refine turned_ B4 T5 hfs XB TB D4 fun B5 X5 Tp5 D5 hin5 => ?_
  have N6 := news_app N5 (news_turn N7 T5 K5 hin4)
  have T45 := T4.trans T5
  (try clear F7); (try clear N7); (try clear N5); (try clear K5); (try clear fr5); (try clear tp)
  clear B4 X4 Tp4 D4 hin4 T4 T5
  have tp : TupP (fun a o => g5.get? a = some o) ea [.bool e0, .bool e1] := ⟨_, turn_gd T45 _ _ he, rfl, _, rfl⟩
  have hoX : ∀ i ∈ one ++ [letters + 1] ++ other, OctI i := fun i hi => by
    rcases List.mem_append.mp hi with hi | hi
    · rcases List.mem_append.mp hi with hi | hi
      · exact hoct ho1 i hi
      · rw [List.mem_singleton.mp hi]; exact ⟨by (first | lia | omega), by (first | lia | omega)⟩
    · exact hoct ho2 i hi
  have hlX : (one ++ [letters + 1] ++ other).length ≤ 7 := by simp only [List.length_append, List.length_cons, List.length_nil]; (first | lia | omega)
  repeat' ((fail_if_success (with_reducible show wpAny _ _ (binaryOp _ (Value.ref _) (Value.ref _)) _ _ _)); first | (k_unfold; (try dsimp only)) | (dsimp only; k_unfold; (try dsimp only)) | ((fail_if_success (with_reducible show Exists _)); (fail_if_success (with_reducible show LeaveK h₀ L m g _ _ _)); first | walk1 | (dsimp only; (fail_if_success (with_reducible show Exists _)); (fail_if_success (with_reducible show LeaveK h₀ L m g _ _ _)); walk1)))
  (with_reducible rename Fr g5 _ _ _ => F8); (with_reducible rename News g5 _ _ _ => N8)
  refine list_add F8 N8 ((listO_at (turn_gd T45 _ _ hl1)).at fun o e => F8.keep _ o e) (listO_at (vs := [Value.int (letters + 1) _]) (N8 _ (.head _)).1) (by simp only [List.length_cons, List.length_nil]; (first | lia | omega)) ?_
  intro D1 hX1 F9 N9 l9
  (try clear F8); (try clear N8); (try clear N6)
  repeat' ((fail_if_success (with_reducible show wpAny _ _ (binaryOp _ (Value.ref _) (Value.ref _)) _ _ _)); first | (k_unfold; (try dsimp only)) | (dsimp only; k_unfold; (try dsimp only)) | ((fail_if_success (with_reducible show Exists _)); (fail_if_success (with_reducible show LeaveK h₀ L m g _ _ _)); first | walk1 | (dsimp only; (fail_if_success (with_reducible show Exists _)); (fail_if_success (with_reducible show LeaveK h₀ L m g _ _ _)); walk1)))
  refine list_add F9 N9 (listO_at (N9 _ (.head _)).1) ((listO_at (turn_gd T45 _ _ hl2)).at fun o e => F9.keep _ o e) (by simp only [List.length_append, List.length_cons, List.length_nil]; (first | lia | omega)) ?_
  intro D2 hX2 F10 N10 l10
  clear F9 N9
  repeat' ((fail_if_success (with_reducible show wpAny _ _ (call (Value.ref 496) _) _ _ _)); first | (k_unfold; (try dsimp only)) | (dsimp only; k_unfold; (try dsimp only)) | ((fail_if_success (with_reducible show Exists _)); (fail_if_success (with_reducible show LeaveK h₀ L m g _ _ _)); first | walk1 | (dsimp only; (fail_if_success (with_reducible show Exists _)); (fail_if_success (with_reducible show LeaveK h₀ L m g _ _ _)); walk1)))
  refine law_run_spec (CxT.deeper B5 F10 XB TB hh D5 hfs rfl) (by first | exact le_up (d := 1) hd rfl | (simp only [depth_deeper]; (first | lia | omega))) (by first | exact le_up (d := 3) hu rfl | (simp only [units_deeper]; (first | lia | omega))) (hf.mono fun a o e => F10.keep a o (turn_gd T45 _ _ e)) LF.wf (listO_at (N10 _ (.head _)).1) ((iv1.append (IntsV.one _ _)).append iv2) hoX (by (first | lia | omega)) ?_
  intro r5 v5 nw5 g6 h6 tk6 hr5 T6 F6 N6 fr6 x5 K6
  refine turned_ B5 T6 hfs XB TB D5 fun B6 X6 Tp6 D6 hin6 => ?_
  have N11 := news_app N6 (news_sub (news_turn N10 T6 K6 hin5) (b := nw4 ++ (nw1 ++ nw2)) (fun p hp => .tail _ (.tail _ (.tail _ hp))))
  have T456 := T45.trans T6
  (try clear F10); (try clear N10); (try clear N6); (try clear K6); (try clear fr6); (try clear tp)
  clear B5 X5 Tp5 D5 hin5 T45 T6
  have hr6 := parted_lack LF ho1 ho2 hr5 hr1 hr4
  repeat' ((fail_if_success (with_reducible show wpAny _ _ (exec (Stmt.Assign _ (Expr.IfExp _ _ _ _) _) _) _ _ _)); first | (k_unfold; (try dsimp only)) | (dsimp only; k_unfold; (try dsimp only)) | ((fail_if_success (with_reducible show Exists _)); (fail_if_success (with_reducible show LeaveK h₀ L m g _ _ _)); first | walk1 | (dsimp only; (fail_if_success (with_reducible show Exists _)); (fail_if_success (with_reducible show LeaveK h₀ L m g _ _ _)); walk1)))
  refine cutC (DueJ w g6 L' s fl (nw5 ++ (nw4 ++ (nw1 ++ nw2))) v5 v2 r5) ?_ ?_
  · cases r1 with
    | none =>
      obtain rfl : v1 = .none := x1
      obtain rfl : r5 = none := by cases r4 <;> exact hr6
      repeat' (first | (k_unfold; (try dsimp only)) | (dsimp only; k_unfold; (try dsimp only)) | ((fail_if_success (with_reducible show Exists _)); (fail_if_success (with_reducible show LeaveK h₀ L m g _ _ _)); first | walk1 | (dsimp only; (fail_if_success (with_reducible show Exists _)); (fail_if_success (with_reducible show LeaveK h₀ L m g _ _ _)); walk1)))
      (with_reducible rename Fr g6 _ _ _ => F8); (with_reducible rename News g6 _ _ _ => N8)
      (with_reducible rename DueJ .. => kJ); exact kJ _ _ _ [] .none F8 (news_sub N8 (fun p hp => by assumption)) rfl n2 rfl rfl
    | some A1 =>
      obtain ⟨fa1, av1, an1, aol1, rfl, rfl, ap1, al1, ln1⟩ := x1
      cases r4 with
      | none =>
        obtain rfl : v4 = .none := x4
        obtain rfl : r5 = none := hr6
        repeat' (first | (k_unfold; (try dsimp only)) | (dsimp only; k_unfold; (try dsimp only)) | ((fail_if_success (with_reducible show Exists _)); (fail_if_success (with_reducible show LeaveK h₀ L m g _ _ _)); first | walk1 | (dsimp only; (fail_if_success (with_reducible show Exists _)); (fail_if_success (with_reducible show LeaveK h₀ L m g _ _ _)); walk1)))
        (with_reducible rename Fr g6 _ _ _ => F8); (with_reducible rename News g6 _ _ _ => N8)
        (with_reducible rename DueJ .. => kJ); exact kJ _ _ _ [] .none F8 (news_sub N8 (fun p hp => by assumption)) rfl n2 rfl rfl
      | some A4 =>
        obtain ⟨fa4, av4, an4, aol4, rfl, rfl, ap4, al4, ln4⟩ := x4
        obtain rfl : r5 = some (A1 ++ A4) := hr6
        have mf1 : (fa1, listOf av1.toArray an1) ∈ nw5 ++ (((fa4, listOf av4.toArray an4) :: aol4) ++ (((fa1, listOf av1.toArray an1) :: aol1) ++ nw2)) := List.mem_append_right _ (List.mem_append_right _ (List.mem_append_left _ (.head _)))
        have mf4 : (fa4, listOf av4.toArray an4) ∈ nw5 ++ (((fa4, listOf av4.toArray an4) :: aol4) ++ (((fa1, listOf av1.toArray an1) :: aol1) ++ nw2)) := List.mem_append_right _ (List.mem_append_left _ (.head _))
        repeat' ((fail_if_success (with_reducible show wpAny _ _ (binaryOp _ (Value.ref _) (Value.ref _)) _ _ _)); first | (k_unfold; (try dsimp only)) | (dsimp only; k_unfold; (try dsimp only)) | ((fail_if_success (with_reducible show Exists _)); (fail_if_success (with_reducible show LeaveK h₀ L m g _ _ _)); first | walk1 | (dsimp only; (fail_if_success (with_reducible show Exists _)); (fail_if_success (with_reducible show LeaveK h₀ L m g _ _ _)); walk1)))
        (with_reducible rename Fr g6 _ _ _ => F8); (with_reducible rename News g6 _ _ _ => N8)
        refine list_add F8 N8 (listO_at (N8 _ mf1).1) (listO_at (N8 _ mf4).1) (by (first | lia | omega)) ?_
        intro D7 hX7 F9 N9 l9
        (try clear F8); (try clear N8); (try clear N11)
        repeat' (first | (k_unfold; (try dsimp only)) | (dsimp only; k_unfold; (try dsimp only)) | ((fail_if_success (with_reducible show Exists _)); (fail_if_success (with_reducible show LeaveK h₀ L m g _ _ _)); first | walk1 | (dsimp only; (fail_if_success (with_reducible show Exists _)); (fail_if_success (with_reducible show LeaveK h₀ L m g _ _ _)); walk1)))
        (with_reducible rename Fr g6 _ _ _ => F12); (with_reducible rename News g6 _ _ _ => N12)
        have z1 : All2 (NodeAt w (MemP ((D7, listOf (av1 ++ av4).toArray 0) :: (nw5 ++ (((fa4, listOf av4.toArray an4) :: aol4) ++ (((fa1, listOf av1.toArray an1) :: aol1) ++ nw2))))) (.ref fl.x)) av1 A1 := al1.mono fun _ _ q => q.mono fun a o hm => .tail _ (List.mem_append_right _ (List.mem_append_right _ (List.mem_append_left _ (.tail _ hm))))
        have z4 : All2 (NodeAt w (MemP ((D7, listOf (av1 ++ av4).toArray 0) :: (nw5 ++ (((fa4, listOf av4.toArray an4) :: aol4) ++ (((fa1, listOf av1.toArray an1) :: aol1) ++ nw2))))) (.ref fl.x)) av4 A4 := al4.mono fun _ _ q => q.mono fun a o hm => .tail _ (List.mem_append_right _ (List.mem_append_left _ (.tail _ hm)))
        (with_reducible rename DueJ .. => kJ); exact kJ _ _ _ [(D7, listOf (av1 ++ av4).toArray 0)] (.ref D7) F12 (news_sub N12 (fun p hp => by assumption)) rfl n2 rfl ⟨D7, _, 0, rfl, .head _, z1.append' z4, by rw [List.length_append]; (first | lia | omega)⟩
  intro h7 tk7 m7 nwd vd F7 N7 o1 o2 o3 q7
  (try dsimp only)
  have y1 : ResIn w (Gd h7) fl vd r5 := q7.mono fun a o hm => (N7 (a, o) hm).1
  have y2 : ResIn w (Gd h7) fl v5 r5 := x5.toIn (news_sub N7 (b := nw5) (fun p hp => List.mem_append_right _ (List.mem_append_left _ hp)))
  repeat' ((fail_if_success (with_reducible show wpAny _ _ (call (Value.ref 510) _) _ _ _)); first | (k_unfold; (try dsimp only)) | (dsimp only; k_unfold; (try dsimp only)) | ((fail_if_success (with_reducible show Exists _)); (fail_if_success (with_reducible show LeaveK h₀ L m g _ _ _)); first | walk1 | (dsimp only; (fail_if_success (with_reducible show Exists _)); (fail_if_success (with_reducible show LeaveK h₀ L m g _ _ _)); walk1)))
  (with_reducible rename Fr g6 _ _ _ => F8); (with_reducible rename News g6 _ _ _ => N8)
  refine law_same_spec (r := r5) (Cx.deeper B6 F8 X6 Tp6 hh rfl) (by first | exact le_up (d := 1) hd rfl | (simp only [depth_deeper]; (first | lia | omega))) (by first | exact le_up (d := 3) hu rfl | (simp only [units_deeper]; (first | lia | omega))) (hf.mono fun a o e => F8.keep a o (turn_gd T456 _ _ e)) y2 y1 ?_
  intro h8 tk8 F9 K9
  have N9 := news_keep0 N8 K9
  (try clear F7); (try clear N7); (try clear F8); (try clear N8); (try clear K9); (try clear N11)
  cases r5 with
  | none =>
    obtain rfl : vd = .none := y1
    repeat' (first | (k_unfold; (try dsimp only)) | (dsimp only; k_unfold; (try dsimp only)) | ((fail_if_success (with_reducible show Exists _)); (fail_if_success (with_reducible show LeaveK h₀ L m g _ _ _)); first | walk1 | (dsimp only; (fail_if_success (with_reducible show Exists _)); (fail_if_success (with_reducible show LeaveK h₀ L m g _ _ _)); walk1)))
    ((try dsimp only); (try k_unfold); (try dsimp only); (with_reducible rename Fr _ _ _ _ => cF); (with_reducible rename News _ _ _ _ => cN); refine leaveT_ ‹KtsTurn _ _ _› cF cN ?_; intro k0 kT kF kN)
    exact ret _ false k0 _ _ kT kF (news_sub kN (by k_extra "my sub")) (fun b o e n => cF.keep b o (T456.other b o e n))
  | some A5 =>
    obtain ⟨D7, dv, dn, rfl, -, -, -⟩ := y1
    cases r2 with
    | none =>
      obtain rfl : v2 = .none := x2
      repeat' (first | (k_unfold; (try dsimp only)) | (dsimp only; k_unfold; (try dsimp only)) | ((fail_if_success (with_reducible show Exists _)); (fail_if_success (with_reducible show LeaveK h₀ L m g _ _ _)); first | walk1 | (dsimp only; (fail_if_success (with_reducible show Exists _)); (fail_if_success (with_reducible show LeaveK h₀ L m g _ _ _)); walk1)))
      ((try dsimp only); (try k_unfold); (try dsimp only); (with_reducible rename Fr _ _ _ _ => cF); (with_reducible rename News _ _ _ _ => cN); refine leaveT_ ‹KtsTurn _ _ _› cF cN ?_; intro k0 kT kF kN)
      exact ret _ false k0 _ _ kT kF (news_sub kN (by k_extra "my sub")) (fun b o e n => cF.keep b o (T456.other b o e n))
    | some A2 =>
      obtain ⟨fa2, av2, an2, aol2, rfl, rfl, ap2, al2, ln2⟩ := x2
      repeat' (first | (k_unfold; (try dsimp only)) | (dsimp only; k_unfold; (try dsimp only)) | ((fail_if_success (with_reducible show Exists _)); (fail_if_success (with_reducible show LeaveK h₀ L m g _ _ _)); first | walk1 | (dsimp only; (fail_if_success (with_reducible show Exists _)); (fail_if_success (with_reducible show LeaveK h₀ L m g _ _ _)); walk1)))
      ((try dsimp only); (try k_unfold); (try dsimp only); (with_reducible rename Fr _ _ _ _ => cF); (with_reducible rename News _ _ _ _ => cN); refine leaveT_ ‹KtsTurn _ _ _› cF cN ?_; intro k0 kT kF kN)
      exact ret _ true k0 _ _ kT kF (news_sub kN (by k_extra "my sub")) (fun b o e n => cF.keep b o (T456.other b o e n))
end Mine
theorem Mine.fresh_B20 : True := by w_top off; k_with_none; trivial
namespace Mine
theorem fill_once20 (P : Params) : Mine.kk.heap_1 P = Mine.kk.heap_1 P ∧ PySem.Challenge.rw_sq0044_01 = PySem.Challenge.rw_sq0044_01 := by
  k_fill
  exact ⟨rfl, rfl⟩
theorem lnB20_0 : True := by
  k_with "execs cons" => (k_here; (with_reducible refine PySem.wpAny_execs_cons ?_); (try dsimp only); k_fold)
  k_with "execs cons" => (k_here; (with_reducible refine toks_gen ?_); intro _)
  k_with "eval Call" => (k_here; (with_reducible show wpAny _ _ (eval (Expr.Call (Expr.Name _ _) _ [] _) (envOf _ _ _ _ _)) _ _ _); k_dflt (refine call_named (by k_asm) (by k_asm) (by k_asm) (by k_is) (by k_is) (by (repeat' (first | exact ArgsV.nil | refine' ArgsV.loc (by first | exact rfl | assumption) rfl (by decide) ?_ | refine' ArgsV.int ?_ | refine' ArgsV.bool ?_ | refine' ArgsV.none ?_)); done) ?_))
  k_with "my sub" => first | exact List.forall_mem_nil _ | (refine' List.forall_mem_cons.mpr ⟨?_, ?_⟩; (· k_mem); (· k_extra "my sub")) | (intro q hq; repeat (first | exact hq | refine List.Mem.tail _ ?_))
  k_with "call type:tuple" => (k_here; (with_reducible show wpAny _ _ (call (Value.type _) [Value.ref _]) _ _ _); k_dflt (refine tuple_list_M (by k_asm) (by k_asm) (by k_mem) (by (first | lia | omega)) ?_); intro _ _ _ _ lz9; (try k_lt lz9); (try k_sweep))
  k_with "call ref" => ((fail_if_success (k_extra "svB200")); (k_here; k_dflt (k_extra "my call B200")))
  trivial
theorem ownB20_0 : True := by
  k_with "own k_ne" => (refine neN ?_; (try dsimp only); first | (with_reducible assumption) | (refine Ne.symm ?_; with_reducible assumption))
  trivial
theorem ownB20_1 : True := by
  k_with "own k_room" => ((try simp only [depth_under_make, depth_under_kw, depth_in1, depth_deeper, recursionLimit]); (first | lia | omega))
  trivial
theorem lnB20_1 : True := by
  k_with "getAttr ref" => (k_here; k_dflt (refine getAttr_g (by k_asm) (by k_asm) (by assumption) (by assumption) (by assumption) (by k_is) (by k_is) (by k_is) (by k_is) (by k_handed) ?_; k_whole))
  k_with "getMethod ref" => (k_here; k_dflt (refine getMethod_g (by k_asm) (by k_asm) (by assumption) (by assumption) (by assumption) (by k_is) (by k_is) (by k_is) ?_; k_whole))
  k_with "compareOp In int ref" => (k_here; (refine in_chars (by k_asm) (by assumption) ?_))
  k_with "getMethod ref" => (k_here; (refine getMethod_chars (by k_asm) (by assumption) ?_))
  k_with "call builtin:dict.get" => (k_here; (refine get_chars (by k_asm) (by assumption) ?_ ?_); (all_goals intros))
  k_with "subscriptTail" => (k_here; (with_reducible show wpAny _ _ (subscriptTail _ _ (Value.ref _) (Value.int _ _)) _ _ _); k_dflt (refine item_tupleT (by exact TupP.at (Fr.keep (by k_asm)) (by assumption)) (by decide) (by decide) (by rfl) (by rfl) ?_; k_whole))
  trivial
theorem lnB20_2 : True := by
  k_with "subscriptTail" => (k_here; (with_reducible show wpAny _ _ (subscriptTail _ _ (Value.ref (FontL.tk _)) (Value.int _ _)) _ _ _); k_dflt (refine kern_item (by k_asm) (by assumption) (by first | (first | lia | omega) | (have ok' := RowM.OK.kern (by assumption) (by (first | lia | omega)) (by (first | lia | omega)); (first | lia | omega))) (by first | (first | lia | omega) | (have ok' := RowM.OK.kern (by assumption) (by (first | lia | omega)) (by (first | lia | omega)); (first | lia | omega))) ?_ (by with_unfolding_all rfl)); intros)
  k_with "subscriptTail" => (k_here; (with_reducible show wpAny _ _ (subscriptTail _ _ (Value.ref (FontL.tp _)) (Value.int _ _)) _ _ _); k_dflt (refine prog_item (by k_asm) (by assumption) (by (first | lia | omega)) (by (first | lia | omega)) (by (first | lia | omega)) ?_ (by with_unfolding_all rfl) (by (intro _; with_unfolding_all rfl))); intros)
  k_with "compareOp In int ref" => (k_here; (with_reducible show wpAny _ _ (compareOp _ (Value.int _ _) (Value.ref 392)) _ _ _); (refine' in_known (Frag.In.keeps (by k_asm) (Fr.keep (by k_asm))) ?_))
  k_with "eval Name" => (k_here; (fail_if_success (with_reducible show wpAny _ _ (eval (Expr.Name _ _) (envOfC _ _ _ _ _)) _ _ _)); (fail_if_success (with_reducible show wpAny _ _ (eval (Expr.Name _ _) (compEnvC _ _ _ _)) _ _ _)); k_dflt (refine ld (by k_asm) (by first | exact rfl | assumption) ?_; k_whole))
  trivial
theorem lnB20_3 : True := by
  k_with "getAttr ref" => (k_here; k_dflt (refine getAttr_g (by k_asm) (by k_asm) (by assumption) (by assumption) (by first | assumption | k_get) (by k_is) (by k_is) (by k_is) (by k_is) (by k_handed) ?_; k_whole))
  k_with "getAttr ref" => (k_here; (with_reducible show wpAny _ _ (getAttr (Value.ref _) (PySem.Str.ofString "kind") _) _ _ _); k_dflt (refine getAttr_gc (by k_asm) (by k_asm) (by assumption) (by assumption) (by k_get) (by k_is) (by k_is) (by k_is) (by k_is) (by k_handed) (by decide +kernel) ?_; k_whole))
  trivial
noncomputable def BagOK (o : Obj) (n : Int) : Prop := ∃ x y z tx ty tz, o = bagO x y z tx ty tz ∧ 0 ≤ x ∧ 0 ≤ y ∧ y < 2147483629 ∧ 0 ≤ z ∧ z ≤ n
theorem BagOK.up {o : Obj} {n n' : Int} (h : BagOK o n) (l : n ≤ n') : BagOK o n' := h.imp fun _ => Exists.imp fun _ => Exists.imp fun _ => Exists.imp fun _ => Exists.imp fun _ => Exists.imp fun _ => And.imp_right (And.imp_right (And.imp_right (And.imp_right (And.imp_right fun f => Int.le_trans f l))))
theorem draw_b {w : World} {A : Around} {s : Shared} {h₀ : Heap} {L : Addr} {m : Str → Option Value} {b : Addr} {o : Obj} {n many : Int} {tm : Tok} {Q E : Value → Shared → Prop}
    (C : Cx w A h₀ L s.heap m) (N : News h₀ L s.heap [(b, o)]) (hd : A.depth ≤ 400) (hu : A.units ≤ 400) (hB : BagOK o n) (hn : n < 999) (hm : 0 < many) (hm' : many < 1000)
    (ret : ∀ (d : Int) (td : Tok) (o' : Obj) (h' : Heap) (tk' : Tok), Fr h₀ L h' m → News h₀ L h' [(b, o')] → Kept s.heap [b] h' → BagOK o' (n + 1) → 0 ≤ d → d < many → Q (.int d td) { s with heap := h', toks := tk' }) :
    wpAny (model PySem.Challenge.rw_sq0044_01.row.prog w) A (call (.ref 477) [.ref b, .int many tm]) Q E s := by
  obtain ⟨x, y, z, tx, ty, tz, rfl, h1, h2, h3, h4, h5⟩ := hB
  refine draw_spec C N hd hu h1 h2 h3 h4 (by (first | lia | omega)) hm hm' ?_
  intro d x' z' td tx' ty' tz' h' tk' F N' K a1 a2 a3 a4 a5
  exact ret d td _ h' tk' F N' K ⟨x', y, z', tx', ty', tz', rfl, a3, h2, h3, a4, by (first | lia | omega)⟩ a1 a2
theorem cell_spec {w : World} {A : Around} {s : Shared} {h₀ : Heap} {L : Addr} {m : Str → Option Value} {la : Addr} {vs : List Value} {ns : List Int} {k : Int} {tk : Tok} {Q E : Value → Shared → Prop}
    (C : Cx w A h₀ L s.heap m) (hd : A.depth ≤ 390) (hl : s.heap.IsList la vs.toArray) (iv : IntsV vs ns) (hfew : ns.length ≤ 63) (hk : 0 ≤ k) (hk2 : k < max 2 ns.length)
    (ret : ∀ (c : Int) (t : Tok) (h' : Heap) (tk' : Tok), Fr h₀ L h' m → Kept s.heap [] h' → Q (.int c t) { s with heap := h', toks := tk' }) :
    wpAny (model PySem.Challenge.rw_sq0044_01.row.prog w) A (call (.ref 463) [.ref la, .int k tk]) Q E s := by
  refine wpAny_call ?_
  have N0 : News h₀ L s.heap [] := News.nil
  have hv := iv.1
  refine Cx.form_ C ?_; intro dp un gd env0 outer0 eA9; subst eA9; (try dsimp only at hd); (try dsimp only at hu); k_dflt (refine' enter (binds := [(Str.ofString "script", .ref la), (Str.ofString "k", .int k tk)]) ?k1 ?k2 ?k6 ?k7 ?k8 ?k9 ?kB ?_ ?c2 ?c3 ?c4 ?c5; (case k1 => assumption); (case k2 => assumption); (case k6 => k_is); (case k7 => k_is); (case k8 => (first | exact le_up (d := 1) hd rfl | exact le_up (d := 2) hd rfl | (simp only [depth_under_make, depth_under_kw, recursionLimit]; (first | lia | omega)))); (case k9 => first | exact BindsTo.of_eq rfl | exact binds_K (Cx.inK (by assumption)) rfl (by k_is) rfl rfl rfl); (case c5 => decide); (case kB => exact locs rfl); (case c2 => exact rfl); (case c3 => exact rfl); (case c4 => exact rfl)); intro base outer p loose mean mg mb g L' hB1 FG F NB G B X T hh; obtain rfl : env0 :: outer0 = outer := Option.some.inj B.stack; (try dsimp only); (try k_fold)
  have kg : ∀ b o, s.heap.get? b = some o → g.get? b = some o := fun b o e => G b o e (by simp)
  have hlg : g.IsList la vs.toArray := hl.at fun o e => kg _ o e
  have hls : vs.toArray.size = ns.length := by rw [List.size_toArray, hv]
  repeat' (first | (k_unfold; (try dsimp only)) | (dsimp only; k_unfold; (try dsimp only)) | ((fail_if_success (with_reducible show Exists _)); (fail_if_success (with_reducible show LeaveK h₀ L m g _ _ _)); first | walk1 | (dsimp only; (fail_if_success (with_reducible show Exists _)); (fail_if_success (with_reducible show LeaveK h₀ L m g _ _ _)); walk1)))
  · have hk3 : k < (ns.length : Int) := by have := ‹k < _›; (first | lia | omega)
    have hk4 : k.toNat < ns.length := by (first | lia | omega)
    obtain ⟨t, ht⟩ := iv.2 k.toNat ns[k.toNat] (by simp [hk4])
    (with_reducible rename Fr _ _ _ _ => F7)
    refine item_listL (hlg.at fun o e => F7.keep _ o e) hk (by (first | lia | omega)) ht ?_
    repeat' (first | (k_unfold; (try dsimp only)) | (dsimp only; k_unfold; (try dsimp only)) | ((fail_if_success (with_reducible show Exists _)); (fail_if_success (with_reducible show LeaveK h₀ L m g _ _ _)); first | walk1 | (dsimp only; (fail_if_success (with_reducible show Exists _)); (fail_if_success (with_reducible show LeaveK h₀ L m g _ _ _)); walk1)))
    ((try dsimp only); (try k_unfold); (try dsimp only); (with_reducible rename Fr _ _ _ _ => cF); (with_reducible rename News _ _ _ _ => cN); refine leaveK_ cF cN ?_; intro kF kN; (try dsimp only [InitBack]); (try refine ⟨rfl, ?_⟩); (try dsimp only))
    exact ret _ _ _ _ kF (fun b o e _ => cF.keep b o (kg b o e))
  · ((try dsimp only); (try k_unfold); (try dsimp only); (with_reducible rename Fr _ _ _ _ => cF); (with_reducible rename News _ _ _ _ => cN); refine leaveK_ cF cN ?_; intro kF kN; (try dsimp only [InitBack]); (try refine ⟨rfl, ?_⟩); (try dsimp only))
    exact ret _ _ _ _ kF (fun b o e _ => cF.keep b o (kg b o e))
theorem bag_spec {w : World} {A : Around} {s : Shared} {h₀ : Heap} {L : Addr} {m : Str → Option Value} {c : Int} {t : Tok} {Q E : Value → Shared → Prop}
    (C : Cx w A h₀ L s.heap m) (hd : A.depth ≤ 390)
    (ret : ∀ (q : Addr) (o : Obj) (h' : Heap) (tk' : Tok), Fr h₀ L h' m → News h₀ L h' [(q, o)] → s.heap.get? q = none → BagOK o 0 → Kept s.heap [] h' → Q (.ref q) { s with heap := h', toks := tk' }) :
    wpAny (model PySem.Challenge.rw_sq0044_01.row.prog w) A (call (.ref 470) [.int c t]) Q E s := by
  refine wpAny_call ?_
  have N0 : News h₀ L s.heap [] := News.nil
  refine Cx.form_ C ?_; intro dp un gd env0 outer0 eA9; subst eA9; (try dsimp only at hd); (try dsimp only at hu); k_dflt (refine' enter (binds := [(Str.ofString "cell", .int c t)]) ?k1 ?k2 ?k6 ?k7 ?k8 ?k9 ?kB ?_ ?c2 ?c3 ?c4 ?c5; (case k1 => assumption); (case k2 => assumption); (case k6 => k_is); (case k7 => k_is); (case k8 => (first | exact le_up (d := 1) hd rfl | exact le_up (d := 2) hd rfl | (simp only [depth_under_make, depth_under_kw, recursionLimit]; (first | lia | omega)))); (case k9 => first | exact BindsTo.of_eq rfl | exact binds_K (Cx.inK (by assumption)) rfl (by k_is) rfl rfl rfl); (case c5 => decide); (case kB => exact locs rfl); (case c2 => exact rfl); (case c3 => exact rfl); (case c4 => exact rfl)); intro base outer p loose mean mg mb g L' hB1 FG F NB G B X T hh; obtain rfl : env0 :: outer0 = outer := Option.some.inj B.stack; (try dsimp only); (try k_fold)
  have kg : ∀ b o, s.heap.get? b = some o → g.get? b = some o := fun b o e => G b o e (by simp)
  repeat' (first | (k_unfold; (try dsimp only)) | (dsimp only; k_unfold; (try dsimp only)) | ((fail_if_success (with_reducible show Exists _)); (fail_if_success (with_reducible show LeaveK h₀ L m g _ _ _)); first | walk1 | (dsimp only; (fail_if_success (with_reducible show Exists _)); (fail_if_success (with_reducible show LeaveK h₀ L m g _ _ _)); walk1)))
  ((try dsimp only); (try k_unfold); (try dsimp only); (with_reducible rename Fr _ _ _ _ => cF); (with_reducible rename News _ _ _ _ => cN); refine leaveK_ cF cN ?_; intro kF kN; (try dsimp only [InitBack]); (try refine ⟨rfl, ?_⟩); (try dsimp only))
  exact ret _ _ _ _ kF (news_sub kN (by k_extra "my sub")) (kts_none kg (cN _ (.head _)).2.2) ⟨_, _, _, _, _, _, rfl, (fmod_b (by decide)).1, (fmod_b (by decide)).1, (fmod_b (by decide)).2, Int.le_refl _, Int.le_refl _⟩ (fun b o e _ => cF.keep b o (kg b o e))
end Mine
theorem Mine.fresh_B21 : True := by w_top off; k_with_none; trivial
namespace Mine
theorem fill_once21 (P : Params) : Mine.kk.heap_1 P = Mine.kk.heap_1 P ∧ PySem.Challenge.rw_sq0044_01 = PySem.Challenge.rw_sq0044_01 := by
  k_fill
  exact ⟨rfl, rfl⟩
theorem lnB21_0 : True := by
  k_with "execs cons" => (k_here; (with_reducible refine PySem.wpAny_execs_cons ?_); (try dsimp only); k_fold)
  k_with "execs cons" => (k_here; (with_reducible refine toks_gen ?_); intro _)
  k_with "eval Call" => (k_here; (with_reducible show wpAny _ _ (eval (Expr.Call (Expr.Name _ _) _ [] _) (envOf _ _ _ _ _)) _ _ _); k_dflt (refine call_named (by k_asm) (by k_asm) (by k_asm) (by k_is) (by k_is) (by (repeat' (first | exact ArgsV.nil | refine' ArgsV.loc (by first | exact rfl | assumption) rfl (by decide) ?_ | refine' ArgsV.int ?_ | refine' ArgsV.bool ?_ | refine' ArgsV.none ?_)); done) ?_))
  k_with "my sub" => first | exact List.forall_mem_nil _ | (refine' List.forall_mem_cons.mpr ⟨?_, ?_⟩; (· k_mem); (· k_extra "my sub")) | (intro q hq; repeat (first | exact hq | refine List.Mem.tail _ ?_))
  k_with "call type:tuple" => (k_here; (with_reducible show wpAny _ _ (call (Value.type _) [Value.ref _]) _ _ _); k_dflt (refine tuple_list_M (by k_asm) (by k_asm) (by k_mem) (by (first | lia | omega)) ?_); intro _ _ _ _ lz9; (try k_lt lz9); (try k_sweep))
  k_with "call ref" => ((fail_if_success (k_extra "svB210")); (k_here; k_dflt (k_extra "my call B210")))
  trivial
theorem ownB21_0 : True := by
  k_with "own k_ne" => (refine neN ?_; (try dsimp only); first | (with_reducible assumption) | (refine Ne.symm ?_; with_reducible assumption))
  trivial
theorem ownB21_1 : True := by
  k_with "own k_room" => ((try simp only [depth_under_make, depth_under_kw, depth_in1, depth_deeper, recursionLimit]); (first | lia | omega))
  trivial
theorem lnB21_1 : True := by
  k_with "getAttr ref" => (k_here; k_dflt (refine getAttr_g (by k_asm) (by k_asm) (by assumption) (by assumption) (by assumption) (by k_is) (by k_is) (by k_is) (by k_is) (by k_handed) ?_; k_whole))
  k_with "getMethod ref" => (k_here; k_dflt (refine getMethod_g (by k_asm) (by k_asm) (by assumption) (by assumption) (by assumption) (by k_is) (by k_is) (by k_is) ?_; k_whole))
  k_with "compareOp In int ref" => (k_here; (refine in_chars (by k_asm) (by assumption) ?_))
  k_with "getMethod ref" => (k_here; (refine getMethod_chars (by k_asm) (by assumption) ?_))
  k_with "call builtin:dict.get" => (k_here; (refine get_chars (by k_asm) (by assumption) ?_ ?_); (all_goals intros))
  k_with "subscriptTail" => (k_here; (with_reducible show wpAny _ _ (subscriptTail _ _ (Value.ref _) (Value.int _ _)) _ _ _); k_dflt (refine item_tupleT (by exact TupP.at (Fr.keep (by k_asm)) (by assumption)) (by decide) (by decide) (by rfl) (by rfl) ?_; k_whole))
  trivial
theorem lnB21_2 : True := by
  k_with "subscriptTail" => (k_here; (with_reducible show wpAny _ _ (subscriptTail _ _ (Value.ref (FontL.tk _)) (Value.int _ _)) _ _ _); k_dflt (refine kern_item (by k_asm) (by assumption) (by first | (first | lia | omega) | (have ok' := RowM.OK.kern (by assumption) (by (first | lia | omega)) (by (first | lia | omega)); (first | lia | omega))) (by first | (first | lia | omega) | (have ok' := RowM.OK.kern (by assumption) (by (first | lia | omega)) (by (first | lia | omega)); (first | lia | omega))) ?_ (by with_unfolding_all rfl)); intros)
  k_with "subscriptTail" => (k_here; (with_reducible show wpAny _ _ (subscriptTail _ _ (Value.ref (FontL.tp _)) (Value.int _ _)) _ _ _); k_dflt (refine prog_item (by k_asm) (by assumption) (by (first | lia | omega)) (by (first | lia | omega)) (by (first | lia | omega)) ?_ (by with_unfolding_all rfl) (by (intro _; with_unfolding_all rfl))); intros)
  k_with "compareOp In int ref" => (k_here; (with_reducible show wpAny _ _ (compareOp _ (Value.int _ _) (Value.ref 392)) _ _ _); (refine' in_known (Frag.In.keeps (by k_asm) (Fr.keep (by k_asm))) ?_))
  k_with "eval Name" => (k_here; (fail_if_success (with_reducible show wpAny _ _ (eval (Expr.Name _ _) (envOfC _ _ _ _ _)) _ _ _)); (fail_if_success (with_reducible show wpAny _ _ (eval (Expr.Name _ _) (compEnvC _ _ _ _)) _ _ _)); k_dflt (refine ld (by k_asm) (by first | exact rfl | assumption) ?_; k_whole))
  trivial
theorem lnB21_3 : True := by
  k_with "getAttr ref" => (k_here; k_dflt (refine getAttr_g (by k_asm) (by k_asm) (by assumption) (by assumption) (by first | assumption | k_get) (by k_is) (by k_is) (by k_is) (by k_is) (by k_handed) ?_; k_whole))
  k_with "getAttr ref" => (k_here; (with_reducible show wpAny _ _ (getAttr (Value.ref _) (PySem.Str.ofString "kind") _) _ _ _); k_dflt (refine getAttr_gc (by k_asm) (by k_asm) (by assumption) (by assumption) (by k_get) (by k_is) (by k_is) (by k_is) (by k_is) (by k_handed) (by decide +kernel) ?_; k_whole))
  trivial
structure RowGood (r : RowM) (i many letters edge : Int) : Prop where
  oct : OctI r.skip ∧ OctI r.follow ∧ OctI r.op ∧ OctI r.rest
  lead : r.skip > 128 → r.op = 0 ∧ r.rest < many
  follow : r.skip ≤ 128 → (1 ≤ r.follow ∧ r.follow ≤ letters ∨ r.follow = 9 ∧ edge = 9)
  lig : r.skip ≤ 128 → r.op < 128 → 1 ≤ r.rest ∧ r.rest ≤ letters
  kern : r.skip ≤ 128 → 128 ≤ r.op → r.op = 128 ∧ r.rest < 2
  next : r.skip < 128 → i + r.skip + 1 < many
noncomputable def RJ (g : Heap) (L' : Addr) (s : Shared) (b : Addr) (n : Int) (X : (Str → Option Value) → Prop → Prop) (P : Flow → Shared → Prop) : Prop :=
  ∀ h' tk' m' o', Fr g L' h' m' → News g L' h' [(b, o')] → BagOK o' n → X m' (P .next { s with heap := h', toks := tk' })
noncomputable def RowEnd (g : Heap) (L' : Addr) (s : Shared) (b : Addr) (n i many letters edge : Int) (v : Value) (s' : Shared) : Prop :=
  ∃ q r t0 t1 t2 t3 o' h' tk' m', v = .ref q ∧ s' = { s with heap := h', toks := tk' } ∧ Fr g L' h' m' ∧ News g L' h' [(q, tupO [.int (RowM.skip r) t0, .int r.follow t1, .int r.op t2, .int r.rest t3]), (b, o')] ∧ BagOK o' (n + 8) ∧ RowGood r i many letters edge
noncomputable def RJE (g : Heap) (L' : Addr) (s : Shared) (b : Addr) (n k i many letters edge : Int) (X : (Str → Option Value) → Prop → Prop) (P : Flow → Shared → Prop) : Prop :=
  (∀ v s', RowEnd g L' s b n i many letters edge v s' → P (.ret v) s') ∧ RJ g L' s b (n + k) X P
theorem ops_all : ∀ n : Nat, 0 ≤ ([0, 1, 2, 3, 5, 6, 7, 11, 10] : List Int).getD n 0 ∧ ([0, 1, 2, 3, 5, 6, 7, 11, 10] : List Int).getD n 0 ≤ 11 := fun n => by
  rcases n with _ | _ | _ | _ | _ | _ | _ | _ | _ | n <;> simp
theorem ops_oct (n : Nat) : OctI (([0, 1, 2, 3, 5, 6, 7, 11, 10] : List Int).getD n 0) := ⟨(ops_all n).1, Int.le_trans (ops_all n).2 (by decide)⟩
theorem ops_lt (n : Nat) : ¬ 128 ≤ ([0, 1, 2, 3, 5, 6, 7, 11, 10] : List Int).getD n 0 := by have := (ops_all n).2; (first | lia | omega)
theorem row_lead {x d many i letters edge : Int} (h0 : 129 ≤ x) (h1 : x ≤ 255) (hd : 0 ≤ d) (hd' : d < many) (hm : many ≤ 7) : RowGood ⟨x, 0, 0, d⟩ i many letters edge :=
  ⟨⟨⟨by dsimp only; (first | lia | omega), by dsimp only; (first | lia | omega)⟩, ⟨by dsimp only; (first | lia | omega), by dsimp only; (first | lia | omega)⟩, ⟨by dsimp only; (first | lia | omega), by dsimp only; (first | lia | omega)⟩, ⟨by dsimp only; (first | lia | omega), by dsimp only; (first | lia | omega)⟩⟩, fun _ => ⟨rfl, hd'⟩, fun h => by dsimp only at h; (first | lia | omega), fun h => by dsimp only at h; (first | lia | omega), fun h => by dsimp only at h; (first | lia | omega), fun h => by dsimp only at h; (first | lia | omega)⟩
noncomputable def RX (b : Addr) (i many letters edge : Int) (tp tm tl te : Tok) (m' : Str → Option Value) (G : Prop) : Prop :=
  m' (Str.ofString "bag") = some (.ref b) → m' (Str.ofString "place") = some (.int i tp) → m' (Str.ofString "many") = some (.int many tm) → m' (Str.ofString "letters") = some (.int letters tl) → m' (Str.ofString "edge") = some (.int edge te) → G
theorem lnB21_4 : True := by
  k_with "ite" => ((fail_if_success (k_extra "svB210")); (k_here; k_dflt (k_extra "my ite B210")))
  trivial
theorem row_spec {w : World} {A : Around} {s : Shared} {h₀ : Heap} {L : Addr} {m : Str → Option Value} {b : Addr} {o : Obj} {n i many letters edge : Int} {ti tm tl te : Tok} {Q E : Value → Shared → Prop}
    (C : Cx w A h₀ L s.heap m) (N : News h₀ L s.heap [(b, o)]) (hd : A.depth ≤ 390) (hu : A.units ≤ 300) (hB : BagOK o n) (hn : n ≤ 900) (hi0 : 0 ≤ i) (hi1 : i < many) (hm0 : 2 ≤ many) (hm1 : many ≤ 7) (hl0 : 2 ≤ letters) (hl1 : letters ≤ 4) (he : edge = 256 ∨ edge = 1 ∨ edge = 9)
    (ret : ∀ (q : Addr) (r : RowM) (t0 t1 t2 t3 : Tok) (o' : Obj) (h' : Heap) (tk' : Tok), Fr h₀ L h' m → News h₀ L h' [(q, tupO [.int r.skip t0, .int r.follow t1, .int r.op t2, .int r.rest t3]), (b, o')] → Kept s.heap [b] h' → s.heap.get? q = none → BagOK o' (n + 8) → RowGood r i many letters edge → Q (.ref q) { s with heap := h', toks := tk' }) :
    wpAny (model PySem.Challenge.rw_sq0044_01.row.prog w) A (call (.ref 484) [.ref b, .int i ti, .int many tm, .int letters tl, .int edge te]) Q E s := by
  refine wpAny_call ?_
  refine Cx.form_ C ?_; intro dp un gd env0 outer0 eA9; subst eA9; (try dsimp only at hd); (try dsimp only at hu); k_dflt (refine' enter (binds := [(Str.ofString "bag", .ref b), (Str.ofString "place", .int i ti), (Str.ofString "many", .int many tm), (Str.ofString "letters", .int letters tl), (Str.ofString "edge", .int edge te)]) ?k1 ?k2 ?k6 ?k7 ?k8 ?k9 ?kB ?_ ?c2 ?c3 ?c4 ?c5; (case k1 => assumption); (case k2 => assumption); (case k6 => k_is); (case k7 => k_is); (case k8 => (first | exact le_up (d := 1) hd rfl | exact le_up (d := 2) hd rfl | (simp only [depth_under_make, depth_under_kw, recursionLimit]; (first | lia | omega)))); (case k9 => first | exact BindsTo.of_eq rfl | exact binds_K (Cx.inK (by assumption)) rfl (by k_is) rfl rfl rfl); (case c5 => decide); (case kB => exact locs rfl); (case c2 => exact rfl); (case c3 => exact rfl); (case c4 => exact rfl)); intro base outer p loose mean mg mb g L' hB1 FG F NB G B X T hh; obtain rfl : env0 :: outer0 = outer := Option.some.inj B.stack; (try dsimp only); (try k_fold)
  have kept : ∀ {h' : Heap}, (∀ b o, g.get? b = some o → h'.get? b = some o) → Kept s.heap [b] h' := fun k a o e n => k a o (G a o e n)
  k_with "svB210" => skip
  k_with "call ref" => ((fail_if_success (k_extra "svB211")); (k_here; k_dflt (k_extra "my call B211")))
  k_with "ite" => ((fail_if_success (k_extra "svB211")); (k_here; k_dflt (k_extra "my ite B211")))
  k_with "my call B211" => (refine draw_b (Cx.deeper (by k_asm) (by k_asm) (by k_asm) (by k_asm) (by k_asm) rfl) (by k_asm) (by first | exact le_up (d := 1) hd rfl | (simp only [depth_deeper]; (first | lia | omega))) (by first | exact le_up (d := 3) hu rfl | (simp only [units_deeper]; (first | lia | omega))) (by assumption) (by (first | lia | omega)) (by (first | lia | omega)) (by (first | lia | omega)) ?_; intro d td o' hw1 tkw Fw Nw Kw hBw a1 a2; (try k_sweep))
  repeat' ((fail_if_success (with_reducible show wpAny _ _ (exec (Stmt.If _ _ _ _) _) _ _ _)); first | (k_unfold; (try dsimp only)) | (dsimp only; k_unfold; (try dsimp only)) | ((fail_if_success (with_reducible show Exists _)); (fail_if_success (with_reducible show LeaveK h₀ L m g _ _ _)); first | walk1 | (dsimp only; (fail_if_success (with_reducible show Exists _)); (fail_if_success (with_reducible show LeaveK h₀ L m g _ _ _)); walk1)))
  have fin : ∀ v s', RowEnd g L' s b n i many letters edge v s' → LeaveK h₀ L m g (fun r s' => match r with | .ok (.ret v) => Q v s' | .ok _ => False | .error e => E e s') v s' := by
    rintro v s' ⟨q, r, t0, t1, t2, t3, o', h', tk', m', rfl, rfl, cF, cN, hb, hg⟩
    refine leaveK_ cF cN ?_
    intro kF kN
    exact ret q r t0 t1 t2 t3 o' h' tk' kF kN (kept cF.keep) (fresh_g G (cN _ (.head _)).2.2 (fun hm => by
      obtain ⟨p, hp, e⟩ := List.mem_map.mp hm
      rw [List.mem_singleton.mp hp] at e
      have z1 := (cN _ (.head _)).1
      have z2 := (cN _ (.tail _ (.head _))).1
      obtain ⟨x, y, z, tx, ty, tz, rfl, _⟩ := hb
      rw [← show b = q from e, z2] at z1
      have z3 := congrArg (fun o : Option Obj => o.map (·.cls)) z1
      simp at z3)) hb hg
  refine cutC (RJE g L' s b n 1 i many letters edge (RX b i many letters edge ti tm tl te)) ?_ ?_
  · repeat' (first | (k_unfold; (try dsimp only)) | (dsimp only; k_unfold; (try dsimp only)) | ((fail_if_success (with_reducible show Exists _)); (fail_if_success (with_reducible show LeaveK h₀ L m g _ _ _)); first | walk1 | (dsimp only; (fail_if_success (with_reducible show Exists _)); (fail_if_success (with_reducible show LeaveK h₀ L m g _ _ _)); walk1)))
    all_goals ((with_reducible rename Fr _ _ _ _ => F7); (with_reducible rename News _ _ _ _ => N7))
    · (with_reducible rename RJE .. => kJ); exact kJ.1 _ _ ⟨_, ⟨255, 0, 0, _⟩, _, _, _, _, _, _, _, _, rfl, rfl, F7, N7, BagOK.up (by assumption) (by (first | lia | omega)), row_lead (by (first | lia | omega)) (by (first | lia | omega)) (by assumption) (by assumption) (by (first | lia | omega))⟩
    · (with_reducible rename RJE .. => kJ); exact kJ.2 _ _ _ _ F7 N7 (BagOK.up (by assumption) (by (first | lia | omega))) rfl rfl rfl rfl rfl
    · (with_reducible rename RJE .. => kJ); exact kJ.2 _ _ _ _ F7 N7 (BagOK.up (by assumption) (by (first | lia | omega))) rfl rfl rfl rfl rfl
  refine ⟨fin, fun h1 tk1 m1 o1 F1 N1 hB1 p1 p2 p3 p4 p5 => ?_⟩
  (try dsimp only)
  clear hB NB F
  repeat' ((fail_if_success (with_reducible show wpAny _ _ (exec (Stmt.If _ _ _ _) _) _ _ _)); first | (k_unfold; (try dsimp only)) | (dsimp only; k_unfold; (try dsimp only)) | ((fail_if_success (with_reducible show Exists _)); (fail_if_success (with_reducible show LeaveK h₀ L m g _ _ _)); first | walk1 | (dsimp only; (fail_if_success (with_reducible show Exists _)); (fail_if_success (with_reducible show LeaveK h₀ L m g _ _ _)); walk1)))
  refine cutC (RJE g L' s b n 2 i many letters edge (fun m' G => RX b i many letters edge ti tm tl te m' (∀ d t, m' (Str.ofString "sort") = some (.int d t) → G))) ?_ ?_
  · repeat' (first | (k_unfold; (try dsimp only)) | (dsimp only; k_unfold; (try dsimp only)) | ((fail_if_success (with_reducible show Exists _)); (fail_if_success (with_reducible show LeaveK h₀ L m g _ _ _)); first | walk1 | (dsimp only; (fail_if_success (with_reducible show Exists _)); (fail_if_success (with_reducible show LeaveK h₀ L m g _ _ _)); walk1)))
    all_goals ((with_reducible rename Fr _ _ _ _ => F7); (with_reducible rename News _ _ _ _ => N7))
    · (with_reducible rename RJE .. => kJ); exact kJ.1 _ _ ⟨_, ⟨129 + _, 0, 0, _⟩, _, _, _, _, _, _, _, _, rfl, rfl, F7, N7, BagOK.up (by assumption) (by (first | lia | omega)), row_lead (by (first | lia | omega)) (by (first | lia | omega)) (by assumption) (by assumption) (by (first | lia | omega))⟩
    · (with_reducible rename RJE .. => kJ); exact kJ.2 _ _ _ _ F7 N7 (BagOK.up (by assumption) (by (first | lia | omega))) p1 p2 p3 p4 p5 _ _ rfl
  clear p1 p2 p3 p4 p5
  refine ⟨fin, fun h2 tk2 m2 o2 F2 N2 hB2 p1 p2 p3 p4 p5 ds ts p6 => ?_⟩
  (try dsimp only)
  (try clear hB1); (try clear N1); (try clear F1); (try clear hBw); (try clear Nw); (try clear Kw); (try clear Fw)
  repeat' ((fail_if_success (with_reducible show wpAny _ _ (exec (Stmt.If _ _ _ _) _) _ _ _)); first | (k_unfold; (try dsimp only)) | (dsimp only; k_unfold; (try dsimp only)) | ((fail_if_success (with_reducible show Exists _)); (fail_if_success (with_reducible show LeaveK h₀ L m g _ _ _)); first | walk1 | (dsimp only; (fail_if_success (with_reducible show Exists _)); (fail_if_success (with_reducible show LeaveK h₀ L m g _ _ _)); walk1)))
  refine cutC (RJ g L' s b (n + 3) (fun m' G => RX b i many letters edge ti tm tl te m' (m' (Str.ofString "sort") = some (.int ds ts) → ∀ f t, m' (Str.ofString "behind") = some (.int f t) → (1 ≤ f ∧ f ≤ letters ∨ f = 9 ∧ edge = 9) → G))) ?_ ?_
  · repeat' (first | (k_unfold; (try dsimp only)) | (dsimp only; k_unfold; (try dsimp only)) | ((fail_if_success (with_reducible show Exists _)); (fail_if_success (with_reducible show LeaveK h₀ L m g _ _ _)); first | walk1 | (dsimp only; (fail_if_success (with_reducible show Exists _)); (fail_if_success (with_reducible show LeaveK h₀ L m g _ _ _)); walk1)))
    all_goals ((with_reducible rename Fr _ _ _ _ => F7); (with_reducible rename News _ _ _ _ => N7))
    all_goals ((with_reducible rename RJ .. => kJ); exact kJ _ _ _ _ F7 N7 (BagOK.up (by assumption) (by (first | lia | omega))) p1 p2 p3 p4 p5 p6 _ _ rfl (by (first | lia | omega)))
  clear p1 p2 p3 p4 p5 p6
  intro h3 tk3 m3 o3 F3 N3 hB3 p1 p2 p3 p4 p5 p6 f tf p7 hfo
  (try dsimp only)
  (try clear hB2); (try clear N2); (try clear F2); (try clear hBw); (try clear Nw); (try clear Kw); (try clear Fw)
  repeat' ((fail_if_success (with_reducible show wpAny _ _ (exec (Stmt.If _ _ _ _) _) _ _ _)); first | (k_unfold; (try dsimp only)) | (dsimp only; k_unfold; (try dsimp only)) | ((fail_if_success (with_reducible show Exists _)); (fail_if_success (with_reducible show LeaveK h₀ L m g _ _ _)); first | walk1 | (dsimp only; (fail_if_success (with_reducible show Exists _)); (fail_if_success (with_reducible show LeaveK h₀ L m g _ _ _)); walk1)))
  refine cutC (RJ g L' s b (n + 5) (fun m' G => RX b i many letters edge ti tm tl te m' (m' (Str.ofString "behind") = some (.int f tf) → ∀ p t r u, m' (Str.ofString "op") = some (.int p t) → m' (Str.ofString "rest") = some (.int r u) → OctI p → OctI r → (p < 128 → 1 ≤ r ∧ r ≤ letters) → (128 ≤ p → p = 128 ∧ r < 2) → G))) ?_ ?_
  · repeat' (first | (k_unfold; (try dsimp only)) | (dsimp only; k_unfold; (try dsimp only)) | ((fail_if_success (with_reducible show Exists _)); (fail_if_success (with_reducible show LeaveK h₀ L m g _ _ _)); first | walk1 | (dsimp only; (fail_if_success (with_reducible show Exists _)); (fail_if_success (with_reducible show LeaveK h₀ L m g _ _ _)); walk1)))
    all_goals ((with_reducible rename Fr _ _ _ _ => F7); (with_reducible rename News _ _ _ _ => N7))
    · (with_reducible rename RJ .. => kJ); exact kJ _ _ _ _ F7 (news_sub N7 (b := [(b, o')]) (by k_extra "my sub")) (BagOK.up (by assumption) (by (first | lia | omega))) p1 p2 p3 p4 p5 p7 _ _ _ _ rfl rfl ⟨by (first | lia | omega), by (first | lia | omega)⟩ ⟨by (first | lia | omega), by (first | lia | omega)⟩ (fun h => by (first | lia | omega)) (fun _ => ⟨rfl, by (first | lia | omega)⟩)
    · (with_reducible rename RJ .. => kJ); exact kJ _ _ _ _ F7 (news_sub N7 (b := [(b, o')]) (by k_extra "my sub")) (BagOK.up (by assumption) (by (first | lia | omega))) p1 p2 p3 p4 p5 p7 _ _ _ _ rfl rfl (ops_oct _) ⟨by (first | lia | omega), by (first | lia | omega)⟩ (fun h => ⟨by (first | lia | omega), by (first | lia | omega)⟩) (fun h => absurd h (ops_lt _))
  clear p1 p2 p3 p4 p5 p6 p7
  intro h4 tk4 m4 o4 F4 N4 hB4 p1 p2 p3 p4 p5 p7 p tpp r tr p8 p9 op1 or1 hlg hkn
  (try dsimp only)
  (try clear hB3); (try clear N3); (try clear F3); (try clear hBw); (try clear Nw); (try clear Kw); (try clear Fw)
  repeat' ((fail_if_success (with_reducible show wpAny _ _ (exec (Stmt.Assign _ _ _) _) _ _ _)); first | (k_unfold; (try dsimp only)) | (dsimp only; k_unfold; (try dsimp only)) | ((fail_if_success (with_reducible show Exists _)); (fail_if_success (with_reducible show LeaveK h₀ L m g _ _ _)); first | walk1 | (dsimp only; (fail_if_success (with_reducible show Exists _)); (fail_if_success (with_reducible show LeaveK h₀ L m g _ _ _)); walk1)))
  refine cutC (RJ g L' s b (n + 6) (fun m' G => RX b i many letters edge ti tm tl te m' (m' (Str.ofString "behind") = some (.int f tf) → m' (Str.ofString "op") = some (.int p tpp) → m' (Str.ofString "rest") = some (.int r tr) → ∀ j t, m' (Str.ofString "jump") = some (.int j t) → 0 ≤ j → j ≤ 128 → G))) ?_ ?_
  · repeat' ((fail_if_success (with_reducible show wpAny _ _ (call (Value.ref 477) _) _ _ _)); first | (k_unfold; (try dsimp only)) | (dsimp only; k_unfold; (try dsimp only)) | ((fail_if_success (with_reducible show Exists _)); (fail_if_success (with_reducible show LeaveK h₀ L m g _ _ _)); first | walk1 | (dsimp only; (fail_if_success (with_reducible show Exists _)); (fail_if_success (with_reducible show LeaveK h₀ L m g _ _ _)); walk1)))
    (with_reducible rename Fr g _ _ _ => F7); (with_reducible rename News g _ _ _ => N7)
    refine draw_b (Cx.deeper B F7 X T hh rfl) (news_sub N7 (b := [(b, _)]) (List.forall_mem_cons.mpr ⟨.tail _ (.head _), fun _ h => nomatch h⟩)) (by first | exact le_up (d := 1) hd rfl | (simp only [depth_deeper]; (first | lia | omega))) (by first | exact le_up (d := 3) hu rfl | (simp only [units_deeper]; (first | lia | omega))) (by assumption) (by (first | lia | omega)) (by (first | lia | omega)) (by (first | lia | omega)) ?_
    intro d td o' hw1 tkw Fw Nw Kw hBw a1 a2
    have NT := news_app (news_keep (news_sub N7 (b := [_]) (List.forall_mem_cons.mpr ⟨.head _, fun _ h => nomatch h⟩)) Kw (List.forall_mem_cons.mpr ⟨by (try dsimp only); rw [List.mem_singleton]; exact Ne.symm (Nat.ne_of_lt (by assumption)), fun _ h => nomatch h⟩)) Nw
    (try dsimp only [List.cons_append, List.nil_append] at NT)
    (try clear N7); (try clear F7); (try clear Nw); (try clear Kw)
    obtain rfl | rfl | rfl | rfl : d = 0 ∨ d = 1 ∨ d = 2 ∨ d = 3 := by (first | lia | omega)
    all_goals (
      repeat' (first | (k_unfold; (try dsimp only)) | (dsimp only; k_unfold; (try dsimp only)) | ((fail_if_success (with_reducible show Exists _)); (fail_if_success (with_reducible show LeaveK h₀ L m g _ _ _)); first | walk1 | (dsimp only; (fail_if_success (with_reducible show Exists _)); (fail_if_success (with_reducible show LeaveK h₀ L m g _ _ _)); walk1)))
      (with_reducible rename Fr g _ _ _ => F8); (with_reducible rename News g _ _ _ => N8)
      (with_reducible rename RJ .. => kJ); exact kJ _ _ _ _ F8 (news_sub N8 (b := [(b, o')]) (by k_extra "my sub")) (BagOK.up (by assumption) (by (first | lia | omega))) p1 p2 p3 p4 p5 p7 p8 p9 _ _ rfl (by (first | lia | omega)) (by (first | lia | omega)))
  clear p1 p2 p3 p4 p5 p7 p8 p9
  intro h5 tk5 m5 o5 F5 N5 hB5 p1 p2 p3 p4 p5 p7 p8 p9 j tj p10 j0 j1
  (try dsimp only)
  (try clear hB4); (try clear N4); (try clear F4)
  repeat' ((fail_if_success (with_reducible show wpAny _ _ (exec (Stmt.If _ _ _ _) _) _ _ _)); first | (k_unfold; (try dsimp only)) | (dsimp only; k_unfold; (try dsimp only)) | ((fail_if_success (with_reducible show Exists _)); (fail_if_success (with_reducible show LeaveK h₀ L m g _ _ _)); first | walk1 | (dsimp only; (fail_if_success (with_reducible show Exists _)); (fail_if_success (with_reducible show LeaveK h₀ L m g _ _ _)); walk1)))
  refine cutC (RJ g L' s b (n + 6) (fun m' G => RX b i many letters edge ti tm tl te m' (m' (Str.ofString "behind") = some (.int f tf) → m' (Str.ofString "op") = some (.int p tpp) → m' (Str.ofString "rest") = some (.int r tr) → ∀ j t, m' (Str.ofString "jump") = some (.int j t) → 0 ≤ j → j ≤ 128 → (j < 128 → i + j + 1 < many) → G))) ?_ ?_
  · repeat' (first | (k_unfold; (try dsimp only)) | (dsimp only; k_unfold; (try dsimp only)) | ((fail_if_success (with_reducible show Exists _)); (fail_if_success (with_reducible show LeaveK h₀ L m g _ _ _)); first | walk1 | (dsimp only; (fail_if_success (with_reducible show Exists _)); (fail_if_success (with_reducible show LeaveK h₀ L m g _ _ _)); walk1)))
    all_goals (
      (with_reducible rename Fr g _ _ _ => F8); (with_reducible rename News g _ _ _ => N8)
      (with_reducible rename RJ .. => kJ); exact kJ _ _ _ _ F8 N8 (BagOK.up (by assumption) (by (first | lia | omega))) p1 p2 p3 p4 p5 p7 p8 p9 _ _ (by first | rfl | exact p10) (by (first | lia | omega)) (by (first | lia | omega)) (by (first | lia | omega)))
  clear p1 p2 p3 p4 p5 p7 p8 p9 p10 j0 j1
  intro h6 tk6 m6 o6 F6 N6 hB6 p1 p2 p3 p4 p5 p7 p8 p9 j' tj p10 j0 j1 hj
  (try dsimp only)
  (try clear hB5); (try clear N5); (try clear F5)
  repeat' (first | (k_unfold; (try dsimp only)) | (dsimp only; k_unfold; (try dsimp only)) | ((fail_if_success (with_reducible show Exists _)); (fail_if_success (with_reducible show LeaveK h₀ L m g _ _ _)); first | walk1 | (dsimp only; (fail_if_success (with_reducible show Exists _)); (fail_if_success (with_reducible show LeaveK h₀ L m g _ _ _)); walk1)))
  (with_reducible rename Fr g _ _ _ => F8); (with_reducible rename News g _ _ _ => N8)
  exact fin _ _ ⟨_, ⟨j', f, p, r⟩, _, _, _, _, _, _, _, _, rfl, rfl, F8, N8, BagOK.up (by assumption) (by (first | lia | omega)), ⟨⟨⟨j0, Int.le_trans j1 (by decide)⟩, ⟨by dsimp only; (first | lia | omega), by dsimp only; (first | lia | omega)⟩, op1, or1⟩, fun h => by dsimp only at h; (first | lia | omega), fun _ => hfo, fun _ => hlg, fun _ => hkn, hj⟩⟩
end Mine
theorem Mine.fresh_X5 : True := by w_top off; k_with_none; trivial
namespace Mine
section
variable {prog : Program} {w : World} {A : Around} {E : Value → Shared → Prop} {s : Shared}
theorem nextOf_tuple_item {it l : Addr} {i : Nat} {items} {x : Value} {Q : Value → Shared → Prop} (hit : s.heap.IsTupleIter it l i)
    (hl : s.heap.IsTuple l items) (hx : items[i]? = some x)
    (hQ : ∀ h', h'.IsTupleIter it l (i + 1) → Heap.SameBut it s.heap h' → Q x { s with heap := h' }) :
    wpAny (model prog w) A (Builtin.SmallTypes.nextOf (.ref it)) Q E s := by
  obtain ⟨o, ho, hc, hd⟩ := id hit
  obtain ⟨ol, hol, _, nl, hdl⟩ := hl
  unfold Builtin.SmallTypes.nextOf
  refine wpAny_bind (wpAny_callSpecial?_slot (name := Str.ofString "__next__") hit.typeIs F.slot_tuple_iterator_next
    (wpAny_call_entry F.slot_tuple_iterator_next hit.typeIs F.entry_tuple_iterator_next ?_ (F.args_tuple_iterator_next_1 _)))
  show wpAny _ _ (field (.ref it) 0 >>= _) _ _ s
  refine wpAny_bind (wpAny_field ho hd (x := .ref l) rfl ?_)
  show wpAny _ _ (if (Value.ref l == Value.none) = true then _ else _) _ _ s
  rw [if_neg (show ¬ ((Value.ref l == Value.none) = true) from Bool.false_ne_true)]
  show wpAny _ _ (field (.ref it) 1 >>= _) _ _ s
  refine wpAny_bind (wpAny_field ho hd (x := .int i 0) rfl ?_)
  show wpAny _ _ (seqItems? (.ref l) >>= _) _ _ s
  refine wpAny_bind (wpAny_seqItems hol hdl ?_)
  simp only [Int.toNat_natCast, hx]
  refine wpAny_bind (wpAny_setField ho hd (by simp) (wpAny_pure ⟨x, rfl, wpAny_pure (hQ _ ?_ (Heap.SameBut.update ..))⟩))
  exact ⟨_, Heap.get?_update_self _ ho (Obj.isFreed_of_fields (Obj.data_mapFields hd _)), (Obj.cls_mapFields ..).trans hc, by
    rw [Obj.data_mapFields hd]; simp [rawInt]⟩
theorem nextOf_tuple_end {it l : Addr} {i : Nat} {items} {Q : Value → Shared → Prop} (hh : A.handled = none)
    (hit : s.heap.IsTupleIter it l i) (hl : s.heap.IsTuple l items) (hx : items[i]? = none)
    (hE : ∀ h' e, Heap.ExtBut it s.heap h' → (∃ o, h'.get? e = some o ∧ o.cls = .type "StopIteration") → E (.ref e) { s with heap := h' }) :
    wpAny (model prog w) A (Builtin.SmallTypes.nextOf (.ref it)) Q E s := by
  obtain ⟨o, ho, hc, hd⟩ := id hit
  obtain ⟨ol, hol, _, nl, hdl⟩ := hl
  unfold Builtin.SmallTypes.nextOf
  refine wpAny_bind (wpAny_callSpecial?_slot (name := Str.ofString "__next__") hit.typeIs F.slot_tuple_iterator_next
    (wpAny_call_entry F.slot_tuple_iterator_next hit.typeIs F.entry_tuple_iterator_next ?_ (F.args_tuple_iterator_next_1 _)))
  show wpAny _ _ (field (.ref it) 0 >>= _) _ _ s
  refine wpAny_bind (wpAny_field ho hd (x := .ref l) rfl ?_)
  show wpAny _ _ (if (Value.ref l == Value.none) = true then _ else _) _ _ s
  rw [if_neg (show ¬ ((Value.ref l == Value.none) = true) from Bool.false_ne_true)]
  show wpAny _ _ (field (.ref it) 1 >>= _) _ _ s
  refine wpAny_bind (wpAny_field ho hd (x := .int i 0) rfl ?_)
  show wpAny _ _ (seqItems? (.ref l) >>= _) _ _ s
  refine wpAny_bind (wpAny_seqItems hol hdl ?_)
  simp only [Int.toNat_natCast, hx]
  refine wpAny_bind (wpAny_rule (wpAny_bind (wpAny_setField ho hd (by simp) ?_)))
  show wpAny _ _ (newExc (.type "StopIteration") [] >>= _) _ _ _
  refine wpAny_bind ?_
  simp only [newExc, newTuple]
  refine wpAny_bind (wpAny_newObj_type ?_ (by size_fits))
  refine wpAny_bind (m := firstArgMember _ _) (wpAny_of_eq (a := Value.none) (by first | rfl | (simp only [firstArgMember]; rfl)) ?_)
  refine wpAny_newObj_type ?_ (by size_fits)
  simp only [raiseNew]
  refine wpAny_bind (wpAny_handled ?_)
  first | rw [show A.in1.handled = none from hh] | rw [hh]
  refine wpAny_bind (wpAny_pure (wpAny_throw ?_))
  exact hE _ _ (((Heap.SameBut.update ..).extBut.push _).push _) ⟨_, Heap.get?_push_size _ rfl, rfl⟩
theorem draws_tuple (hh : A.handled = none) (it l : Addr) (hne : l ≠ it) (items : Array Value) :
    Draws prog w A it [it, l] items.size (fun i v => items[i]? = some v) (fun i h => h.IsTupleIter it l i ∧ h.IsTuple l items) where
  live := fun _ _ st => let ⟨o, ho, _⟩ := st.1; ⟨o, ho⟩
  frame := fun _ _ _ st hk => ⟨st.1.at fun o e => hk it (by simp) o e, st.2.at fun o e => hk l (by simp) o e⟩
  item := fun i s Q E hi st hQ => by
    refine nextOf_tuple_item st.1 st.2 (x := items[i]) (by simp [hi]) fun h' hit' hs' => ?_
    exact hQ _ h' s.toks (by simp [hi]) ⟨hit', st.2.at fun o e => hs'.extBut _ _ hne e⟩ hs'
  done := fun s Q E st hE => nextOf_tuple_end hh st.1 st.2 (by simp) hE
theorem meets_enum_tuple (l : Addr) (items : Array Value) (n : Nat) (dct : Option Addr) (sl : Array (Option Value)) :
    Meets (Builtin.«enumerate.__new__» ⟨[.type "enumerate", .ref l], []⟩) (fun _ R s => s.heap.get? l = some { cls := .type "tuple", dict := dct, data := .seq items n, slots := sl } ∧
      R (.ok (.ret (.ref (s.heap.push { cls := .type "tuple_iterator", data := .fields #[.ref l, .int 0 0] }).objs.size)))
        { s with heap := (s.heap.push { cls := .type "tuple_iterator", data := .fields #[.ref l, .int 0 0] }).push { cls := .type "enumerate", data := .fields #[.none, .bool false, .ref s.heap.objs.size, rawInt 0, .none, .none] } }) :=
  .of_wp fun prog w A R s h => by
    obtain ⟨hp, g, d, tk, os⟩ := s; obtain ⟨hl, h⟩ := h
    have hsub := sub_enumerate
    have hL : Heap.IsTuple (Shared.heap ⟨hp, g, d, tk, os⟩) l items := ⟨_, hl, rfl, n, rfl⟩
    wp_walk using wpAny_loadPart' hl
    refine wpAny_stack_any fun st => wpAny_pure ?_
    split
    · rename_i c _ _ _ _ _
      cases (c == Value.type "enumerate")
      · wp_walk using wpAny_loadPart' hl, wpAny_pyIter_tuple hL
        exact ⟨_, rfl, h⟩
      · wp_walk using wpAny_loadPart' hl, wpAny_pyIter_tuple hL
        exact ⟨_, rfl, h⟩
    all_goals (wp_walk using wpAny_loadPart' hl, wpAny_pyIter_tuple hL; exact ⟨_, rfl, h⟩)
theorem call_enum_tuple {l : Addr} {items : Array Value} {Q : Value → Shared → Prop} (hl : s.heap.IsTuple l items)
    (h : ∀ h', IsEnum h' (s.heap.objs.size + 1) s.heap.objs.size 0 .none → h'.IsTupleIter s.heap.objs.size l 0 → h'.objs.size = s.heap.objs.size + 2 →
      (∀ b o, s.heap.get? b = some o → h'.get? b = some o) → Q (.ref (s.heap.objs.size + 1)) { s with heap := h' }) :
    wpAny (model prog w) A (call (.type "enumerate") [.ref l]) Q E s := by
  obtain ⟨⟨c, dct, dat, sl⟩, ho, hc, n, hd⟩ := hl
  dsimp only at hc hd
  subst hc hd
  refine callType_new F.called_enumerate (by decide) (F.typeCall_enumerate_1 _) (F.newCall_enumerate_1 _) (fun obj => F.args_object_init_2 obj _) F.entry_enumerate_new
    (meets_enum_tuple l items n dct sl) ⟨ho, ?_⟩
  have hz : (s.heap.push { cls := .type "tuple_iterator", data := .fields #[.ref l, .int 0 0] }).objs.size = s.heap.objs.size + 1 := Heap.size_push ..
  show _ ∧ _
  rw [hz]
  have he : IsEnum ((s.heap.push { cls := .type "tuple_iterator", data := .fields #[.ref l, .int 0 0] }).push
      { cls := .type "enumerate", data := .fields #[.none, .bool false, .ref s.heap.objs.size, rawInt 0, .none, .none] }) (s.heap.objs.size + 1) s.heap.objs.size 0 .none := by
    have := Heap.get?_push_size (s.heap.push { cls := .type "tuple_iterator", data := .fields #[.ref l, .int 0 0] })
      (o := { cls := .type "enumerate", data := .fields #[.none, .bool false, .ref s.heap.objs.size, rawInt 0, .none, .none] }) rfl
    rw [hz] at this; exact this
  refine ⟨⟨_, he, rfl⟩, h _ he ⟨_, Heap.get?_push_of_some _ (Heap.get?_push_size _ rfl), rfl, rfl⟩ (by rw [Heap.size_push, hz]) fun b o x => Heap.get?_push_of_some _ (Heap.get?_push_of_some _ x)⟩
end
section
variable {prog : Program} {w : World} {A : Around} {E : Value → Shared → Prop} {s : Shared} {h₀ : Heap} {env : Env} {xi xc : Str} {body : List Stmt} {Q : Flow → Shared → Prop} {m : Str → Option Value}
/-- for i, x in enumerate(a tuple that stays) -/
theorem iter_enum_J {l : Addr} {vs : List Value} (hh : A.handled = none) (F : Fr h₀ env.locals s.heap m) (hl : h₀.IsTuple l vs.toArray)
    (J : Nat → (Str → Option Value) → Prop) (h0 : J 0 m)
    (turn : ∀ i v t m₁ h tk own, vs[i]? = some v → J i m₁ → Fr h₀ env.locals h (fun y => if y = xc then some v else if y = xi then some (.int (i : Int) t) else m₁ y) → News h₀ env.locals h own →
      wpAny (model prog w) A (execs body env) (LoopStep3 h₀ env.locals own [] (fun m' _ => J (i + 1) m') { s with heap := h, toks := tk } (fun v s' => Q (.ret v) s') fun s' => Q .next s') E { s with heap := h, toks := tk })
    (done : ∀ h' tk m', Fr h₀ env.locals h' m' → J vs.length m' → Q .next { s with heap := h', toks := tk }) :
    wpAny (model prog w) A (call (.type "enumerate") [.ref l]) (fun xv s₁ => wpAny (model prog w) A (pyIter xv) (fun it s₂ => PairAt3 prog w A h₀ env xi xc body Q E it s₂) E s₁) E s := by
  have hls : s.heap.IsTuple l vs.toArray := hl.at fun o e => F.keep l o e
  obtain ⟨ol, hol, _⟩ := id hl
  have hlt : l < h₀.objs.size := Heap.lt_size hol
  have hlt2 : l < s.heap.objs.size := Nat.lt_trans (Nat.lt_of_lt_of_le hlt F.above) F.ns.lt
  refine call_enum_tuple hls fun h' he hit hsz hk => ?_
  refine wpAny_pyIter_enum he ?_
  have hnone : ∀ b, s.heap.objs.size ≤ b → h₀.get? b = none := fun b hb => Heap.get?_none_of_le (Nat.le_trans (Nat.le_of_lt (Nat.lt_of_le_of_lt F.above F.ns.lt)) hb)
  refine ⟨s.heap.objs.size + 1, _, _, vs.toArray.size, _, _, _, (fun i v0 v1 => vs[i]? = some v1 ∧ ∃ t, v0 = .int (i : Int) t), m, [], (fun i m' nw => nw = [] ∧ J i m'), rfl,
    WalksT.enumerateD (draws_tuple (A := A.in1) hh s.heap.objs.size l (Nat.ne_of_lt hlt2) vs.toArray) (s.heap.objs.size + 1) (Nat.succ_ne_self _) ?_ (by simp), ?_, ?_, ?_, (fun p hp => nomatch hp), ⟨⟨_, he⟩, hit, hls.at fun o e => hk _ _ e⟩, F.keeps hk, (fun p hp => nomatch hp), ⟨rfl, h0⟩, ?_, ?_⟩
  · intro hm
    rcases List.mem_cons.mp hm with e | hm
    · exact absurd e (Nat.succ_ne_self _)
    · exact absurd (List.mem_singleton.mp hm) (Ne.symm (Nat.ne_of_lt (Nat.lt_succ_of_lt hlt2)))
  · rintro i vals ⟨t, x, hx, rfl⟩
    exact ⟨_, _, rfl, by simpa using hx, t, rfl⟩
  · intro hm
    rcases List.mem_cons.mp hm with e | hm
    · exact absurd F.ns.lt (e ▸ Nat.not_lt_of_le (Nat.le_succ _))
    rcases List.mem_cons.mp hm with e | hm
    · exact absurd F.ns.lt (e ▸ Nat.lt_irrefl _)
    · exact absurd (Nat.lt_of_lt_of_le hlt F.above) ((List.mem_singleton.mp hm) ▸ Nat.lt_irrefl _)
  · intro b hb
    rcases List.mem_cons.mp hb with rfl | hb
    · exact hnone _ (Nat.le_succ _)
    · rw [List.mem_singleton.mp hb]; exact hnone _ (Nat.le_refl _)
  · rintro i v0 v1 m₁ nw s₁ own ⟨h, tk, rfl⟩ hi ⟨hv, t, rfl⟩ ⟨rfl, hJ⟩ hmap hown F' N'
    rw [List.append_nil] at N'
    have := turn i v1 t m₁ h tk own hv hJ F' N'
    exact wpAny_mono this (fun f s' h' => LoopStep3.mono (fun m n h => h) (by
      cases f with
      | ret v => exact h'
      | brk => exact h'
      | next => obtain ⟨e, h1, tk1, m2, n2, e2, F2, N2, ha, hj⟩ := h'; exact ⟨e, h1, tk1, m2, n2, e2, F2, N2, ha, List.map_eq_nil_iff.mp ha, hj⟩
      | cont => obtain ⟨e, h1, tk1, m2, n2, e2, F2, N2, ha, hj⟩ := h'; exact ⟨e, h1, tk1, m2, n2, e2, F2, N2, ha, List.map_eq_nil_iff.mp ha, hj⟩)) fun _ _ e => e
  · rintro h1 tk1 m' nw' F1 N1 hmap ⟨rfl, hJ⟩
    exact done h1 tk1 m' F1 (by simpa using hJ)
end
end Mine
theorem Mine.fresh_B22 : True := by w_top off; k_with_none; trivial
namespace Mine
theorem fill_once22 (P : Params) : Mine.kk.heap_1 P = Mine.kk.heap_1 P ∧ PySem.Challenge.rw_sq0044_01 = PySem.Challenge.rw_sq0044_01 := by
  k_fill
  exact ⟨rfl, rfl⟩
/-- a dict with int keys -/
noncomputable def DictP (w : World) (P : Addr → Obj → Prop) (d : Addr) (f : Int → Option Value) : Prop := ∃ o es ep, P d o ∧ o.ExactDict ∧ o.data = .dict es ep ∧ KeysOf (intKind PySem.Challenge.rw_sq0044_01.row.prog w) es ∧ ∀ k, findBy (intKind PySem.Challenge.rw_sq0044_01.row.prog w).is es k = f k
theorem DictP.map {w : World} {g : Heap} {L d : Addr} {m : Str → Option Value} {s : Shared} {f : Int → Option Value} (x : DictP w (Gd g) d f) (F : Fr g L s.heap m) : s.heap.MapOf (intKind PySem.Challenge.rw_sq0044_01.row.prog w) d f := let ⟨o, es, ep, h, r⟩ := x; ⟨o, es, ep, F.keep _ _ h, r⟩
section
variable {w : World} {A : Around} {E : Value → Shared → Prop} {s : Shared} {L d : Addr} {g : Heap} {m : Str → Option Value} {f : Int → Option Value} {k : Int} {t : Tok}
theorem in_dict {Q : Value → Shared → Prop} (F : Fr g L s.heap m) (x : DictP w (Gd g) d f) (lo : (d == sysModules) = false) (h : Q (.bool (f k).isSome) { s with toks := s.toks + 1 }) : wpAny (model PySem.Challenge.rw_sq0044_01.row.prog w) A (compareOp .In (.int k t) (.ref d)) Q E s :=
  wpAny_in_of (intKind_is _ w k t) lo (x.map F) h
theorem notin_dict {Q : Value → Shared → Prop} (F : Fr g L s.heap m) (x : DictP w (Gd g) d f) (lo : (d == sysModules) = false) (h : Q (.bool (!(f k).isSome)) { s with toks := s.toks + 1 }) : wpAny (model PySem.Challenge.rw_sq0044_01.row.prog w) A (compareOp .NotIn (.int k t) (.ref d)) Q E s :=
  wpAny_notIn_of (intKind_is _ w k t) lo (x.map F) h
end
theorem isi_tuple {prog : Program} {w : World} {A : Around} {E : Value → Shared → Prop} {s : Shared} {a : Addr} {items : Array Value} {Q : Value → Shared → Prop} (ht : s.heap.IsTuple a items) (h : Q (.bool true) s) : wpAny (model prog w) A (call (.builtin "isinstance") [.ref a, .type "tuple"]) Q E s := by
  obtain ⟨o, ho, hc, _⟩ := ht
  exact PySem.IsiPair.tuple_tuple ho hc h
theorem lnB22_0 : True := by
  k_with "execs cons" => (k_here; (with_reducible refine PySem.wpAny_execs_cons ?_); (try dsimp only); k_fold)
  k_with "execs cons" => (k_here; (with_reducible refine toks_gen ?_); intro _)
  k_with "eval Call" => (k_here; (with_reducible show wpAny _ _ (eval (Expr.Call (Expr.Name _ _) _ [] _) (envOf _ _ _ _ _)) _ _ _); k_dflt (refine call_named (by k_asm) (by k_asm) (by k_asm) (by k_is) (by k_is) (by (repeat' (first | exact ArgsV.nil | refine' ArgsV.loc (by first | exact rfl | assumption) rfl (by decide) ?_ | refine' ArgsV.int ?_ | refine' ArgsV.bool ?_ | refine' ArgsV.none ?_)); done) ?_))
  k_with "my sub" => first | exact List.forall_mem_nil _ | (refine' List.forall_mem_cons.mpr ⟨?_, ?_⟩; (· k_mem); (· k_extra "my sub")) | (intro q hq; repeat (first | exact hq | refine List.Mem.tail _ ?_))
  k_with "call type:tuple" => (k_here; (with_reducible show wpAny _ _ (call (Value.type _) [Value.ref _]) _ _ _); k_dflt (refine tuple_list_M (by k_asm) (by k_asm) (by k_mem) (by (first | lia | omega)) ?_); intro _ _ _ _ lz9; (try k_lt lz9); (try k_sweep))
  k_with "call ref" => ((fail_if_success (k_extra "svB220")); (k_here; k_dflt (k_extra "my call B220")))
  trivial
theorem ownB22_0 : True := by
  k_with "own k_ne" => (refine neN ?_; (try dsimp only); first | (with_reducible assumption) | (refine Ne.symm ?_; with_reducible assumption))
  trivial
theorem ownB22_1 : True := by
  k_with "own k_room" => ((try simp only [depth_under_make, depth_under_kw, depth_in1, depth_deeper, recursionLimit]); (first | lia | omega))
  trivial
theorem lnB22_1 : True := by
  k_with "getAttr ref" => (k_here; k_dflt (refine getAttr_g (by k_asm) (by k_asm) (by assumption) (by assumption) (by assumption) (by k_is) (by k_is) (by k_is) (by k_is) (by k_handed) ?_; k_whole))
  k_with "getMethod ref" => (k_here; k_dflt (refine getMethod_g (by k_asm) (by k_asm) (by assumption) (by assumption) (by assumption) (by k_is) (by k_is) (by k_is) ?_; k_whole))
  k_with "compareOp In int ref" => (k_here; (refine in_chars (by k_asm) (by assumption) ?_))
  k_with "getMethod ref" => (k_here; (refine getMethod_chars (by k_asm) (by assumption) ?_))
  k_with "call builtin:dict.get" => (k_here; (refine get_chars (by k_asm) (by assumption) ?_ ?_); (all_goals intros))
  k_with "subscriptTail" => (k_here; (with_reducible show wpAny _ _ (subscriptTail _ _ (Value.ref _) (Value.int _ _)) _ _ _); k_dflt (refine item_tupleT (by exact TupP.at (Fr.keep (by k_asm)) (by assumption)) (by decide) (by decide) (by rfl) (by rfl) ?_; k_whole))
  trivial
theorem lnB22_2 : True := by
  k_with "subscriptTail" => (k_here; (with_reducible show wpAny _ _ (subscriptTail _ _ (Value.ref (FontL.tk _)) (Value.int _ _)) _ _ _); k_dflt (refine kern_item (by k_asm) (by assumption) (by first | (first | lia | omega) | (have ok' := RowM.OK.kern (by assumption) (by (first | lia | omega)) (by (first | lia | omega)); (first | lia | omega))) (by first | (first | lia | omega) | (have ok' := RowM.OK.kern (by assumption) (by (first | lia | omega)) (by (first | lia | omega)); (first | lia | omega))) ?_ (by with_unfolding_all rfl)); intros)
  k_with "subscriptTail" => (k_here; (with_reducible show wpAny _ _ (subscriptTail _ _ (Value.ref (FontL.tp _)) (Value.int _ _)) _ _ _); k_dflt (refine prog_item (by k_asm) (by assumption) (by (first | lia | omega)) (by (first | lia | omega)) (by (first | lia | omega)) ?_ (by with_unfolding_all rfl) (by (intro _; with_unfolding_all rfl))); intros)
  k_with "compareOp In int ref" => (k_here; (with_reducible show wpAny _ _ (compareOp _ (Value.int _ _) (Value.ref 392)) _ _ _); (refine' in_known (Frag.In.keeps (by k_asm) (Fr.keep (by k_asm))) ?_))
  k_with "eval Name" => (k_here; (fail_if_success (with_reducible show wpAny _ _ (eval (Expr.Name _ _) (envOfC _ _ _ _ _)) _ _ _)); (fail_if_success (with_reducible show wpAny _ _ (eval (Expr.Name _ _) (compEnvC _ _ _ _)) _ _ _)); k_dflt (refine ld (by k_asm) (by first | exact rfl | assumption) ?_; k_whole))
  trivial
theorem lnB22_3 : True := by
  k_with "getAttr ref" => (k_here; k_dflt (refine getAttr_g (by k_asm) (by k_asm) (by assumption) (by assumption) (by first | assumption | k_get) (by k_is) (by k_is) (by k_is) (by k_is) (by k_handed) ?_; k_whole))
  k_with "getAttr ref" => (k_here; (with_reducible show wpAny _ _ (getAttr (Value.ref _) (PySem.Str.ofString "kind") _) _ _ _); k_dflt (refine getAttr_gc (by k_asm) (by k_asm) (by assumption) (by assumption) (by k_get) (by k_is) (by k_is) (by k_is) (by k_is) (by k_handed) (by decide +kernel) ?_; k_whole))
  trivial
theorem lnB22_4 : True := by
  k_with "assign Tuple" => (k_here; (with_reducible show wpAny _ _ (assign (Expr.Tuple _ _ _) _ (Value.ref _)) _ _ _); k_dflt (refine unpackN_ (by k_asm) (by k_asm) (by exact TupP.at (Fr.keep (by k_asm)) (by assumption)) (by exact rfl) (by exact rfl) (by exact rfl) ?_); intro _ _ _; (try k_sweep))
  k_with "call builtin:len" => (k_here; (with_reducible show wpAny _ _ (call (Value.builtin "len") [Value.ref _]) _ _ _); (refine len_tuple (TupP.at (Fr.keep (by k_asm)) (by assumption)) (by simp only [List.size_toArray, List.length_cons, List.length_nil]; (first | lia | omega)) ?_))
  k_with "call builtin:isinstance" => (k_here; (with_reducible show wpAny _ _ (call (Value.builtin "isinstance") [Value.ref _, Value.type "tuple"]) _ _ _); (refine isi_tuple (TupP.at (Fr.keep (by k_asm)) (by assumption)) ?_))
  k_with "compareOp NotIn int ref" => (k_here; (refine notin_dict (by k_asm) (by assumption) (by assumption) ?_))
  k_with "compareOp In int ref" => (k_here; (refine in_dict (by k_asm) (by assumption) (by assumption) ?_))
  k_with "ite" => ((fail_if_success (k_extra "svB220")); (k_here; k_dflt (k_extra "my ite B220")))
  trivial
theorem sizes_spec {w : World} {A : Around} {s : Shared} {h₀ : Heap} {L : Addr} {m : Str → Option Value} {l : Addr} {vs : List Value} {ns : List Int} {Q E : Value → Shared → Prop}
    (C : Cx w A h₀ L s.heap m) (hd : A.depth ≤ 380) (hl : TupP (fun a o => s.heap.get? a = some o) l vs) (iv : IntsV vs ns) (ho : ∀ i ∈ ns, -1073741823 ≤ i ∧ i ≤ 1073741823)
    (ret : ∀ (h' : Heap) (tk' : Tok), Fr h₀ L h' m → Kept s.heap [] h' → Q .none { s with heap := h', toks := tk' }) :
    wpAny (model PySem.Challenge.rw_sq0044_01.row.prog w) A (call (.ref 146) [.ref l]) Q E s := by
  refine wpAny_call ?_
  have N0 : News h₀ L s.heap [] := News.nil
  refine Cx.form_ C ?_; intro dp un gd env0 outer0 eA9; subst eA9; (try dsimp only at hd); (try dsimp only at hu); k_dflt (refine' enter (binds := [(Str.ofString "sizes", .ref l)]) ?k1 ?k2 ?k6 ?k7 ?k8 ?k9 ?kB ?_ ?c2 ?c3 ?c4 ?c5; (case k1 => assumption); (case k2 => assumption); (case k6 => k_is); (case k7 => k_is); (case k8 => (first | exact le_up (d := 1) hd rfl | exact le_up (d := 2) hd rfl | (simp only [depth_under_make, depth_under_kw, recursionLimit]; (first | lia | omega)))); (case k9 => first | exact BindsTo.of_eq rfl | exact binds_K (Cx.inK (by assumption)) rfl (by k_is) rfl rfl rfl); (case c5 => decide); (case kB => exact locs rfl); (case c2 => exact rfl); (case c3 => exact rfl); (case c4 => exact rfl)); intro base outer p loose mean mg mb g L' hB1 FG F NB G B X T hh; obtain rfl : env0 :: outer0 = outer := Option.some.inj B.stack; (try dsimp only); (try k_fold)
  have kg : ∀ b o, s.heap.get? b = some o → g.get? b = some o := fun b o e => G b o e (by simp)
  have hlg : g.IsTuple l vs.toArray := TupP.at kg hl
  repeat' ((fail_if_success (with_reducible show wpAny _ _ (exec (Stmt.For _ _ _ _ _) _) _ _ _)); first | (k_unfold; (try dsimp only)) | (dsimp only; k_unfold; (try dsimp only)) | ((fail_if_success (with_reducible show Exists _)); (fail_if_success (with_reducible show LeaveK h₀ L m g _ _ _)); first | walk1 | (dsimp only; (fail_if_success (with_reducible show Exists _)); (fail_if_success (with_reducible show LeaveK h₀ L m g _ _ _)); walk1)))
  refine For_invV g (by rfl) (by rfl) ?_
  repeat' ((fail_if_success (with_reducible show wpAny _ _ (pyIter _) _ _ _)); first | (k_unfold; (try dsimp only)) | (dsimp only; k_unfold; (try dsimp only)) | ((fail_if_success (with_reducible show Exists _)); (fail_if_success (with_reducible show LeaveK h₀ L m g _ _ _)); first | walk1 | (dsimp only; (fail_if_success (with_reducible show Exists _)); (fail_if_success (with_reducible show LeaveK h₀ L m g _ _ _)); walk1)))
  (with_reducible rename Fr _ _ _ _ => F6); (with_reducible rename News _ _ _ _ => N6)
  refine iter_tuple_J hh F6 N6 hlg (fun _ _ nw => nw = []) rfl ?_ ?_
  · rintro i v m₄ nw4 h4 tk4 I oI hi rfl hne F4 N4
    obtain ⟨n, t, rfl, hn⟩ := iv.at hi
    obtain ⟨o1, o2⟩ := ho n (List.mem_of_getElem? hn)
    k_with "svB220" => skip
    k_with "call ref" => ((fail_if_success (k_extra "svB221")); (k_here; k_dflt (k_extra "my call B221")))
    k_with "ite" => ((fail_if_success (k_extra "svB221")); (k_here; k_dflt (k_extra "my ite B221")))
    k_with "my call B221" => (refine is_whole_spec (Cx.deeper (by k_asm) (by k_asm) (by k_asm) (by k_asm) (by k_asm) rfl) (by first | exact le_up (d := 1) hd rfl | (simp only [depth_deeper]; (first | lia | omega))) ?_; intro hw1 tkw Fw Kw; have Nw := news_keep0 (by k_asm) Kw; (try k_sweep); rw [decide_eq_true (by (first | lia | omega)), decide_eq_true (by (first | lia | omega))])
    repeat' (first | (k_unfold; (try dsimp only)) | (dsimp only; k_unfold; (try dsimp only)) | ((fail_if_success (with_reducible show Exists _)); (fail_if_success (with_reducible show LeaveK h₀ L m g _ _ _)); first | walk1 | (dsimp only; (fail_if_success (with_reducible show Exists _)); (fail_if_success (with_reducible show LeaveK h₀ L m g _ _ _)); walk1)))
    (with_reducible rename Fr _ _ _ _ => F8); (with_reducible rename News _ _ _ _ => N8)
    exact ⟨_, _, _, [], rfl, F8, N8, (fun _ h => nomatch h), rfl⟩
  · rintro h6 tk6 m6 nw6 F6 N6 rfl
    repeat' (first | (k_unfold; (try dsimp only)) | (dsimp only; k_unfold; (try dsimp only)) | ((fail_if_success (with_reducible show Exists _)); (fail_if_success (with_reducible show LeaveK h₀ L m g _ _ _)); first | walk1 | (dsimp only; (fail_if_success (with_reducible show Exists _)); (fail_if_success (with_reducible show LeaveK h₀ L m g _ _ _)); walk1)))
    ((try dsimp only); (try k_unfold); (try dsimp only); (with_reducible rename Fr _ _ _ _ => cF); (with_reducible rename News _ _ _ _ => cN); refine leaveK_ cF cN ?_; intro kF kN; (try dsimp only [InitBack]); (try refine ⟨rfl, ?_⟩); (try dsimp only))
    exact ret _ _ kF (fun b o e _ => cF.keep b o (kg b o e))
/-- the rows of a program, in the heap -/
noncomputable def RowsAt (P : Addr → Obj → Prop) (vs : List Value) (rows : List RowM) : Prop := vs.length = rows.length ∧ ∀ (i : Nat) (r : RowM), rows[i]? = some r → ∃ a, vs[i]? = some (.ref a) ∧ ∃ t0 t1 t2 t3, TupP P a [.int r.skip t0, .int r.follow t1, .int r.op t2, .int r.rest t3]
theorem item_tup_last {prog : Program} {w : World} {A : Around} {E : Value → Shared → Prop} {s : Shared} {value slice : Expr} {t : Addr} {vs : List Value} {u : Tok} {x : Value} {Q : Value → Shared → Prop} (ht : IsTup s.heap t vs.toArray) (hx : vs.getLast? = some x) (h : Q x s)
    (hs : subscripted slice false (.ref t) (.int (-1) u) = operate [.ref t, .int (-1) u] (getItem (.ref t) (.int (-1) u)) := by with_unfolding_all rfl) :
    wpAny (model prog w) A (subscriptTail value slice (.ref t) (.int (-1) u)) Q E s := by
  rw [List.getLast?_eq_getElem?] at hx
  have hl : vs.length - 1 < vs.length := (List.getElem?_eq_some_iff.mp hx).1
  refine item_tupleT ht (by decide) (by decide) (j := vs.length - 1) ?_ hx h hs
  unfold seqIndex?
  have : (-1 : Int) + (vs.length : Int) = ((vs.length - 1 : Nat) : Int) := by (first | lia | omega)
  simp only [show ((-1 : Int) < 0) = True by decide, if_true, this]
  rw [if_pos (by simp; (first | lia | omega))]
  simp
noncomputable def edgeStartOf (r : RowM) : Int := if r.skip = 255 then 256 * r.op + r.rest else -1
theorem left_start_spec {w : World} {A : Around} {s : Shared} {h₀ : Heap} {L : Addr} {m : Str → Option Value} {l : Addr} {vs : List Value} {rows : List RowM} {r : RowM} {Q E : Value → Shared → Prop}
    (C : Cx w A h₀ L s.heap m) (hd : A.depth ≤ 380) (hl : TupP (fun a o => s.heap.get? a = some o) l vs) (hr : RowsAt (fun a o => s.heap.get? a = some o) vs rows) (hlast : rows[rows.length - 1]? = some r) (hfew : rows.length ≤ 100)
    (ret : ∀ (t : Tok) (h' : Heap) (tk' : Tok), Fr h₀ L h' m → Kept s.heap [] h' → Q (.int (edgeStartOf r) t) { s with heap := h', toks := tk' }) :
    wpAny (model PySem.Challenge.rw_sq0044_01.row.prog w) A (call (.ref 181) [.ref l]) Q E s := by
  refine wpAny_call ?_
  have N0 : News h₀ L s.heap [] := News.nil
  refine Cx.form_ C ?_; intro dp un gd env0 outer0 eA9; subst eA9; (try dsimp only at hd); (try dsimp only at hu); k_dflt (refine' enter (binds := [(Str.ofString "program", .ref l)]) ?k1 ?k2 ?k6 ?k7 ?k8 ?k9 ?kB ?_ ?c2 ?c3 ?c4 ?c5; (case k1 => assumption); (case k2 => assumption); (case k6 => k_is); (case k7 => k_is); (case k8 => (first | exact le_up (d := 1) hd rfl | exact le_up (d := 2) hd rfl | (simp only [depth_under_make, depth_under_kw, recursionLimit]; (first | lia | omega)))); (case k9 => first | exact BindsTo.of_eq rfl | exact binds_K (Cx.inK (by assumption)) rfl (by k_is) rfl rfl rfl); (case c5 => decide); (case kB => exact locs rfl); (case c2 => exact rfl); (case c3 => exact rfl); (case c4 => exact rfl)); intro base outer p loose mean mg mb g L' hB1 FG F NB G B X T hh; obtain rfl : env0 :: outer0 = outer := Option.some.inj B.stack; (try dsimp only); (try k_fold)
  have kg : ∀ b o, s.heap.get? b = some o → g.get? b = some o := fun b o e => G b o e (by simp)
  have hlg : TupP (fun a o => g.get? a = some o) l vs := hl.mono kg
  obtain ⟨a, ha, t0, t1, t2, t3, hra⟩ := hr.2 _ r hlast
  have hra' : TupP (fun a o => g.get? a = some o) a _ := hra.mono kg
  have hne : 0 < rows.length := by
    have := (List.getElem?_eq_some_iff.mp hlast).1
    (first | lia | omega)
  have hvl := hr.1
  k_with "svB221" => skip
  k_with "call ref" => ((fail_if_success (k_extra "svB222")); (k_here; k_dflt (k_extra "my call B222")))
  k_with "ite" => ((fail_if_success (k_extra "svB222")); (k_here; k_dflt (k_extra "my ite B222")))
  k_with "my ite B222" => (refine split_dec ?_ ?_ <;> intro hz9 <;> first | (exfalso; simp only [List.size_toArray] at hz9; (first | lia | omega)) | skip)
  repeat' ((fail_if_success (with_reducible show wpAny _ _ (subscriptTail _ _ _ (Value.int (-1) _)) _ _ _)); first | (k_unfold; (try dsimp only)) | (dsimp only; k_unfold; (try dsimp only)) | ((fail_if_success (with_reducible show Exists _)); (fail_if_success (with_reducible show LeaveK h₀ L m g _ _ _)); first | walk1 | (dsimp only; (fail_if_success (with_reducible show Exists _)); (fail_if_success (with_reducible show LeaveK h₀ L m g _ _ _)); walk1)))
  (with_reducible rename Fr _ _ _ _ => F7)
  refine item_tup_last (TupP.at F7.keep hlg) (x := .ref a) (by rw [List.getLast?_eq_getElem?, hvl]; exact ha) ?_
  k_with "svB222" => skip
  k_with "call ref" => ((fail_if_success (k_extra "svB223")); (k_here; k_dflt (k_extra "my call B223")))
  k_with "ite" => ((fail_if_success (k_extra "svB223")); (k_here; k_dflt (k_extra "my ite B223")))
  repeat' (first | (k_unfold; (try dsimp only)) | (dsimp only; k_unfold; (try dsimp only)) | ((fail_if_success (with_reducible show Exists _)); (fail_if_success (with_reducible show LeaveK h₀ L m g _ _ _)); first | walk1 | (dsimp only; (fail_if_success (with_reducible show Exists _)); (fail_if_success (with_reducible show LeaveK h₀ L m g _ _ _)); walk1)))
  all_goals (
    ((try dsimp only); (try k_unfold); (try dsimp only); (with_reducible rename Fr _ _ _ _ => cF); (with_reducible rename News _ _ _ _ => cN); refine leaveK_ cF cN ?_; intro kF kN; (try dsimp only [InitBack]); (try refine ⟨rfl, ?_⟩); (try dsimp only)))
  · have e : edgeStartOf r = 256 * r.op + r.rest := if_pos (by assumption)
    rw [e] at ret
    exact ret _ _ _ kF (fun b o e _ => cF.keep b o (kg b o e))
  · have e : edgeStartOf r = -1 := if_neg (by assumption)
    rw [e] at ret
    exact ret _ _ _ kF (fun b o e _ => cF.keep b o (kg b o e))
end Mine
theorem Mine.fresh_B23 : True := by w_top off; k_with_none; trivial
namespace Mine
theorem fill_once23 (P : Params) : Mine.kk.heap_1 P = Mine.kk.heap_1 P ∧ PySem.Challenge.rw_sq0044_01 = PySem.Challenge.rw_sq0044_01 := by
  k_fill
  exact ⟨rfl, rfl⟩
theorem lnB23_0 : True := by
  k_with "execs cons" => (k_here; (with_reducible refine PySem.wpAny_execs_cons ?_); (try dsimp only); k_fold)
  k_with "execs cons" => (k_here; (with_reducible refine toks_gen ?_); intro _)
  k_with "eval Call" => (k_here; (with_reducible show wpAny _ _ (eval (Expr.Call (Expr.Name _ _) _ [] _) (envOf _ _ _ _ _)) _ _ _); k_dflt (refine call_named (by k_asm) (by k_asm) (by k_asm) (by k_is) (by k_is) (by (repeat' (first | exact ArgsV.nil | refine' ArgsV.loc (by first | exact rfl | assumption) rfl (by decide) ?_ | refine' ArgsV.int ?_ | refine' ArgsV.bool ?_ | refine' ArgsV.none ?_)); done) ?_))
  k_with "my sub" => first | exact List.forall_mem_nil _ | (refine' List.forall_mem_cons.mpr ⟨?_, ?_⟩; (· k_mem); (· k_extra "my sub")) | (intro q hq; repeat (first | exact hq | refine List.Mem.tail _ ?_))
  k_with "call type:tuple" => (k_here; (with_reducible show wpAny _ _ (call (Value.type _) [Value.ref _]) _ _ _); k_dflt (refine tuple_list_M (by k_asm) (by k_asm) (by k_mem) (by (first | lia | omega)) ?_); intro _ _ _ _ lz9; (try k_lt lz9); (try k_sweep))
  k_with "call ref" => ((fail_if_success (k_extra "svB230")); (k_here; k_dflt (k_extra "my call B230")))
  trivial
theorem ownB23_0 : True := by
  k_with "own k_ne" => (refine neN ?_; (try dsimp only); first | (with_reducible assumption) | (refine Ne.symm ?_; with_reducible assumption))
  trivial
theorem ownB23_1 : True := by
  k_with "own k_room" => ((try simp only [depth_under_make, depth_under_kw, depth_in1, depth_deeper, recursionLimit]); (first | lia | omega))
  trivial
theorem lnB23_1 : True := by
  k_with "getAttr ref" => (k_here; k_dflt (refine getAttr_g (by k_asm) (by k_asm) (by assumption) (by assumption) (by assumption) (by k_is) (by k_is) (by k_is) (by k_is) (by k_handed) ?_; k_whole))
  k_with "getMethod ref" => (k_here; k_dflt (refine getMethod_g (by k_asm) (by k_asm) (by assumption) (by assumption) (by assumption) (by k_is) (by k_is) (by k_is) ?_; k_whole))
  k_with "compareOp In int ref" => (k_here; (refine in_chars (by k_asm) (by assumption) ?_))
  k_with "getMethod ref" => (k_here; (refine getMethod_chars (by k_asm) (by assumption) ?_))
  k_with "call builtin:dict.get" => (k_here; (refine get_chars (by k_asm) (by assumption) ?_ ?_); (all_goals intros))
  k_with "subscriptTail" => (k_here; (with_reducible show wpAny _ _ (subscriptTail _ _ (Value.ref _) (Value.int _ _)) _ _ _); k_dflt (refine item_tupleT (by exact TupP.at (Fr.keep (by k_asm)) (by assumption)) (by decide) (by decide) (by rfl) (by rfl) ?_; k_whole))
  trivial
theorem lnB23_2 : True := by
  k_with "subscriptTail" => (k_here; (with_reducible show wpAny _ _ (subscriptTail _ _ (Value.ref (FontL.tk _)) (Value.int _ _)) _ _ _); k_dflt (refine kern_item (by k_asm) (by assumption) (by first | (first | lia | omega) | (have ok' := RowM.OK.kern (by assumption) (by (first | lia | omega)) (by (first | lia | omega)); (first | lia | omega))) (by first | (first | lia | omega) | (have ok' := RowM.OK.kern (by assumption) (by (first | lia | omega)) (by (first | lia | omega)); (first | lia | omega))) ?_ (by with_unfolding_all rfl)); intros)
  k_with "subscriptTail" => (k_here; (with_reducible show wpAny _ _ (subscriptTail _ _ (Value.ref (FontL.tp _)) (Value.int _ _)) _ _ _); k_dflt (refine prog_item (by k_asm) (by assumption) (by (first | lia | omega)) (by (first | lia | omega)) (by (first | lia | omega)) ?_ (by with_unfolding_all rfl) (by (intro _; with_unfolding_all rfl))); intros)
  k_with "compareOp In int ref" => (k_here; (with_reducible show wpAny _ _ (compareOp _ (Value.int _ _) (Value.ref 392)) _ _ _); (refine' in_known (Frag.In.keeps (by k_asm) (Fr.keep (by k_asm))) ?_))
  k_with "eval Name" => (k_here; (fail_if_success (with_reducible show wpAny _ _ (eval (Expr.Name _ _) (envOfC _ _ _ _ _)) _ _ _)); (fail_if_success (with_reducible show wpAny _ _ (eval (Expr.Name _ _) (compEnvC _ _ _ _)) _ _ _)); k_dflt (refine ld (by k_asm) (by first | exact rfl | assumption) ?_; k_whole))
  trivial
theorem lnB23_3 : True := by
  k_with "getAttr ref" => (k_here; k_dflt (refine getAttr_g (by k_asm) (by k_asm) (by assumption) (by assumption) (by first | assumption | k_get) (by k_is) (by k_is) (by k_is) (by k_is) (by k_handed) ?_; k_whole))
  k_with "getAttr ref" => (k_here; (with_reducible show wpAny _ _ (getAttr (Value.ref _) (PySem.Str.ofString "kind") _) _ _ _); k_dflt (refine getAttr_gc (by k_asm) (by k_asm) (by assumption) (by assumption) (by k_get) (by k_is) (by k_is) (by k_is) (by k_is) (by k_handed) (by decide +kernel) ?_; k_whole))
  trivial
theorem lnB23_4 : True := by
  k_with "assign Tuple" => (k_here; (with_reducible show wpAny _ _ (assign (Expr.Tuple _ _ _) _ (Value.ref _)) _ _ _); k_dflt (refine unpackN_ (by k_asm) (by k_asm) (by exact TupP.at (Fr.keep (by k_asm)) (by assumption)) (by exact rfl) (by exact rfl) (by exact rfl) ?_); intro _ _ _; (try k_sweep))
  k_with "call builtin:len" => (k_here; (with_reducible show wpAny _ _ (call (Value.builtin "len") [Value.ref _]) _ _ _); (refine len_tuple (TupP.at (Fr.keep (by k_asm)) (by assumption)) (by simp only [List.size_toArray, List.length_cons, List.length_nil]; (first | lia | omega)) ?_))
  k_with "call builtin:isinstance" => (k_here; (with_reducible show wpAny _ _ (call (Value.builtin "isinstance") [Value.ref _, Value.type "tuple"]) _ _ _); (refine isi_tuple (TupP.at (Fr.keep (by k_asm)) (by assumption)) ?_))
  k_with "compareOp NotIn int ref" => (k_here; (refine notin_dict (by k_asm) (by assumption) (by assumption) ?_))
  k_with "compareOp In int ref" => (k_here; (refine in_dict (by k_asm) (by assumption) (by assumption) ?_))
  k_with "ite" => ((fail_if_success (k_extra "svB230")); (k_here; k_dflt (k_extra "my ite B230")))
  trivial
theorem lnB23_5 : True := by
  k_with "compareOp NotIn int ref" => ((fail_if_success (k_extra "svB230")); (k_here; (k_extra "my notin B230")))
  trivial
theorem RowGood.out {r : RowM} {i many letters edge : Int} (h : RowGood r i many letters edge) {G : Prop} (k : 0 ≤ r.skip → r.skip ≤ 255 → 0 ≤ r.follow → r.follow ≤ 255 → 0 ≤ r.op → r.op ≤ 255 → 0 ≤ r.rest → r.rest ≤ 255 →
    (r.skip > 128 → r.op = 0 ∧ r.rest < many) → (r.skip ≤ 128 → (1 ≤ r.follow ∧ r.follow ≤ letters ∨ r.follow = 9 ∧ edge = 9)) → (r.skip ≤ 128 → r.op < 128 → 1 ≤ r.rest ∧ r.rest ≤ letters) → (r.skip ≤ 128 → 128 ≤ r.op → r.op = 128 ∧ r.rest < 2) → (r.skip < 128 → i + r.skip + 1 < many) → G) : G :=
  k h.1.1.1 h.1.1.2 h.1.2.1.1 h.1.2.1.2 h.1.2.2.1.1 h.1.2.2.1.2 h.1.2.2.2.1 h.1.2.2.2.2 h.2 h.3 h.4 h.5 h.6
theorem RowsAt.at_ {P : Addr → Obj → Prop} {vs : List Value} {rows : List RowM} {i : Nat} {r : RowM} (x : RowsAt P vs rows) (h : rows[i]? = some r) {G : Prop} (k : ∀ a t0 t1 t2 t3, vs[i]? = some (.ref a) → TupP P a [.int r.skip t0, .int r.follow t1, .int r.op t2, .int r.rest t3] → G) : G :=
  let ⟨a, e, t0, t1, t2, t3, q⟩ := x.2 i r h
  k a t0 t1 t2 t3 e q
noncomputable def ChkJ (g : Heap) (L' : Addr) (s : Shared) (own : List (Addr × Obj)) (X : (Str → Option Value) → Prop → Prop) (P : Flow → Shared → Prop) : Prop :=
  ∀ h' tk' m', Fr g L' h' m' → News g L' h' own → X m' (P .next { s with heap := h', toks := tk' })
theorem split_bne {a b : Int} {P Q : Prop} (ht : a ≠ b → P) (hf : a = b → Q) : if (a != b) = true then P else Q := by
  by_cases h : a = b
  · rw [if_neg (by simp [h])]; exact hf h
  · rw [if_pos (by simp [h])]; exact ht h
theorem program_spec {w : World} {A : Around} {s : Shared} {h₀ : Heap} {L : Addr} {m : Str → Option Value} {tp ka dc : Addr} {vs : List Value} {rows : List RowM} {f : Int → Option Value} {k0 k1 tb : Tok} {letters bd : Int} {Q E : Value → Shared → Prop}
    (C : Cx w A h₀ L s.heap m) (hd : A.depth ≤ 380) (hl : TupP (fun a o => s.heap.get? a = some o) tp vs) (hr : RowsAt (fun a o => s.heap.get? a = some o) vs rows) (hk : TupP (fun a o => s.heap.get? a = some o) ka [.int 7001 k0, .int (-3000) k1]) (hdc : DictP w (Gd s.heap) dc f) (lo : (dc == sysModules) = false)
    (hgood : ∀ (i : Nat) r, rows[i]? = some r → RowGood r i rows.length letters bd) (hsome : ∀ c, 1 ≤ c → c ≤ letters → (f c).isSome = true) (hfew : rows.length ≤ 10)
    (ret : ∀ (h' : Heap) (tk' : Tok), Fr h₀ L h' m → Kept s.heap [] h' → Q .none { s with heap := h', toks := tk' }) :
    wpAny (model PySem.Challenge.rw_sq0044_01.row.prog w) A (call (.ref 174) [.ref tp, .ref ka, .ref dc, .int bd tb]) Q E s := by
  refine wpAny_call ?_
  have N0 : News h₀ L s.heap [] := News.nil
  refine Cx.form_ C ?_; intro dp un gd env0 outer0 eA9; subst eA9; (try dsimp only at hd); (try dsimp only at hu); k_dflt (refine' enter (binds := [(Str.ofString "program", .ref tp), (Str.ofString "kerns", .ref ka), (Str.ofString "chars", .ref dc), (Str.ofString "boundary", .int bd tb)]) ?k1 ?k2 ?k6 ?k7 ?k8 ?k9 ?kB ?_ ?c2 ?c3 ?c4 ?c5; (case k1 => assumption); (case k2 => assumption); (case k6 => k_is); (case k7 => k_is); (case k8 => (first | exact le_up (d := 1) hd rfl | exact le_up (d := 2) hd rfl | (simp only [depth_under_make, depth_under_kw, recursionLimit]; (first | lia | omega)))); (case k9 => first | exact BindsTo.of_eq rfl | exact binds_K (Cx.inK (by assumption)) rfl (by k_is) rfl rfl rfl); (case c5 => decide); (case kB => exact locs rfl); (case c2 => exact rfl); (case c3 => exact rfl); (case c4 => exact rfl)); intro base outer p loose mean mg mb g L' hB1 FG F NB G B X T hh; obtain rfl : env0 :: outer0 = outer := Option.some.inj B.stack; (try dsimp only); (try k_fold)
  have kg : ∀ b o, s.heap.get? b = some o → g.get? b = some o := fun b o e => G b o e (by simp)
  have hlg : TupP (fun a o => g.get? a = some o) tp vs := hl.mono kg
  have hkg : TupP (fun a o => g.get? a = some o) ka [.int 7001 k0, .int (-3000) k1] := hk.mono kg
  have hdg : DictP w (Gd g) dc f := let ⟨o, es, ep, e, r⟩ := hdc; ⟨o, es, ep, kg _ _ e, r⟩
  have hvl := hr.1
  repeat' ((fail_if_success (with_reducible show wpAny _ _ (exec (Stmt.For _ _ _ _ _) _) _ _ _)); first | (k_unfold; (try dsimp only)) | (dsimp only; k_unfold; (try dsimp only)) | ((fail_if_success (with_reducible show Exists _)); (fail_if_success (with_reducible show LeaveK h₀ L m g _ _ _)); first | walk1 | (dsimp only; (fail_if_success (with_reducible show Exists _)); (fail_if_success (with_reducible show LeaveK h₀ L m g _ _ _)); walk1)))
  refine For_pair3 g hh (by rfl) (by rfl) (by rfl) ?_ (by intro _; rfl)
  repeat' ((fail_if_success (with_reducible show wpAny _ _ (call (Value.type "enumerate") _) _ _ _)); first | (k_unfold; (try dsimp only)) | (dsimp only; k_unfold; (try dsimp only)) | ((fail_if_success (with_reducible show Exists _)); (fail_if_success (with_reducible show LeaveK h₀ L m g _ _ _)); first | walk1 | (dsimp only; (fail_if_success (with_reducible show Exists _)); (fail_if_success (with_reducible show LeaveK h₀ L m g _ _ _)); walk1)))
  (with_reducible rename Fr _ _ _ _ => F6)
  refine iter_enum_J hh F6 (TupP.at (fun _ _ e => e) hlg) (fun _ m' => m' (Str.ofString "kerns") = some (.ref ka) ∧ m' (Str.ofString "chars") = some (.ref dc) ∧ m' (Str.ofString "boundary") = some (.int bd tb) ∧ ∃ t, m' (Str.ofString "many") = some (.int (rows.length : Int) t)) ⟨by rfl, by rfl, by rfl, _, by rw [← hvl, ← List.size_toArray]; rfl⟩ ?_ ?_
  · rintro i v t m₁ h4 tk4 own hv ⟨e1, e2, e3, tm, e4⟩ F4 N4
    have hi : i < rows.length := by rw [← hvl]; exact (List.getElem?_eq_some_iff.mp hv).1
    refine hr.at_ (List.getElem?_eq_getElem hi) fun a t0 t1 t2 t3 ha hra => ?_
    have hg := hgood i rows[i] (List.getElem?_eq_getElem hi)
    generalize rows[i] = r at *
    rw [ha] at hv
    obtain rfl := Option.some.inj hv
    have hrg : TupP (fun a o => g.get? a = some o) a [.int r.skip t0, .int r.follow t1, .int r.op t2, .int r.rest t3] := hra.mono kg
    refine hg.out fun s0 s1 f0 f1 p0 p1 r0 r1 g1 g2 g3 g4 g5 => ?_
    clear hg
    k_with "svB230" => skip
    k_with "call ref" => ((fail_if_success (k_extra "svB231")); (k_here; k_dflt (k_extra "my call B231")))
    k_with "ite" => ((fail_if_success (k_extra "svB231")); (k_here; k_dflt (k_extra "my ite B231")))
    k_with "compareOp NotIn int ref" => ((fail_if_success (k_extra "svB231")); (k_here; (k_extra "my notin B231")))
    k_with "my ite B231" => ((first | refine split_dec ?_ ?_ | refine split_bne ?_ ?_) <;> intro hz9 <;> first | exact absurd rfl hz9 | (exfalso; (first | lia | omega)) | skip)
    repeat' ((fail_if_success (with_reducible show wpAny _ _ (exec (Stmt.For _ _ _ _ _) _) _ _ _)); first | (k_unfold; (try dsimp only)) | (dsimp only; k_unfold; (try dsimp only)) | ((fail_if_success (with_reducible show Exists _)); (fail_if_success (with_reducible show LeaveK h₀ L m g _ _ _)); first | walk1 | (dsimp only; (fail_if_success (with_reducible show Exists _)); (fail_if_success (with_reducible show LeaveK h₀ L m g _ _ _)); walk1)))
    refine For_invV g (by rfl) (by rfl) ?_
    repeat' ((fail_if_success (with_reducible show wpAny _ _ (pyIter _) _ _ _)); first | (k_unfold; (try dsimp only)) | (dsimp only; k_unfold; (try dsimp only)) | ((fail_if_success (with_reducible show Exists _)); (fail_if_success (with_reducible show LeaveK h₀ L m g _ _ _)); first | walk1 | (dsimp only; (fail_if_success (with_reducible show Exists _)); (fail_if_success (with_reducible show LeaveK h₀ L m g _ _ _)); walk1)))
    (with_reducible rename Fr _ _ _ _ => F7); (with_reducible rename News _ _ _ _ => N7)
    refine iter_tuple_J hh F7 N7 (TupP.at (fun _ _ e => e) hrg) (fun _ m' nw => nw = own ∧ m' (Str.ofString "kerns") = some (.ref ka) ∧ m' (Str.ofString "chars") = some (.ref dc) ∧ m' (Str.ofString "boundary") = some (.int bd tb) ∧ m' (Str.ofString "many") = some (.int (rows.length : Int) tm) ∧ m' (Str.ofString "row") = some (.ref a) ∧ m' (Str.ofString "place") = some (.int (i : Int) t)) ⟨rfl, e1, e2, e3, e4, rfl, rfl⟩ ?_ ?_
    · rintro j v m₅ nw5 h5 tk5 I oI hj ⟨rfl, e1, e2, e3, e4, e5, e6⟩ hne F5 N5
      have ⟨n, u, hve, o1, o2⟩ : ∃ n u, v = .int n u ∧ 0 ≤ n ∧ n ≤ 255 := by
        rcases j with _ | _ | _ | _ | j <;> simp at hj <;> exact ⟨_, _, hj.symm, by assumption, by assumption⟩
      subst hve
      k_with "svB231" => skip
      k_with "call ref" => ((fail_if_success (k_extra "svB232")); (k_here; k_dflt (k_extra "my call B232")))
      k_with "ite" => ((fail_if_success (k_extra "svB232")); (k_here; k_dflt (k_extra "my ite B232")))
      k_with "compareOp NotIn int ref" => ((fail_if_success (k_extra "svB232")); (k_here; (k_extra "my notin B232")))
      k_with "my ite B232" => (refine split_dec ?_ ?_ <;> intro hz9 <;> first | (exfalso; (first | lia | omega)) | skip)
      k_with "my call B232" => (refine is_whole_spec (Cx.deeper (by k_asm) (by k_asm) (by k_asm) (by k_asm) (by k_asm) rfl) (by first | exact le_up (d := 1) hd rfl | (simp only [depth_deeper]; (first | lia | omega))) ?_; intro hw1 tkw Fw Kw; have Nw := news_keep0 (by k_asm) Kw; (try k_sweep); rw [decide_eq_true (by (first | lia | omega)), decide_eq_true (by (first | lia | omega))])
      repeat' (first | (k_unfold; (try dsimp only)) | (dsimp only; k_unfold; (try dsimp only)) | ((fail_if_success (with_reducible show Exists _)); (fail_if_success (with_reducible show LeaveK h₀ L m g _ _ _)); first | walk1 | (dsimp only; (fail_if_success (with_reducible show Exists _)); (fail_if_success (with_reducible show LeaveK h₀ L m g _ _ _)); walk1)))
      (with_reducible rename Fr _ _ _ _ => F8); (with_reducible rename News _ _ _ _ => N8)
      exact ⟨_, _, _, nw5, rfl, F8, N8, hne, rfl, e1, e2, e3, e4, e5, e6⟩
    · rintro h6 tk6 m6 nw6 F6 N6 ⟨rfl, e1, e2, e3, e4, e5, e6⟩
      k_with "svB232" => skip
      k_with "call ref" => ((fail_if_success (k_extra "svB233")); (k_here; k_dflt (k_extra "my call B233")))
      k_with "ite" => ((fail_if_success (k_extra "svB233")); (k_here; k_dflt (k_extra "my ite B233")))
      k_with "compareOp NotIn int ref" => ((fail_if_success (k_extra "svB233")); (k_here; (k_extra "my notin B233")))
      k_with "my ite B233" => ((first | refine split_dec ?_ ?_ | refine split_bne ?_ ?_) <;> intro hz9 <;> first | exact absurd rfl hz9 | (exfalso; (first | lia | omega)) | skip)
      k_with "my notin B233" => (refine notin_dict (by k_asm) hdg lo ?_; rw [hsome _ (by (first | lia | omega)) (by (first | lia | omega))])
      have hks : ((#[Value.int 7001 k0, Value.int (-3000) k1] : Array Value).size : Int) = 2 := rfl
      by_cases hsk : r.skip > 128
      · repeat' (first | (k_unfold; (try dsimp only)) | (dsimp only; k_unfold; (try dsimp only)) | ((fail_if_success (with_reducible show Exists _)); (fail_if_success (with_reducible show LeaveK h₀ L m g _ _ _)); first | walk1 | (dsimp only; (fail_if_success (with_reducible show Exists _)); (fail_if_success (with_reducible show LeaveK h₀ L m g _ _ _)); walk1)))
        (with_reducible rename Fr _ _ _ _ => F8); (with_reducible rename News _ _ _ _ => N8)
        exact ⟨rfl, _, _, _, [], rfl, F8, by rw [List.append_nil]; exact N8, rfl, e1, e2, e3, tm, e4⟩
      have g2' := g2 (by (first | lia | omega))
      have g3' := g3 (by (first | lia | omega))
      have g4' := g4 (by (first | lia | omega))
      repeat' ((fail_if_success (with_reducible show wpAny _ _ (exec (Stmt.If (Expr.BoolOp _ _ _) _ _ _) _) _ _ _)); first | (k_unfold; (try dsimp only)) | (dsimp only; k_unfold; (try dsimp only)) | ((fail_if_success (with_reducible show Exists _)); (fail_if_success (with_reducible show LeaveK h₀ L m g _ _ _)); first | walk1 | (dsimp only; (fail_if_success (with_reducible show Exists _)); (fail_if_success (with_reducible show LeaveK h₀ L m g _ _ _)); walk1)))
      refine cutC (ChkJ g L' s nw6 (fun m' G => m' (Str.ofString "kerns") = some (.ref ka) → m' (Str.ofString "chars") = some (.ref dc) → m' (Str.ofString "boundary") = some (.int bd tb) → m' (Str.ofString "many") = some (.int (rows.length : Int) tm) → m' (Str.ofString "place") = some (.int (i : Int) t) → m' (Str.ofString "skip") = some (.int r.skip t0) → m' (Str.ofString "op") = some (.int r.op t2) → m' (Str.ofString "rest") = some (.int r.rest t3) → G)) ?_ ?_
      · repeat' (first | (k_unfold; (try dsimp only)) | (dsimp only; k_unfold; (try dsimp only)) | ((fail_if_success (with_reducible show Exists _)); (fail_if_success (with_reducible show LeaveK h₀ L m g _ _ _)); first | walk1 | (dsimp only; (fail_if_success (with_reducible show Exists _)); (fail_if_success (with_reducible show LeaveK h₀ L m g _ _ _)); walk1)))
        all_goals (
          (with_reducible rename Fr _ _ _ _ => F8); (with_reducible rename News _ _ _ _ => N8)
          (with_reducible rename ChkJ .. => kJ); exact kJ _ _ _ F8 N8 e1 e2 e3 e4 e6 rfl rfl rfl)
      intro h7 tk7 m7 F7 N7 e1 e2 e3 e4 e6 e7 e8 e9
      (try dsimp only)
      repeat' ((fail_if_success (with_reducible show wpAny _ _ (exec (Stmt.If (Expr.BoolOp _ _ _) _ _ _) _) _ _ _)); first | (k_unfold; (try dsimp only)) | (dsimp only; k_unfold; (try dsimp only)) | ((fail_if_success (with_reducible show Exists _)); (fail_if_success (with_reducible show LeaveK h₀ L m g _ _ _)); first | walk1 | (dsimp only; (fail_if_success (with_reducible show Exists _)); (fail_if_success (with_reducible show LeaveK h₀ L m g _ _ _)); walk1)))
      refine cutC (ChkJ g L' s nw6 (fun m' G => m' (Str.ofString "kerns") = some (.ref ka) → m' (Str.ofString "chars") = some (.ref dc) → m' (Str.ofString "boundary") = some (.int bd tb) → m' (Str.ofString "many") = some (.int (rows.length : Int) tm) → m' (Str.ofString "place") = some (.int (i : Int) t) → m' (Str.ofString "skip") = some (.int r.skip t0) → m' (Str.ofString "op") = some (.int r.op t2) → m' (Str.ofString "rest") = some (.int r.rest t3) → G)) ?_ ?_
      · repeat' (first | (k_unfold; (try dsimp only)) | (dsimp only; k_unfold; (try dsimp only)) | ((fail_if_success (with_reducible show Exists _)); (fail_if_success (with_reducible show LeaveK h₀ L m g _ _ _)); first | walk1 | (dsimp only; (fail_if_success (with_reducible show Exists _)); (fail_if_success (with_reducible show LeaveK h₀ L m g _ _ _)); walk1)))
        all_goals (
          (with_reducible rename Fr _ _ _ _ => F8); (with_reducible rename News _ _ _ _ => N8)
          (with_reducible rename ChkJ .. => kJ); exact kJ _ _ _ F8 N8 e1 e2 e3 e4 e6 e7 e8 e9)
      intro h8 tk8 m8 F8' N8' e1 e2 e3 e4 e6 e7 e8 e9
      (try dsimp only)
      repeat' (first | (k_unfold; (try dsimp only)) | (dsimp only; k_unfold; (try dsimp only)) | ((fail_if_success (with_reducible show Exists _)); (fail_if_success (with_reducible show LeaveK h₀ L m g _ _ _)); first | walk1 | (dsimp only; (fail_if_success (with_reducible show Exists _)); (fail_if_success (with_reducible show LeaveK h₀ L m g _ _ _)); walk1)))
      all_goals (
        (with_reducible rename Fr _ _ _ _ => F8); (with_reducible rename News _ _ _ _ => N8)
        exact ⟨rfl, _, _, _, [], rfl, F8, by rw [List.append_nil]; exact N8, rfl, e1, e2, e3, tm, e4⟩)
  · rintro h6 tk6 m6 F6 -
    have N6 : News g L' h6 [] := News.nil
    repeat' (first | (k_unfold; (try dsimp only)) | (dsimp only; k_unfold; (try dsimp only)) | ((fail_if_success (with_reducible show Exists _)); (fail_if_success (with_reducible show LeaveK h₀ L m g _ _ _)); first | walk1 | (dsimp only; (fail_if_success (with_reducible show Exists _)); (fail_if_success (with_reducible show LeaveK h₀ L m g _ _ _)); walk1)))
    ((try dsimp only); (try k_unfold); (try dsimp only); (with_reducible rename Fr _ _ _ _ => cF); (with_reducible rename News _ _ _ _ => cN); refine leaveK_ cF cN ?_; intro kF kN; (try dsimp only [InitBack]); (try refine ⟨rfl, ?_⟩); (try dsimp only))
    exact ret _ _ kF (fun b o e _ => cF.keep b o (kg b o e))
end Mine
theorem Mine.fresh_X6 : True := by w_top off; k_with_none; trivial
namespace Mine
section
variable {w : World} {A : Around} {E : Value → Shared → Prop} {s : Shared} {h₀ : Heap} {env : Env} {xk xv x : Str} {body : List Stmt} {Q : Flow → Shared → Prop} {m : Str → Option Value} {kvs : List (Int × Value)} {d : Addr} {g : Heap} {L : Addr}
/-- d.items() of a dict that stays -/
theorem call_items {Q : Value → Shared → Prop} (F : Fr g L s.heap m) (hd : g.DictOf (intKind PySem.Challenge.rw_sq0044_01.row.prog w) d kvs) (lo : (d == sysModules) = false)
    (h : ∀ vw h', (∃ ov, h'.get? vw = some ov ∧ ov.cls = .type "dict_items" ∧ ov.data = .fields #[.ref d]) → Fr g L h' m → Q (.ref vw) { s with heap := h' }) :
    wpAny (model PySem.Challenge.rw_sq0044_01.row.prog w) A (call (.builtin "dict.items") [.ref d]) Q E s := by
  have hds : s.heap.DictOf (intKind PySem.Challenge.rw_sq0044_01.row.prog w) d kvs := hd.keep F.keep
  exact call_meetsIn PySem.F.slot_dict_items hds.typeIs PySem.F.entry_dict_items (PySem.F.args_dict_items_1 _) (meets_dict_items (intKind PySem.Challenge.rw_sq0044_01.row.prog w) d lo)
    ⟨⟨kvs, hds⟩, h _ _ ⟨_, Heap.get?_push_size _ rfl, rfl, rfl⟩ (F.push _)⟩
theorem getMethod_items {pl : Sem Bool} {Q : Value × List Value → Shared → Prop} (F : Fr g L s.heap m) (hd : g.DictOf (intKind PySem.Challenge.rw_sq0044_01.row.prog w) d kvs) (h : Q (.builtin "dict.items", [.ref d]) s) : wpAny (model PySem.Challenge.rw_sq0044_01.row.prog w) A (getMethod (.ref d) (Str.ofString "items") pl) Q E s :=
  have hds : s.heap.DictOf (intKind PySem.Challenge.rw_sq0044_01.row.prog w) d kvs := hd.keep F.keep
  getMethod_builtin hds.typeIs PySem.F.plainAttrs_dict PySem.F.slot_dict_items PySem.F.type_dict_items hds.mapOf.noDict h
theorem int_shape {k : Int} {v : Value} (h : (intKind PySem.Challenge.rw_sq0044_01.row.prog w).is k v = true) : ∃ t, v = .int k t := by
  cases v <;> simp [intKind, Value.isInt] at h
  subst h
  exact ⟨_, rfl⟩
/-- for k, v in the items of a dict that stays -/
theorem iter_items_J {vw : Addr} (hh : A.handled = none) (hxk : env.kindOf xk = some .local) (hxv : env.kindOf xv = some .local)
    (hp : (env.scope.kind == .class || (env.scope.kind == .module && env.locals != env.globals)) = false)
    (hvw : ∃ ov, s.heap.get? vw = some ov ∧ ov.cls = .type "dict_items" ∧ ov.data = .fields #[.ref d]) (F : Fr h₀ env.locals s.heap m) (hd : h₀.DictOf (intKind PySem.Challenge.rw_sq0044_01.row.prog w) d kvs)
    (J : Nat → (Str → Option Value) → Prop) (h0 : J 0 m)
    (turn : ∀ i k t v m₁ s₁ own, kvs[i]? = some (k, v) → J i m₁ → Fr h₀ env.locals s₁.heap (fun y => if y = xv then some v else if y = xk then some (.int k t) else m₁ y) → News h₀ env.locals s₁.heap own →
      wpAny (model PySem.Challenge.rw_sq0044_01.row.prog w) A (execs body env) (LoopStep h₀ env.locals own (J (i + 1)) s₁) E s₁)
    (done : ∀ h' tk m', Fr h₀ env.locals h' m' → J kvs.length m' → Q .next { s with heap := h', toks := tk })
    (hE : PassesOwn (model PySem.Challenge.rw_sq0044_01.row.prog w) A env E := by passes_own) :
    wpAny (model PySem.Challenge.rw_sq0044_01.row.prog w) A (pyIter (.ref vw)) (fun it s₂ => PairLoopAt PySem.Challenge.rw_sq0044_01.row.prog w A h₀ env xk xv body Q E it s₂) E s := by
  have hdo : s.heap.DictOf (intKind PySem.Challenge.rw_sq0044_01.row.prog w) d kvs := hd.keep F.keep
  obtain ⟨ep, hat⟩ := hdo.dictAt
  refine wpAny_pyIter_items (knd := intKind PySem.Challenge.rw_sq0044_01.row.prog w) (d := d) (kvs := kvs) (ep := ep) hvw hat ?_
  intro pk pv pt x1
  have hne : d ≠ s.heap.objs.size := Nat.ne_of_lt hat.lt_size
  refine codeAny_forLoop_items_fr (knd := intKind PySem.Challenge.rw_sq0044_01.row.prog w) (h₀ := h₀) (news := []) hh hxk hxv hp (Nat.ne_of_gt F.ns.lt) (fun e => ?_) hne (next_is_new F)
    (fun p hp => nomatch hp) (Heap.get?_push_size _ rfl) (hat.push _) (F.push _) (fun p hp => nomatch hp) J h0 ?_ ?_
  · obtain ⟨o, _, _, ho, _⟩ := hd
    rw [e, kts_self F] at ho; cases ho
  · intro i k v key m₁ s₁ own hx hkey hJ hat₁ F₁ N₁
    obtain ⟨t, rfl⟩ := int_shape hkey
    rw [List.append_nil] at N₁ ⊢
    exact wpAny_passesOwn hE (turn i k t v m₁ s₁ own hx hJ F₁ N₁)
  · intro h' tk m' F' N' hJ
    exact done h' tk m' F' hJ
/-- for k in a dict that stays -/
theorem iter_keys_J {news : List (Addr × Obj)} (hh : A.handled = none) (F : Fr h₀ env.locals s.heap m) (N : News h₀ env.locals s.heap news) (hd : h₀.DictOf (intKind PySem.Challenge.rw_sq0044_01.row.prog w) d kvs) (lo : (d == sysModules) = false)
    (J : Nat → (Str → Option Value) → List (Addr × Obj) → Prop) (h0 : J 0 m news)
    (turn : ∀ i k t v m₁ nw h tk I oI, kvs[i]? = some (k, v) → J i m₁ nw → (∀ p ∈ nw, p.1 ≠ I) → Fr h₀ env.locals h (fun y => if y = x then some (.int k t) else m₁ y) → News h₀ env.locals h ((I, oI) :: nw) →
      wpAny (model PySem.Challenge.rw_sq0044_01.row.prog w) A (execs body env) (TurnEnd h₀ env.locals I oI (J (i + 1)) { s with heap := h, toks := tk } Q) E { s with heap := h, toks := tk })
    (done : ∀ h' tk m' nw, Fr h₀ env.locals h' m' → News h₀ env.locals h' nw → J kvs.length m' nw → Q .next { s with heap := h', toks := tk }) :
    wpAny (model PySem.Challenge.rw_sq0044_01.row.prog w) A (pyIter (.ref d)) (fun it s₂ => LoopAtV PySem.Challenge.rw_sq0044_01.row.prog w A h₀ env x body Q E it s₂) E s := by
  have hdo : s.heap.DictOf (intKind PySem.Challenge.rw_sq0044_01.row.prog w) d kvs := hd.keep F.keep
  obtain ⟨ep, hat⟩ := hdo.dictAt
  obtain ⟨ol, _, _, hol, _⟩ := id hd
  have hlt : d < h₀.objs.size := Heap.lt_size hol
  have hne : d ≠ s.heap.objs.size := Nat.ne_of_lt hat.lt_size
  refine wpAny_pyIter_dict (knd := intKind PySem.Challenge.rw_sq0044_01.row.prog w) lo hat ?_
  have up : ∀ o b o', s.heap.get? b = some o' → (s.heap.push o).get? b = some o' := fun o b o' e => Heap.get?_push_of_some _ e
  refine loop_in (Walks.dictKeys (knd := intKind PySem.Challenge.rw_sq0044_01.row.prog w) hh s.heap.objs.size d hne kvs ep) (fun b hb => ?_) (fun i h st => by obtain ⟨o, e, _⟩ := st.1; exact ⟨o, e⟩) (next_is_new F) (fun hm => ?_) ⟨⟨_, Heap.get?_push_size _ rfl, rfl, rfl⟩, hat.push _⟩ (F.keeps (up _)) (N.grown (up _)) (fun p hp => Nat.ne_of_lt (Heap.lt_size (N p hp).1)) J h0 ?_ done
  · rcases List.mem_cons.mp hb with e | hb
    · exact .inl e
    · exact .inr ⟨ol, by rw [List.mem_singleton.mp hb]; exact hol⟩
  · rcases List.mem_cons.mp hm with e | hm
    · exact absurd F.ns.lt (e ▸ Nat.lt_irrefl _)
    · exact absurd (Nat.lt_of_lt_of_le hlt F.above) ((List.mem_singleton.mp hm) ▸ Nat.lt_irrefl _)
  · rintro i v m₁ nw h tk oI hi ⟨k, y, hk, hkey⟩ hJ hne F' N'
    obtain ⟨t, rfl⟩ := int_shape hkey
    exact turn i k t y m₁ nw h tk _ oI hk hJ hne F' N'
theorem item_dict {value slice : PySem.Expr} {Q : Value → Shared → Prop} {k : Int} {t : Tok} {v : Value} (F : Fr g L s.heap m) (hd : g.DictOf (intKind PySem.Challenge.rw_sq0044_01.row.prog w) d kvs) (hl : valueAt kvs k = some v) (h : Q v { s with toks := s.toks + 1 })
    (hs : subscripted slice false (.ref d) (.int k t) = operate [.ref d, .int k t] (getItem (.ref d) (.int k t)) := by with_unfolding_all rfl) (hg : ∀ r, letTemporaryGo value (.ref d) r = pure () := by intro _; with_unfolding_all rfl) :
    wpAny (model PySem.Challenge.rw_sq0044_01.row.prog w) A (subscriptTail value slice (.ref d) (.int k t)) Q E s :=
  have hD : s.heap.DictOf (intKind PySem.Challenge.rw_sq0044_01.row.prog w) d kvs := hd.keep F.keep
  subscriptTail_builtin hD.typeIs slot_dict_getitem.lookup (wpAny_getItem_of (intKind_is _ w k t) hD.mapOf hl h) hs hg
theorem dictP_of {g : Heap} (hd : g.DictOf (intKind PySem.Challenge.rw_sq0044_01.row.prog w) d kvs) : DictP w (Gd g) d (valueAt kvs) := hd.mapOf
end
section
variable {prog : Program} {w : World} {A : Around} {E : Value → Shared → Prop} {s : Shared} {h₀ : Heap} {L : Addr} {m : Str → Option Value} {news : List (Addr × Obj)}
theorem sliceApplied_46 {sl : Addr} {u : Tok} {Q : Int × Int × Nat → Shared → Prop} (hs : s.heap.IsSliceOf sl .none (.int 4 u) .none) (h : Q (0, 1, 4) s) :
    wpAny (model prog w) A (Builtin.Slice.sliceApplied (.ref sl) (pure (6 : Int))) Q E s := by
  obtain ⟨os, hos, hcs, hds⟩ := id hs
  unfold Builtin.Slice.sliceApplied Builtin.Slice.sliceFields
  refine wpAny_bind (wpAny_bind (wpAny_field hos hds (x := .none) rfl (wpAny_bind (wpAny_field hos hds (x := .int 4 u) rfl (wpAny_bind (wpAny_field hos hds (x := .none) rfl (wpAny_pure ?_)))))))
  refine wpAny_bind (slicePart_none ?_)
  show wpAny _ _ (if ((1 : Int) == 0) = true then _ else _) _ _ s
  rw [if_neg (by decide)]
  refine wpAny_bind (slicePart_none (wpAny_bind (slicePart_int (wpAny_bind (wpAny_pure ?_)))))
  show wpAny _ _ (match Builtin.Slice.sliceAdjust none (some 4) 1 6 with | (lo, hi) => pure (lo, (1 : Int), Builtin.Slice.slicePlaces lo hi 1)) _ _ s
  rw [show Builtin.Slice.sliceAdjust none (some 4) 1 6 = (0, 4) by decide]
  show wpAny _ _ (pure ((0 : Int), (1 : Int), Builtin.Slice.slicePlaces 0 4 1)) _ _ s
  rw [show Builtin.Slice.slicePlaces 0 4 1 = 4 by decide]
  exact wpAny_pure h
theorem getItem_46 {t sl : Addr} {a b c d e f : Value} {u : Tok} {Q : Value → Shared → Prop} (ht : IsTup s.heap t #[a, b, c, d, e, f]) (hs : s.heap.IsSliceOf sl .none (.int 4 u) .none)
    (h : Q (.ref s.heap.objs.size) { s with heap := s.heap.push { cls := .type "tuple", data := .seq #[a, b, c, d] } }) : wpAny (model prog w) A (getItem (.ref t) (.ref sl)) Q E s := by
  obtain ⟨os, hos, hcs, hds⟩ := id hs
  have hTs : s.TypeIs (.ref sl) "slice" := ⟨os, hos, hcs⟩
  have hdrop : sizeOk (.seq #[a, b, c, d]) := by show (4 : Nat) ≤ sizeLine; rw [sizeLine_eq]; decide
  unfold getItem
  try with_reducible refine wpAny_holding ?_
  first | refine wpAny_bind (wpAny_pure ?_) | skip
  refine wpAny_bind (wpAny_sequenceKey ht.typeIs (by decide) ?_)
  refine wpAny_bind (wpAny_callSpecial?_slot (name := Str.ofString "__getitem__") ht.typeIs slot_tuple_getitem
    (wpAny_call_entry slot_tuple_getitem ht.typeIs entry_tuple_getitem ?_ (args_tuple_getitem _ _)))
  show wpAny _ _ (Builtin.Tuple.tupleItemsOf (.ref t) >>= _) _ _ s
  refine wpAny_bind (tupleItemsOf_ ht ?_)
  refine wpAny_bind (wpAny_typeOf hTs ?_)
  rw [if_pos (by decide)]
  refine wpAny_bind (sliceApplied_46 hs ?_)
  show wpAny _ _ (if ((0 : Int) == 0 && (1 : Int) == 1 && (4 : Nat) == 6) = true then _ else _) _ _ s
  rw [if_neg (by decide)]
  rw [show ((List.range 4).filterMap fun (k : Nat) => (#[a, b, c, d, e, f] : Array Value)[((0 : Int) + (k : Int) * 1).toNat]?).toArray = #[a, b, c, d] from rfl]
  first
    | exact wpAny_bind (m := Builtin.Tuple.tupleExact _) (wpAny_newObj_type (wpAny_pure ⟨_, rfl, wpAny_pure h⟩) hdrop)
    | exact wpAny_bind (m := Builtin.Tuple.tupleExact _) (wpAny_newObj_type (wpAny_bind (wpAny_pure (wpAny_pure ⟨_, rfl, wpAny_pure h⟩))) hdrop)
    | exact wpAny_bind (wpAny_bind (m := Builtin.Tuple.tupleExact _) (wpAny_newObj_type (wpAny_pure (wpAny_pure ⟨_, rfl, wpAny_pure h⟩)) hdrop))
    | exact wpAny_bind (wpAny_bind (m := Builtin.Tuple.tupleExact _) (wpAny_newObj_type (wpAny_pure ⟨_, rfl, wpAny_pure h⟩) hdrop))
theorem slice_46 {value slice : PySem.Expr} {t : Addr} {a b c d e f : Value} {u : Tok} {Q : Value → Shared → Prop}
    (F : Fr h₀ L s.heap m) (N : News h₀ L s.heap news) (ht : IsTup s.heap t #[a, b, c, d, e, f])
    (h : ∀ q h', Fr h₀ L h' m → News h₀ L h' ((q, tupO [a, b, c, d]) :: news) → Q (.ref q) { s with heap := h' })
    (hs : subscripted slice false (.ref t) (.ref s.heap.objs.size) = operate [.ref s.heap.objs.size, .ref t] (getItem (.ref t) (.ref s.heap.objs.size)) := by with_unfolding_all rfl)
    (hg : ∀ r, letTemporaryGo value (.ref t) r = pure () := by intro _; with_unfolding_all rfl) :
    wpAny (model prog w) A (subscriptTail value slice (.ref t) (.ref s.heap.objs.size)) Q E { s with heap := s.heap.push { cls := .type "slice", data := .fields #[.none, .int 4 u, .none] } } := by
  have ht' : IsTup (s.heap.push { cls := .type "slice", data := .fields #[.none, .int 4 u, .none] }) t #[a, b, c, d, e, f] := ht.keeps fun _ _ e => Heap.get?_push_of_some _ e
  refine subscriptTail_ops (s := { s with heap := s.heap.push { cls := .type "slice", data := .fields #[.none, .int 4 u, .none] } }) ht'.typeIs slot_tuple_getitem.lookup
    (getItem_46 ht' (Heap.IsSliceOf.new ..) ?_) hs hg
  have N1 := News.push (F.push { cls := .type "slice", data := .fields #[.none, .int 4 u, .none] }) (N.grown fun _ _ e => Heap.get?_push_of_some _ e) { cls := .type "tuple", data := .seq #[a, b, c, d] }
  exact h _ _ ((F.push _).push _) N1
end
section
variable {w : World} {A : Around} {E : Value → Shared → Prop} {s : Shared} {g : Heap} {L d : Addr} {m : Str → Option Value} {news : List (Addr × Obj)} {kvs : List (Int × Value)} {Q : Value → Shared → Prop}
theorem dict_copy (F : Fr g L s.heap m) (N : News g L s.heap news) (hbig : g.NoLimit) (hd : g.DictOf (intKind PySem.Challenge.rw_sq0044_01.row.prog w) d kvs) (lo : (d == sysModules) = false) (hsz : kvs.length ≤ 1000)
    (h : ∀ D o h', Fr g L h' m → News g L h' ((D, o) :: news) → o.IsDictOf (intKind PySem.Challenge.rw_sq0044_01.row.prog w) kvs → (D == sysModules) = false → (∀ p ∈ news, p.1 < D) → Q (.ref D) { s with heap := h' }) :
    wpAny (model PySem.Challenge.rw_sq0044_01.row.prog w) A (call (.type "dict") [.ref d]) Q E s := by
  refine kt_call_dict lo (hd.keep F.keep) (by rw [sizeLine_eq]; (first | lia | omega)) fun h' hm hs => ?_
  have hk : ∀ b o, s.heap.get? b = some o → h'.get? b = some o := fun b o e => (hs.2 b (Nat.ne_of_lt (Heap.lt_size e))).trans (Heap.get?_push_of_some _ e)
  obtain ⟨o, ho, hdo⟩ := Heap.dictOf_iff.mp hm
  exact h _ o h' (F.keeps hk) (news_pushed F N hk ho rfl) hdo (F.notModules (modules_low hbig)) fun p hp => Heap.lt_size (N p hp).1
end
end Mine
theorem Mine.fresh_B24 : True := by w_top off; k_with_none; trivial
namespace Mine
theorem fill_once24 (P : Params) : Mine.kk.heap_1 P = Mine.kk.heap_1 P ∧ PySem.Challenge.rw_sq0044_01 = PySem.Challenge.rw_sq0044_01 := by
  k_fill
  exact ⟨rfl, rfl⟩
theorem lnB24_0 : True := by
  k_with "execs cons" => (k_here; (with_reducible refine PySem.wpAny_execs_cons ?_); (try dsimp only); k_fold)
  k_with "execs cons" => (k_here; (with_reducible refine toks_gen ?_); intro _)
  k_with "eval Call" => (k_here; (with_reducible show wpAny _ _ (eval (Expr.Call (Expr.Name _ _) _ [] _) (envOf _ _ _ _ _)) _ _ _); k_dflt (refine call_named (by k_asm) (by k_asm) (by k_asm) (by k_is) (by k_is) (by (repeat' (first | exact ArgsV.nil | refine' ArgsV.loc (by first | exact rfl | assumption) rfl (by decide) ?_ | refine' ArgsV.int ?_ | refine' ArgsV.bool ?_ | refine' ArgsV.none ?_)); done) ?_))
  k_with "my sub" => first | exact List.forall_mem_nil _ | (refine' List.forall_mem_cons.mpr ⟨?_, ?_⟩; (· k_mem); (· k_extra "my sub")) | (intro q hq; repeat (first | exact hq | refine List.Mem.tail _ ?_))
  k_with "call type:tuple" => (k_here; (with_reducible show wpAny _ _ (call (Value.type _) [Value.ref _]) _ _ _); k_dflt (refine tuple_list_M (by k_asm) (by k_asm) (by k_mem) (by (first | lia | omega)) ?_); intro _ _ _ _ lz9; (try k_lt lz9); (try k_sweep))
  k_with "call ref" => ((fail_if_success (k_extra "svB240")); (k_here; k_dflt (k_extra "my call B240")))
  trivial
theorem ownB24_0 : True := by
  k_with "own k_ne" => (refine neN ?_; (try dsimp only); first | (with_reducible assumption) | (refine Ne.symm ?_; with_reducible assumption))
  trivial
theorem ownB24_1 : True := by
  k_with "own k_room" => ((try simp only [depth_under_make, depth_under_kw, depth_in1, depth_deeper, recursionLimit]); (first | lia | omega))
  trivial
theorem lnB24_1 : True := by
  k_with "getAttr ref" => (k_here; k_dflt (refine getAttr_g (by k_asm) (by k_asm) (by assumption) (by assumption) (by assumption) (by k_is) (by k_is) (by k_is) (by k_is) (by k_handed) ?_; k_whole))
  k_with "getMethod ref" => (k_here; k_dflt (refine getMethod_g (by k_asm) (by k_asm) (by assumption) (by assumption) (by assumption) (by k_is) (by k_is) (by k_is) ?_; k_whole))
  k_with "compareOp In int ref" => (k_here; (refine in_chars (by k_asm) (by assumption) ?_))
  k_with "getMethod ref" => (k_here; (refine getMethod_chars (by k_asm) (by assumption) ?_))
  k_with "call builtin:dict.get" => (k_here; (refine get_chars (by k_asm) (by assumption) ?_ ?_); (all_goals intros))
  k_with "subscriptTail" => (k_here; (with_reducible show wpAny _ _ (subscriptTail _ _ (Value.ref _) (Value.int _ _)) _ _ _); k_dflt (refine item_tupleT (by exact TupP.at (Fr.keep (by k_asm)) (by assumption)) (by decide) (by decide) (by rfl) (by rfl) ?_; k_whole))
  trivial
theorem lnB24_2 : True := by
  k_with "subscriptTail" => (k_here; (with_reducible show wpAny _ _ (subscriptTail _ _ (Value.ref (FontL.tk _)) (Value.int _ _)) _ _ _); k_dflt (refine kern_item (by k_asm) (by assumption) (by first | (first | lia | omega) | (have ok' := RowM.OK.kern (by assumption) (by (first | lia | omega)) (by (first | lia | omega)); (first | lia | omega))) (by first | (first | lia | omega) | (have ok' := RowM.OK.kern (by assumption) (by (first | lia | omega)) (by (first | lia | omega)); (first | lia | omega))) ?_ (by with_unfolding_all rfl)); intros)
  k_with "subscriptTail" => (k_here; (with_reducible show wpAny _ _ (subscriptTail _ _ (Value.ref (FontL.tp _)) (Value.int _ _)) _ _ _); k_dflt (refine prog_item (by k_asm) (by assumption) (by (first | lia | omega)) (by (first | lia | omega)) (by (first | lia | omega)) ?_ (by with_unfolding_all rfl) (by (intro _; with_unfolding_all rfl))); intros)
  k_with "compareOp In int ref" => (k_here; (with_reducible show wpAny _ _ (compareOp _ (Value.int _ _) (Value.ref 392)) _ _ _); (refine' in_known (Frag.In.keeps (by k_asm) (Fr.keep (by k_asm))) ?_))
  k_with "eval Name" => (k_here; (fail_if_success (with_reducible show wpAny _ _ (eval (Expr.Name _ _) (envOfC _ _ _ _ _)) _ _ _)); (fail_if_success (with_reducible show wpAny _ _ (eval (Expr.Name _ _) (compEnvC _ _ _ _)) _ _ _)); k_dflt (refine ld (by k_asm) (by first | exact rfl | assumption) ?_; k_whole))
  trivial
theorem lnB24_3 : True := by
  k_with "getAttr ref" => (k_here; k_dflt (refine getAttr_g (by k_asm) (by k_asm) (by assumption) (by assumption) (by first | assumption | k_get) (by k_is) (by k_is) (by k_is) (by k_is) (by k_handed) ?_; k_whole))
  k_with "getAttr ref" => (k_here; (with_reducible show wpAny _ _ (getAttr (Value.ref _) (PySem.Str.ofString "kind") _) _ _ _); k_dflt (refine getAttr_gc (by k_asm) (by k_asm) (by assumption) (by assumption) (by k_get) (by k_is) (by k_is) (by k_is) (by k_is) (by k_handed) (by decide +kernel) ?_; k_whole))
  trivial
theorem lnB24_4 : True := by
  k_with "assign Tuple" => (k_here; (with_reducible show wpAny _ _ (assign (Expr.Tuple _ _ _) _ (Value.ref _)) _ _ _); k_dflt (refine unpackN_ (by k_asm) (by k_asm) (by exact TupP.at (Fr.keep (by k_asm)) (by assumption)) (by exact rfl) (by exact rfl) (by exact rfl) ?_); intro _ _ _; (try k_sweep))
  k_with "call builtin:len" => (k_here; (with_reducible show wpAny _ _ (call (Value.builtin "len") [Value.ref _]) _ _ _); (refine len_tuple (TupP.at (Fr.keep (by k_asm)) (by assumption)) (by simp only [List.size_toArray, List.length_cons, List.length_nil]; (first | lia | omega)) ?_))
  k_with "call builtin:isinstance" => (k_here; (with_reducible show wpAny _ _ (call (Value.builtin "isinstance") [Value.ref _, Value.type "tuple"]) _ _ _); (refine isi_tuple (TupP.at (Fr.keep (by k_asm)) (by assumption)) ?_))
  k_with "compareOp NotIn int ref" => (k_here; (refine notin_dict (by k_asm) (by assumption) (by assumption) ?_))
  k_with "compareOp In int ref" => (k_here; (refine in_dict (by k_asm) (by assumption) (by assumption) ?_))
  k_with "ite" => ((fail_if_success (k_extra "svB240")); (k_here; k_dflt (k_extra "my ite B240")))
  trivial
structure CharE where
  code : Int
  wd : Int
  so : Int
  re : Int
noncomputable def CharsKV (P : Addr → Obj → Prop) (kvs : List (Int × Value)) (ces : List CharE) : Prop := kvs.length = ces.length ∧ ∀ (i : Nat) (c : CharE), ces[i]? = some c → ∃ a, kvs[i]? = some (c.code, .ref a) ∧ ∃ t0 t1 t2 t3 t4 t5, TupP P a [.int c.wd t0, .int 0 t1, .int 0 t2, .int 0 t3, .int c.so t4, .int c.re t5]
structure CharGood (c : CharE) (many : Int) : Prop where
  code : 0 ≤ c.code ∧ c.code ≤ 255
  wd : 0 ≤ c.wd ∧ c.wd ≤ 100000
  so : c.so = 0 ∨ c.so = 1
  re : 0 ≤ c.re ∧ c.re ≤ 255
  lead : c.so = 1 → c.re < many
theorem chars_spec {w : World} {A : Around} {s : Shared} {h₀ : Heap} {L : Addr} {m : Str → Option Value} {dc : Addr} {kvs : List (Int × Value)} {ces : List CharE} {many : Int} {tm : Tok} {Q E : Value → Shared → Prop}
    (C : Cx w A h₀ L s.heap m) (hd : A.depth ≤ 370) (hdc : s.heap.DictOf (intKind PySem.Challenge.rw_sq0044_01.row.prog w) dc kvs) (lo : (dc == sysModules) = false) (hc : CharsKV (fun a o => s.heap.get? a = some o) kvs ces) (hgood : ∀ c ∈ ces, CharGood c many) (hm : 0 ≤ many ∧ many ≤ 10)
    (ret : ∀ (h' : Heap) (tk' : Tok), Fr h₀ L h' m → Kept s.heap [] h' → Q .none { s with heap := h', toks := tk' }) :
    wpAny (model PySem.Challenge.rw_sq0044_01.row.prog w) A (call (.ref 160) [.ref dc, .int many tm]) Q E s := by
  refine wpAny_call ?_
  have N0 : News h₀ L s.heap [] := News.nil
  refine Cx.form_ C ?_; intro dp un gd env0 outer0 eA9; subst eA9; (try dsimp only at hd); (try dsimp only at hu); k_dflt (refine' enter (binds := [(Str.ofString "chars", .ref dc), (Str.ofString "many", .int many tm)]) ?k1 ?k2 ?k6 ?k7 ?k8 ?k9 ?kB ?_ ?c2 ?c3 ?c4 ?c5; (case k1 => assumption); (case k2 => assumption); (case k6 => k_is); (case k7 => k_is); (case k8 => (first | exact le_up (d := 1) hd rfl | exact le_up (d := 2) hd rfl | (simp only [depth_under_make, depth_under_kw, recursionLimit]; (first | lia | omega)))); (case k9 => first | exact BindsTo.of_eq rfl | exact binds_K (Cx.inK (by assumption)) rfl (by k_is) rfl rfl rfl); (case c5 => decide); (case kB => exact locs rfl); (case c2 => exact rfl); (case c3 => exact rfl); (case c4 => exact rfl)); intro base outer p loose mean mg mb g L' hB1 FG F NB G B X T hh; obtain rfl : env0 :: outer0 = outer := Option.some.inj B.stack; (try dsimp only); (try k_fold)
  have kg : ∀ b o, s.heap.get? b = some o → g.get? b = some o := fun b o e => G b o e (by simp)
  have hdg : g.DictOf (intKind PySem.Challenge.rw_sq0044_01.row.prog w) dc kvs := hdc.keep kg
  k_with "svB240" => skip
  k_with "call ref" => ((fail_if_success (k_extra "svB241")); (k_here; k_dflt (k_extra "my call B241")))
  k_with "ite" => ((fail_if_success (k_extra "svB241")); (k_here; k_dflt (k_extra "my ite B241")))
  repeat' ((fail_if_success (with_reducible show wpAny _ _ (exec (Stmt.For _ _ _ _ _) _) _ _ _)); first | (k_unfold; (try dsimp only)) | (dsimp only; k_unfold; (try dsimp only)) | ((fail_if_success (with_reducible show Exists _)); (fail_if_success (with_reducible show LeaveK h₀ L m g _ _ _)); first | walk1 | (dsimp only; (fail_if_success (with_reducible show Exists _)); (fail_if_success (with_reducible show LeaveK h₀ L m g _ _ _)); walk1)))
  refine For_pair_inv g ?_ (by intro _; rfl)
  repeat' ((fail_if_success (with_reducible show wpAny _ _ (getMethod _ _ _) _ _ _)); first | (k_unfold; (try dsimp only)) | (dsimp only; k_unfold; (try dsimp only)) | ((fail_if_success (with_reducible show Exists _)); (fail_if_success (with_reducible show LeaveK h₀ L m g _ _ _)); first | walk1 | (dsimp only; (fail_if_success (with_reducible show Exists _)); (fail_if_success (with_reducible show LeaveK h₀ L m g _ _ _)); walk1)))
  (with_reducible rename Fr _ _ _ _ => F6)
  refine getMethod_items F6 hdg ?_
  repeat' ((fail_if_success (with_reducible show wpAny _ _ (call (Value.builtin "dict.items") _) _ _ _)); first | (k_unfold; (try dsimp only)) | (dsimp only; k_unfold; (try dsimp only)) | ((fail_if_success (with_reducible show Exists _)); (fail_if_success (with_reducible show LeaveK h₀ L m g _ _ _)); first | walk1 | (dsimp only; (fail_if_success (with_reducible show Exists _)); (fail_if_success (with_reducible show LeaveK h₀ L m g _ _ _)); walk1)))
  (with_reducible rename Fr _ _ _ _ => F7)
  refine call_items F7 hdg lo ?_
  intro vw h7 hvw F8
  (try clear F6); (try clear F7)
  repeat' ((fail_if_success (with_reducible show wpAny _ _ (pyIter _) _ _ _)); first | (k_unfold; (try dsimp only)) | (dsimp only; k_unfold; (try dsimp only)) | ((fail_if_success (with_reducible show Exists _)); (fail_if_success (with_reducible show LeaveK h₀ L m g _ _ _)); first | walk1 | (dsimp only; (fail_if_success (with_reducible show Exists _)); (fail_if_success (with_reducible show LeaveK h₀ L m g _ _ _)); walk1)))
  refine iter_items_J hh (by rfl) (by rfl) (by rfl) hvw F8 hdg (fun _ m' => m' (Str.ofString "many") = some (.int many tm)) rfl ?_ ?_
  · rintro i k t v m₁ s₁ own hkv e1 F4 N4
    have hi : i < ces.length := by rw [← hc.1]; exact (List.getElem?_eq_some_iff.mp hkv).1
    obtain ⟨a, ha, t0, t1, t2, t3, t4, t5, hra⟩ := hc.2 i ces[i] (List.getElem?_eq_getElem hi)
    have hg := hgood ces[i] (List.getElem_mem hi)
    generalize ces[i] = c at *
    rw [ha] at hkv
    obtain ⟨rfl, rfl⟩ := Prod.mk.inj (Option.some.inj hkv)
    have hrg : TupP (fun a o => g.get? a = some o) a [.int c.wd t0, .int 0 t1, .int 0 t2, .int 0 t3, .int c.so t4, .int c.re t5] := hra.mono kg
    obtain ⟨⟨c0, c1⟩, ⟨w0, w1⟩, so, ⟨r0, r1⟩, ldp⟩ := hg
    k_with "svB241" => skip
    k_with "call ref" => ((fail_if_success (k_extra "svB242")); (k_here; k_dflt (k_extra "my call B242")))
    k_with "ite" => ((fail_if_success (k_extra "svB242")); (k_here; k_dflt (k_extra "my ite B242")))
    k_with "my ite B242" => ((first | refine split_dec ?_ ?_ | refine split_bne ?_ ?_) <;> intro hz9 <;> first | exact absurd rfl hz9 | (exfalso; (first | lia | omega)) | skip)
    k_with "my call B242" => (refine is_whole_spec (Cx.deeper (by k_asm) (by k_asm) (by k_asm) (by k_asm) (by k_asm) rfl) (by first | exact le_up (d := 1) hd rfl | (simp only [depth_deeper]; (first | lia | omega))) ?_; intro hw1 tkw Fw Kw; have Nw := news_keep0 (by k_asm) Kw; (try k_sweep); rw [decide_eq_true (by (first | lia | omega)), decide_eq_true (by (first | lia | omega))])
    repeat' ((fail_if_success (with_reducible show wpAny _ _ (call (Value.ref 146) _) _ _ _)); first | (k_unfold; (try dsimp only)) | (dsimp only; k_unfold; (try dsimp only)) | ((fail_if_success (with_reducible show Exists _)); (fail_if_success (with_reducible show LeaveK h₀ L m g _ _ _)); first | walk1 | (dsimp only; (fail_if_success (with_reducible show Exists _)); (fail_if_success (with_reducible show LeaveK h₀ L m g _ _ _)); walk1)))
    (with_reducible rename Fr _ _ _ _ => F7); (with_reducible rename News _ _ _ _ => N7)
    refine slice_46 F7 N7 (TupP.at F7.keep hrg) ?_
    intro q h9 F9 N9
    (try clear F7); (try clear N7)
    repeat' ((fail_if_success (with_reducible show wpAny _ _ (call (Value.ref 146) _) _ _ _)); first | (k_unfold; (try dsimp only)) | (dsimp only; k_unfold; (try dsimp only)) | ((fail_if_success (with_reducible show Exists _)); (fail_if_success (with_reducible show LeaveK h₀ L m g _ _ _)); first | walk1 | (dsimp only; (fail_if_success (with_reducible show Exists _)); (fail_if_success (with_reducible show LeaveK h₀ L m g _ _ _)); walk1)))
    refine sizes_spec (ns := [c.wd, 0, 0, 0]) (Cx.deeper (by k_asm) F9 (by k_asm) (by k_asm) (by k_asm) rfl) (by first | exact le_up (d := 1) hd rfl | (simp only [depth_deeper]; (first | lia | omega))) ⟨_, (N9 _ (.head _)).1, rfl, _, rfl⟩ ((IntsV.one c.wd t0).append ((IntsV.one 0 t1).append ((IntsV.one 0 t2).append (IntsV.one 0 t3)))) (fun i hi => by simp at hi; (first | lia | omega)) ?_
    intro h10 tk10 F10 K10
    have N10 := news_keep0 N9 K10
    (try clear F9); (try clear N9); (try clear K10)
    repeat' (first | (k_unfold; (try dsimp only)) | (dsimp only; k_unfold; (try dsimp only)) | ((fail_if_success (with_reducible show Exists _)); (fail_if_success (with_reducible show LeaveK h₀ L m g _ _ _)); first | walk1 | (dsimp only; (fail_if_success (with_reducible show Exists _)); (fail_if_success (with_reducible show LeaveK h₀ L m g _ _ _)); walk1)))
    all_goals (
      (with_reducible rename Fr _ _ _ _ => F8); (with_reducible rename News _ _ _ _ => N8)
      exact LoopStep.intro F8 (news_sub N8 (b := own) (fun p hp => .tail _ (.tail _ hp))) (by exact e1))
  · rintro h6 tk6 m6 F6 -
    have N6 : News g L' h6 [] := News.nil
    repeat' (first | (k_unfold; (try dsimp only)) | (dsimp only; k_unfold; (try dsimp only)) | ((fail_if_success (with_reducible show Exists _)); (fail_if_success (with_reducible show LeaveK h₀ L m g _ _ _)); first | walk1 | (dsimp only; (fail_if_success (with_reducible show Exists _)); (fail_if_success (with_reducible show LeaveK h₀ L m g _ _ _)); walk1)))
    ((try dsimp only); (try k_unfold); (try dsimp only); (with_reducible rename Fr _ _ _ _ => cF); (with_reducible rename News _ _ _ _ => cN); refine leaveK_ cF cN ?_; intro kF kN; (try dsimp only [InitBack]); (try refine ⟨rfl, ?_⟩); (try dsimp only))
    exact ret _ _ kF (fun b o e _ => cF.keep b o (kg b o e))
theorem valueAt_get {kvs : List (Int × Value)} (hn : (kvs.map (·.1)).Nodup) {i : Nat} {k : Int} {v : Value} (h : kvs[i]? = some (k, v)) : valueAt kvs k = some v := by
  induction kvs generalizing i with
  | nil => simp at h
  | cons p r ih =>
    rw [List.map_cons, List.nodup_cons] at hn
    cases i with
    | zero => simp at h; subst h; simp [valueAt]
    | succ i =>
      have hr := ih hn.2 (i := i) (by simpa using h)
      have hk : p.1 ≠ k := fun e => hn.1 (e ▸ List.mem_map.mpr ⟨(k, v), List.mem_of_getElem? (by simpa using h), rfl⟩)
      unfold valueAt at hr ⊢
      rw [List.find?_cons_of_neg (by simpa using hk)]
      exact hr
theorem dict_nodup {prog : Program} {w : World} {g : Heap} {d : Addr} {kvs : List (Int × Value)} (h : g.DictOf (intKind prog w) d kvs) : (kvs.map (·.1)).Nodup := by
  obtain ⟨_, _, _, _, _, _, _, _, n⟩ := h
  exact n
theorem larger_spec {w : World} {A : Around} {s : Shared} {h₀ : Heap} {L : Addr} {m : Str → Option Value} {dc : Addr} {kvs : List (Int × Value)} {ces : List CharE} {many : Int} {Q E : Value → Shared → Prop}
    (C : Cx w A h₀ L s.heap m) (hd : A.depth ≤ 370) (hdc : s.heap.DictOf (intKind PySem.Challenge.rw_sq0044_01.row.prog w) dc kvs) (lo : (dc == sysModules) = false) (hc : CharsKV (fun a o => s.heap.get? a = some o) kvs ces) (hgood : ∀ c ∈ ces, CharGood c many)
    (ret : ∀ (h' : Heap) (tk' : Tok), Fr h₀ L h' m → Kept s.heap [] h' → Q .none { s with heap := h', toks := tk' }) :
    wpAny (model PySem.Challenge.rw_sq0044_01.row.prog w) A (call (.ref 167) [.ref dc]) Q E s := by
  refine wpAny_call ?_
  have N0 : News h₀ L s.heap [] := News.nil
  refine Cx.form_ C ?_; intro dp un gd env0 outer0 eA9; subst eA9; (try dsimp only at hd); (try dsimp only at hu); k_dflt (refine' enter (binds := [(Str.ofString "chars", .ref dc)]) ?k1 ?k2 ?k6 ?k7 ?k8 ?k9 ?kB ?_ ?c2 ?c3 ?c4 ?c5; (case k1 => assumption); (case k2 => assumption); (case k6 => k_is); (case k7 => k_is); (case k8 => (first | exact le_up (d := 1) hd rfl | exact le_up (d := 2) hd rfl | (simp only [depth_under_make, depth_under_kw, recursionLimit]; (first | lia | omega)))); (case k9 => first | exact BindsTo.of_eq rfl | exact binds_K (Cx.inK (by assumption)) rfl (by k_is) rfl rfl rfl); (case c5 => decide); (case kB => exact locs rfl); (case c2 => exact rfl); (case c3 => exact rfl); (case c4 => exact rfl)); intro base outer p loose mean mg mb g L' hB1 FG F NB G B X T hh; obtain rfl : env0 :: outer0 = outer := Option.some.inj B.stack; (try dsimp only); (try k_fold)
  have kg : ∀ b o, s.heap.get? b = some o → g.get? b = some o := fun b o e => G b o e (by simp)
  have hdg : g.DictOf (intKind PySem.Challenge.rw_sq0044_01.row.prog w) dc kvs := hdc.keep kg
  have hnd := dict_nodup hdg
  k_with "svB242" => skip
  k_with "call ref" => ((fail_if_success (k_extra "svB243")); (k_here; k_dflt (k_extra "my call B243")))
  k_with "ite" => ((fail_if_success (k_extra "svB243")); (k_here; k_dflt (k_extra "my ite B243")))
  repeat' ((fail_if_success (with_reducible show wpAny _ _ (exec (Stmt.For _ _ _ _ _) _) _ _ _)); first | (k_unfold; (try dsimp only)) | (dsimp only; k_unfold; (try dsimp only)) | ((fail_if_success (with_reducible show Exists _)); (fail_if_success (with_reducible show LeaveK h₀ L m g _ _ _)); first | walk1 | (dsimp only; (fail_if_success (with_reducible show Exists _)); (fail_if_success (with_reducible show LeaveK h₀ L m g _ _ _)); walk1)))
  refine For_invV g (by rfl) (by rfl) ?_
  repeat' ((fail_if_success (with_reducible show wpAny _ _ (pyIter _) _ _ _)); first | (k_unfold; (try dsimp only)) | (dsimp only; k_unfold; (try dsimp only)) | ((fail_if_success (with_reducible show Exists _)); (fail_if_success (with_reducible show LeaveK h₀ L m g _ _ _)); first | walk1 | (dsimp only; (fail_if_success (with_reducible show Exists _)); (fail_if_success (with_reducible show LeaveK h₀ L m g _ _ _)); walk1)))
  (with_reducible rename Fr _ _ _ _ => F6); (with_reducible rename News _ _ _ _ => N6)
  refine iter_keys_J hh F6 N6 hdg lo (fun _ m' nw => nw = [] ∧ m' (Str.ofString "chars") = some (.ref dc)) ⟨rfl, rfl⟩ ?_ ?_
  · rintro i k t v m₁ nw h4 tk4 I oI hkv ⟨rfl, e1⟩ hne F4 N4
    have hi : i < ces.length := by rw [← hc.1]; exact (List.getElem?_eq_some_iff.mp hkv).1
    obtain ⟨a, ha, t0, t1, t2, t3, t4, t5, hra⟩ := hc.2 i ces[i] (List.getElem?_eq_getElem hi)
    have hg := hgood ces[i] (List.getElem_mem hi)
    generalize ces[i] = c at *
    have hva := valueAt_get hnd hkv
    rw [ha] at hkv
    obtain ⟨rfl, rfl⟩ := Prod.mk.inj (Option.some.inj hkv)
    have hrg : TupP (fun a o => g.get? a = some o) a [.int c.wd t0, .int 0 t1, .int 0 t2, .int 0 t3, .int c.so t4, .int c.re t5] := hra.mono kg
    have so := hg.so
    have hdp := dictP_of hdg
    k_with "svB243" => skip
    k_with "call ref" => ((fail_if_success (k_extra "svB244")); (k_here; k_dflt (k_extra "my call B244")))
    k_with "ite" => ((fail_if_success (k_extra "svB244")); (k_here; k_dflt (k_extra "my ite B244")))
    repeat' ((fail_if_success (with_reducible show wpAny _ _ (exec (Stmt.While _ _ _ _) _) _ _ _)); first | (k_unfold; (try dsimp only)) | (dsimp only; k_unfold; (try dsimp only)) | ((fail_if_success (with_reducible show Exists _)); (fail_if_success (with_reducible show LeaveK h₀ L m g _ _ _)); first | walk1 | (dsimp only; (fail_if_success (with_reducible show Exists _)); (fail_if_success (with_reducible show LeaveK h₀ L m g _ _ _)); walk1)))
    (with_reducible rename Fr _ _ _ _ => F5); (with_reducible rename News _ _ _ _ => N5)
    refine While_inv2 (n₀ := 0) (fun _ m' nw => nw = [(I, oI)] ∧ m' (Str.ofString "chars") = some (.ref dc) ∧ m' (Str.ofString "far") = some (.int c.code t)) F5 (news_sub N5 (fun p hp => by first | exact hp | exact .tail _ hp)) ⟨rfl, e1, rfl⟩ ?_
    rintro n m₂ nw2 h7 tk7 F7 N7 ⟨rfl, f1, f2⟩
    (try clear F4); (try clear N4); (try clear F5); (try clear N5); (try clear F6); (try clear N6)
    k_with "svB244" => skip
    k_with "call ref" => ((fail_if_success (k_extra "svB245")); (k_here; k_dflt (k_extra "my call B245")))
    k_with "ite" => ((fail_if_success (k_extra "svB245")); (k_here; k_dflt (k_extra "my ite B245")))
    repeat' ((fail_if_success (with_reducible show wpAny _ _ (compareOp CmpOp.In _ _) _ _ _)); first | (k_unfold; (try dsimp only)) | (dsimp only; k_unfold; (try dsimp only)) | ((fail_if_success (with_reducible show Exists _)); (fail_if_success (with_reducible show LeaveK h₀ L m g _ _ _)); first | walk1 | (dsimp only; (fail_if_success (with_reducible show Exists _)); (fail_if_success (with_reducible show LeaveK h₀ L m g _ _ _)); walk1)))
    refine in_dict F7 hdp lo ?_
    rw [hva]
    repeat' ((fail_if_success (with_reducible show wpAny _ _ (subscriptTail _ _ (Value.ref dc) _) _ _ _)); first | (k_unfold; (try dsimp only)) | (dsimp only; k_unfold; (try dsimp only)) | ((fail_if_success (with_reducible show Exists _)); (fail_if_success (with_reducible show LeaveK h₀ L m g _ _ _)); first | walk1 | (dsimp only; (fail_if_success (with_reducible show Exists _)); (fail_if_success (with_reducible show LeaveK h₀ L m g _ _ _)); walk1)))
    (with_reducible rename Fr _ _ _ _ => F8)
    refine item_dict F8 hdg hva ?_
    k_with "my ite B245" => ((first | refine split_dec ?_ ?_ | refine split_bne ?_ ?_) <;> intro hz9 <;> first | exact absurd rfl hz9 | (exfalso; (first | lia | omega)) | skip)
    repeat' (first | (k_unfold; (try dsimp only)) | (dsimp only; k_unfold; (try dsimp only)) | ((fail_if_success (with_reducible show Exists _)); (fail_if_success (with_reducible show LeaveK h₀ L m g _ _ _)); first | walk1 | (dsimp only; (fail_if_success (with_reducible show Exists _)); (fail_if_success (with_reducible show LeaveK h₀ L m g _ _ _)); walk1)))
    all_goals (
      (with_reducible rename Fr _ _ _ _ => F9); (with_reducible rename News _ _ _ _ => N9)
      exact ⟨_, _, _, [], rfl, F9, news_sub N9 (fun p hp => by assumption), (fun _ h => nomatch h), rfl, f1⟩)
  · rintro h6 tk6 m6 nw6 F6 N6 ⟨rfl, -⟩
    repeat' (first | (k_unfold; (try dsimp only)) | (dsimp only; k_unfold; (try dsimp only)) | ((fail_if_success (with_reducible show Exists _)); (fail_if_success (with_reducible show LeaveK h₀ L m g _ _ _)); first | walk1 | (dsimp only; (fail_if_success (with_reducible show Exists _)); (fail_if_success (with_reducible show LeaveK h₀ L m g _ _ _)); walk1)))
    ((try dsimp only); (try k_unfold); (try dsimp only); (with_reducible rename Fr _ _ _ _ => cF); (with_reducible rename News _ _ _ _ => cN); refine leaveK_ cF cN ?_; intro kF kN; (try dsimp only [InitBack]); (try refine ⟨rfl, ?_⟩); (try dsimp only))
    exact ret _ _ kF (fun b o e _ => cF.keep b o (kg b o e))
end Mine
theorem Mine.fresh_B25 : True := by w_top off; k_with_none; trivial
namespace Mine
theorem fill_once25 (P : Params) : Mine.kk.heap_1 P = Mine.kk.heap_1 P ∧ PySem.Challenge.rw_sq0044_01 = PySem.Challenge.rw_sq0044_01 := by
  k_fill
  exact ⟨rfl, rfl⟩
theorem lnB25_0 : True := by
  k_with "execs cons" => (k_here; (with_reducible refine PySem.wpAny_execs_cons ?_); (try dsimp only); k_fold)
  k_with "execs cons" => (k_here; (with_reducible refine toks_gen ?_); intro _)
  k_with "eval Call" => (k_here; (with_reducible show wpAny _ _ (eval (Expr.Call (Expr.Name _ _) _ [] _) (envOf _ _ _ _ _)) _ _ _); k_dflt (refine call_named (by k_asm) (by k_asm) (by k_asm) (by k_is) (by k_is) (by (repeat' (first | exact ArgsV.nil | refine' ArgsV.loc (by first | exact rfl | assumption) rfl (by decide) ?_ | refine' ArgsV.int ?_ | refine' ArgsV.bool ?_ | refine' ArgsV.none ?_)); done) ?_))
  k_with "my sub" => first | exact List.forall_mem_nil _ | (refine' List.forall_mem_cons.mpr ⟨?_, ?_⟩; (· k_mem); (· k_extra "my sub")) | (intro q hq; repeat (first | exact hq | refine List.Mem.tail _ ?_))
  k_with "call type:tuple" => (k_here; (with_reducible show wpAny _ _ (call (Value.type _) [Value.ref _]) _ _ _); k_dflt (refine tuple_list_M (by k_asm) (by k_asm) (by k_mem) (by (first | lia | omega)) ?_); intro _ _ _ _ lz9; (try k_lt lz9); (try k_sweep))
  k_with "call ref" => ((fail_if_success (k_extra "svB250")); (k_here; k_dflt (k_extra "my call B250")))
  trivial
theorem ownB25_0 : True := by
  k_with "own k_ne" => (refine neN ?_; (try dsimp only); first | (with_reducible assumption) | (refine Ne.symm ?_; with_reducible assumption))
  trivial
theorem ownB25_1 : True := by
  k_with "own k_room" => ((try simp only [depth_under_make, depth_under_kw, depth_in1, depth_deeper, recursionLimit]); (first | lia | omega))
  trivial
theorem lnB25_1 : True := by
  k_with "getAttr ref" => (k_here; k_dflt (refine getAttr_g (by k_asm) (by k_asm) (by assumption) (by assumption) (by assumption) (by k_is) (by k_is) (by k_is) (by k_is) (by k_handed) ?_; k_whole))
  k_with "getMethod ref" => (k_here; k_dflt (refine getMethod_g (by k_asm) (by k_asm) (by assumption) (by assumption) (by assumption) (by k_is) (by k_is) (by k_is) ?_; k_whole))
  k_with "compareOp In int ref" => (k_here; (refine in_chars (by k_asm) (by assumption) ?_))
  k_with "getMethod ref" => (k_here; (refine getMethod_chars (by k_asm) (by assumption) ?_))
  k_with "call builtin:dict.get" => (k_here; (refine get_chars (by k_asm) (by assumption) ?_ ?_); (all_goals intros))
  k_with "subscriptTail" => (k_here; (with_reducible show wpAny _ _ (subscriptTail _ _ (Value.ref _) (Value.int _ _)) _ _ _); k_dflt (refine item_tupleT (by exact TupP.at (Fr.keep (by k_asm)) (by assumption)) (by decide) (by decide) (by rfl) (by rfl) ?_; k_whole))
  trivial
theorem lnB25_2 : True := by
  k_with "subscriptTail" => (k_here; (with_reducible show wpAny _ _ (subscriptTail _ _ (Value.ref (FontL.tk _)) (Value.int _ _)) _ _ _); k_dflt (refine kern_item (by k_asm) (by assumption) (by first | (first | lia | omega) | (have ok' := RowM.OK.kern (by assumption) (by (first | lia | omega)) (by (first | lia | omega)); (first | lia | omega))) (by first | (first | lia | omega) | (have ok' := RowM.OK.kern (by assumption) (by (first | lia | omega)) (by (first | lia | omega)); (first | lia | omega))) ?_ (by with_unfolding_all rfl)); intros)
  k_with "subscriptTail" => (k_here; (with_reducible show wpAny _ _ (subscriptTail _ _ (Value.ref (FontL.tp _)) (Value.int _ _)) _ _ _); k_dflt (refine prog_item (by k_asm) (by assumption) (by (first | lia | omega)) (by (first | lia | omega)) (by (first | lia | omega)) ?_ (by with_unfolding_all rfl) (by (intro _; with_unfolding_all rfl))); intros)
  k_with "compareOp In int ref" => (k_here; (with_reducible show wpAny _ _ (compareOp _ (Value.int _ _) (Value.ref 392)) _ _ _); (refine' in_known (Frag.In.keeps (by k_asm) (Fr.keep (by k_asm))) ?_))
  k_with "eval Name" => (k_here; (fail_if_success (with_reducible show wpAny _ _ (eval (Expr.Name _ _) (envOfC _ _ _ _ _)) _ _ _)); (fail_if_success (with_reducible show wpAny _ _ (eval (Expr.Name _ _) (compEnvC _ _ _ _)) _ _ _)); k_dflt (refine ld (by k_asm) (by first | exact rfl | assumption) ?_; k_whole))
  trivial
theorem lnB25_3 : True := by
  k_with "getAttr ref" => (k_here; k_dflt (refine getAttr_g (by k_asm) (by k_asm) (by assumption) (by assumption) (by first | assumption | k_get) (by k_is) (by k_is) (by k_is) (by k_is) (by k_handed) ?_; k_whole))
  k_with "getAttr ref" => (k_here; (with_reducible show wpAny _ _ (getAttr (Value.ref _) (PySem.Str.ofString "kind") _) _ _ _); k_dflt (refine getAttr_gc (by k_asm) (by k_asm) (by assumption) (by assumption) (by k_get) (by k_is) (by k_is) (by k_is) (by k_is) (by k_handed) (by decide +kernel) ?_; k_whole))
  trivial
theorem lnB25_4 : True := by
  k_with "assign Tuple" => (k_here; (with_reducible show wpAny _ _ (assign (Expr.Tuple _ _ _) _ (Value.ref _)) _ _ _); k_dflt (refine unpackN_ (by k_asm) (by k_asm) (by exact TupP.at (Fr.keep (by k_asm)) (by assumption)) (by exact rfl) (by exact rfl) (by exact rfl) ?_); intro _ _ _; (try k_sweep))
  k_with "call builtin:len" => (k_here; (with_reducible show wpAny _ _ (call (Value.builtin "len") [Value.ref _]) _ _ _); (refine len_tuple (TupP.at (Fr.keep (by k_asm)) (by assumption)) (by simp only [List.size_toArray, List.length_cons, List.length_nil]; (first | lia | omega)) ?_))
  k_with "call builtin:isinstance" => (k_here; (with_reducible show wpAny _ _ (call (Value.builtin "isinstance") [Value.ref _, Value.type "tuple"]) _ _ _); (refine isi_tuple (TupP.at (Fr.keep (by k_asm)) (by assumption)) ?_))
  k_with "compareOp NotIn int ref" => (k_here; (refine notin_dict (by k_asm) (by assumption) (by assumption) ?_))
  k_with "compareOp In int ref" => (k_here; (refine in_dict (by k_asm) (by assumption) (by assumption) ?_))
  k_with "ite" => ((fail_if_success (k_extra "svB250")); (k_here; k_dflt (k_extra "my ite B250")))
  trivial
theorem RowsAt.mono {P P' : Addr → Obj → Prop} {vs : List Value} {rows : List RowM} (k : ∀ a o, P a o → P' a o) (x : RowsAt P vs rows) : RowsAt P' vs rows := ⟨x.1, fun i r e => (x.2 i r e).imp fun _ => And.imp_right (Exists.imp fun _ => Exists.imp fun _ => Exists.imp fun _ => Exists.imp fun _ => fun q => q.mono k)⟩
theorem CharsKV.mono {P P' : Addr → Obj → Prop} {kvs : List (Int × Value)} {ces : List CharE} (k : ∀ a o, P a o → P' a o) (x : CharsKV P kvs ces) : CharsKV P' kvs ces := ⟨x.1, fun i r e => (x.2 i r e).imp fun _ => And.imp_right (Exists.imp fun _ => Exists.imp fun _ => Exists.imp fun _ => Exists.imp fun _ => Exists.imp fun _ => Exists.imp fun _ => fun q => q.mono k)⟩
noncomputable def charOfE (ces : List CharE) (k : Int) : Option (Int × Int) := (ces.find? fun c => c.code = k).map fun c => (c.so, c.re)
theorem chars_none {P : Addr → Obj → Prop} {kvs : List (Int × Value)} {ces : List CharE} (x : CharsKV P kvs ces) {k : Int} (h : charOfE ces k = none) : valueAt kvs k = none := by
  unfold charOfE at h
  rw [Option.map_eq_none_iff, List.find?_eq_none] at h
  unfold valueAt
  rw [Option.map_eq_none_iff, List.find?_eq_none]
  intro p hp
  obtain ⟨i, hi, rfl⟩ := List.mem_iff_getElem.mp hp
  have hi' : i < ces.length := by rw [← x.1]; exact hi
  obtain ⟨a, ha, _⟩ := x.2 i ces[i] (List.getElem?_eq_getElem hi')
  rw [List.getElem?_eq_getElem hi] at ha
  rw [Option.some.inj ha]
  exact h _ (List.getElem_mem hi')
theorem chars_some {P : Addr → Obj → Prop} {kvs : List (Int × Value)} {ces : List CharE} (x : CharsKV P kvs ces) (hn : (kvs.map (·.1)).Nodup) {k so re : Int} (h : charOfE ces k = some (so, re)) :
    ∃ r, valueAt kvs k = some (.ref r) ∧ ∃ wd t0 t1 t2 t3 t4 t5, TupP P r [.int wd t0, .int 0 t1, .int 0 t2, .int 0 t3, .int so t4, .int re t5] := by
  unfold charOfE at h
  rw [Option.map_eq_some_iff] at h
  obtain ⟨c, hc, e⟩ := h
  have hk := List.find?_some hc
  simp only [decide_eq_true_eq] at hk
  obtain ⟨rfl, rfl⟩ := Prod.mk.inj e
  obtain ⟨i, hi, rfl⟩ := List.mem_iff_getElem.mp (List.mem_of_find?_eq_some hc)
  obtain ⟨a, ha, t0, t1, t2, t3, t4, t5, q⟩ := x.2 i ces[i] (List.getElem?_eq_getElem hi)
  rw [hk] at ha
  exact ⟨a, valueAt_get hn ha, _, t0, t1, t2, t3, t4, t5, q⟩
noncomputable def fontOf (ces : List CharE) (rows : List RowM) (bd : Int) (r : RowM) : FontM := ⟨charOfE ces, rows, bd, edgeStartOf r⟩
theorem made_map {w : World} {g : Heap} {D : Addr} {o : Obj} {kvs : List (Int × Value)} {P : Addr → Obj → Prop} (e : g.get? D = some o) (p : P D o) (h : o.IsDictOf (intKind PySem.Challenge.rw_sq0044_01.row.prog w) kvs) :
    ∃ o es ep, P D o ∧ o.ExactDict ∧ o.data = .dict es ep ∧ KeysOf (intKind PySem.Challenge.rw_sq0044_01.row.prog w) es ∧ ∀ k, findBy (intKind PySem.Challenge.rw_sq0044_01.row.prog w).is es k = valueAt kvs k := by
  obtain ⟨o9, es9, ep9, ho9, q⟩ := (Heap.dictOf_iff.mpr ⟨o, e, h⟩ : g.DictOf (intKind PySem.Challenge.rw_sq0044_01.row.prog w) D kvs).mapOf
  obtain rfl := Option.some.inj (ho9.symm.trans e)
  exact ⟨_, es9, ep9, p, q⟩
theorem font_call {w : World} {A : Around} {s : Shared} {h₀ : Heap} {L : Addr} {m : Str → Option Value} {P : Addr → Obj → Prop} {tpar dc tp ka : Addr} {kvs : List (Int × Value)} {ces : List CharE} {vs : List Value} {rows : List RowM} {r : RowM} {k0 k1 tn ta ts tb : Tok} {letters bd : Int} {Q E : Value → Shared → Prop}
    (C : Cx w A h₀ L s.heap m) (hd : A.depth ≤ 350) (kP : ∀ a o, P a o → s.heap.get? a = some o) (hpar : TupP P tpar []) (hdc : s.heap.DictOf (intKind PySem.Challenge.rw_sq0044_01.row.prog w) dc kvs) (lo : (dc == sysModules) = false) (hc : CharsKV P kvs ces) (hgood : ∀ c ∈ ces, CharGood c rows.length)
    (hl : TupP P tp vs) (hr : RowsAt P vs rows) (hk : TupP P ka [.int 7001 k0, .int (-3000) k1]) (hrg : ∀ (i : Nat) r, rows[i]? = some r → RowGood r i rows.length letters bd) (hsome : ∀ c, 1 ≤ c → c ≤ letters → (valueAt kvs c).isSome = true)
    (hfew : rows.length ≤ 10) (hfk : kvs.length ≤ 100) (hlast : rows[rows.length - 1]? = some r) (hbd : bd = 256 ∨ bd = 1 ∨ bd = 9)
    (ret : ∀ (fl : FontL) (ol : List (Addr × Obj)) (h' : Heap) (tk' : Tok), Fr h₀ L h' m → News h₀ L h' ol → (∀ p ∈ ol, s.heap.get? p.1 = none) → FontAt w (fun a o => (a, o) ∈ ol ∨ P a o) fl (fontOf ces rows bd r) → Kept s.heap [] h' → Q (.ref fl.x) { s with heap := h', toks := tk' }) :
    wpAny (model PySem.Challenge.rw_sq0044_01.row.prog w) A (call (.ref 271) [.int 1 tn, .str (Str.ofString "fa") ta, .int 655360 ts, .ref tpar, .ref dc, .ref tp, .ref ka, .int bd tb]) Q E s := by
  refine Cx.form_ C ?_; intro dp un gd env0 outer0 eA9; subst eA9; (try dsimp only at hd); (try dsimp only at hu); k_dflt (refine' callC C ?k4 ?k5 ?k6 ?_; (case k4 => k_is); (case k5 => k_is); (case k6 => k_is))
  intro x dx h2 C2 N2 k2 hx hdx l2
  replace l2 := ltN l2
  k_dflt (refine' enter (binds := [(Str.ofString "self", .ref x), (Str.ofString "number", .int 1 tn), (Str.ofString "name", .str (Str.ofString "fa") ta), (Str.ofString "size", .int 655360 ts), (Str.ofString "params", .ref tpar), (Str.ofString "chars", .ref dc), (Str.ofString "program", .ref tp), (Str.ofString "kerns", .ref ka), (Str.ofString "boundary", .int bd tb)]) ?k1 ?k2 ?k6 ?k7 ?k8 ?k9 ?kB ?_ ?c2 ?c3 ?c4 ?c5; (case k1 => exact C2); (case k2 => exact N2); (case k6 => k_is); (case k7 => k_is); (case k8 => (first | exact le_up (d := 1) hd rfl | exact le_up (d := 2) hd rfl | (simp only [depth_under_make, depth_under_kw, recursionLimit]; (first | lia | omega)))); (case k9 => first | exact BindsTo.of_eq rfl | exact binds_K (Cx.inK (by exact C2)) rfl (by k_is) rfl rfl rfl); (case c5 => decide); (case kB => exact locs rfl); (case c2 => exact rfl); (case c3 => exact rfl); (case c4 => exact rfl)); intro base outer p loose mean mg mb g L' hB1 FG F NB G B X T hh; obtain rfl : env0 :: outer0 = outer := Option.some.inj B.stack; (try dsimp only); (try k_fold)
  have kg : ∀ b o, s.heap.get? b = some o → g.get? b = some o := fun b o e => G b o (k2 b o e) (fun q => by
    simp only [List.map_cons, List.map_nil, List.mem_cons, List.not_mem_nil, or_false] at q
    rcases q with q | q
    · rw [q, hx] at e; cases e
    · rw [q, hdx] at e; cases e)
  have kPg : ∀ a o, P a o → g.get? a = some o := fun a o e => kg a o (kP a o e)
  have gpar : TupP (fun a o => g.get? a = some o) tpar [] := hpar.mono kPg
  have gl : TupP (fun a o => g.get? a = some o) tp vs := hl.mono kPg
  have gk : TupP (fun a o => g.get? a = some o) ka [.int 7001 k0, .int (-3000) k1] := hk.mono kPg
  have gdc : g.DictOf (intKind PySem.Challenge.rw_sq0044_01.row.prog w) dc kvs := hdc.keep kg
  have hvl := hr.1
  k_with "svB250" => skip
  k_with "call ref" => ((fail_if_success (k_extra "svB251")); (k_here; k_dflt (k_extra "my call B251")))
  k_with "ite" => ((fail_if_success (k_extra "svB251")); (k_here; k_dflt (k_extra "my ite B251")))
  k_with "my ite B251" => ((first | refine split_dec ?_ ?_ | refine split_bne ?_ ?_) <;> intro hz9 <;> first | exact absurd rfl hz9 | exact absurd hz9 (by decide) | (exfalso; (first | lia | omega)) | skip)
  k_with "my call B251" => (refine is_whole_spec (Cx.deeper (by k_asm) (by k_asm) (by k_asm) (by k_asm) (by k_asm) rfl) (by first | exact le_up (d := 2) hd rfl | (simp only [depth_deeper, depth_under_make]; (first | lia | omega))) ?_; intro hw1 tkw Fw Kw; have Nw := news_keep0 (by k_asm) Kw; (try k_sweep); rw [decide_eq_true (by (first | lia | omega)), decide_eq_true (by (first | lia | omega))])
  k_with "my call B251" => (refine sizes_spec (l := tpar) (ns := []) (Cx.deeper (by k_asm) (by k_asm) (by k_asm) (by k_asm) (by k_asm) rfl) (by first | exact le_up (d := 2) hd rfl | (simp only [depth_deeper, depth_under_make]; (first | lia | omega))) (gpar.mono (fun a o e => Fr.keep (by k_asm) a o e)) IntsV.nil (fun i hi => nomatch hi) ?_; intro hw1 tkw Fw Kw; have Nw := news_keep0 (by k_asm) Kw; (try k_sweep))
  k_with "my call B251" => (refine sizes_spec (l := ka) (ns := [7001, -3000]) (Cx.deeper (by k_asm) (by k_asm) (by k_asm) (by k_asm) (by k_asm) rfl) (by first | exact le_up (d := 2) hd rfl | (simp only [depth_deeper, depth_under_make]; (first | lia | omega))) (gk.mono (fun a o e => Fr.keep (by k_asm) a o e)) ((IntsV.one 7001 k0).append (IntsV.one (-3000) k1)) (fun i hi => by simp at hi; (first | lia | omega)) ?_; intro hw1 tkw Fw Kw; have Nw := news_keep0 (by k_asm) Kw; (try k_sweep))
  k_with "my call B251" => (refine chars_spec (Cx.deeper (by k_asm) (by k_asm) (by k_asm) (by k_asm) (by k_asm) rfl) (by first | exact le_up (d := 2) hd rfl | (simp only [depth_deeper, depth_under_make]; (first | lia | omega))) (gdc.keep (Fr.keep (by k_asm))) lo (hc.mono (fun a o e => Fr.keep (by k_asm) a o (kPg a o e))) (by rw [List.size_toArray, hvl]; exact hgood) (by rw [List.size_toArray, hvl]; (first | lia | omega)) ?_; intro hw1 tkw Fw Kw; have Nw := news_keep0 (by k_asm) Kw; (try k_sweep))
  k_with "my call B251" => (refine larger_spec (Cx.deeper (by k_asm) (by k_asm) (by k_asm) (by k_asm) (by k_asm) rfl) (by first | exact le_up (d := 2) hd rfl | (simp only [depth_deeper, depth_under_make]; (first | lia | omega))) (gdc.keep (Fr.keep (by k_asm))) lo (hc.mono (fun a o e => Fr.keep (by k_asm) a o (kPg a o e))) hgood ?_; intro hw1 tkw Fw Kw; have Nw := news_keep0 (by k_asm) Kw; (try k_sweep))
  k_with "my call B251" => (refine program_spec (Cx.deeper (by k_asm) (by k_asm) (by k_asm) (by k_asm) (by k_asm) rfl) (by first | exact le_up (d := 2) hd rfl | (simp only [depth_deeper, depth_under_make]; (first | lia | omega))) (gl.mono (fun a o e => Fr.keep (by k_asm) a o e)) (hr.mono (fun a o e => Fr.keep (by k_asm) a o (kPg a o e))) (gk.mono (fun a o e => Fr.keep (by k_asm) a o e)) (dictP_of (gdc.keep (Fr.keep (by k_asm)))) lo hrg hsome hfew ?_; intro hw1 tkw Fw Kw; have Nw := news_keep0 (by k_asm) Kw; (try k_sweep))
  k_with "my call B251" => (refine left_start_spec (Cx.deeper (by k_asm) (by k_asm) (by k_asm) (by k_asm) (by k_asm) rfl) (by first | exact le_up (d := 2) hd rfl | (simp only [depth_deeper, depth_under_make]; (first | lia | omega))) (gl.mono (fun a o e => Fr.keep (by k_asm) a o e)) (hr.mono (fun a o e => Fr.keep (by k_asm) a o (kPg a o e))) hlast (by (first | lia | omega)) ?_; intro tes hw1 tkw Fw Kw; have Nw := news_keep0 (by k_asm) Kw; (try k_sweep))
  repeat' ((fail_if_success (with_reducible show wpAny _ _ (call (Value.type "list") _) _ _ _)); first | (k_unfold; (try dsimp only)) | (dsimp only; k_unfold; (try dsimp only)) | ((fail_if_success (with_reducible show Exists _)); (fail_if_success (with_reducible show LeaveK h₀ L m g _ _ _)); first | walk1 | (dsimp only; (fail_if_success (with_reducible show Exists _)); (fail_if_success (with_reducible show LeaveK h₀ L m g _ _ _)); walk1)))
  (with_reducible rename Fr _ _ _ _ => F7); (with_reducible rename News _ _ _ _ => N7)
  refine list_copyKT F7 N7 (items := #[]) (TupP.at F7.keep gpar) (fun D1 c1 h' F8 N8 l8 => ?_) (Nat.zero_le _)
  clear F7 N7
  (try k_lt l8)
  repeat' ((fail_if_success (with_reducible show wpAny _ _ (call (Value.type "dict") _) _ _ _)); first | (k_unfold; (try dsimp only)) | (dsimp only; k_unfold; (try dsimp only)) | ((fail_if_success (with_reducible show Exists _)); (fail_if_success (with_reducible show LeaveK h₀ L m g _ _ _)); first | walk1 | (dsimp only; (fail_if_success (with_reducible show Exists _)); (fail_if_success (with_reducible show LeaveK h₀ L m g _ _ _)); walk1)))
  (with_reducible rename Fr _ _ _ _ => F7); (with_reducible rename News _ _ _ _ => N7)
  refine dict_copy F7 N7 T.nolimit gdc lo (by (first | lia | omega)) ?_
  intro D2 o2 h2' F9 N9 hD2 lo2 l9
  clear F7 N7
  (try k_lt l9)
  repeat' ((fail_if_success (with_reducible show wpAny _ _ (call (Value.type "tuple") _) _ _ _)); first | (k_unfold; (try dsimp only)) | (dsimp only; k_unfold; (try dsimp only)) | ((fail_if_success (with_reducible show Exists _)); (fail_if_success (with_reducible show LeaveK h₀ L m g _ _ _)); first | walk1 | (dsimp only; (fail_if_success (with_reducible show Exists _)); (fail_if_success (with_reducible show LeaveK h₀ L m g _ _ _)); walk1)))
  (with_reducible rename Fr _ _ _ _ => F7)
  refine call_tuple_same (TupP.at F7.keep gl) ?_
  repeat' ((fail_if_success (with_reducible show wpAny _ _ (call (Value.type "tuple") _) _ _ _)); first | (k_unfold; (try dsimp only)) | (dsimp only; k_unfold; (try dsimp only)) | ((fail_if_success (with_reducible show Exists _)); (fail_if_success (with_reducible show LeaveK h₀ L m g _ _ _)); first | walk1 | (dsimp only; (fail_if_success (with_reducible show Exists _)); (fail_if_success (with_reducible show LeaveK h₀ L m g _ _ _)); walk1)))
  (with_reducible rename Fr _ _ _ _ => F7)
  refine call_tuple_same (TupP.at F7.keep gk) ?_
  repeat' (first | (k_unfold; (try dsimp only)) | (dsimp only; k_unfold; (try dsimp only)) | ((fail_if_success (with_reducible show Exists _)); (fail_if_success (with_reducible show LeaveK h₀ L m g _ _ _)); first | walk1 | (dsimp only; (fail_if_success (with_reducible show Exists _)); (fail_if_success (with_reducible show LeaveK h₀ L m g _ _ _)); walk1)))
  ((try dsimp only); (try k_unfold); (try dsimp only); (with_reducible rename Fr _ _ _ _ => cF); (with_reducible rename News _ _ _ _ => cN); refine leaveK_ cF cN ?_; intro kF kN; (try dsimp only [InitBack]); (try refine ⟨rfl, ?_⟩); (try dsimp only))
  have hnd := dict_nodup hdc
  refine ret ⟨x, dx, D2, tp, ka, _, _, valueAt kvs, vs, tb, _, tn, k0, k1⟩ _ _ _ kF kN (fun p hp => kts_none kg (cN p hp).2.2)
    ⟨.inl (.tail _ (.tail _ (.head _))), .inl (.tail _ (.tail _ (.tail _ (.head _)))), by rfl, by rfl, by rfl, by rfl, by rfl, by rfl, by rfl, by rfl, lo2, made_map (P := fun a o => (a, o) ∈ _ ∨ P a o) (cN _ (.head _)).1 (Or.inl (.head _)) hD2, fun k e => chars_none hc e, fun k so re e => chars_some (hc.mono fun _ _ => .inr) hnd e, hl.mono fun _ _ => .inr, hr.1, fun i r e => (hr.mono fun _ _ => .inr).2 i r e, hk.mono fun _ _ => .inr⟩ (kept_made k2 hx hdx G cF.keep)
end Mine
theorem Mine.fresh_B26 : True := by w_top off; k_with_none; trivial
namespace Mine
theorem fill_once26 (P : Params) : Mine.kk.heap_1 P = Mine.kk.heap_1 P ∧ PySem.Challenge.rw_sq0044_01 = PySem.Challenge.rw_sq0044_01 := by
  k_fill
  exact ⟨rfl, rfl⟩
theorem lnB26_0 : True := by
  k_with "execs cons" => (k_here; (with_reducible refine PySem.wpAny_execs_cons ?_); (try dsimp only); k_fold)
  k_with "execs cons" => (k_here; (with_reducible refine toks_gen ?_); intro _)
  k_with "eval Call" => (k_here; (with_reducible show wpAny _ _ (eval (Expr.Call (Expr.Name _ _) _ [] _) (envOf _ _ _ _ _)) _ _ _); k_dflt (refine call_named (by k_asm) (by k_asm) (by k_asm) (by k_is) (by k_is) (by (repeat' (first | exact ArgsV.nil | refine' ArgsV.loc (by first | exact rfl | assumption) rfl (by decide) ?_ | refine' ArgsV.int ?_ | refine' ArgsV.bool ?_ | refine' ArgsV.none ?_)); done) ?_))
  k_with "my sub" => first | exact List.forall_mem_nil _ | (refine' List.forall_mem_cons.mpr ⟨?_, ?_⟩; (· k_mem); (· k_extra "my sub")) | (intro q hq; repeat (first | exact hq | refine List.Mem.tail _ ?_))
  k_with "call type:tuple" => (k_here; (with_reducible show wpAny _ _ (call (Value.type _) [Value.ref _]) _ _ _); k_dflt (refine tuple_list_M (by k_asm) (by k_asm) (by k_mem) (by (first | lia | omega)) ?_); intro _ _ _ _ lz9; (try k_lt lz9); (try k_sweep))
  k_with "call ref" => ((fail_if_success (k_extra "svB260")); (k_here; k_dflt (k_extra "my call B260")))
  trivial
theorem ownB26_0 : True := by
  k_with "own k_ne" => (refine neN ?_; (try dsimp only); first | (with_reducible assumption) | (refine Ne.symm ?_; with_reducible assumption))
  trivial
theorem lnB26_1 : True := by
  k_with "eval Name" => (k_here; (with_reducible show wpAny _ _ (eval (Expr.Name _ _) (compEnvC _ _ _ _)) _ _ _); k_dflt (refine cell_in (by rfl) (by rfl) (by k_asm) (by rfl) (by (repeat (first | assumption | refine List.Mem.tail _ ?_))) (by assumption) ?_; k_whole))
  k_with "ite" => ((fail_if_success (k_extra "svB260")); (k_here; k_dflt (k_extra "my ite B260")))
  k_with "eval Name" => (k_here; (with_reducible show wpAny _ _ (eval (Expr.Name _ _) (envOfC _ _ _ _ _)) _ _ _); k_dflt (refine nameX_L (by k_asm) (by assumption) ?_; k_whole))
  trivial
theorem draw_u {w : World} {A : Around} {s : Shared} {h₀ : Heap} {L : Addr} {m : Str → Option Value} {b : Addr} {o : Obj} {n many : Int} {tm : Tok} {led : List (Addr × Obj)} {gf : Obj → List (Addr × Obj)} {Q E : Value → Shared → Prop}
    (C : Cx w A h₀ L s.heap m) (N : News h₀ L s.heap led) (U : UpdF b o led gf) (hd : A.depth ≤ 400) (hu : A.units ≤ 400) (hB : BagOK o n) (hn : n < 999) (hm : 0 < many) (hm' : many < 1000)
    (ret : ∀ (d : Int) (td : Tok) (o' : Obj) (h' : Heap) (tk' : Tok), Fr h₀ L h' m → News h₀ L h' (gf o') → Kept s.heap [b] h' → BagOK o' (n + 1) → 0 ≤ d → d < many → Q (.int d td) { s with heap := h', toks := tk' }) :
    wpAny (model PySem.Challenge.rw_sq0044_01.row.prog w) A (call (.ref 477) [.ref b, .int many tm]) Q E s := by
  obtain ⟨pre, post, rfl, hg, a, c⟩ := U.split
  refine draw_b C (news_sub N (b := [(b, o)]) (List.forall_mem_cons.mpr ⟨List.mem_append_right _ (.head _), fun _ h => nomatch h⟩)) hd hu hB hn hm hm' ?_
  intro d td o' h' tk' F' N' K' hB' a1 a2
  refine ret d td o' h' tk' F' ?_ K' hB' a1 a2
  rw [hg]
  intro p hp
  rcases List.mem_append.mp hp with hp | hp
  · exact news_keep (news_sub N (fun q hq => List.mem_append_left _ hq)) K' (fun q hq => by rw [List.mem_singleton]; exact a q hq) p hp
  rcases List.mem_cons.mp hp with rfl | hp
  · exact N' _ (.head _)
  · exact news_keep (news_sub N (fun q hq => List.mem_append_right _ (.tail _ hq))) K' (fun q hq => by rw [List.mem_singleton]; exact c q hq) p hp
theorem fresh_off {h g : Heap} {b a : Addr} (G : ∀ a o, h.get? a = some o → a ∉ [b] → g.get? a = some o) (hn : a ∉ [b]) (hg : g.get? a = none) : h.get? a = none := by
  cases q : h.get? a with
  | none => rfl
  | some o => rw [G a o q hn] at hg; cases hg
theorem cell_ne {g h : Heap} {L a b : Addr} {led : List (Addr × Obj)} {c o : Obj} {v : Option Value} {n : Int} (N : News g L h led) (h1 : (a, c) ∈ led) (h2 : (b, o) ∈ led) (hc : c.data = .cell v) (hb : BagOK o n) : @Ne Nat a b := fun e => by
  have e1 := (N _ h1).1
  have e2 := (N _ h2).1
  dsimp only at e1 e2
  rw [show a = b from e, e2] at e1
  obtain rfl := Option.some.inj e1
  obtain ⟨x, y, z, tx, ty, tz, rfl, _⟩ := hb
  cases hc
noncomputable def FJc (g : Heap) (L' : Addr) (s : Shared) (b : Addr) (n : Int) (X : Obj → Obj → Obj → Obj → Prop → Prop) (P : Flow → Shared → Prop) : Prop :=
  ∀ h' tk' m' o oE oM oL oB, Fr g L' h' m' → News g L' h' [(L' + 1 + 1 + 1 + 1, oE), (L' + 1 + 1 + 1, oM), (L' + 1 + 1, oL), (L' + 1, oB), (b, o)] → BagOK o n → X oE oM oL oB (P .next { s with heap := h', toks := tk' })
theorem edge_of {d : Int} (h0 : 0 ≤ d) (h1 : d < 3) : ([256, 1, 9] : List Int).getD d.toNat 0 = 256 ∨ ([256, 1, 9] : List Int).getD d.toNat 0 = 1 ∨ ([256, 1, 9] : List Int).getD d.toNat 0 = 9 := by
  obtain rfl | rfl | rfl : d = 0 ∨ d = 1 ∨ d = 2 := by (first | lia | omega)
  · exact .inl rfl
  · exact .inr (.inl rfl)
  · exact .inr (.inr rfl)
open LCg in
theorem comp_invN {prog : Program} {w : World} {A : Around} {s : Shared} {h₀ : Heap} {L : Addr} {m : Str → Option Value} {env : Env} {elt : Expr} {x : Str} {scope : Scope} {cl : List (Str × Addr)} {S : List (Addr × Obj) → Prop} {P : Nat → Value → Prop} {Fin : List Value → List (Addr × Obj) → Prop} {n : Nat} {news : List (Addr × Obj)}
    (J : Nat → List Value → List (Addr × Obj) → Prop)
    (turn : ∀ i ys nw, i < n → J i ys nw → ∀ v I oI C oC D m₂ h tk (E' : Value → Shared → Prop), P i v → NsObj oC m₂ → m₂ x = some v → Fr h₀ L h m → News h₀ L h ((I, oI) :: (C, oC) :: (D, lst ys) :: nw) → Off3 I C D nw → ((@Ne Nat I C) ∧ (@Ne Nat I D) ∧ (@Ne Nat C D)) →
      wpAny (model prog w) A (eval elt (compEnvC scope cl C env)) (CompEnd h₀ L m { s with heap := h, toks := tk } I oI C oC D (lst ys) S (fun y nw' => J (i + 1) (ys ++ [y]) nw')) E' { s with heap := h, toks := tk })
    (fin : ∀ ys nw, J n ys nw → Fin ys nw) (start : J 0 [] news) : CompRest prog w A h₀ L m env elt x scope cl s S P Fin n 0 [] news := by
  have key : ∀ k i ys nw, i + k = n → J i ys nw → CompRest prog w A h₀ L m env elt x scope cl s S P Fin k i ys nw := by
    intro k
    induction k with
    | zero =>
      intro i ys nw hi hJ
      have e : i = n := by (first | lia | omega)
      subst e
      exact CompRest.zero (fin ys nw hJ)
    | succ k ih =>
      intro i ys nw hi hJ
      refine CompRest.succ fun v I oI C oC D m₂ h tk E' hP hC hx F N off hne => ?_
      refine wpAny_mono (turn i ys nw (by (first | lia | omega)) hJ v I oI C oC D m₂ h tk E' hP hC hx F N off hne) (fun y s₂ he => ?_) fun _ _ e => e
      obtain ⟨h', tk', nw', e1, e2, e3, e4, e5, e6⟩ := he
      exact ⟨h', tk', nw', e1, e2, e3, e4, e5, ih (i + 1) _ _ (by (first | lia | omega)) e6⟩
  exact key n 0 [] news (by (first | lia | omega)) start
theorem off3_of {I C D : Addr} : ∀ {l : List (Addr × Obj)}, (∀ p ∈ l, @Ne Nat p.1 I ∧ @Ne Nat p.1 C ∧ @Ne Nat p.1 D) → LCg.Off3 I C D l
  | [], _ => trivial
  | _ :: _, h => ⟨h _ (.head _), off3_of fun p hp => h p (.tail _ hp)⟩
theorem RowsAt.snoc {nl : List (Addr × Obj)} {ys : List Value} {rows : List RowM} {q : Addr} {r : RowM} {t0 t1 t2 t3 : Tok} (x : RowsAt (MemP nl) ys rows) : RowsAt (MemP ((q, tupO [.int r.skip t0, .int r.follow t1, .int r.op t2, .int r.rest t3]) :: nl)) (ys ++ [.ref q]) (rows ++ [r]) := by
  refine ⟨by rw [List.length_append, List.length_append, x.1]; rfl, fun i r' h => ?_⟩
  by_cases hi : i < rows.length
  · rw [List.getElem?_append_left hi] at h
    obtain ⟨a, ha, u0, u1, u2, u3, q⟩ := x.2 i r' h
    exact ⟨a, by rw [List.getElem?_append_left (by rw [x.1]; exact hi)]; exact ha, u0, u1, u2, u3, q.mono fun _ _ => .tail _⟩
  · rw [List.getElem?_append_right (by (first | lia | omega))] at h
    have : i - rows.length = 0 := by
      rcases Nat.eq_zero_or_pos (i - rows.length) with h0 | h0
      · exact h0
      · rw [List.getElem?_eq_none (by simp; (first | lia | omega))] at h; cases h
    rw [this] at h
    obtain rfl : r = r' := by simpa using h
    exact ⟨q, by rw [List.getElem?_append_right (by rw [x.1]; (first | lia | omega)), x.1, this]; rfl, t0, t1, t2, t3, ⟨_, .head _, rfl, _, rfl⟩⟩
/-- the last one of the ledger is changed -/
theorem led_upd {g h h' : Heap} {L b : Addr} {o o' : Obj} {pre nw : List (Addr × Obj)} (N : News g L h (pre ++ [(b, o)])) (hne : ∀ p ∈ pre, @Ne Nat p.1 b) (K : Kept h [b] h') (N' : News g L h' (nw ++ [(b, o')])) : News g L h' (nw ++ (pre ++ [(b, o')])) := fun p hp => by
  rcases List.mem_append.mp hp with hp | hp
  · exact N' p (List.mem_append_left _ hp)
  rcases List.mem_append.mp hp with hp | hp
  · exact news_keep (news_sub N (fun q hq => List.mem_append_left _ hq)) K (fun q hq => by rw [List.mem_singleton]; exact hne q hq) p hp
  · exact N' p (List.mem_append_right _ hp)
open LCg in
theorem comp_invC {prog : Program} {w : World} {A : Around} {s : Shared} {h₀ : Heap} {L : Addr} {m : Str → Option Value} {env : Env} {elt : Expr} {x : Str} {scope : Scope} {cl : List (Str × Addr)} {S : List (Addr × Obj) → Prop} {P : Nat → Value → Prop} {Fin : List Value → List (Addr × Obj) → Prop} {n : Nat} {news : List (Addr × Obj)}
    (J : Nat → List Value → (List (Addr × Obj) → Prop) → Prop)
    (turn : ∀ i ys, i < n → ∀ v I oI C oC D m₂ h tk (E' : Value → Shared → Prop), P i v → NsObj oC m₂ → m₂ x = some v → ((@Ne Nat I C) ∧ (@Ne Nat I D) ∧ (@Ne Nat C D)) → J i ys fun nw => Fr h₀ L h m → News h₀ L h ((I, oI) :: (C, oC) :: (D, lst ys) :: nw) → Off3 I C D nw →
      wpAny (model prog w) A (eval elt (compEnvC scope cl C env)) (CompEnd h₀ L m { s with heap := h, toks := tk } I oI C oC D (lst ys) S (fun y nw' => ∀ G, J (i + 1) (ys ++ [y]) G → G nw')) E' { s with heap := h, toks := tk })
    (fin : ∀ ys, J n ys (Fin ys)) (start : ∀ G, J 0 [] G → G news) : CompRest prog w A h₀ L m env elt x scope cl s S P Fin n 0 [] news :=
  comp_invN (fun i ys nw => ∀ G, J i ys G → G nw) (fun i ys _ hi hJ v I oI C oC D m₂ h tk E' hP hC hx F N off ne => hJ _ (turn i ys hi v I oI C oC D m₂ h tk E' hP hC hx ne) F N off) (fun ys _ hJ => hJ _ (fin ys)) start
theorem small_few' {x : Int} (h : 0 ≤ x) (h' : x ≤ 7) : Builtin.Range.small 0 x 1 = true := by
  have k : ∀ n : Nat, n < 8 → Builtin.Range.small 0 (n : Int) 1 = true := by decide
  have e := k x.toNat (by (first | lia | omega))
  rwa [Int.toNat_of_nonneg h] at e
noncomputable def RowsJ (L' b : Addr) (oE oM oL oB : Obj) (letters many edge : Int) (i : Nat) (ys : List Value) (G : List (Addr × Obj) → Prop) : Prop :=
  ∀ nl o (rows : List RowM), BagOK o (3 + 8 * (i : Int)) → (∀ p ∈ nl, @Ne Nat p.1 b) → rows.length = i → RowsAt (MemP nl) ys rows → (∀ (j : Nat) r, rows[j]? = some r → RowGood r j many letters edge) →
    G (nl ++ [(L' + 1 + 1 + 1 + 1, oE), (L' + 1 + 1 + 1, oM), (L' + 1 + 1, oL), (L' + 1, oB), (b, o)])
/-- the rows are made -/
noncomputable def FJ1 (w : World) (g : Heap) (L' : Addr) (s : Shared) (b : Addr) (P : Flow → Shared → Prop) : Prop :=
  ∀ h' tk' m' o ys rows Dr nl oE oM oL oB letters edge tl te tmn, Fr g L' h' m' → News g L' h' ((Dr, LCg.lst ys) :: (L' + 1 + 1 + 1 + 1, oE) :: (L' + 1 + 1 + 1, oM) :: (L' + 1 + 1, oL) :: (L' + 1, oB) :: (b, o) :: nl) → m' (Str.ofString "rows") = some (.ref Dr) → oE.data = .cell (some (.int edge te)) → oM.data = .cell (some (.int (rows.length : Int) tmn)) → oL.data = .cell (some (.int letters tl)) → oB.data = .cell (some (.ref b)) → BagOK o 100 → 2 ≤ letters → letters ≤ 4 → ((edge = 256 ∨ edge = 1 ∨ edge = 9)) → RowsAt (MemP nl) ys rows → (∀ (j : Nat) r, rows[j]? = some r → RowGood r j rows.length letters edge) → 2 ≤ rows.length → rows.length ≤ 7 → (∀ p ∈ nl, @Ne Nat p.1 b) → @Ne Nat Dr b → P .next { s with heap := h', toks := tk' }
noncomputable def CharsJ (w : World) (L' b Dr Dc : Addr) (oE oM oL oB : Obj) (ys : List Value) (rows : List RowM) (letters : Int) (i : Nat) (G : (Str → Option Value) → List (Addr × Obj) → Prop) : Prop :=
  ∀ m' o oC kvs ces rest, m' (Str.ofString "chars") = some (.ref Dc) → m' (Str.ofString "rows") = some (.ref Dr) →
    oC.IsDictOf (intKind PySem.Challenge.rw_sq0044_01.row.prog w) kvs → BagOK o (100 + (i : Int)) → CharsKV (MemP rest) kvs (⟨letters + 2, 70001, 0, 0⟩ :: ces) → ces.length = i → (∀ c ∈ ces, CharGood c rows.length ∧ 1 ≤ c.code ∧ c.code ≤ i) → (∀ k : Int, 1 ≤ k → k ≤ i → ∃ c ∈ ces, c.code = k) →
    (∀ p ∈ rest, @Ne Nat p.1 b) → (∀ p ∈ (Dr, LCg.lst ys) :: (L' + 1 + 1 + 1 + 1, oE) :: (L' + 1 + 1 + 1, oM) :: (L' + 1 + 1, oL) :: (L' + 1, oB) :: (b, o) :: rest, @Ne Nat p.1 Dc) → RowsAt (MemP rest) ys rows →
    G m' ((Dc, oC) :: (Dr, LCg.lst ys) :: (L' + 1 + 1 + 1 + 1, oE) :: (L' + 1 + 1 + 1, oM) :: (L' + 1 + 1, oL) :: (L' + 1, oB) :: (b, o) :: rest)
theorem stored_new {kvs : List (Int × Value)} {k : Int} {v : Value} (h : ∀ p ∈ kvs, p.1 ≠ k) : stored kvs k v = kvs ++ [(k, v)] := by
  unfold stored
  rw [if_neg]
  rw [List.any_eq_true]
  rintro ⟨p, hp, e⟩
  exact h p hp (by simpa using e)
theorem chars_next {w : World} {rest : List (Addr × Obj)} {kvs : List (Int × Value)} {ces : List CharE} {letters many so re : Int} {i : Nat} {oC : Obj} {D : Addr} {t0 t1 t2 t3 t4 t5 : Tok}
    (hkv : CharsKV (MemP rest) kvs (⟨letters + 2, 70001, 0, 0⟩ :: ces)) (hcl : ces.length = i) (hcg : ∀ c ∈ ces, CharGood c many ∧ 1 ≤ c.code ∧ c.code ≤ i) (hce : ∀ k : Int, 1 ≤ k → k ≤ i → ∃ c ∈ ces, c.code = k) (hi : (i : Int) < letters) (hl : letters ≤ 4)
    (ho : oC.IsDictOf (intKind PySem.Challenge.rw_sq0044_01.row.prog w) (stored kvs (0 + (i : Int) + 1) (.ref D))) (hg : CharGood ⟨(i : Int) + 1, 1000 * (i : Int) + 100, so, re⟩ many) :
    oC.IsDictOf (intKind PySem.Challenge.rw_sq0044_01.row.prog w) (kvs ++ [((i : Int) + 1, .ref D)]) ∧ CharsKV (MemP ((D, tupO [.int (1000 * (0 + (i : Int)) + 100) t0, .int 0 t1, .int 0 t2, .int 0 t3, .int so t4, .int re t5]) :: rest)) (kvs ++ [((i : Int) + 1, .ref D)]) (⟨letters + 2, 70001, 0, 0⟩ :: (ces ++ [⟨(i : Int) + 1, 1000 * (i : Int) + 100, so, re⟩])) ∧
    (ces ++ [⟨(i : Int) + 1, 1000 * (i : Int) + 100, so, re⟩] : List CharE).length = i + 1 ∧ (∀ c ∈ ces ++ [(⟨(i : Int) + 1, 1000 * (i : Int) + 100, so, re⟩ : CharE)], CharGood c many ∧ 1 ≤ c.code ∧ c.code ≤ (i + 1 : Nat)) ∧
    (∀ k : Int, 1 ≤ k → k ≤ (i + 1 : Nat) → ∃ c ∈ ces ++ [(⟨(i : Int) + 1, 1000 * (i : Int) + 100, so, re⟩ : CharE)], c.code = k) := by
  have hkl := hkv.1
  rw [List.length_cons, hcl] at hkl
  have hkey : ∀ p ∈ kvs, p.1 ≠ (i : Int) + 1 := fun p hp e => by
    obtain ⟨j, hj, rfl⟩ := List.mem_iff_getElem.mp hp
    have hj' : j < (⟨letters + 2, 70001, 0, 0⟩ :: ces : List CharE).length := by rw [← hkv.1]; exact hj
    obtain ⟨a, ha, _⟩ := hkv.2 j _ (List.getElem?_eq_getElem hj')
    rw [List.getElem?_eq_getElem hj] at ha
    have e2 := congrArg Prod.fst (Option.some.inj ha)
    rw [e] at e2
    dsimp only at e2
    have hm := List.getElem_mem hj'
    rw [List.mem_cons] at hm
    rcases hm with hm | hm
    · rw [hm] at e2; dsimp only at e2; (first | lia | omega)
    · have := (hcg _ hm).2.2; (first | lia | omega)
  rw [show 0 + (i : Int) + 1 = (i : Int) + 1 by (first | lia | omega), stored_new hkey] at ho
  refine ⟨ho, ⟨by simp [hkl, hcl], fun j c h => ?_⟩, by simp [hcl], fun c hc => ?_, fun k h1 h2 => ?_⟩
  · by_cases hj : j < i + 1
    · have h' : (⟨letters + 2, 70001, 0, 0⟩ :: ces : List CharE)[j]? = some c := by
        rw [← List.cons_append, List.getElem?_append_left (by simp [hcl]; (first | lia | omega))] at h
        exact h
      obtain ⟨a, ha, u0, u1, u2, u3, u4, u5, q⟩ := hkv.2 j c h'
      exact ⟨a, by rw [List.getElem?_append_left (by (first | lia | omega))]; exact ha, u0, u1, u2, u3, u4, u5, q.mono fun _ _ => .tail _⟩
    · rw [← List.cons_append, List.getElem?_append_right (by simp [hcl]; (first | lia | omega))] at h
      have hz : j - (⟨letters + 2, 70001, 0, 0⟩ :: ces : List CharE).length = 0 := by
        rcases Nat.eq_zero_or_pos (j - (⟨letters + 2, 70001, 0, 0⟩ :: ces : List CharE).length) with h0 | h0
        · exact h0
        · rw [List.getElem?_eq_none (by simp at h0 ⊢; (first | lia | omega))] at h; cases h
      rw [hz] at h
      obtain rfl : _ = c := Option.some.inj h
      have hz2 : j - kvs.length = 0 := by simp [hcl] at hz; (first | lia | omega)
      exact ⟨D, by rw [List.getElem?_append_right (by (first | lia | omega)), hz2]; rfl, t0, t1, t2, t3, t4, t5, ⟨_, .head _, rfl, 0, by rw [Int.zero_add]⟩⟩
  · rcases List.mem_append.mp hc with hc | hc
    · have := hcg c hc
      exact ⟨this.1, this.2.1, by (first | lia | omega)⟩
    · rw [List.mem_singleton.mp hc]
      exact ⟨hg, by dsimp only; (first | lia | omega), by dsimp only; (first | lia | omega)⟩
  · by_cases hk : k ≤ i
    · obtain ⟨c, hc, e⟩ := hce k h1 hk
      exact ⟨c, List.mem_append_left _ hc, e⟩
    · exact ⟨_, List.mem_append_right _ (.head _), by dsimp only; (first | lia | omega)⟩
theorem chars_end {w : World} {g h9 : Heap} {L' L'' b Dr Dc I D : Addr} {oE oM oL oB oI oC oC0 o o' tup : Obj} {ys : List Value} {rows : List RowM} {letters : Int} {i : Nat} {m' : Str → Option Value} {rest : List (Addr × Obj)} {kvs : List (Int × Value)} {ces : List CharE} {s₀ : Shared} {tk : Tok} {Q : Flow → Shared → Prop}
    (f1 : m' (Str.ofString "chars") = some (.ref Dc)) (f2 : m' (Str.ofString "rows") = some (.ref Dr)) (F : Fr g L'' h9 m') (N : News g L'' h9 ((I, oI) :: (Dc, oC) :: (Dr, LCg.lst ys) :: (L' + 1 + 1 + 1 + 1, oE) :: (L' + 1 + 1 + 1, oM) :: (L' + 1 + 1, oL) :: (L' + 1, oB) :: (b, o') :: (D, tup) :: rest))
    (hne : ∀ p ∈ (Dc, oC0) :: (Dr, LCg.lst ys) :: (L' + 1 + 1 + 1 + 1, oE) :: (L' + 1 + 1 + 1, oM) :: (L' + 1 + 1, oL) :: (L' + 1, oB) :: (b, o) :: rest, @Ne Nat p.1 I) (nID : @Ne Nat I Dc) (nIb : @Ne Nat I b) (z1 : I < D) (z2 : Dc < D) (z8 : b < D) (nrb : ∀ p ∈ rest, @Ne Nat p.1 b)
    (nrD2 : ∀ p ∈ (Dr, LCg.lst ys) :: (L' + 1 + 1 + 1 + 1, oE) :: (L' + 1 + 1 + 1, oM) :: (L' + 1 + 1, oL) :: (L' + 1, oB) :: (b, o') :: rest, @Ne Nat p.1 Dc) (hrs : RowsAt (MemP rest) ys rows)
    (hB : BagOK o' (100 + ((i + 1 : Nat) : Int))) (hc : oC.IsDictOf (intKind PySem.Challenge.rw_sq0044_01.row.prog w) (kvs ++ [((i : Int) + 1, .ref D)]) ∧ CharsKV (MemP ((D, tup) :: rest)) (kvs ++ [((i : Int) + 1, .ref D)]) (⟨letters + 2, 70001, 0, 0⟩ :: ces) ∧ ces.length = i + 1 ∧ (∀ c ∈ ces, CharGood c rows.length ∧ 1 ≤ c.code ∧ c.code ≤ (i + 1 : Nat)) ∧ (∀ k : Int, 1 ≤ k → k ≤ (i + 1 : Nat) → ∃ c ∈ ces, c.code = k)) :
    TurnEnd g L'' I oI (fun m' nw => ∀ P, CharsJ w L' b Dr Dc oE oM oL oB ys rows letters (i + 1) P → P m' nw) s₀ Q .next { s₀ with heap := h9, toks := tk } := by
  obtain ⟨g1, g2, g3, g4, g5⟩ := hc
  refine ⟨h9, tk, m', _, rfl, F, N, fun p hp => ?_, fun G kJ => kJ _ o' oC _ ces ((D, tup) :: rest) f1 f2 g1 hB g2 g3 g4 g5 (List.forall_mem_cons.mpr ⟨Ne.symm (Nat.ne_of_lt z8), nrb⟩) (fun p hp => ?_) (hrs.mono fun _ _ => .tail _)⟩
  · simp only [List.mem_cons] at hp
    rcases hp with rfl | rfl | rfl | rfl | rfl | rfl | rfl | rfl | hp
    · exact hne (Dc, oC0) (.head _)
    · exact hne _ (.tail _ (.head _))
    · exact hne _ (.tail _ (.tail _ (.head _)))
    · exact hne _ (.tail _ (.tail _ (.tail _ (.head _))))
    · exact hne _ (.tail _ (.tail _ (.tail _ (.tail _ (.head _)))))
    · exact hne _ (.tail _ (.tail _ (.tail _ (.tail _ (.tail _ (.head _))))))
    · exact hne (b, o) (.tail _ (.tail _ (.tail _ (.tail _ (.tail _ (.tail _ (.head _)))))))
    · exact Ne.symm (Nat.ne_of_lt z1)
    · exact hne _ (.tail _ (.tail _ (.tail _ (.tail _ (.tail _ (.tail _ (.tail _ hp)))))))
  · simp only [List.mem_cons] at hp
    rcases hp with rfl | rfl | rfl | rfl | rfl | rfl | rfl | hp
    · exact nrD2 _ (.head _)
    · exact nrD2 _ (.tail _ (.head _))
    · exact nrD2 _ (.tail _ (.tail _ (.head _)))
    · exact nrD2 _ (.tail _ (.tail _ (.tail _ (.head _))))
    · exact nrD2 _ (.tail _ (.tail _ (.tail _ (.tail _ (.head _)))))
    · exact nrD2 _ (.tail _ (.tail _ (.tail _ (.tail _ (.tail _ (.head _))))))
    · exact Ne.symm (Nat.ne_of_lt z2)
    · exact nrD2 _ (.tail _ (.tail _ (.tail _ (.tail _ (.tail _ (.tail _ hp))))))
theorem charOfE_some {ces : List CharE} {c : CharE} (h : c ∈ ces) : ∃ p : Int × Int, charOfE ces c.code = some (p.1, p.2) := by
  unfold charOfE
  cases e : ces.find? (fun x => x.code = c.code) with
  | none => exact absurd (decide_eq_true (rfl : c.code = c.code)) ((List.find?_eq_none.mp e) c h)
  | some d => exact ⟨(d.so, d.re), rfl⟩
theorem charOfE_mem {ces : List CharE} {k so re : Int} (h : charOfE ces k = some (so, re)) : ∃ c ∈ ces, c.code = k ∧ c.so = so ∧ c.re = re := by
  unfold charOfE at h
  rw [Option.map_eq_some_iff] at h
  obtain ⟨c, hc, e⟩ := h
  have hk := List.find?_some hc
  simp only [decide_eq_true_eq] at hk
  obtain ⟨rfl, rfl⟩ := Prod.mk.inj e
  exact ⟨c, List.mem_of_find?_eq_some hc, hk, rfl, rfl⟩
theorem lawfont_of {letters edge : Int} {rows : List RowM} {r : RowM} {ces : List CharE} (l0 : 2 ≤ letters) (l1 : letters ≤ 4) (hE : edge = 256 ∨ edge = 1 ∨ edge = 9) (r0 : 2 ≤ rows.length) (r1 : rows.length ≤ 7) (hgood : ∀ (j : Nat) r, rows[j]? = some r → RowGood r j rows.length letters edge)
    (hlast : rows[rows.length - 1]? = some r) (hcl : ces.length = letters.toNat) (hcg : ∀ c ∈ ces, CharGood c rows.length ∧ 1 ≤ c.code ∧ c.code ≤ letters.toNat) (hce : ∀ k : Int, 1 ≤ k → k ≤ letters.toNat → ∃ c ∈ ces, c.code = k) : LawFont (fontOf (⟨letters + 2, 70001, 0, 0⟩ :: ces) rows edge r) letters where
  wf := {
    start := fun c => by
      unfold FontM.start
      split
      · show edgeStartOf r < 0 ∨ 0 ≤ edgeStartOf r ∧ edgeStartOf r < rows.length
        unfold edgeStartOf
        split
        · have hg := hgood _ r hlast
          have h1 := hg.lead (by (first | lia | omega))
          have h2 := hg.oct.2.2.2.1
          rw [h1.1]
          right
          (first | lia | omega)
        · left; decide
      · split
        · rename_i so re e
          split
          · obtain ⟨c', hc', -, h1, h2⟩ := charOfE_mem e
            rcases List.mem_cons.mp hc' with rfl | hc'
            · subst h1; simp_all
            · have hg := (hcg c' hc').1
              have := hg.lead (by (first | lia | omega))
              have := hg.re
              right
              show 0 ≤ re ∧ re < (rows.length : Int)
              (first | lia | omega)
          · left; decide
        · left; decide
    len := by show rows.length < 1000; (first | lia | omega)
    rows := fun i r h => by
      have hg := hgood i r h
      obtain ⟨⟨s0, s1⟩, ⟨f0, f1⟩, ⟨p0, p1⟩, ⟨q0, q1⟩⟩ := hg.oct
      exact ⟨s0, s1, p0, p1, q0, q1, fun h => by have := hg.lead h; show 256 * r.op + r.rest < (rows.length : Int); (first | lia | omega), fun h h' => by have := hg.kern h h'; (first | lia | omega), hg.next⟩ }
  lo := l0
  hi := l1
  has := fun c => by
    constructor
    · intro h
      obtain ⟨p, hp⟩ := Option.isSome_iff_exists.mp h
      obtain ⟨c', hc', h1, -, -⟩ := charOfE_mem (so := p.1) (re := p.2) hp
      rcases List.mem_cons.mp hc' with rfl | hc'
      · right; exact h1.symm
      · have := (hcg c' hc').2; left; (first | lia | omega)
    · rintro (⟨h1, h2⟩ | rfl)
      · obtain ⟨c', hc', rfl⟩ := hce c h1 (by (first | lia | omega))
        obtain ⟨p, hp⟩ := charOfE_some (.tail _ hc' : c' ∈ (⟨letters + 2, 70001, 0, 0⟩ :: ces : List CharE))
        show (charOfE _ _).isSome = true
        rw [hp]; rfl
      · show (charOfE _ _).isSome = true
        simp [charOfE]
  plain := by show charOfE _ _ = _; simp [charOfE]
  bound := hE
  rows := fun r hr hs => by
    obtain ⟨j, hj, rfl⟩ := List.mem_iff_getElem.mp hr
    have := (hgood j _ (List.getElem?_eq_getElem hj)).follow hs
    (first | lia | omega)
theorem font_spec {w : World} {A : Around} {s : Shared} {h₀ : Heap} {L : Addr} {m : Str → Option Value} {b : Addr} {o : Obj} {Q E : Value → Shared → Prop}
    (C : Cx w A h₀ L s.heap m) (N : News h₀ L s.heap [(b, o)]) (hd : A.depth ≤ 330) (hu : A.units ≤ 100) (hB : BagOK o 0)
    (ret : ∀ (q : Addr) (fl : FontL) (FM : FontM) (letters : Int) (t : Tok) (ol : List (Addr × Obj)) (h' : Heap) (tk' : Tok), LawFont FM letters → Fr h₀ L h' m → News h₀ L h' ((q, tupO [.ref fl.x, .int letters t]) :: ol) → FontAt w (MemP ol) fl FM → Kept s.heap [b] h' → (∀ p ∈ (q, tupO [.ref fl.x, .int letters t]) :: ol, @Ne Nat p.1 b → s.heap.get? p.1 = none) → Q (.ref q) { s with heap := h', toks := tk' }) :
    wpAny (model PySem.Challenge.rw_sq0044_01.row.prog w) A (call (.ref 489) [.ref b]) Q E s := by
  refine wpAny_call ?_
  refine Cx.form_ C ?_; intro dp un gd env0 outer0 eA9; subst eA9; (try dsimp only at hd); (try dsimp only at hu); k_dflt (refine' enterC (binds := [(Str.ofString "bag", .ref b)]) ?k1 ?k2 ?k6 ?k7 ?k8 ?k9 ?kB ?kD ?_ ?c2 ?c3 ?c4; (case k1 => assumption); (case k2 => assumption); (case k6 => k_is); (case k7 => k_is); (case k8 => (first | exact le_up (d := 1) hd rfl | exact le_up (d := 2) hd rfl | (simp only [depth_under_make, depth_under_kw, recursionLimit]; (first | lia | omega)))); (case k9 => first | exact BindsTo.of_eq rfl | exact binds_K (Cx.inK (by assumption)) rfl (by k_is) rfl rfl rfl); (case kB => exact rfl); (case kD => decide +kernel); (case c2 => exact rfl); (case c3 => exact rfl); (case c4 => exact rfl)); intro base outer p loose mean mg mb g L' hB1 tk1 cells FG F NB G B X T hh Y; obtain rfl : env0 :: outer0 = outer := Option.some.inj B.stack; k_cells Y; (try simp only [List.cons_append, List.nil_append] at NB); (try dsimp only); (try k_fold)
  rename_i oE oM oL oB dE dM dL dB
  have nE := cell_ne NB (.head _) (.tail _ (.tail _ (.tail _ (.tail _ (.head _))))) dE hB
  have nM := cell_ne NB (.tail _ (.head _)) (.tail _ (.tail _ (.tail _ (.tail _ (.head _))))) dM hB
  have nL := cell_ne NB (.tail _ (.tail _ (.head _))) (.tail _ (.tail _ (.tail _ (.tail _ (.head _))))) dL hB
  have nB := cell_ne NB (.tail _ (.tail _ (.tail _ (.head _)))) (.tail _ (.tail _ (.tail _ (.tail _ (.head _))))) dB hB
  replace dB : oB.data = .cell (some (.ref b)) := dB
  k_with "svB260" => skip
  k_with "call ref" => ((fail_if_success (k_extra "svB261")); (k_here; k_dflt (k_extra "my call B261")))
  k_with "ite" => ((fail_if_success (k_extra "svB261")); (k_here; k_dflt (k_extra "my ite B261")))
  k_with "my call B261" => (refine draw_u (Cx.deeperX (by k_asm) (by k_asm) (by k_asm) (by k_asm) (by k_asm) rfl rfl) (by k_asm) (by k_updF) (by first | exact le_up (d := 1) hd rfl | (simp only [depth_deeper]; (first | lia | omega))) (by first | exact le_up (d := 3) hu rfl | (simp only [units_deeper]; (first | lia | omega))) (by assumption) (by (first | lia | omega)) (by (first | lia | omega)) (by (first | lia | omega)) ?_; intro d td o' hw1 tkw Fw Nw Kw hBw a1 a2; (try k_sweep))
  repeat' ((fail_if_success (with_reducible show wpAny _ _ (exec (Stmt.Assign _ _ _) _) _ _ _)); first | (k_unfold; (try dsimp only)) | (dsimp only; k_unfold; (try dsimp only)) | ((fail_if_success (with_reducible show Exists _)); (fail_if_success (with_reducible show LeaveK h₀ L m g _ _ _)); first | walk1 | (dsimp only; (fail_if_success (with_reducible show Exists _)); (fail_if_success (with_reducible show LeaveK h₀ L m g _ _ _)); walk1)))
  refine cutC (FJc g L' s b 1 (fun oE oM oL oB G => oB.data = .cell (some (.ref b)) → ∀ l t, oL.data = .cell (some (.int l t)) → 2 ≤ l → l ≤ 4 → ∀ v, oM.data = .cell v → ∀ v, oE.data = .cell v → G)) ?_ ?_
  · repeat' (first | (k_unfold; (try dsimp only)) | (dsimp only; k_unfold; (try dsimp only)) | ((fail_if_success (with_reducible show Exists _)); (fail_if_success (with_reducible show LeaveK h₀ L m g _ _ _)); first | walk1 | (dsimp only; (fail_if_success (with_reducible show Exists _)); (fail_if_success (with_reducible show LeaveK h₀ L m g _ _ _)); walk1)))
    (with_reducible rename Fr _ _ _ _ => F7); (with_reducible rename News _ _ _ _ => N7)
    (with_reducible rename FJc .. => kJ); exact kJ _ _ _ o' oE oM _ oB F7 N7 (hBw.up (by (first | lia | omega))) dB _ _ (by assumption) (by (first | lia | omega)) (by (first | lia | omega)) _ dM _ dE
  clear dE dM dL dB NB F hB
  intro h1 tk2 m1 o oE oM oL oB F1 N1 hB dB letters tl dL l0 l1 vM dM vE dE
  (try dsimp only)
  (try clear nE nM nL nB)
  have nE := cell_ne N1 (.head _) (.tail _ (.tail _ (.tail _ (.tail _ (.head _))))) dE hB
  have nM := cell_ne N1 (.tail _ (.head _)) (.tail _ (.tail _ (.tail _ (.tail _ (.head _))))) dM hB
  have nL := cell_ne N1 (.tail _ (.tail _ (.head _))) (.tail _ (.tail _ (.tail _ (.tail _ (.head _))))) dL hB
  have nB := cell_ne N1 (.tail _ (.tail _ (.tail _ (.head _)))) (.tail _ (.tail _ (.tail _ (.tail _ (.head _))))) dB hB
  k_with "svB261" => skip
  k_with "call ref" => ((fail_if_success (k_extra "svB262")); (k_here; k_dflt (k_extra "my call B262")))
  k_with "ite" => ((fail_if_success (k_extra "svB262")); (k_here; k_dflt (k_extra "my ite B262")))
  k_with "my call B262" => (refine draw_u (Cx.deeperX (by k_asm) (by k_asm) (by k_asm) (by k_asm) (by k_asm) rfl rfl) (by k_asm) (by k_updF) (by first | exact le_up (d := 1) hd rfl | (simp only [depth_deeper]; (first | lia | omega))) (by first | exact le_up (d := 3) hu rfl | (simp only [units_deeper]; (first | lia | omega))) (by assumption) (by (first | lia | omega)) (by (first | lia | omega)) (by (first | lia | omega)) ?_; intro d td o' hw1 tkw Fw Nw Kw hBw a1 a2; (try k_sweep))
  repeat' ((fail_if_success (with_reducible show wpAny _ _ (exec (Stmt.Assign _ _ _) _) _ _ _)); first | (k_unfold; (try dsimp only)) | (dsimp only; k_unfold; (try dsimp only)) | ((fail_if_success (with_reducible show Exists _)); (fail_if_success (with_reducible show LeaveK h₀ L m g _ _ _)); first | walk1 | (dsimp only; (fail_if_success (with_reducible show Exists _)); (fail_if_success (with_reducible show LeaveK h₀ L m g _ _ _)); walk1)))
  refine cutC (FJc g L' s b 2 (fun oE oM oL oB G => oB.data = .cell (some (.ref b)) → oL.data = .cell (some (.int letters tl)) → ∀ l t, oM.data = .cell (some (.int l t)) → 2 ≤ l → l ≤ 7 → ∀ v, oE.data = .cell v → G)) ?_ ?_
  · repeat' (first | (k_unfold; (try dsimp only)) | (dsimp only; k_unfold; (try dsimp only)) | ((fail_if_success (with_reducible show Exists _)); (fail_if_success (with_reducible show LeaveK h₀ L m g _ _ _)); first | walk1 | (dsimp only; (fail_if_success (with_reducible show Exists _)); (fail_if_success (with_reducible show LeaveK h₀ L m g _ _ _)); walk1)))
    (with_reducible rename Fr _ _ _ _ => F7); (with_reducible rename News _ _ _ _ => N7)
    (with_reducible rename FJc .. => kJ); exact kJ _ _ _ o' oE _ oL oB F7 N7 (hBw.up (by (first | lia | omega))) dB dL _ _ (by assumption) (by (first | lia | omega)) (by (first | lia | omega)) _ dE
  clear dE dM dL dB N1 F1 hB nE nM nL nB
  intro h2 tk2 m2 o oE oM oL oB F2 N2 hB dB dL many tmn dM y0 y1 vE dE
  (try dsimp only)
  have nE := cell_ne N2 (.head _) (.tail _ (.tail _ (.tail _ (.tail _ (.head _))))) dE hB
  have nM := cell_ne N2 (.tail _ (.head _)) (.tail _ (.tail _ (.tail _ (.tail _ (.head _))))) dM hB
  have nL := cell_ne N2 (.tail _ (.tail _ (.head _))) (.tail _ (.tail _ (.tail _ (.tail _ (.head _))))) dL hB
  have nB := cell_ne N2 (.tail _ (.tail _ (.tail _ (.head _)))) (.tail _ (.tail _ (.tail _ (.tail _ (.head _))))) dB hB
  k_with "svB262" => skip
  k_with "call ref" => ((fail_if_success (k_extra "svB263")); (k_here; k_dflt (k_extra "my call B263")))
  k_with "ite" => ((fail_if_success (k_extra "svB263")); (k_here; k_dflt (k_extra "my ite B263")))
  k_with "my call B263" => (refine draw_u (Cx.deeperX (by k_asm) (by k_asm) (by k_asm) (by k_asm) (by k_asm) rfl rfl) (by k_asm) (by k_updF) (by first | exact le_up (d := 1) hd rfl | (simp only [depth_deeper]; (first | lia | omega))) (by first | exact le_up (d := 3) hu rfl | (simp only [units_deeper]; (first | lia | omega))) (by assumption) (by (first | lia | omega)) (by (first | lia | omega)) (by (first | lia | omega)) ?_; intro d td o' hw1 tkw Fw Nw Kw hBw a1 a2; (try k_sweep))
  repeat' ((fail_if_success (with_reducible show wpAny _ _ (exec (Stmt.Assign _ _ _) _) _ _ _)); first | (k_unfold; (try dsimp only)) | (dsimp only; k_unfold; (try dsimp only)) | ((fail_if_success (with_reducible show Exists _)); (fail_if_success (with_reducible show LeaveK h₀ L m g _ _ _)); first | walk1 | (dsimp only; (fail_if_success (with_reducible show Exists _)); (fail_if_success (with_reducible show LeaveK h₀ L m g _ _ _)); walk1)))
  refine cutC (FJc g L' s b 3 (fun oE oM oL oB G => oB.data = .cell (some (.ref b)) → oL.data = .cell (some (.int letters tl)) → oM.data = .cell (some (.int many tmn)) → ∀ e t, oE.data = .cell (some (.int e t)) → (e = 256 ∨ e = 1 ∨ e = 9) → G)) ?_ ?_
  · repeat' (first | (k_unfold; (try dsimp only)) | (dsimp only; k_unfold; (try dsimp only)) | ((fail_if_success (with_reducible show Exists _)); (fail_if_success (with_reducible show LeaveK h₀ L m g _ _ _)); first | walk1 | (dsimp only; (fail_if_success (with_reducible show Exists _)); (fail_if_success (with_reducible show LeaveK h₀ L m g _ _ _)); walk1)))
    (with_reducible rename Fr _ _ _ _ => F7); (with_reducible rename News _ _ _ _ => N7)
    (with_reducible rename FJc .. => kJ); exact kJ _ _ _ o' _ oM oL oB F7 (news_sub N7 (fun p hp => .tail _ hp)) (hBw.up (by (first | lia | omega))) dB dL dM _ _ (by assumption) (edge_of a1 a2)
  clear dE dM dL dB N2 F2 hB nE nM nL nB
  intro h3 tk2 m3 o oE oM oL oB F3 N3 hB dB dL dM edge te dE hE
  (try dsimp only)
  have nE := cell_ne N3 (.head _) (.tail _ (.tail _ (.tail _ (.tail _ (.head _))))) dE hB
  have nM := cell_ne N3 (.tail _ (.head _)) (.tail _ (.tail _ (.tail _ (.tail _ (.head _))))) dM hB
  have nL := cell_ne N3 (.tail _ (.tail _ (.head _))) (.tail _ (.tail _ (.tail _ (.tail _ (.head _))))) dL hB
  have nB := cell_ne N3 (.tail _ (.tail _ (.tail _ (.head _)))) (.tail _ (.tail _ (.tail _ (.tail _ (.head _))))) dB hB
  k_with "svB263" => skip
  k_with "call ref" => ((fail_if_success (k_extra "svB264")); (k_here; k_dflt (k_extra "my call B264")))
  k_with "ite" => ((fail_if_success (k_extra "svB264")); (k_here; k_dflt (k_extra "my ite B264")))
  repeat' ((fail_if_success (with_reducible show wpAny _ _ (exec (Stmt.Assign _ (Expr.ListComp _ _ _ _) _) _) _ _ _)); first | (k_unfold; (try dsimp only)) | (dsimp only; k_unfold; (try dsimp only)) | ((fail_if_success (with_reducible show Exists _)); (fail_if_success (with_reducible show LeaveK h₀ L m g _ _ _)); first | walk1 | (dsimp only; (fail_if_success (with_reducible show Exists _)); (fail_if_success (with_reducible show LeaveK h₀ L m g _ _ _)); walk1)))
  refine cutC (FJ1 w g L' s b) ?_ ?_
  · (with_reducible rename Fr _ _ _ _ => F5)
    refine LCg.Assign_ListComp_U F5 (by rfl) (by with_unfolding_all rfl) (by with_unfolding_all rfl) (by decide) (by rfl) (by decide) (by rfl) (by rfl) (by rfl) ?_
    repeat' ((fail_if_success (with_reducible show wpAny _ _ (call (Value.type "range") _) _ _ _)); first | (k_unfold; (try dsimp only)) | (dsimp only; k_unfold; (try dsimp only)) | ((fail_if_success (with_reducible show Exists _)); (fail_if_success (with_reducible show LeaveK h₀ L m g _ _ _)); first | walk1 | (dsimp only; (fail_if_success (with_reducible show Exists _)); (fail_if_success (with_reducible show LeaveK h₀ L m g _ _ _)); walk1)))
    walk1
    (try dsimp only)
    (with_reducible rename Fr _ _ _ _ => F6); (with_reducible rename News _ _ _ _ => N6)
    refine LCg.CompSrc.range (n := many.toNat) hh F6 N6 (by assumption) (small_few' (by (first | lia | omega)) (by (first | lia | omega))) (size_few (by (first | lia | omega))) (by rw [sizeLine_eq]; (first | lia | omega)) fun g2 => ?_
    (try clear F5); (try clear F6); (try clear N6); (try clear N3); (try clear F3)
    refine comp_invC (RowsJ L' b oE oM oL oB letters many edge) ?_ ?_ fun G kJ => kJ [] o [] (hB.up (by (first | lia | omega))) (fun _ h => nomatch h) rfl ⟨rfl, fun _ _ h => by simp at h⟩ fun _ _ h => by simp at h
    · rintro i ys hin v I oI Cc oC D m₂ hA1 tkA E' ⟨tv, hv⟩ hC hx' hneI
      intro nl o rows hB nb rl hrs hgd FA NA off
      subst hv
      have hilt : (i : Int) < many := by (first | lia | omega)
      have mE : (L' + 1 + 1 + 1 + 1, oE) ∈ nl ++ [(L' + 1 + 1 + 1 + 1, oE), (L' + 1 + 1 + 1, oM), (L' + 1 + 1, oL), (L' + 1, oB), (b, o)] := List.mem_append_right _ (.head _)
      have mM : (L' + 1 + 1 + 1, oM) ∈ nl ++ [(L' + 1 + 1 + 1 + 1, oE), (L' + 1 + 1 + 1, oM), (L' + 1 + 1, oL), (L' + 1, oB), (b, o)] := List.mem_append_right _ (.tail _ (.head _))
      have mL : (L' + 1 + 1, oL) ∈ nl ++ [(L' + 1 + 1 + 1 + 1, oE), (L' + 1 + 1 + 1, oM), (L' + 1 + 1, oL), (L' + 1, oB), (b, o)] := List.mem_append_right _ (.tail _ (.tail _ (.head _)))
      have mB : (L' + 1, oB) ∈ nl ++ [(L' + 1 + 1 + 1 + 1, oE), (L' + 1 + 1 + 1, oM), (L' + 1 + 1, oL), (L' + 1, oB), (b, o)] := List.mem_append_right _ (.tail _ (.tail _ (.tail _ (.head _))))
      have mb : (b, o) ∈ nl ++ [(L' + 1 + 1 + 1 + 1, oE), (L' + 1 + 1 + 1, oM), (L' + 1 + 1, oL), (L' + 1, oB), (b, o)] := List.mem_append_right _ (.tail _ (.tail _ (.tail _ (.tail _ (.head _)))))
      k_with "svB264" => skip
      k_with "call ref" => ((fail_if_success (k_extra "svB265")); (k_here; k_dflt (k_extra "my call B265")))
      k_with "ite" => ((fail_if_success (k_extra "svB265")); (k_here; k_dflt (k_extra "my ite B265")))
      repeat' ((fail_if_success (with_reducible show wpAny _ _ (call (Value.ref 484) _) _ _ _)); first | (k_unfold; (try dsimp only)) | (dsimp only; k_unfold; (try dsimp only)) | ((fail_if_success (with_reducible show Exists _)); (fail_if_success (with_reducible show LeaveK h₀ L m g _ _ _)); first | walk1 | (dsimp only; (fail_if_success (with_reducible show Exists _)); (fail_if_success (with_reducible show LeaveK h₀ L m g _ _ _)); walk1)))
      (with_reducible rename Fr _ _ _ _ => F7); (with_reducible rename News _ _ _ _ => N7)
      refine row_spec (Cx.deeperX B F7 X T hh rfl rfl) (news_sub N7 (b := [(b, o)]) (List.forall_mem_cons.mpr ⟨.tail _ (.tail _ (.tail _ mb)), fun _ h => nomatch h⟩)) (by first | exact le_up (d := 1) hd rfl | (simp only [depth_deeper]; (first | lia | omega))) (by first | exact le_up (d := 3) hu rfl | (simp only [units_deeper]; (first | lia | omega))) hB (by (first | lia | omega)) (by (first | lia | omega)) (by (first | lia | omega)) (by (first | lia | omega)) (by (first | lia | omega)) l0 l1 hE ?_
      intro q r t0 t1 t2 t3 o' hw1 tkw Fw Nw Kw fq hB' hg
      rw [Int.zero_add] at hg
      have ofm := fun p hp => LCg.Off3.mem off p hp
      have hpre : ∀ p ∈ (I, oI) :: (Cc, oC) :: (D, LCg.lst ys) :: (nl ++ [(L' + 1 + 1 + 1 + 1, oE), (L' + 1 + 1 + 1, oM), (L' + 1 + 1, oL), (L' + 1, oB)]), @Ne Nat p.1 b := List.forall_mem_cons.mpr ⟨Ne.symm (ofm _ mb).1, List.forall_mem_cons.mpr ⟨Ne.symm (ofm _ mb).2.1, List.forall_mem_cons.mpr ⟨Ne.symm (ofm _ mb).2.2, fun p hp => by
        rcases List.mem_append.mp hp with hp | hp
        · exact nb p hp
        · exact (List.forall_mem_cons.mpr ⟨nE, List.forall_mem_cons.mpr ⟨nM, List.forall_mem_cons.mpr ⟨nL, List.forall_mem_cons.mpr ⟨nB, fun _ h => nomatch h⟩⟩⟩⟩ : ∀ p ∈ [(L' + 1 + 1 + 1 + 1, oE), (L' + 1 + 1 + 1, oM), (L' + 1 + 1, oL), (L' + 1, oB)], @Ne Nat p.1 b) p hp⟩⟩⟩
      have N8 := led_upd (pre := (I, oI) :: (Cc, oC) :: (D, LCg.lst ys) :: (nl ++ [(L' + 1 + 1 + 1 + 1, oE), (L' + 1 + 1 + 1, oM), (L' + 1 + 1, oL), (L' + 1, oB)])) (news_sub N7 (fun p hp => by
        simp only [List.cons_append, List.append_assoc, List.nil_append] at hp
        exact hp)) hpre Kw (nw := [(q, tupO [.int r.skip t0, .int r.follow t1, .int r.op t2, .int r.rest t3])]) Nw
      have fq' := news_none N7 fq
      refine LCg.CompEnd.intro Fw N8 ((q, tupO [.int r.skip t0, .int r.follow t1, .int r.op t2, .int r.rest t3]) :: (nl ++ [(L' + 1 + 1 + 1 + 1, oE), (L' + 1 + 1 + 1, oM), (L' + 1 + 1, oL), (L' + 1, oB), (b, o')])) (fun p hp => ?_) ⟨⟨Ne.symm (fq' _ (.head _)), Ne.symm (fq' _ (.tail _ (.head _))), Ne.symm (fq' _ (.tail _ (.tail _ (.head _))))⟩, off3_of fun p hp => ?_⟩ trivial (fun G kJ => kJ ((q, tupO [.int r.skip t0, .int r.follow t1, .int r.op t2, .int r.rest t3]) :: nl) o' (rows ++ [r]) (hB'.up (by (first | lia | omega))) (List.forall_mem_cons.mpr ⟨Ne.symm (fq' _ (.tail _ (.tail _ (.tail _ mb)))), nb⟩) (by rw [List.length_append, rl]; rfl) hrs.snoc (fun j r' hj => ?_))
      · simp only [List.mem_cons, List.mem_append, List.cons_append, List.nil_append, List.not_mem_nil, or_false] at hp ⊢
        rcases hp with rfl | rfl | rfl | rfl | hp | rfl | rfl | rfl | rfl | rfl <;> simp [*]
      · rcases List.mem_append.mp hp with hp | hp
        · exact ofm p (List.mem_append_left _ hp)
        · simp only [List.mem_cons, List.not_mem_nil, or_false] at hp
          rcases hp with rfl | rfl | rfl | rfl | rfl
          · exact ofm _ mE
          · exact ofm _ mM
          · exact ofm _ mL
          · exact ofm _ mB
          · exact ofm (b, o) mb
      · by_cases hj2 : j < rows.length
        · rw [List.getElem?_append_left hj2] at hj
          exact hgd j r' hj
        · rw [List.getElem?_append_right (by (first | lia | omega))] at hj
          have : j - rows.length = 0 := by
            rcases Nat.eq_zero_or_pos (j - rows.length) with h0 | h0
            · exact h0
            · rw [List.getElem?_eq_none (by simp; (first | lia | omega))] at hj; cases hj
          rw [this] at hj
          obtain rfl : r = r' := by simpa using hj
          rw [show j = i by (first | lia | omega)]
          exact hg
    · intro ys nl o rows hB nb rl hrs hgd D hA2 tk2 F2 N2 o2
      have hrl : (rows.length : Int) = many := by (first | lia | omega)
      exact fun P kJ => kJ hA2 _ _ o ys rows D nl oE oM oL oB letters edge tl te tmn F2 (news_sub N2 (fun p hp => by
        simp only [List.mem_cons, List.mem_append, List.not_mem_nil, or_false] at hp ⊢
        rcases hp with rfl | rfl | rfl | rfl | rfl | rfl | hp <;> simp [*])) rfl dE (by rw [hrl]; exact dM) dL dB (hB.up (by (first | lia | omega))) l0 l1 hE hrs (fun j r h => by rw [hrl]; exact hgd j r h) (by (first | lia | omega)) (by (first | lia | omega)) nb (Ne.symm (off1_mem o2 (b, o) (List.mem_append_right _ (.tail _ (.tail _ (.tail _ (.tail _ (.head _))))))))
  clear dE dM dL dB hE l0 l1 y0 y1 nE nM nL nB hB
  intro h4 tk4 m4 o ys rows Dr nl oE oM oL oB letters edge tl te tmn F4 N4 e1 dE dM dL dB hB l0 l1 hE hrs hgood r0 r1 nbl nbD
  (try dsimp only)
  have nE := cell_ne N4 (.tail _ (.head _)) (.tail _ (.tail _ (.tail _ (.tail _ (.tail _ (.head _)))))) dE hB
  have nM := cell_ne N4 (.tail _ (.tail _ (.head _))) (.tail _ (.tail _ (.tail _ (.tail _ (.tail _ (.head _)))))) dM hB
  have nL := cell_ne N4 (.tail _ (.tail _ (.tail _ (.head _)))) (.tail _ (.tail _ (.tail _ (.tail _ (.tail _ (.head _)))))) dL hB
  have nB := cell_ne N4 (.tail _ (.tail _ (.tail _ (.tail _ (.head _))))) (.tail _ (.tail _ (.tail _ (.tail _ (.tail _ (.head _)))))) dB hB
  k_with "svB265" => skip
  k_with "call ref" => ((fail_if_success (k_extra "svB266")); (k_here; k_dflt (k_extra "my call B266")))
  k_with "ite" => ((fail_if_success (k_extra "svB266")); (k_here; k_dflt (k_extra "my ite B266")))
  repeat' ((fail_if_success (with_reducible show wpAny _ _ (eval (Expr.Dict _ _ _) _) _ _ _)); first | (k_unfold; (try dsimp only)) | (dsimp only; k_unfold; (try dsimp only)) | ((fail_if_success (with_reducible show Exists _)); (fail_if_success (with_reducible show LeaveK h₀ L m g _ _ _)); first | walk1 | (dsimp only; (fail_if_success (with_reducible show Exists _)); (fail_if_success (with_reducible show LeaveK h₀ L m g _ _ _)); walk1)))
  (with_reducible rename Fr _ _ _ _ => F5); (with_reducible rename News _ _ _ _ => N5)
  refine kdn_eval (knd := intKind PySem.Challenge.rw_sq0044_01.row.prog w) F5 N5 T.nolimit (by rfl) (by rfl) (by simp) (by decide) ?_
  intro Dc h6 oC F6 N6 ltD loD hoC
  clear F5 N5
  have neD : ∀ p ∈ (Dr, LCg.lst ys) :: (L' + 1 + 1 + 1 + 1, oE) :: (L' + 1 + 1 + 1, oM) :: (L' + 1 + 1, oL) :: (L' + 1, oB) :: (b, o) :: nl, p.1 ≠ Dc := fun p hp => Nat.ne_of_lt (ltD p hp)
  repeat' ((fail_if_success (with_reducible show wpAny _ _ (exec (Stmt.For _ _ _ _ _) _) _ _ _)); first | (k_unfold; (try dsimp only)) | (dsimp only; k_unfold; (try dsimp only)) | ((fail_if_success (with_reducible show Exists _)); (fail_if_success (with_reducible show LeaveK h₀ L m g _ _ _)); first | walk1 | (dsimp only; (fail_if_success (with_reducible show Exists _)); (fail_if_success (with_reducible show LeaveK h₀ L m g _ _ _)); walk1)))
  refine For_invV g (by rfl) (by rfl) ?_
  repeat' ((fail_if_success (with_reducible show wpAny _ _ (pyIter _) _ _ _)); first | (k_unfold; (try dsimp only)) | (dsimp only; k_unfold; (try dsimp only)) | ((fail_if_success (with_reducible show Exists _)); (fail_if_success (with_reducible show LeaveK h₀ L m g _ _ _)); first | walk1 | (dsimp only; (fail_if_success (with_reducible show Exists _)); (fail_if_success (with_reducible show LeaveK h₀ L m g _ _ _)); walk1)))
  (with_reducible rename Fr _ _ _ _ => F8); (with_reducible rename News _ _ _ _ => N8)
  (with_reducible rename Obj.IsDictOf _ _ _ => hoC2)
  have yy := (by assumption : Dc < _ ∧ Dr < _ ∧ L' + 1 + 1 + 1 + 1 < _ ∧ L' + 1 + 1 + 1 < _ ∧ L' + 1 + 1 < _ ∧ L' + 1 < _ ∧ b < _ ∧ AllLt _ nl)
  have y1 := yy.1
  have y7 := yy.2.2.2.2.2.2.1
  have nDb : @Ne Nat Dc b := Ne.symm (neD (b, o) (.tail _ (.tail _ (.tail _ (.tail _ (.tail _ (.head _)))))))
  refine iter_range_C (n := letters.toNat) hh F8 (news_sub N8 (b := (Dc, _) :: (Dr, LCg.lst ys) :: (L' + 1 + 1 + 1 + 1, oE) :: (L' + 1 + 1 + 1, oM) :: (L' + 1 + 1, oL) :: (L' + 1, oB) :: (b, o) :: (_, _) :: nl) (by k_extra "my sub")) (by assumption) (small_few' (by (first | lia | omega)) (by (first | lia | omega))) (size_few (by (first | lia | omega))) (CharsJ w L' b Dr Dc oE oM oL oB ys rows letters) ?_ ?_ ?_
  · refine fun G kJ => kJ _ o _ _ [] ((_, _) :: nl) (by rfl) e1 hoC2 (hB.up (by (first | lia | omega))) ⟨rfl, fun i c h => ?_⟩ rfl (fun _ h => nomatch h) (fun k h1 h2 => by (first | lia | omega)) (List.forall_mem_cons.mpr ⟨Ne.symm (Nat.ne_of_lt y7), nbl⟩) (fun p hp => ?_) (hrs.mono fun _ _ => .tail _)
    · cases i with
      | zero =>
        obtain rfl : _ = c := Option.some.inj h
        exact ⟨_, rfl, _, _, _, _, _, _, ⟨_, .head _, rfl, _, rfl⟩⟩
      | succ i => simp at h
    · simp only [List.mem_cons] at hp
      rcases hp with rfl | rfl | rfl | rfl | rfl | rfl | rfl | hp
      · exact neD _ (.head _)
      · exact neD _ (.tail _ (.head _))
      · exact neD _ (.tail _ (.tail _ (.head _)))
      · exact neD _ (.tail _ (.tail _ (.tail _ (.head _))))
      · exact neD _ (.tail _ (.tail _ (.tail _ (.tail _ (.head _)))))
      · exact neD _ (.tail _ (.tail _ (.tail _ (.tail _ (.tail _ (.head _))))))
      · exact Ne.symm (Nat.ne_of_lt y1)
      · exact neD _ (.tail _ (.tail _ (.tail _ (.tail _ (.tail _ (.tail _ hp))))))
  · intro i t' h8 tk8 I oI hi
    intro m₅ o oC kvs ces rest f1 f2 hoC hB hkv hcl hcg hce nrb nrD hrs hne F9 N9
    have nIb : @Ne Nat I b := Ne.symm (hne (b, o) (.tail _ (.tail _ (.tail _ (.tail _ (.tail _ (.tail _ (.head _))))))))
    have nID : @Ne Nat I Dc := Ne.symm (hne (Dc, oC) (.head _))
    (try clear F8); (try clear N8); (try clear hoC2)
    k_with "svB266" => skip
    k_with "call ref" => ((fail_if_success (k_extra "svB267")); (k_here; k_dflt (k_extra "my call B267")))
    k_with "ite" => ((fail_if_success (k_extra "svB267")); (k_here; k_dflt (k_extra "my ite B267")))
    k_with "my ite B267" => ((first | refine split_dec ?_ ?_ | refine split_bne ?_ ?_) <;> intro hz9 <;> first | exact absurd rfl hz9 | (exfalso; (first | lia | omega)) | skip)
    k_with "my call B267" => (refine draw_u (Cx.deeperX (by k_asm) (by k_asm) (by k_asm) (by k_asm) (by k_asm) rfl rfl) (by k_asm) (by k_updF) (by first | exact le_up (d := 1) hd rfl | (simp only [depth_deeper]; (first | lia | omega))) (by first | exact le_up (d := 3) hu rfl | (simp only [units_deeper]; (first | lia | omega))) (by assumption) (by (first | lia | omega)) (by (first | lia | omega)) (by (first | lia | omega)) ?_; intro d td o' hw1 tkw Fw Nw Kw hBw a1 a2; (try k_sweep))
    repeat' ((fail_if_success (with_reducible show wpAny _ _ (setItem _ _ _) _ _ _)); first | (k_unfold; (try dsimp only)) | (dsimp only; k_unfold; (try dsimp only)) | ((fail_if_success (with_reducible show Exists _)); (fail_if_success (with_reducible show LeaveK h₀ L m g _ _ _)); first | walk1 | (dsimp only; (fail_if_success (with_reducible show Exists _)); (fail_if_success (with_reducible show LeaveK h₀ L m g _ _ _)); walk1)))
    all_goals (
      (with_reducible rename Fr _ _ _ _ => F7); (with_reducible rename News _ _ _ _ => N7)
      have hklen : kvs.length = i + 1 := by rw [hkv.1, List.length_cons, hcl]
      have nrD2 : ∀ p ∈ (Dr, LCg.lst ys) :: (L' + 1 + 1 + 1 + 1, oE) :: (L' + 1 + 1 + 1, oM) :: (L' + 1 + 1, oL) :: (L' + 1, oB) :: (b, o') :: rest, @Ne Nat p.1 Dc := fun p hp => by
        simp only [List.mem_cons] at hp
        rcases hp with rfl | rfl | rfl | rfl | rfl | rfl | hp
        · exact nrD _ (.head _)
        · exact nrD _ (.tail _ (.head _))
        · exact nrD _ (.tail _ (.tail _ (.head _)))
        · exact nrD _ (.tail _ (.tail _ (.tail _ (.head _))))
        · exact nrD _ (.tail _ (.tail _ (.tail _ (.tail _ (.head _)))))
        · exact nrD (b, o) (.tail _ (.tail _ (.tail _ (.tail _ (.tail _ (.head _))))))
        · exact nrD _ (.tail _ (.tail _ (.tail _ (.tail _ (.tail _ (.tail _ hp))))))
      refine kda_set (knd := intKind PySem.Challenge.rw_sq0044_01.row.prog w) F7 N7 (by k_updF) hoC (intKind_is _ w _ _) (by rw [sizeLine_eq]; (first | lia | omega)) ?_
      intro h9 oC' F10 N10 hoC'
      (try clear F7); (try clear N7)
      repeat' (first | (k_unfold; (try dsimp only)) | (dsimp only; k_unfold; (try dsimp only)) | ((fail_if_success (with_reducible show Exists _)); (fail_if_success (with_reducible show LeaveK h₀ L m g _ _ _)); first | walk1 | (dsimp only; (fail_if_success (with_reducible show Exists _)); (fail_if_success (with_reducible show LeaveK h₀ L m g _ _ _)); walk1)))
      (with_reducible rename Fr _ _ _ _ => F11); (with_reducible rename News _ _ _ _ => N11))
    all_goals (have zz := (by assumption : I < _ ∧ Dc < _ ∧ Dr < _ ∧ L' + 1 + 1 + 1 + 1 < _ ∧ L' + 1 + 1 + 1 < _ ∧ L' + 1 + 1 < _ ∧ L' + 1 < _ ∧ b < _ ∧ AllLt _ rest); have z1 := zz.1; have z2 := zz.2.1; have z8 := zz.2.2.2.2.2.2.2.1)
    · refine chars_end (kvs := kvs) (ces := ces ++ [⟨(i : Int) + 1, 1000 * (i : Int) + 100, 1, d⟩]) (by exact f1) (by exact f2) F11 (news_sub N11 (b := (I, oI) :: (Dc, oC') :: (Dr, LCg.lst ys) :: (L' + 1 + 1 + 1 + 1, oE) :: (L' + 1 + 1 + 1, oM) :: (L' + 1 + 1, oL) :: (L' + 1, oB) :: (b, o') :: (_, _) :: rest) (by k_extra "my sub")) hne nID nIb z1 z2 z8 nrb nrD2 hrs (hBw.up (by (first | lia | omega))) ?_
      exact chars_next (so := 1) (re := d) (many := rows.length) hkv hcl hcg hce (by (first | lia | omega)) l1 hoC' ⟨⟨by dsimp only; (first | lia | omega), by dsimp only; (first | lia | omega)⟩, ⟨by dsimp only; (first | lia | omega), by dsimp only; (first | lia | omega)⟩, .inr rfl, ⟨a1, by dsimp only; (first | lia | omega)⟩, fun _ => hz9⟩
    · refine chars_end (kvs := kvs) (ces := ces ++ [⟨(i : Int) + 1, 1000 * (i : Int) + 100, 0, 0⟩]) (by exact f1) (by exact f2) F11 (news_sub N11 (b := (I, oI) :: (Dc, oC') :: (Dr, LCg.lst ys) :: (L' + 1 + 1 + 1 + 1, oE) :: (L' + 1 + 1 + 1, oM) :: (L' + 1 + 1, oL) :: (L' + 1, oB) :: (b, o') :: (_, _) :: rest) (by k_extra "my sub")) hne nID nIb z1 z2 z8 nrb nrD2 hrs (hBw.up (by (first | lia | omega))) ?_
      exact chars_next (so := 0) (re := 0) (many := rows.length) hkv hcl hcg hce (by (first | lia | omega)) l1 hoC' ⟨⟨by dsimp only; (first | lia | omega), by dsimp only; (first | lia | omega)⟩, ⟨by dsimp only; (first | lia | omega), by dsimp only; (first | lia | omega)⟩, .inl rfl, ⟨by dsimp only; (first | lia | omega), by dsimp only; (first | lia | omega)⟩, fun h => absurd h (by dsimp only; (first | lia | omega))⟩
  · intro h10 tk10
    intro m10 o oC kvs ces rest f1 f2 hoC hB hkv hcl hcg hce nrb nrD hrs F10 N10
    have hyl : ys.length ≤ 7 := by rw [hrs.1]; exact r1
    (try clear F8); (try clear N8); (try clear hoC2)
    k_with "svB267" => skip
    k_with "call ref" => ((fail_if_success (k_extra "svB268")); (k_here; k_dflt (k_extra "my call B268")))
    k_with "ite" => ((fail_if_success (k_extra "svB268")); (k_here; k_dflt (k_extra "my ite B268")))
    repeat' ((fail_if_success (with_reducible show wpAny _ _ (call (Value.ref 271) _) _ _ _)); first | (k_unfold; (try dsimp only)) | (dsimp only; k_unfold; (try dsimp only)) | ((fail_if_success (with_reducible show Exists _)); (fail_if_success (with_reducible show LeaveK h₀ L m g _ _ _)); first | walk1 | (dsimp only; (fail_if_success (with_reducible show Exists _)); (fail_if_success (with_reducible show LeaveK h₀ L m g _ _ _)); walk1)))
    (with_reducible rename Fr _ _ _ _ => F11); (with_reducible rename News _ _ _ _ => N11)
    have hD := (Heap.dictOf_iff.mpr ⟨oC, (N11 _ (.tail _ (.tail _ (.tail _ (.head _))))).1, hoC⟩ : Heap.DictOf (intKind PySem.Challenge.rw_sq0044_01.row.prog w) _ Dc kvs)
    have hnd := dict_nodup hD
    have hlast := List.getElem?_eq_getElem (show rows.length - 1 < rows.length by (first | lia | omega))
    have hcg' : ∀ c ∈ (⟨letters + 2, 70001, 0, 0⟩ :: ces : List CharE), CharGood c rows.length := List.forall_mem_cons.mpr ⟨⟨⟨by dsimp only; (first | lia | omega), by dsimp only; (first | lia | omega)⟩, ⟨by dsimp only; (first | lia | omega), by dsimp only; (first | lia | omega)⟩, .inl rfl, ⟨by dsimp only; (first | lia | omega), by dsimp only; (first | lia | omega)⟩, fun h => absurd h (by dsimp only; (first | lia | omega))⟩, fun c hc => (hcg c hc).1⟩
    have hkl := hkv.1
    rw [List.length_cons, hcl] at hkl
    refine font_call (P := MemP _) (letters := letters) (Cx.deeperX B F11 X T hh rfl rfl) (by first | exact le_up (d := 1) hd rfl | (simp only [depth_deeper]; (first | lia | omega))) (fun a o h => (N11 (a, o) h).1) ⟨_, .tail _ (.tail _ (.head _)), rfl, _, rfl⟩ hD loD (hkv.mono fun _ _ h => .tail _ (.tail _ (.tail _ (.tail _ (.tail _ (.tail _ (.tail _ (.tail _ (.tail _ (.tail _ h)))))))))) hcg'
      ⟨_, .tail _ (.head _), rfl, _, rfl⟩ (hrs.mono fun _ _ h => .tail _ (.tail _ (.tail _ (.tail _ (.tail _ (.tail _ (.tail _ (.tail _ (.tail _ (.tail _ h)))))))))) ⟨_, .head _, rfl, _, rfl⟩ hgood (fun c h1 h2 => ?_) (by (first | lia | omega)) (by (first | lia | omega)) hlast hE ?_
    · obtain ⟨c0, hc0, rfl⟩ := hce c h1 (by (first | lia | omega))
      obtain ⟨p, hp⟩ := charOfE_some (.tail _ hc0 : c0 ∈ (⟨letters + 2, 70001, 0, 0⟩ :: ces : List CharE))
      obtain ⟨r, e, _⟩ := chars_some hkv hnd (so := p.1) (re := p.2) hp
      rw [e]; rfl
    · intro fl ol hA tkA FA NA frA fA KA
      have N12 := news_app NA (news_keep0 N11 KA)
      (try clear F11); (try clear N11); (try clear F10); (try clear N10)
      repeat' (first | (k_unfold; (try dsimp only)) | (dsimp only; k_unfold; (try dsimp only)) | ((fail_if_success (with_reducible show Exists _)); (fail_if_success (with_reducible show LeaveK h₀ L m g _ _ _)); first | walk1 | (dsimp only; (fail_if_success (with_reducible show Exists _)); (fail_if_success (with_reducible show LeaveK h₀ L m g _ _ _)); walk1)))
      ((try dsimp only); (try k_unfold); (try dsimp only); (with_reducible rename Fr _ _ _ _ => cF); (with_reducible rename News _ _ _ _ => cN); refine leaveK_ cF cN ?_; intro kF kN; (try dsimp only [InitBack]); (try refine ⟨rfl, ?_⟩); (try dsimp only))
      exact ret _ fl _ letters _ _ _ _ (lawfont_of l0 l1 hE r0 r1 hgood hlast hcl hcg hce) kF kN (fA.mono fun a o h => h.elim (fun h => List.mem_append_left _ h) (fun h => List.mem_append_right _ h)) (fun a o e n => cF.keep a o (G a o e n)) (fun p hp hne => fresh_off G (fun h => hne (List.mem_singleton.mp h)) (cN p hp).2.2)
end Mine
theorem Mine.fresh_B27 : True := by w_top off; k_with_none; trivial
namespace Mine
theorem IntsV.of {vs : List Value} {ns : List Int} (h : IntsAre vs ns) : IntsV vs ns := by
  induction h with
  | nil => exact IntsV.nil
  | cons k t r ih => exact (IntsV.one k t).append ih
theorem two_cells {cm : Str → Option Value} {n n' : Str} {c c' : Addr} {o o' : Obj} (X : CellsAre cm [(n, c), (n', c')] [(c, o), (c', o')]) : o.data = .cell (cm n) ∧ o'.data = .cell (cm n') := by
  obtain ⟨_, _, hE, d, d'⟩ := CellsAre.two X
  cases hE
  exact ⟨d, d'⟩
theorem turn_un {g g' h : Heap} {L : Addr} {m : Str → Option Value} (T : KtsTurn [] g g') (F : Fr g' L h m) : Fr g L h m := ⟨F.ns, fun b o e => F.keep b o (T.other b o e (by simp)), by rw [← T.size]; exact F.above⟩
theorem turn_unN {g g' h : Heap} {L : Addr} {nw : List (Addr × Obj)} (T : KtsTurn [] g g') (N : News g' L h nw) : News g L h nw := fun p hp => ⟨(N p hp).1, (N p hp).2.1, by
  cases q : g.get? p.1 with
  | none => rfl
  | some o => have := T.other _ _ q (by simp); rw [(N p hp).2.2] at this; cases this⟩
theorem KeptF.off {g h h' : Heap} {L : Addr} {nw : List (Addr × Obj)} (K : KeptF [L] h h') (N : News g L h nw) : News g L h' nw := fun p hp => ⟨K _ _ (N p hp).1 (by simpa using (N p hp).2.1), (N p hp).2⟩
theorem CxT.deeperX {w : World} {A : Around} {fs : List Addr} {g h base : Heap} {outer : List Env} {L : Addr} {m : Str → Option Value} {env : Env} {p : Program} {loose : List Str} {mean : ExcName → Option Value} {mg mb : Str → Option Value}
    (B : Below A base outer g) (F : Fr g L h m) (X : (Mine.kk.heap_1 w.params).In base) (T : Top p loose mean mg mb base) (hh : A.handled = none) (D : KtsDicts (outer.filterMap (·.frame)) g) (e : outer.filterMap (·.frame) = fs) (hf : env.frame = some L) (hk : env.scope.kind = .function) : CxT w (A.deeper env) fs g L h m :=
  ⟨A, base, outer, env, p, loose, mean, mg, mb, B, F, X, T, Around.frames_deeper B.stack, hf, hk, hh, D, e⟩
theorem len_ints {prog : Program} {w : World} {A : Around} {E : Value → Shared → Prop} {s : Shared} {l : Addr} {vs : List Value} {ns : List Int} {Q : Value → Shared → Prop} (hl : s.heap.IsList l vs.toArray) (iv : IntsV vs ns) (hn : ns.length ≤ 100)
    (h : Q (.int ns.length (s.toks + 1)) { s with toks := s.toks + 1 + 1 }) : wpAny (model prog w) A (call (.builtin "len") [.ref l]) Q E s := by
  have e : (vs.toArray.size : Int) = ns.length := by rw [List.size_toArray, iv.1]
  refine call_len_list hl (by (first | lia | omega)) ?_
  rw [e]
  exact h
theorem turns_of {n : Nat} : ∃ k : Nat, (if (if (n : Int) < 4 then (n : Int) else 4) > 2 then if (n : Int) < 4 then (n : Int) else 4 else 2) = 1 + k ∧ Builtin.Range.small 1 (1 + (k : Int)) 1 = true ∧ Builtin.Range.rangeSize 1 (1 + (k : Int)) 1 = (k : Nat) ∧ k ≤ 3 ∧ (k : Int) < max 2 n := by
  rcases Nat.lt_or_ge n 3 with h | h
  · refine ⟨1, ?_, by decide, by decide, by decide, ?_⟩
    · rw [if_neg]; rfl
      split <;> (first | lia | omega)
    · (first | lia | omega)
  rcases Nat.lt_or_ge n 4 with h | h
  · refine ⟨2, ?_, by decide, by decide, by decide, ?_⟩
    · rw [if_pos (by split <;> (first | lia | omega)), if_pos (by (first | lia | omega))]; (first | lia | omega)
    · (first | lia | omega)
  · refine ⟨3, ?_, by decide, by decide, by decide, ?_⟩
    · rw [if_pos (by split <;> (first | lia | omega)), if_neg (by (first | lia | omega))]; rfl
    · (first | lia | omega)
/-- what law's loop keeps -/
noncomputable def LawJ (L : Addr) (q : Addr) (fl : FontL) (letters : Int) (tl : Tok) (ol : List (Addr × Obj)) (la : Addr) (_ : Nat) (P : (Str → Option Value) → List (Addr × Obj) → Prop) : Prop :=
  ∀ m' oBa oLe v, m' (Str.ofString "font") = some (.ref fl.x) → m' (Str.ofString "script") = some (.ref la) → oBa.data = .cell v → oLe.data = .cell (some (.int letters tl)) → P m' ((L + 1 + 1, oBa) :: (L + 1, oLe) :: (q, tupO [.ref fl.x, .int letters tl]) :: ol)
/-- what stands in law's turn -/
noncomputable def DrJ (L : Addr) (s : Shared) (g : Heap) (b : Addr) (R : List (Addr × Obj)) (flx la : Addr) (n : Int) (X : (Str → Option Value) → List (Addr × Obj) → Prop → Prop) (P : Flow → Shared → Prop) : Prop :=
  ∀ h' tk' m' nl o, Fr g L h' m' → News g L h' (nl ++ (b, o) :: R) → m' (Str.ofString "font") = some (.ref flx) → m' (Str.ofString "script") = some (.ref la) → BagOK o n → (∀ p ∈ nl, @Ne Nat p.1 b) → X m' nl (P .next { s with heap := h', toks := tk' })
/-- a drawn list -/
noncomputable def OneJ (b : Addr) (F : Obj → List (Addr × Obj)) (letters n : Int) (i : Nat) (ys : List Value) (G : List (Addr × Obj) → Prop) : Prop :=
  ∀ o cs, BagOK o (n + (i : Int)) → IntsV ys cs → cs.length = i → Lets letters cs → G (F o)
theorem OneJ.next {b : Addr} {F : Obj → List (Addr × Obj)} {letters n d : Int} {t : Tok} {i : Nat} {ys : List Value} {o : Obj} {cs : List Int} (hB : BagOK o (n + (i : Int) + 1)) (x : IntsV ys cs) (hl : cs.length = i) (hc : Lets letters cs) (h0 : 1 ≤ d) (h1 : d ≤ letters) (G : List (Addr × Obj) → Prop) (k : OneJ b F letters n (i + 1) (ys ++ [.int d t]) G) : G (F o) :=
  k o (cs ++ [d]) (hB.up (by (first | lia | omega))) (x.append (IntsV.one d t)) (by rw [List.length_append, hl]; rfl) fun c h => by
    rcases List.mem_append.mp h with h | h
    · exact hc c h
    · rw [List.mem_singleton.mp h]; exact ⟨h0, h1⟩
end Mine
open Mine
theorem Mine.lnB27_0 : True := by
  k_with "execs cons" => (k_here; (with_reducible refine PySem.wpAny_execs_cons ?_); (try dsimp only); k_fold)
  k_with "execs cons" => (k_here; (with_reducible refine toks_gen ?_); intro _)
  k_with "eval Call" => (k_here; (with_reducible show wpAny _ _ (eval (Expr.Call (Expr.Name _ _) _ [] _) (envOf _ _ _ _ _)) _ _ _); k_dflt (refine call_named (by k_asm) (by k_asm) (by k_asm) (by k_is) (by k_is) (by (repeat' (first | exact ArgsV.nil | refine' ArgsV.loc (by first | exact rfl | assumption) rfl (by decide) ?_ | refine' ArgsV.int ?_ | refine' ArgsV.bool ?_ | refine' ArgsV.none ?_)); done) ?_))
  k_with "my sub" => first | exact List.forall_mem_nil _ | (refine' List.forall_mem_cons.mpr ⟨?_, ?_⟩; (· k_mem); (· k_extra "my sub")) | (intro q hq; repeat (first | exact hq | refine List.Mem.tail _ ?_))
  k_with "call type:tuple" => (k_here; (with_reducible show wpAny _ _ (call (Value.type _) [Value.ref _]) _ _ _); k_dflt (refine tuple_list_M (by k_asm) (by k_asm) (by k_mem) (by (first | lia | omega)) ?_); intro _ _ _ _ lz9; (try k_lt lz9); (try k_sweep))
  k_with "call ref" => ((fail_if_success (k_extra "svB270")); (k_here; k_dflt (k_extra "my call B270")))
  trivial
theorem Mine.ownB27_0 : True := by
  k_with "own k_ne" => (refine neN ?_; (try dsimp only); first | (with_reducible assumption) | (refine Ne.symm ?_; with_reducible assumption))
  trivial
local macro_rules | `(tactic| k_qdec) => `(tactic| decide +kernel)
theorem Mine.lnB27_1 : True := by
  k_with "eval Name" => (k_here; (with_reducible show wpAny _ _ (eval (Expr.Name _ _) (compEnvC _ _ _ _)) _ _ _); k_dflt (refine cell_in (by rfl) (by rfl) (by k_asm) (by rfl) (by (repeat (first | assumption | refine List.Mem.tail _ ?_))) (by assumption) ?_; k_whole))
  k_with "ite" => ((fail_if_success (k_extra "svB270")); (k_here; k_dflt (k_extra "my ite B270")))
  k_with "eval Name" => (k_here; (with_reducible show wpAny _ _ (eval (Expr.Name _ _) (envOfC _ _ _ _ _)) _ _ _); k_dflt (refine nameX_L (by k_asm) (by assumption) ?_; k_whole))
  trivial
theorem PySem.Challenge.cw_sq0044_01_holds : PySem.Challenge.rw_sq0044_01.Holds := by
  refine Mine.hd (by
    k_go0
    (with_reducible rename Below _ _ _ _ => K0)
    (with_reducible rename Frag.In _ _ => KX)
    (with_reducible rename Heap.IsList _ _ _ => hLs)
    (with_reducible rename IntsAre _ _ => hIs)
    (with_reducible rename Fr _ _ _ _ => F0)
    (with_reducible rename News _ _ _ _ => N0)
    (with_reducible rename CellsAre _ _ _ => X0)
    (with_reducible rename ¬ _ < _ => hcond)
    rename Top _ _ _ _ _ _ => T0
    have iv := IntsV.of hIs
    clear hIs
    (try dsimp only)
    (try k_fold)
    k_with "svB270" => skip
    k_with "call ref" => ((fail_if_success (k_extra "svB271")); (k_here; k_dflt (k_extra "my call B271")))
    k_with "ite" => ((fail_if_success (k_extra "svB271")); (k_here; k_dflt (k_extra "my ite B271")))
    repeat' ((fail_if_success (with_reducible show wpAny _ _ (call (Value.ref 463) _) _ _ _)); first | (k_unfold; (try dsimp only)) | (dsimp only; k_unfold; (try dsimp only)) | ((fail_if_success (with_reducible show Exists _)); (fail_if_success (with_reducible show LeaveK h₀ L m g _ _ _)); first | walk1 | (dsimp only; (fail_if_success (with_reducible show Exists _)); (fail_if_success (with_reducible show LeaveK h₀ L m g _ _ _)); walk1)))
    obtain ⟨oBa, oLe, N1, dBa, dLe⟩ : ∃ oBa oLe : Obj, News _ _ _ [(_, oBa), (_, oLe)] ∧ oBa.data = .cell none ∧ oLe.data = .cell none := ⟨_, _, N0, (two_cells X0).1, (two_cells X0).2⟩
    clear N0 X0
    rename_i w s₀ s₁ mg mb G Y fa o pm doc ho hg X V GL B TE TW w11 w10 M w9 w8 hcd ns hs hlay0 hL hr1 hl2 w6 w5 la vs w2 ra w1 r0 hr hcond2 hD hp0 tk0 z1 z2 left right
    replace K0 : Below callerA s₁.heap [] s₁.heap := K0
    replace N1 : News s₁.heap s₁.heap.objs.size hp0 _ := N1
    replace F0 : Fr s₁.heap s₁.heap.objs.size hp0 _ := F0
    (try clear Y); (try clear hD); (try clear hs); (try clear hlay0); (try clear hL); (try clear hr1); (try clear hl2); (try clear hcond2); (try clear hr); (try clear r0)
    refine cell_spec (Cx.deeperX K0 F0 KX T0 rfl rfl rfl) (by simp only [depth_deeper]; decide) (hLs.at fun o e => F0.keep _ o e) iv (by (first | lia | omega)) (by (first | lia | omega)) (by (first | lia | omega)) ?_
    intro c0 tc0 h1 tk1 F1 K1
    replace N1 := news_keep0 N1 K1
    clear F0
    repeat' ((fail_if_success (with_reducible show wpAny _ _ (call (Value.ref 470) _) _ _ _)); first | (k_unfold; (try dsimp only)) | (dsimp only; k_unfold; (try dsimp only)) | ((fail_if_success (with_reducible show Exists _)); (fail_if_success (with_reducible show LeaveK h₀ L m g _ _ _)); first | walk1 | (dsimp only; (fail_if_success (with_reducible show Exists _)); (fail_if_success (with_reducible show LeaveK h₀ L m g _ _ _)); walk1)))
    (with_reducible rename Fr _ _ _ _ => F2)
    refine bag_spec (Cx.deeperX K0 F2 KX T0 rfl rfl rfl) (by simp only [depth_deeper]; decide) ?_
    intro b0 o0 h2 tk2 F3 N3 frb hb0 K2
    clear F2
    have nb1 : @Ne Nat b0 (s₁.heap.objs.size + 1 + 1) := fun e => by
      rw [e] at frb
      rw [(N1 _ (.head _)).1] at frb; cases frb
    have nb2 : @Ne Nat b0 (s₁.heap.objs.size + 1) := fun e => by
      rw [e] at frb
      rw [(N1 _ (.tail _ (.head _))).1] at frb; cases frb
    replace N1 := news_keep0 N1 K2
    repeat' ((fail_if_success (with_reducible show wpAny _ _ (call (Value.ref 489) _) _ _ _)); first | (k_unfold; (try dsimp only)) | (dsimp only; k_unfold; (try dsimp only)) | ((fail_if_success (with_reducible show Exists _)); (fail_if_success (with_reducible show LeaveK h₀ L m g _ _ _)); first | walk1 | (dsimp only; (fail_if_success (with_reducible show Exists _)); (fail_if_success (with_reducible show LeaveK h₀ L m g _ _ _)); walk1)))
    (with_reducible rename Fr _ _ _ _ => F4)
    refine font_spec (Cx.deeperX K0 F4 KX T0 rfl rfl rfl) N3 (by simp only [depth_deeper]; decide) (by simp only [units_deeper]; decide) hb0 ?_
    intro q fl FM letters tl ol h3 tk3 LF F5 N5 fA K3 fr5
    clear F4
    have hq1 : ∀ p ∈ (q, tupO [.ref fl.x, .int letters tl]) :: ol, p.1 ≠ s₁.heap.objs.size + 1 + 1 := fun p hp e => by
      have e2 := fr5 p hp (fun e3 => nb1 (e3.symm.trans e))
      rw [e, (N1 _ (.head _)).1] at e2; cases e2
    have hq2 : ∀ p ∈ (q, tupO [.ref fl.x, .int letters tl]) :: ol, p.1 ≠ s₁.heap.objs.size + 1 := fun p hp e => by
      have e2 := fr5 p hp (fun e3 => nb2 (e3.symm.trans e))
      rw [e, (N1 _ (.tail _ (.head _))).1] at e2; cases e2
    have N6 : News _ _ _ ((_, oBa) :: (_, oLe) :: (q, tupO [.ref fl.x, .int letters tl]) :: ol) := news_app (news_keep N1 K3 (List.forall_mem_cons.mpr ⟨fun h => nb1 (List.mem_singleton.mp h).symm, List.forall_mem_cons.mpr ⟨fun h => nb2 (List.mem_singleton.mp h).symm, fun _ h => nomatch h⟩⟩)) N5
    clear N1 N3 N5
    have hl1 : ∀ p ∈ (s₁.heap.objs.size + 1, oLe) :: (q, tupO [.ref fl.x, .int letters tl]) :: ol, p.1 ≠ s₁.heap.objs.size + 1 + 1 := List.forall_mem_cons.mpr ⟨(by (first | lia | omega) : s₁.heap.objs.size + 1 ≠ s₁.heap.objs.size + 1 + 1), hq1⟩
    repeat' ((fail_if_success (with_reducible show wpAny _ _ (exec (Stmt.For _ _ _ _ _) _) _ _ _)); first | (k_unfold; (try dsimp only)) | (dsimp only; k_unfold; (try dsimp only)) | ((fail_if_success (with_reducible show Exists _)); (fail_if_success (with_reducible show LeaveK h₀ L m g _ _ _)); first | walk1 | (dsimp only; (fail_if_success (with_reducible show Exists _)); (fail_if_success (with_reducible show LeaveK h₀ L m g _ _ _)); walk1)))
    refine For_invV s₁.heap (by rfl) (by rfl) ?_
    repeat' ((fail_if_success (with_reducible show wpAny _ _ (call (Value.builtin "len") _) _ _ _)); first | (k_unfold; (try dsimp only)) | (dsimp only; k_unfold; (try dsimp only)) | ((fail_if_success (with_reducible show Exists _)); (fail_if_success (with_reducible show LeaveK h₀ L m g _ _ _)); first | walk1 | (dsimp only; (fail_if_success (with_reducible show Exists _)); (fail_if_success (with_reducible show LeaveK h₀ L m g _ _ _)); walk1)))
    (with_reducible rename Fr _ _ _ _ => F8)
    refine len_ints (hLs.at fun o e => F8.keep _ o e) iv (by (first | lia | omega)) ?_
    repeat' ((fail_if_success (with_reducible show wpAny _ _ (call (Value.type "range") _) _ _ _)); first | (k_unfold; (try dsimp only)) | (dsimp only; k_unfold; (try dsimp only)) | ((fail_if_success (with_reducible show Exists _)); (fail_if_success (with_reducible show LeaveK h₀ L m g _ _ _)); first | walk1 | (dsimp only; (fail_if_success (with_reducible show Exists _)); (fail_if_success (with_reducible show LeaveK h₀ L m g _ _ _)); walk1)))
    obtain ⟨kn, ek, ks, kz, k3, k63⟩ := turns_of (n := ns.length)
    rw [ek]
    repeat' ((fail_if_success (with_reducible show wpAny _ _ (pyIter _) _ _ _)); first | (k_unfold; (try dsimp only)) | (dsimp only; k_unfold; (try dsimp only)) | ((fail_if_success (with_reducible show Exists _)); (fail_if_success (with_reducible show LeaveK h₀ L m g _ _ _)); first | walk1 | (dsimp only; (fail_if_success (with_reducible show Exists _)); (fail_if_success (with_reducible show LeaveK h₀ L m g _ _ _)); walk1)))
    (with_reducible rename Fr _ _ _ _ => F9)
    (with_reducible rename News _ _ _ _ => N9)
    (with_reducible rename Obj.data _ = Data.cell (some (Value.int _ _)) => dL2)
    refine iter_range_C (n := kn) rfl F9 (news_sub N9 (b := (s₁.heap.objs.size + 1 + 1, oBa) :: (s₁.heap.objs.size + 1, _) :: (q, tupO [.ref fl.x, .int letters tl]) :: ol) (by k_extra "my sub")) (by assumption) ks kz (LawJ s₁.heap.objs.size q fl letters tl ol la) ?_ ?_ ?_
    · exact fun P kJ => kJ _ _ _ _ (by rfl) (by rfl) dBa dL2
    · intro i t' h5 tk5 I oI hi
      intro m₁ oBa oLe vBa f1 f2 dBa dLe hne F10 N10
      clear F9 N9
      replace F10 : Fr s₁.heap s₁.heap.objs.size h5 _ := F10
      replace N10 : News s₁.heap s₁.heap.objs.size h5 _ := N10
      k_with "svB271" => skip
      k_with "call ref" => ((fail_if_success (k_extra "svB272")); (k_here; k_dflt (k_extra "my call B272")))
      k_with "ite" => ((fail_if_success (k_extra "svB272")); (k_here; k_dflt (k_extra "my ite B272")))
      have hl1 : ∀ p ∈ (s₁.heap.objs.size + 1, oLe) :: (q, tupO [.ref fl.x, .int letters tl]) :: ol, p.1 ≠ s₁.heap.objs.size + 1 + 1 := List.forall_mem_cons.mpr ⟨(by (first | lia | omega) : s₁.heap.objs.size + 1 ≠ s₁.heap.objs.size + 1 + 1), hq1⟩
      repeat' ((fail_if_success (with_reducible show wpAny _ _ (call (Value.ref 463) _) _ _ _)); first | (k_unfold; (try dsimp only)) | (dsimp only; k_unfold; (try dsimp only)) | ((fail_if_success (with_reducible show Exists _)); (fail_if_success (with_reducible show LeaveK h₀ L m g _ _ _)); first | walk1 | (dsimp only; (fail_if_success (with_reducible show Exists _)); (fail_if_success (with_reducible show LeaveK h₀ L m g _ _ _)); walk1)))
      have dkt : ∀ (e : Env), (callerA.deeper e).depth ≤ 302 := fun e => by simp only [depth_deeper]; decide
      have ukt : ∀ (e : Env), (callerA.deeper e).units ≤ 10 := fun e => by simp only [units_deeper]; decide
      refine cell_spec (Cx.deeperX K0 F10 KX T0 rfl rfl rfl) (Nat.le_trans (dkt _) (by decide)) (hLs.at fun o e => F10.keep _ o e) iv (by (first | lia | omega)) (by (first | lia | omega)) (by (first | lia | omega)) ?_
      intro c0 tc0 h1 tk1 F1 K1
      have N11 := news_keep0 N10 K1
      clear F10
      repeat' ((fail_if_success (with_reducible show wpAny _ _ (call (Value.ref 470) _) _ _ _)); first | (k_unfold; (try dsimp only)) | (dsimp only; k_unfold; (try dsimp only)) | ((fail_if_success (with_reducible show Exists _)); (fail_if_success (with_reducible show LeaveK h₀ L m g _ _ _)); first | walk1 | (dsimp only; (fail_if_success (with_reducible show Exists _)); (fail_if_success (with_reducible show LeaveK h₀ L m g _ _ _)); walk1)))
      (with_reducible rename Fr _ _ _ _ => F2)
      refine bag_spec (Cx.deeperX K0 F2 KX T0 rfl rfl rfl) (Nat.le_trans (dkt _) (by decide)) ?_
      intro b o h2 tk2 F3 N3 frb hB K2
      clear F2
      have N12 := news_app N3 (news_keep0 N11 K2)
      have neb := news_none N11 frb
      clear N11 N10 N3
      have nIB : @Ne Nat I (s₁.heap.objs.size + 1 + 1) := Ne.symm (hne _ (.head _))
      have nIL : @Ne Nat I (s₁.heap.objs.size + 1) := Ne.symm (hne _ (.tail _ (.head _)))
      have nbB : @Ne Nat b (s₁.heap.objs.size + 1 + 1) := Ne.symm (neb _ (.tail _ (.head _)))
      repeat' ((fail_if_success (with_reducible show wpAny _ _ (exec (Stmt.Assign _ _ _) _) _ _ _)); first | (k_unfold; (try dsimp only)) | (dsimp only; k_unfold; (try dsimp only)) | ((fail_if_success (with_reducible show Exists _)); (fail_if_success (with_reducible show LeaveK h₀ L m g _ _ _)); first | walk1 | (dsimp only; (fail_if_success (with_reducible show Exists _)); (fail_if_success (with_reducible show LeaveK h₀ L m g _ _ _)); walk1)))
      (with_reducible rename News _ _ _ _ => N13)
      (with_reducible rename Fr _ _ _ _ => F13)
      (with_reducible rename Obj.data _ = Data.cell (some (Value.ref _)) => dB2)
      obtain ⟨oB2, eB2, dB3⟩ : ∃ oB2 : Obj, News s₁.heap s₁.heap.objs.size _ ((b, o) :: (I, oI) :: (s₁.heap.objs.size + 1 + 1, oB2) :: (s₁.heap.objs.size + 1, oLe) :: (q, tupO [.ref fl.x, .int letters tl]) :: ol) ∧ oB2.data = .cell (some (.ref b)) := ⟨_, N13, dB2⟩
      clear N13 dB2
      have hh : callerA.handled = none := rfl
      have l0 := LF.lo
      have l1 := LF.hi
      have hnb : ∀ p ∈ (I, oI) :: (s₁.heap.objs.size + 1 + 1, oB2) :: (s₁.heap.objs.size + 1, oLe) :: (q, tupO [.ref fl.x, .int letters tl]) :: ol, p.1 ≠ b := List.forall_mem_cons.mpr ⟨neb _ (.head _), List.forall_mem_cons.mpr ⟨neb (_, oBa) (.tail _ (.head _)), fun p hp => neb p (.tail _ (.tail _ hp))⟩⟩
      k_with "my call B272" => (refine draw_u (Cx.deeperX (by k_asm) (by k_asm) (by k_asm) (by k_asm) (by k_asm) rfl rfl) (by k_asm) (by k_updF) (by simp only [depth_deeper]; decide) (by simp only [units_deeper]; decide) (by assumption) (by (first | lia | omega)) (by (first | lia | omega)) (by (first | lia | omega)) ?_; intro d td o' hw1 tkw Fw Nw Kw hBw a1 a2; (try k_sweep))
      refine cutC (DrJ s₁.heap.objs.size s₁ s₁.heap b ((I, oI) :: (s₁.heap.objs.size + 1 + 1, oB2) :: (s₁.heap.objs.size + 1, oLe) :: (q, tupO [.ref fl.x, .int letters tl]) :: ol) fl.x la 4 (fun m' nl G => ∀ D ys cs, nl = [(D, LCg.lst ys)] → m' (Str.ofString "one") = some (.ref D) → IntsV ys cs → Lets letters cs → cs.length ≤ 3 → G)) ?_ ?_
      · (with_reducible rename Fr _ _ _ _ => F5)
        refine LCg.Assign_ListComp_U F5 (by rfl) (by with_unfolding_all rfl) (by with_unfolding_all rfl) (by decide) (by rfl) (by decide) (by rfl) (by rfl) (by rfl) ?_
        repeat' ((fail_if_success (with_reducible show wpAny _ _ (call (Value.type "range") _) _ _ _)); first | (k_unfold; (try dsimp only)) | (dsimp only; k_unfold; (try dsimp only)) | ((fail_if_success (with_reducible show Exists _)); (fail_if_success (with_reducible show LeaveK h₀ L m g _ _ _)); first | walk1 | (dsimp only; (fail_if_success (with_reducible show Exists _)); (fail_if_success (with_reducible show LeaveK h₀ L m g _ _ _)); walk1)))
        walk1
        (try dsimp only)
        (with_reducible rename Fr _ _ _ _ => F6); (with_reducible rename News _ _ _ _ => N6)
        refine LCg.CompSrc.range (n := d.toNat) hh F6 N6 (by assumption) (small_few' (by (first | lia | omega)) (by (first | lia | omega))) (size_few (by (first | lia | omega))) (by rw [sizeLine_eq]; (first | lia | omega)) fun g2 => ?_
        (try clear F5); (try clear F6); (try clear N6)
        refine comp_invC (OneJ b (fun o => (b, o) :: (I, oI) :: (s₁.heap.objs.size + 1 + 1, oB2) :: (s₁.heap.objs.size + 1, oLe) :: (q, tupO [.ref fl.x, .int letters tl]) :: ol) letters 1) ?_ ?_ fun G kJ => kJ o' [] (hBw.up (by (first | lia | omega))) IntsV.nil rfl fun _ h => nomatch h
        · rintro i2 ys hin v I2 oI2 Cc oC D m₂ hA1 tkA E' ⟨tv, hv⟩ hC hx' hneI
          intro o cs hB hiv hcl hlt FA NA off
          subst hv
          have ofm := fun p hp => LCg.Off3.mem off p hp
          have hi3 : (i2 : Int) < d := by (first | lia | omega)
          k_with "svB272" => skip
          k_with "call ref" => ((fail_if_success (k_extra "svB273")); (k_here; k_dflt (k_extra "my call B273")))
          k_with "ite" => ((fail_if_success (k_extra "svB273")); (k_here; k_dflt (k_extra "my ite B273")))
          repeat' ((fail_if_success (with_reducible show wpAny _ _ (call (Value.ref 477) _) _ _ _)); first | (k_unfold; (try dsimp only)) | (dsimp only; k_unfold; (try dsimp only)) | ((fail_if_success (with_reducible show Exists _)); (fail_if_success (with_reducible show LeaveK h₀ L m g _ _ _)); first | walk1 | (dsimp only; (fail_if_success (with_reducible show Exists _)); (fail_if_success (with_reducible show LeaveK h₀ L m g _ _ _)); walk1)))
          (with_reducible rename Fr _ _ _ _ => F7); (with_reducible rename News _ _ _ _ => N7)
          refine draw_u (Cx.deeperX K0 F7 KX T0 hh rfl rfl) N7 (.tail (Ne.symm (ofm (b, o) (.head _)).1) (.tail (Ne.symm (ofm (b, o) (.head _)).2.1) (.tail (Ne.symm (ofm (b, o) (.head _)).2.2) (.head hnb)))) (by simp only [depth_deeper]; decide) (by simp only [units_deeper]; decide) hB (by (first | lia | omega)) (by (first | lia | omega)) (by (first | lia | omega)) ?_
          intro d2 td2 o2 hA2 tkA2 F8 N8 K8 hB8 b1 b2
          (try dsimp only at N8)
          clear F7 N7
          repeat' (first | (k_unfold; (try dsimp only)) | (dsimp only; k_unfold; (try dsimp only)) | ((fail_if_success (with_reducible show Exists _)); (fail_if_success (with_reducible show LeaveK h₀ L m g _ _ _)); first | walk1 | (dsimp only; (fail_if_success (with_reducible show Exists _)); (fail_if_success (with_reducible show LeaveK h₀ L m g _ _ _)); walk1)))
          (with_reducible rename Fr _ _ _ _ => F9); (with_reducible rename News _ _ _ _ => N9)
          refine LCg.CompEnd.intro F9 N9 ((b, o2) :: (I, oI) :: (s₁.heap.objs.size + 1 + 1, oB2) :: (s₁.heap.objs.size + 1, oLe) :: (q, tupO [.ref fl.x, .int letters tl]) :: ol) (fun p hp => hp) (off3_of fun p hp => ?_) trivial (OneJ.next hB8 hiv hcl hlt (by (first | lia | omega)) (by (first | lia | omega)))
          rcases List.mem_cons.mp hp with rfl | hp
          · exact ofm (b, o) (.head _)
          · exact ofm p (.tail _ hp)
        · intro ys o cs hB hiv hcl hlt D hA2 tk2 F2 N2 o2
          exact fun P kJ => kJ hA2 _ _ [(D, LCg.lst ys)] o F2 N2 (by exact f1) (by exact f2) (hB.up (by (first | lia | omega))) (List.forall_mem_cons.mpr ⟨Ne.symm (off1_mem o2 (b, o) (.head _)), fun _ h => nomatch h⟩) D ys cs rfl rfl hiv hlt (by (first | lia | omega))
      (try clear F13); (try clear eB2); (try clear hB)
      rintro h4 tk4 m4 nl o F14 N14 f1 f2 hB hnl D1 ys1 cs1 rfl g5 iv1 lt1 le1
      (try dsimp only)
      simp only [List.cons_append, List.nil_append] at N14
      have nD1 : @Ne Nat D1 b := hnl _ (.head _)
      k_with "svB273" => skip
      k_with "call ref" => ((fail_if_success (k_extra "svB274")); (k_here; k_dflt (k_extra "my call B274")))
      k_with "ite" => ((fail_if_success (k_extra "svB274")); (k_here; k_dflt (k_extra "my ite B274")))
      k_with "my call B274" => (refine draw_u (Cx.deeperX (by k_asm) (by k_asm) (by k_asm) (by k_asm) (by k_asm) rfl rfl) (by k_asm) (by k_updF) (by simp only [depth_deeper]; decide) (by simp only [units_deeper]; decide) (by assumption) (by (first | lia | omega)) (by (first | lia | omega)) (by (first | lia | omega)) ?_; intro d td o' hw1 tkw Fw Nw Kw hBw a1 a2; (try k_sweep))
      repeat' ((fail_if_success (with_reducible show wpAny _ _ (exec (Stmt.Assign _ _ _) _) _ _ _)); first | (k_unfold; (try dsimp only)) | (dsimp only; k_unfold; (try dsimp only)) | ((fail_if_success (with_reducible show Exists _)); (fail_if_success (with_reducible show LeaveK h₀ L m g _ _ _)); first | walk1 | (dsimp only; (fail_if_success (with_reducible show Exists _)); (fail_if_success (with_reducible show LeaveK h₀ L m g _ _ _)); walk1)))
      refine cutC (DrJ s₁.heap.objs.size s₁ s₁.heap b ((I, oI) :: (s₁.heap.objs.size + 1 + 1, oB2) :: (s₁.heap.objs.size + 1, oLe) :: (q, tupO [.ref fl.x, .int letters tl]) :: ol) fl.x la 8 (fun m' nl G => ∀ D ys cs, nl = [(D, LCg.lst ys), (D1, LCg.lst ys1)] → m' (Str.ofString "one") = some (.ref D1) → m' (Str.ofString "other") = some (.ref D) → IntsV ys cs → Lets letters cs → cs.length ≤ 3 → G)) ?_ ?_
      · (with_reducible rename Fr _ _ _ _ => F5)
        refine LCg.Assign_ListComp_U F5 (by rfl) (by with_unfolding_all rfl) (by with_unfolding_all rfl) (by decide) (by rfl) (by decide) (by rfl) (by rfl) (by rfl) ?_
        repeat' ((fail_if_success (with_reducible show wpAny _ _ (call (Value.type "range") _) _ _ _)); first | (k_unfold; (try dsimp only)) | (dsimp only; k_unfold; (try dsimp only)) | ((fail_if_success (with_reducible show Exists _)); (fail_if_success (with_reducible show LeaveK h₀ L m g _ _ _)); first | walk1 | (dsimp only; (fail_if_success (with_reducible show Exists _)); (fail_if_success (with_reducible show LeaveK h₀ L m g _ _ _)); walk1)))
        walk1
        (try dsimp only)
        (with_reducible rename Fr _ _ _ _ => F6); (with_reducible rename News _ _ _ _ => N6)
        refine LCg.CompSrc.range (n := d.toNat) hh F6 N6 (by assumption) (small_few' (by (first | lia | omega)) (by (first | lia | omega))) (size_few (by (first | lia | omega))) (by rw [sizeLine_eq]; (first | lia | omega)) fun g2 => ?_
        (try clear F5); (try clear F6); (try clear N6)
        refine comp_invC (OneJ b (fun o => (D1, LCg.lst ys1) :: (b, o) :: (I, oI) :: (s₁.heap.objs.size + 1 + 1, oB2) :: (s₁.heap.objs.size + 1, oLe) :: (q, tupO [.ref fl.x, .int letters tl]) :: ol) letters 5) ?_ ?_ fun G kJ => kJ o' [] (hBw.up (by (first | lia | omega))) IntsV.nil rfl fun _ h => nomatch h
        · rintro i2 ys hin v I2 oI2 Cc oC D m₂ hA1 tkA E' ⟨tv, hv⟩ hC hx' hneI
          intro o cs hB hiv hcl hlt FA NA off
          subst hv
          have ofm := fun p hp => LCg.Off3.mem off p hp
          have hi3 : (i2 : Int) < d := by (first | lia | omega)
          k_with "svB274" => skip
          k_with "call ref" => ((fail_if_success (k_extra "svB275")); (k_here; k_dflt (k_extra "my call B275")))
          k_with "ite" => ((fail_if_success (k_extra "svB275")); (k_here; k_dflt (k_extra "my ite B275")))
          repeat' ((fail_if_success (with_reducible show wpAny _ _ (call (Value.ref 477) _) _ _ _)); first | (k_unfold; (try dsimp only)) | (dsimp only; k_unfold; (try dsimp only)) | ((fail_if_success (with_reducible show Exists _)); (fail_if_success (with_reducible show LeaveK h₀ L m g _ _ _)); first | walk1 | (dsimp only; (fail_if_success (with_reducible show Exists _)); (fail_if_success (with_reducible show LeaveK h₀ L m g _ _ _)); walk1)))
          (with_reducible rename Fr _ _ _ _ => F7); (with_reducible rename News _ _ _ _ => N7)
          refine draw_u (Cx.deeperX K0 F7 KX T0 hh rfl rfl) N7 (.tail (Ne.symm (ofm (b, o) (.tail _ (.head _))).1) (.tail (Ne.symm (ofm (b, o) (.tail _ (.head _))).2.1) (.tail (Ne.symm (ofm (b, o) (.tail _ (.head _))).2.2) (.tail nD1 (.head hnb))))) (by simp only [depth_deeper]; decide) (by simp only [units_deeper]; decide) hB (by (first | lia | omega)) (by (first | lia | omega)) (by (first | lia | omega)) ?_
          intro d2 td2 o2 hA2 tkA2 F8 N8 K8 hB8 b1 b2
          (try dsimp only at N8)
          clear F7 N7
          repeat' (first | (k_unfold; (try dsimp only)) | (dsimp only; k_unfold; (try dsimp only)) | ((fail_if_success (with_reducible show Exists _)); (fail_if_success (with_reducible show LeaveK h₀ L m g _ _ _)); first | walk1 | (dsimp only; (fail_if_success (with_reducible show Exists _)); (fail_if_success (with_reducible show LeaveK h₀ L m g _ _ _)); walk1)))
          (with_reducible rename Fr _ _ _ _ => F9); (with_reducible rename News _ _ _ _ => N9)
          refine LCg.CompEnd.intro F9 N9 ((D1, LCg.lst ys1) :: (b, o2) :: (I, oI) :: (s₁.heap.objs.size + 1 + 1, oB2) :: (s₁.heap.objs.size + 1, oLe) :: (q, tupO [.ref fl.x, .int letters tl]) :: ol) (fun p hp => hp) (off3_of fun p hp => ?_) trivial (OneJ.next hB8 hiv hcl hlt (by (first | lia | omega)) (by (first | lia | omega)))
          rcases List.mem_cons.mp hp with rfl | hp
          · exact ofm _ (.head _)
          rcases List.mem_cons.mp hp with rfl | hp
          · exact ofm (b, o) (.tail _ (.head _))
          · exact ofm p (.tail _ (.tail _ hp))
        · intro ys o cs hB hiv hcl hlt D hA2 tk2 F2 N2 o2
          exact fun P kJ => kJ hA2 _ _ [(D, LCg.lst ys), (D1, LCg.lst ys1)] o F2 N2 (by exact f1) (by exact f2) (hB.up (by (first | lia | omega))) (List.forall_mem_cons.mpr ⟨Ne.symm (off1_mem o2 (b, o) (.tail _ (.head _))), hnl⟩) D ys cs rfl (by exact g5) rfl hiv hlt (by (first | lia | omega))
      (try clear N14); (try clear F14); (try clear hB)
      rintro h5 tk5 m5 nl o F15 N15 f1 f2 hB hnl D2 ys2 cs2 rfl g5 g6 iv2 lt2 le2
      (try dsimp only)
      simp only [List.cons_append, List.nil_append] at N15
      have nD2 : @Ne Nat D2 b := hnl _ (.head _)
      k_with "svB275" => skip
      k_with "call ref" => ((fail_if_success (k_extra "svB276")); (k_here; k_dflt (k_extra "my call B276")))
      k_with "ite" => ((fail_if_success (k_extra "svB276")); (k_here; k_dflt (k_extra "my ite B276")))
      k_with "my call B276" => (refine draw_u (Cx.deeperX (by k_asm) (by k_asm) (by k_asm) (by k_asm) (by k_asm) rfl rfl) (by k_asm) (by k_updF) (by simp only [depth_deeper]; decide) (by simp only [units_deeper]; decide) (by assumption) (by (first | lia | omega)) (by (first | lia | omega)) (by (first | lia | omega)) ?_; intro d td o' hw1 tkw Fw Nw Kw hBw a1 a2; (try k_sweep))
      repeat' ((fail_if_success (with_reducible show wpAny _ _ (call (Value.ref 517) _) _ _ _)); first | (k_unfold; (try dsimp only)) | (dsimp only; k_unfold; (try dsimp only)) | ((fail_if_success (with_reducible show Exists _)); (fail_if_success (with_reducible show LeaveK h₀ L m g _ _ _)); first | walk1 | (dsimp only; (fail_if_success (with_reducible show Exists _)); (fail_if_success (with_reducible show LeaveK h₀ L m g _ _ _)); walk1)))
      (with_reducible rename Fr _ _ _ _ => F16); (with_reducible rename News _ _ _ _ => N16)
      have hD0 : KtsDicts (([] : List Env).filterMap (·.frame)) s₁.heap := fun _ h => nomatch h
      have gdf := fun p hp => (⟨(N16 p hp).1, fun h => (N16 p hp).2.1 (List.mem_singleton.mp h)⟩ : GdF [s₁.heap.objs.size] _ p.1 p.2)
      refine law_alone_spec (fs := []) (CxT.deeperX K0 F16 KX T0 hh hD0 rfl rfl rfl) (Nat.le_trans (dkt _) (by decide)) (Nat.le_trans (ukt _) (by decide)) (fA.mono fun a o h => gdf (a, o) (.tail _ (.tail _ (.tail _ (.tail _ (.tail _ (.tail _ (.tail _ (.tail _ h))))))))) LF (gdf _ (.tail _ (.tail _ (.head _)))) iv1 lt1 le1 (gdf _ (.head _)) ?_
      intro q1 b1 g1 h6 tk6 T1 F17 N17 K6
      replace F17 := turn_un T1 F17
      replace N17 := turn_unN T1 N17
      have N18 := news_app N17 (K6.off N16)
      clear gdf N17 N16 F16
      cases b1
      · repeat' (first | (k_unfold; (try dsimp only)) | (dsimp only; k_unfold; (try dsimp only)) | ((fail_if_success (with_reducible show Exists _)); (fail_if_success (with_reducible show LeaveK h₀ L m g _ _ _)); first | walk1 | (dsimp only; (fail_if_success (with_reducible show Exists _)); (fail_if_success (with_reducible show LeaveK h₀ L m g _ _ _)); walk1)))
        (with_reducible rename Fr _ _ _ _ => F18)
        show GoodW _ _ _ _ _ (Except.ok (Flow.ret (Value.bool true))) _
        exact goodW_bool F18 hg (fun _ => by with_unfolding_all rfl) (by with_unfolding_all rfl)
      repeat' ((fail_if_success (with_reducible show wpAny _ _ (call (Value.ref 524) _) _ _ _)); first | (k_unfold; (try dsimp only)) | (dsimp only; k_unfold; (try dsimp only)) | ((fail_if_success (with_reducible show Exists _)); (fail_if_success (with_reducible show LeaveK h₀ L m g _ _ _)); first | walk1 | (dsimp only; (fail_if_success (with_reducible show Exists _)); (fail_if_success (with_reducible show LeaveK h₀ L m g _ _ _)); walk1)))
      (with_reducible rename Fr _ _ _ _ => F18); (with_reducible rename News _ _ _ _ => N19)
      have gdf := fun p hp => (⟨(N19 p hp).1, fun h => (N19 p hp).2.1 (List.mem_singleton.mp h)⟩ : GdF [s₁.heap.objs.size] _ p.1 p.2)
      refine law_parted_spec (fs := []) (CxT.deeperX K0 F18 KX T0 hh hD0 rfl rfl rfl) (Nat.le_trans (dkt _) (by decide)) (Nat.le_trans (ukt _) (by decide)) (fA.mono fun a o h => gdf (a, o) (.tail _ (.tail _ (.tail _ (.tail _ (.tail _ (.tail _ (.tail _ (.tail _ (.tail _ h)))))))))) LF (gdf _ (.tail _ (.tail _ (.tail _ (.head _))))) iv1 lt1 le1 (gdf _ (.tail _ (.tail _ (.head _)))) iv2 lt2 le2 (gdf _ (.tail _ (.head _))) ?_
      intro q2 b2 g2 h7 tk7 T2 F20 N20 K7
      replace F20 := turn_un T2 F20
      replace N20 := turn_unN T2 N20
      have N21 := news_app N20 (K7.off N19)
      clear gdf N20 N19 F18
      cases b2
      · repeat' (first | (k_unfold; (try dsimp only)) | (dsimp only; k_unfold; (try dsimp only)) | ((fail_if_success (with_reducible show Exists _)); (fail_if_success (with_reducible show LeaveK h₀ L m g _ _ _)); first | walk1 | (dsimp only; (fail_if_success (with_reducible show Exists _)); (fail_if_success (with_reducible show LeaveK h₀ L m g _ _ _)); walk1)))
        (with_reducible rename Fr _ _ _ _ => F22)
        show GoodW _ _ _ _ _ (Except.ok (Flow.ret (Value.bool true))) _
        exact goodW_bool F22 hg (fun _ => by with_unfolding_all rfl) (by with_unfolding_all rfl)
      · repeat' (first | (k_unfold; (try dsimp only)) | (dsimp only; k_unfold; (try dsimp only)) | ((fail_if_success (with_reducible show Exists _)); (fail_if_success (with_reducible show LeaveK h₀ L m g _ _ _)); first | walk1 | (dsimp only; (fail_if_success (with_reducible show Exists _)); (fail_if_success (with_reducible show LeaveK h₀ L m g _ _ _)); walk1)))
        (with_reducible rename Fr _ _ _ _ => F22); (with_reducible rename News _ _ _ _ => N22)
        refine ⟨_, _, _, (s₁.heap.objs.size + 1 + 1, oB2) :: (s₁.heap.objs.size + 1, oLe) :: (q, tupO [.ref fl.x, .int letters tl]) :: ol, rfl, F22, fun p hp => N22 p (.tail _ (.tail _ (.tail _ (.tail _ (.tail _ (.tail _ hp)))))), List.forall_mem_cons.mpr ⟨Ne.symm nIB, fun p hp => hne p (.tail _ hp)⟩, fun P kJ => kJ _ oB2 oLe _ (by exact f1) (by exact f2) dB3 dLe⟩
    · intro h10 tk10 m10 oBa oLe vBa f1 f2 dBa dLe F23 N23
      clear F9 N9
      repeat' (first | (k_unfold; (try dsimp only)) | (dsimp only; k_unfold; (try dsimp only)) | ((fail_if_success (with_reducible show Exists _)); (fail_if_success (with_reducible show LeaveK h₀ L m g _ _ _)); first | walk1 | (dsimp only; (fail_if_success (with_reducible show Exists _)); (fail_if_success (with_reducible show LeaveK h₀ L m g _ _ _)); walk1)))
      (with_reducible rename Fr _ _ _ _ => F24)
      show GoodW _ _ _ _ _ (Except.ok (Flow.ret (Value.bool true))) _
      exact goodW_bool F24 hg (fun _ => by with_unfolding_all rfl) (by with_unfolding_all rfl))
